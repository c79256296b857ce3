import PyProof.Rows.All
import Wide.All
import OpenK.AllK
import Wide.FinOn
import HandS.ForMost
import HandS.ForExc
import HandS.Zip
import HandS.Wide
import HandS.Style
import HandS.TupAny
import HandS.Deep
import HandS.IsInst
import HandS.Dict
import KE.SortData
import KE.DataMinMax
import KE.DataAny
import HandS.SetFor
import HandS.More
import HandS.ExcSuper
import HandS.ExcInit
import HandS.ExcIs
import HandS.ExcOwn
import HandS.TryOnly
import KE.KExcSuper
import KE.KSuper
import HandS.Ends
import HandS.Words
import HandS.Defaults
import HandS.Head0
import HandS.Head1
import HandS.Head2
import HandS.HeadEnd
import HandS.HeadHook1
import HandS.HeadHook2
import HandS.TupSets
import PyProof.EqKinds
import HandS.Strs
import HandS.DictComp
import KE.KStateDown
import HandS.WordsExc
import PySem.Challenge.RW_wholerays_k65_whole_conics_a_point_or_a
set_option Elab.async false
set_option linter.all false
set_option maxRecDepth 100000
set_option maxHeartbeats 1000000
/-! DD1: pure data over the hand layer: data D, the store of changing cells, what bears them (RV, RS), how heaps grow (Ext), the readings by plain functions. -/
namespace DD
open PySem PySem.Spec PyProof.Rows L2

/-- a datum: lst is a list that nobody changes any more, cst one of the text's own (or the script), ref a cell of the store, adr any other object -/
inductive D where
  | non
  | bl (b : Bool)
  | int (i : Int)
  | str (x : Str)
  | tup (l : List D)
  | lst (l : List D)
  | cst (l : List D)
  | ref (n : Nat)
  | adr (a : Addr)
inductive Cell where
  | lst (l : List D)
  | dic (kvs : List (Key × D))
abbrev Store := List Cell
abbrev SV := List (Option V)
abbrev LS := List (Option D)
/-- an exception: its class by name, its own fields -/
structure Exc where
  cls : Str
  fs : List (Str × D) := []
inductive Out (α : Type) where
  | ok (a : α) (st : Store)
  | ex (e : Exc) (st : Store)
  | bad
def Out.bind {α β : Type} (o : Out α) (f : α → Store → Out β) : Out β := match o with
  | .ok a st => f a st
  | .ex e st => .ex e st
  | .bad => .bad
@[simp] theorem Out.bind_ok {α β : Type} (a : α) (st : Store) (f : α → Store → Out β) : (Out.ok a st).bind f = f a st := rfl
@[simp] theorem Out.bind_ex {α β : Type} (e : Exc) (st : Store) (f : α → Store → Out β) : (Out.ex e st : Out α).bind f = .ex e st := rfl
@[simp] theorem Out.bind_bad {α β : Type} (f : α → Store → Out β) : (Out.bad : Out α).bind f = .bad := rfl
/-- what a statement comes to -/
inductive SO where
  | nx (ls : LS) (st : Store)
  | rt (d : D) (st : Store)
  | bk (ls : LS) (st : Store)
  | ct (ls : LS) (st : Store)
  | ex (e : Exc) (ls : LS) (st : Store)
  | bad
def getL : LS → Nat → Option D
  | [], _ => none
  | x :: _, 0 => x
  | _ :: r, n + 1 => getL r n
def setL : LS → Nat → D → LS
  | [], _, _ => []
  | _ :: r, 0, d => some d :: r
  | x :: r, n + 1, d => x :: setL r n d
@[simp] theorem getL_zero (x : Option D) (r : LS) : getL (x :: r) 0 = x := rfl
@[simp] theorem getL_succ (x : Option D) (r : LS) (n : Nat) : getL (x :: r) (n + 1) = getL r n := rfl
@[simp] theorem setL_zero (x : Option D) (r : LS) (d : D) : setL (x :: r) 0 d = some d :: r := rfl
@[simp] theorem setL_succ (x : Option D) (r : LS) (n : Nat) (d : D) : setL (x :: r) (n + 1) d = x :: setL r n d := rfl
theorem setL_length : ∀ (l : LS) (n : Nat) (d : D), (setL l n d).length = l.length
  | [], _, _ => rfl
  | _ :: _, 0, _ => rfl
  | x :: r, n + 1, d => congrArg Nat.succ (setL_length r n d)
theorem getL_setL_same : ∀ (l : LS) (n : Nat) (d e : D), getL (setL l n d) n = some e → e = d ∧ n < l.length
  | [], n, d, e, h => by cases h
  | _ :: _, 0, d, e, h => by cases h; exact ⟨rfl, Nat.succ_pos _⟩
  | x :: r, n + 1, d, e, h => let ⟨a, b⟩ := getL_setL_same r n d e h; ⟨a, Nat.succ_lt_succ b⟩
theorem getL_setL_ne : ∀ (l : LS) (n m : Nat) (d : D), n ≠ m → getL (setL l n d) m = getL l m
  | [], _, _, _, _ => rfl
  | _ :: _, 0, 0, _, h => absurd rfl h
  | _ :: _, 0, m + 1, _, _ => rfl
  | _ :: _, n + 1, 0, _, _ => rfl
  | _ :: r, n + 1, m + 1, d, h => getL_setL_ne r n m d fun e => h (congrArg Nat.succ e)

/-! ### what bears a datum -/
section
variable (K : PySem.W.Frag)
def KT (a : Addr) (xs : List V) : Prop := ∃ (o : Obj) (its : Array Value) (n : Nat), K.lookup a = some o ∧ o.cls = .type "tuple" ∧ o.data = .seq its n ∧ its.size ≤ sizeLine ∧ Vals xs its.toList
def FT (H : Hp) (ρ : List Addr) (a : Addr) (xs : List V) : Prop := (H a = some (.tup xs) ∧ a ∉ ρ) ∨ KT K a xs
def KL (a : Addr) (xs : List V) : Prop := ∃ (o : Obj) (its : Array Value) (n : Nat), K.lookup a = some o ∧ o.cls = .type "list" ∧ o.dict = none ∧ o.data = .seq its n ∧ its.size ≤ sizeLine ∧ Vals xs its.toList
def FC (H : Hp) (ρ : List Addr) (a : Addr) (xs : List V) : Prop := ((∃ o, H a = some (.frz o (.lst xs))) ∧ a ∉ ρ) ∨ KL K a xs
mutual
inductive RV (H : Hp) (ρ : List Addr) : V → D → Prop
  | non : RV H ρ .non .non
  | bl (b : Bool) : RV H ρ (.bl b) (.bl b)
  | int (i : Int) : RV H ρ (.int i) (.int i)
  | str (x : Str) : RV H ρ (.str x) (.str x)
  | tup {a : Addr} {vs : List V} {ds : List D} : FT K H ρ a vs → RVs H ρ vs ds → RV H ρ (.ref a) (.tup ds)
  | lst {a : Addr} {vs : List V} {ds : List D} : H a = some (.lst vs) → a ∉ ρ → RVs H ρ vs ds → RV H ρ (.ref a) (.lst ds)
  | cst {a : Addr} {vs : List V} {ds : List D} : FC K H ρ a vs → RVs H ρ vs ds → RV H ρ (.ref a) (.cst ds)
  | ref {a : Addr} {n : Nat} : ρ[n]? = some a → RV H ρ (.ref a) (.ref n)
  | adr {a : Addr} : RV H ρ (.ref a) (.adr a)
inductive RVs (H : Hp) (ρ : List Addr) : List V → List D → Prop
  | nil : RVs H ρ [] []
  | cons {v : V} {vs : List V} {d : D} {ds : List D} : RV H ρ v d → RVs H ρ vs ds → RVs H ρ (v :: vs) (d :: ds)
end
end
section
variable {K : PySem.W.Frag} {H H' H1 H2 : Hp} {ρ ρ' ρ1 ρ2 : List Addr} {a p : Addr} {vs : List V} {ds : List D} {v : V} {d : D}
theorem FT.sq (h : FT K H ρ a vs) : SqT K H a vs := h.elim (fun h => .inl (.inl h.1)) .inr
theorem FC.sq (h : FC K H ρ a vs) : SqL K H a vs := h.elim (fun h => .inl (.inr h.1)) .inr
theorem RVs.length : ∀ {vs : List V} {ds : List D}, RVs K H ρ vs ds → vs.length = ds.length
  | _, _, .nil => rfl
  | _, _, .cons _ t => congrArg Nat.succ (RVs.length t)
theorem RVs.get : ∀ {vs : List V} {ds : List D} {i : Nat} {d : D}, RVs K H ρ vs ds → ds[i]? = some d → ∃ v, vs[i]? = some v ∧ RV K H ρ v d
  | _, _, i, d, .nil, e => by simp at e
  | _, _, 0, d, .cons r _, e => by simp at e; subst e; exact ⟨_, rfl, r⟩
  | _, _, i + 1, d, .cons _ t, e => by
    obtain ⟨v, h1, h2⟩ := RVs.get (i := i) (d := d) t (by simpa using e)
    exact ⟨v, by simpa using h1, h2⟩
theorem RVs.get' {vs : List V} {ds : List D} {i : Nat} {v : V} (h : RVs K H ρ vs ds) (e : vs[i]? = some v) : ∃ d, ds[i]? = some d ∧ RV K H ρ v d := by
  obtain ⟨hi, _⟩ := List.getElem?_eq_some_iff.mp e
  rw [h.length] at hi
  obtain ⟨v', h1, h2⟩ := h.get (i := i) (d := ds[i]) (by simp [hi])
  rw [e] at h1; cases h1
  exact ⟨ds[i], by simp [hi], h2⟩
theorem RVs.append : ∀ {xs ys : List V} {us ws : List D}, RVs K H ρ xs us → RVs K H ρ ys ws → RVs K H ρ (xs ++ ys) (us ++ ws)
  | _, _, _, _, .nil, s => s
  | _, _, _, _, .cons r t, s => .cons r (RVs.append t s)
theorem RVs.take : ∀ {xs : List V} {us : List D} (n : Nat), RVs K H ρ xs us → RVs K H ρ (xs.take n) (us.take n)
  | _, _, 0, _ => .nil
  | _, _, _ + 1, .nil => .nil
  | _, _, n + 1, .cons r t => .cons r (RVs.take n t)
theorem RVs.drop : ∀ {xs : List V} {us : List D} (n : Nat), RVs K H ρ xs us → RVs K H ρ (xs.drop n) (us.drop n)
  | _, _, 0, r => r
  | _, _, _ + 1, .nil => .nil
  | _, _, n + 1, .cons _ t => RVs.drop n t
theorem RVs.set {v : V} {d : D} (r : RV K H ρ v d) : ∀ {xs : List V} {us : List D} (i : Nat), RVs K H ρ xs us → RVs K H ρ (xs.set i v) (us.set i d)
  | _, _, _, .nil => .nil
  | _, _, 0, .cons _ t => .cons r t
  | _, _, i + 1, .cons q t => .cons q (RVs.set r i t)
theorem RVs.snoc (h : RVs K H ρ vs ds) (r : RV K H ρ v d) : RVs K H ρ (vs ++ [v]) (ds ++ [d]) := h.append (.cons r .nil)
theorem RVs.reverse : ∀ {xs : List V} {us : List D}, RVs K H ρ xs us → RVs K H ρ xs.reverse us.reverse
  | _, _, .nil => .nil
  | _, _, .cons r t => by rw [List.reverse_cons, List.reverse_cons]; exact (RVs.reverse t).snoc r
theorem RVs.ints : ∀ {vs : List V} {ns : List Int}, RVs K H ρ vs (ns.map D.int) → vs = ns.map V.int
  | _, [], .nil => rfl
  | _, n :: ns, .cons r t => by cases r; rw [RVs.ints t]; rfl
theorem RVs.of_ints : ∀ (ns : List Int), RVs K H ρ (ns.map V.int) (ns.map D.int)
  | [] => .nil
  | n :: ns => .cons (.int n) (RVs.of_ints ns)
theorem RVs.bls : ∀ {vs : List V} {ns : List Bool}, RVs K H ρ vs (ns.map D.bl) → vs = ns.map V.bl
  | _, [], .nil => rfl
  | _, n :: ns, .cons r t => by cases r; rw [RVs.bls t]; rfl

/-! ### how a heap grows -/
structure Ext (ρ : List Addr) (H : Hp) (ρ' : List Addr) (H' : Hp) : Prop where
  pre : ∃ t, ρ' = ρ ++ t
  keep : ∀ a o, H a = some o → a ∉ ρ → H' a = some o
  new : ∀ a, a ∈ ρ' → a ∉ ρ → H a = none
theorem Ext.refl (ρ : List Addr) (H : Hp) : Ext ρ H ρ H := ⟨⟨[], by simp⟩, fun _ _ h _ => h, fun a h n => absurd h n⟩
theorem Ext.sub (x : Ext ρ H ρ' H') {a : Addr} (h : a ∈ ρ) : a ∈ ρ' := by
  obtain ⟨t, e⟩ := x.pre
  rw [e]; exact List.mem_append_left _ h
theorem Ext.out (x : Ext ρ H ρ' H') {a : Addr} {o : HO} (h : H a = some o) (n : a ∉ ρ) : a ∉ ρ' := fun q => by
  have := x.new a q n
  rw [h] at this; cases this
theorem Ext.trans (x : Ext ρ H ρ1 H1) (y : Ext ρ1 H1 ρ2 H2) : Ext ρ H ρ2 H2 where
  pre := by
    obtain ⟨t, e⟩ := x.pre
    obtain ⟨u, e'⟩ := y.pre
    exact ⟨t ++ u, by rw [e', e, List.append_assoc]⟩
  keep := fun a o h n => y.keep a o (x.keep a o h n) (x.out h n)
  new := fun a h n => by
    by_cases q : a ∈ ρ1
    · exact x.new a q n
    · have h1 := y.new a h q
      cases e : H a with
      | none => rfl
      | some o =>
        have := x.keep a o e n
        rw [this] at h1; cases h1
theorem Ext.at {n : Nat} (x : Ext ρ H ρ' H') (h : ρ[n]? = some a) : ρ'[n]? = some a := by
  obtain ⟨t, e⟩ := x.pre
  obtain ⟨hn, _⟩ := List.getElem?_eq_some_iff.mp h
  rw [e, List.getElem?_append_left hn]; exact h
theorem FT.ext (h : FT K H ρ a vs) (x : Ext ρ H ρ' H') : FT K H' ρ' a vs := h.elim (fun h => .inl ⟨x.keep _ _ h.1 h.2, x.out h.1 h.2⟩) .inr
theorem FC.ext (h : FC K H ρ a vs) (x : Ext ρ H ρ' H') : FC K H' ρ' a vs := h.elim (fun ⟨⟨o, h⟩, n⟩ => .inl ⟨⟨o, x.keep _ _ h n⟩, x.out h n⟩) .inr
mutual
theorem RV.ext (x : Ext ρ H ρ' H') : ∀ (d : D) {v : V}, RV K H ρ v d → RV K H' ρ' v d
  | .non, _, h => by cases h; exact .non
  | .bl b, _, h => by cases h; exact .bl b
  | .int i, _, h => by cases h; exact .int i
  | .str s, _, h => by cases h; exact .str s
  | .tup ds, _, h => by
    cases h with
    | tup h1 h2 => exact .tup (h1.ext x) (RVs.ext x ds h2)
  | .lst ds, _, h => by
    cases h with
    | lst h1 h2 h3 => exact .lst (x.keep _ _ h1 h2) (x.out h1 h2) (RVs.ext x ds h3)
  | .cst ds, _, h => by
    cases h with
    | cst h1 h2 => exact .cst (h1.ext x) (RVs.ext x ds h2)
  | .ref n, _, h => by
    cases h with
    | ref h1 => exact .ref (x.at h1)
  | .adr a, _, h => by cases h; exact .adr
theorem RVs.ext (x : Ext ρ H ρ' H') : ∀ (ds : List D) {vs : List V}, RVs K H ρ vs ds → RVs K H' ρ' vs ds
  | [], _, h => by cases h; exact .nil
  | d :: ds, _, h => by
    cases h with
    | cons h1 h2 => exact .cons (RV.ext x d h1) (RVs.ext x ds h2)
end

/-! ### the store -/
def KVr (K : PySem.W.Frag) (H : Hp) (ρ : List Addr) : List (Key × V) → List (Key × D) → Prop := Paired fun p q => p.1 = q.1 ∧ RV K H ρ p.2 q.2
def CO (K : PySem.W.Frag) (H : Hp) (ρ : List Addr) (a : Addr) : Cell → Prop
  | .lst l => ∃ vs, H a = some (.lst vs) ∧ RVs K H ρ vs l
  | .dic kvs => ∃ ws, H a = some (.dK ws) ∧ KVr K H ρ ws kvs
structure RS (K : PySem.W.Frag) (H : Hp) (ρ : List Addr) (st : Store) : Prop where
  nd : ρ.Nodup
  len : ρ.length = st.length
  cell : ∀ (n : Nat) a c, ρ[n]? = some a → st[n]? = some c → CO K H ρ a c
theorem paired_imp {α β : Type} {F G : α → β → Prop} (f : ∀ a b, F a b → G a b) : ∀ {l : List α} {m : List β}, Paired F l m → Paired G l m
  | _, _, .nil => .nil
  | _, _, .cons r t => .cons (f _ _ r) (paired_imp f t)
theorem CO.ext {c : Cell} (h : CO K H ρ a c) (x : Ext ρ H ρ' H') (e : H' a = H a) : CO K H' ρ' a c := by
  cases c with
  | lst l =>
    obtain ⟨vs, h1, h2⟩ := h
    exact ⟨vs, e.trans h1, h2.ext x⟩
  | dic kvs =>
    obtain ⟨ws, h1, h2⟩ := h
    exact ⟨ws, e.trans h1, paired_imp (fun _ _ r => ⟨r.1, r.2.ext x⟩) h2⟩
theorem CO.there {c : Cell} (h : CO K H ρ a c) : H a ≠ none := by
  cases c with
  | lst l => obtain ⟨vs, h1, h2⟩ := h; rw [h1]; simp
  | dic kvs => obtain ⟨vs, h1, h2⟩ := h; rw [h1]; simp
theorem RS.there {st : Store} (s : RS K H ρ st) (h : a ∈ ρ) : H a ≠ none := by
  obtain ⟨n, hn, e⟩ := List.mem_iff_getElem.mp h
  have h1 : ρ[n]? = some a := by rw [List.getElem?_eq_getElem hn, e]
  have h2 : n < st.length := by rw [← s.len]; exact hn
  exact (s.cell n a st[n] h1 (by simp [h2])).there
theorem RS.out {st : Store} (s : RS K H ρ st) (h : H p = none) : p ∉ ρ := fun q => s.there q h
theorem RS.at {st : Store} {n : Nat} {c : Cell} (s : RS K H ρ st) (h : st[n]? = some c) : ∃ a, ρ[n]? = some a ∧ CO K H ρ a c := by
  obtain ⟨hn, _⟩ := List.getElem?_eq_some_iff.mp h
  rw [← s.len] at hn
  exact ⟨ρ[n], by simp [hn], s.cell n _ c (by simp [hn]) h⟩
/-- a new object, no cell -/
theorem Ext.laid {o : HO} (h : H p = none) : Ext ρ H ρ (upd H p o) := ⟨⟨[], by simp⟩, fun b u e _ => by rw [upd_ne (ne_of_none e h)]; exact e, fun a h n => absurd h n⟩
theorem RS.laid {st : Store} {o : HO} (s : RS K H ρ st) (h : H p = none) : RS K (upd H p o) ρ st :=
  ⟨s.nd, s.len, fun n a c e1 e2 => (s.cell n a c e1 e2).ext (Ext.laid h) (upd_ne fun q => s.out h (q ▸ List.mem_of_getElem? e1))⟩
/-- a new cell -/
theorem Ext.cell {o : HO} (h : H p = none) : Ext ρ H (ρ ++ [p]) (upd H p o) :=
  ⟨⟨[p], rfl⟩, fun b u e _ => by rw [upd_ne (ne_of_none e h)]; exact e, fun a h' n => by
    rcases List.mem_append.mp h' with q | q
    · exact absurd q n
    · rw [List.mem_singleton.mp q]; exact h⟩
theorem RS.new {st : Store} {o : HO} {c : Cell} (s : RS K H ρ st) (h : H p = none) (hc : CO K (upd H p o) (ρ ++ [p]) p c) : RS K (upd H p o) (ρ ++ [p]) (st ++ [c]) := by
  refine ⟨?_, by simp [s.len], fun n a c' e1 e2 => ?_⟩
  · refine List.nodup_append.mpr ⟨s.nd, by simp, fun a ha b hb => ?_⟩
    rw [List.mem_singleton.mp hb]
    rintro rfl
    exact s.out h ha
  · by_cases hn : n < ρ.length
    · rw [List.getElem?_append_left hn] at e1
      rw [List.getElem?_append_left (by rw [← s.len]; exact hn)] at e2
      exact (s.cell n a c' e1 e2).ext (Ext.cell h) (upd_ne fun q => s.out h (q ▸ List.mem_of_getElem? e1))
    · have hn' : n = ρ.length := by
        have := (List.getElem?_eq_some_iff.mp e1).1
        simp at this; omega
      subst hn'
      rw [List.getElem?_append_right (Nat.le_refl _)] at e1
      simp at e1
      rw [s.len, List.getElem?_append_right (Nat.le_refl _)] at e2
      simp at e2
      subst e1; subst e2
      exact hc
theorem RS.newL {st : Store} {l : List D} (s : RS K H ρ st) (h : H p = none) (r : RVs K H ρ vs l) : RS K (upd H p (.lst vs)) (ρ ++ [p]) (st ++ [.lst l]) :=
  s.new h ⟨vs, upd_same, r.ext (Ext.cell h)⟩
/-- a cell changed -/
theorem Ext.write {o : HO} (h : a ∈ ρ) : Ext ρ H ρ (upd H a o) := ⟨⟨[], by simp⟩, fun b u e n => by
  have q : b ≠ a := by rintro rfl; exact n h
  rw [upd_ne q]; exact e, fun a h n => absurd h n⟩
theorem RS.write {st : Store} {n : Nat} {o : HO} {c : Cell} (s : RS K H ρ st) (h : ρ[n]? = some a) (hc : CO K (upd H a o) ρ a c) : RS K (upd H a o) ρ (st.set n c) := by
  have hm : a ∈ ρ := List.mem_of_getElem? h
  refine ⟨s.nd, by simp [s.len], fun m b c' e1 e2 => ?_⟩
  by_cases hnm : m = n
  · subst hnm
    rw [h] at e1; cases e1
    have hl : m < st.length := by rw [← s.len]; exact (List.getElem?_eq_some_iff.mp h).1
    rw [List.getElem?_set_self hl] at e2
    cases e2
    exact hc
  · rw [List.getElem?_set_ne (Ne.symm hnm)] at e2
    refine (s.cell m b c' e1 e2).ext (Ext.write hm) (upd_ne fun q => ?_)
    subst q
    obtain ⟨h1, q1⟩ := List.getElem?_eq_some_iff.mp h
    obtain ⟨h2, q2⟩ := List.getElem?_eq_some_iff.mp e1
    exact hnm ((List.getElem_inj s.nd).mp (q2.trans q1.symm))
theorem RS.writeL {st : Store} {n : Nat} {l : List D} (s : RS K H ρ st) (h : ρ[n]? = some a) (r : RVs K H ρ vs l) : RS K (upd H a (.lst vs)) ρ (st.set n (.lst l)) :=
  s.write h ⟨vs, upd_same, r.ext (Ext.write (List.mem_of_getElem? h))⟩

/-! ### the state at a place -/
structure At (K : PySem.W.Frag) (H : Hp) (ρ : List Addr) (σ : SV) (ls : LS) (st : Store) : Prop where
  len : ls.length = σ.length
  loc : ∀ (i : Nat) d, getL ls i = some d → ∃ v, σ[i]? = some (some v) ∧ RV K H ρ v d
  sto : RS K H ρ st
theorem At.grow {σ : SV} {ls : LS} {st st' : Store} (x : At K H ρ σ ls st) (e : Ext ρ H ρ' H') (s : RS K H' ρ' st') : At K H' ρ' σ ls st' :=
  ⟨x.len, fun i d h => let ⟨v, h1, h2⟩ := x.loc i d h; ⟨v, h1, h2.ext e⟩, s⟩
theorem At.put {σ : SV} {ls : LS} {st : Store} (x : At K H ρ σ ls st) (i : Nat) (r : RV K H ρ v d) : At K H ρ (σ.set i (some v)) (setL ls i d) st := by
  refine ⟨by rw [setL_length, List.length_set]; exact x.len, fun j e h => ?_, x.sto⟩
  by_cases hj : i = j
  · subst hj
    obtain ⟨rfl, hl⟩ := getL_setL_same ls i d e h
    exact ⟨v, by rw [List.getElem?_set_self (by rw [← x.len]; exact hl)], r⟩
  · rw [getL_setL_ne _ _ _ _ hj] at h
    obtain ⟨w, h1, h2⟩ := x.loc j e h
    exact ⟨w, by rw [List.getElem?_set_ne hj]; exact h1, h2⟩
end
end DD

set_option maxRecDepth 100000
set_option maxHeartbeats 1000000
/-! DD2: the judgements over plain functions: expressions, tests, arguments, targets, statements; sequences, ifs, whiles. -/
namespace DD
open PySem PySem.Spec PyProof.Rows L2

theorem pe_imp {X : Cx} {e : Expr} {t t' : TE} (h : PE X e t) (w : ∀ σ H Q, t' σ H Q → t σ H Q) : PE X e t' := ⟨fun pins s σ H Q I q => h.run pins s σ H Q I (w σ H Q q)⟩
theorem pt_imp {X : Cx} {e : Expr} {t t' : TT} (h : PT X e t) (w : ∀ σ H Q, t' σ H Q → t σ H Q) : PT X e t' := ⟨fun pins s σ H Q I q => h.run pins s σ H Q I (w σ H Q q)⟩
theorem pw_imp {X : Cx} {e : Expr} {t t' : TT} (h : PW X e t) (w : ∀ σ H Q, t' σ H Q → t σ H Q) : PW X e t' := ⟨fun wh pins s σ H Q I q => h.run wh pins s σ H Q I (w σ H Q q)⟩
theorem pa_imp {X : Cx} {e : List Expr} {t t' : TA} (h : PA X e t) (w : ∀ σ H Q, t' σ H Q → t σ H Q) : PA X e t' := ⟨fun pos pins s σ H Q I q => h.run pos pins s σ H Q I (w σ H Q q)⟩
theorem ps_imp {X : Cx} {e : Stmt} {t t' : TS} (h : PS X e t) (w : ∀ D σ H, t' D σ H → t D σ H) : PS X e t' := ⟨fun pins s σ H D I q => h.run pins s σ H D I (w D σ H q)⟩
theorem pss_imp {X : Cx} {e : List Stmt} {t t' : TS} (h : PSs X e t) (w : ∀ D σ H, t' D σ H → t D σ H) : PSs X e t' := ⟨fun pins s σ H D I q => h.run pins s σ H D I (w D σ H q)⟩
theorem pg_imp {X : Cx} {e : Expr} {t t' : TG} (h : PG X e t) (w : ∀ v σ H Q, t' v σ H Q → t v σ H Q) : PG X e t' := ⟨fun pins s σ H v u Q I r q => h.run pins s σ H v u Q I r (w v σ H Q q)⟩
theorem pgs_imp {X : Cx} {e : List Expr} {t t' : TGs} (h : PGs X e t) (w : ∀ v σ H Q, t' v σ H Q → t v σ H Q) : PGs X e t' := ⟨fun pins s σ H v u Q I r q => h.run pins s σ H v u Q I r (w v σ H Q q)⟩
theorem pi_imp {X : Cx} {tg e : Expr} {t t' : TI} (h : PI X tg e t) (w : ∀ σ H R, t' σ H R → t σ H R) : PI X tg e t' := ⟨fun pins s σ H R I q => h.run pins s σ H R I (w σ H R q)⟩
theorem po_imp {X : Cx} {e : Option Expr} {t t' : TO} (h : PO X e t) (w : ∀ σ H R, t' σ H R → t σ H R) : PO X e t' := ⟨fun pins s σ H R I q => h.run pins s σ H R I (w σ H R q)⟩

section
variable (K : PySem.W.Frag) (mg : Str → Option Value) (W : WX)
/-- how an exception lies: its class, its own dict -/
def RX (H : Hp) (ρ : List Addr) (cls : Value) (dd : Option Addr) (e : Exc) : Prop :=
  ∃ C, mg e.cls = some (.ref C) ∧ cls = Value.ref C ∧ match e.fs with
    | [] => dd = none
    | f :: fs => ∃ dx vs, dd = some dx ∧ dx ∉ ρ ∧ H dx = some (.xd vs) ∧ Paired (fun p q => p.1 = q.1 ∧ RV K H ρ p.2 q.2) vs (f :: fs)
/-- what an outcome wants of the state behind it -/
def OO {α β : Type} (R : Hp → List Addr → β → α → Prop) (σ : SV) (Q : β → Hp → Prop) (ρ : List Addr) (H : Hp) : Out α → Prop
  | .ok a st' => ∀ ρ' b H', Ext ρ H ρ' H' → RS K H' ρ' st' → R H' ρ' b a → Q b H'
  | .ex e st' => ∀ ρ' cls dd H', Ext ρ H ρ' H' → RS K H' ρ' st' → RX K mg H' ρ' cls dd e → W cls dd σ H'
  | .bad => False
/-- the reading by a function -/
def tF {α β : Type} (R : Hp → List Addr → β → α → Prop) (f : LS → Store → Out α) : SV → Hp → (β → Hp → Prop) → Prop := fun σ H Q =>
  ∃ ρ ls st, At K H ρ σ ls st ∧ OO K mg W R σ Q ρ H (f ls st)
def rV (H : Hp) (ρ : List Addr) (v : V) (d : D) : Prop := RV K H ρ v d
def rVs (H : Hp) (ρ : List Addr) (v : List V) (d : List D) : Prop := RVs K H ρ v d
def rB (H : Hp) (ρ : List Addr) (b : Bool) (d : Bool) : Prop := b = d
def rO (H : Hp) (ρ : List Addr) (b : Option Int) (d : Option Int) : Prop := b = d
abbrev tE (f : LS → Store → Out D) : TE := tF K mg W (rV K) f
abbrev tT (f : LS → Store → Out Bool) : TT := tF K mg W rB f
abbrev tA (f : LS → Store → Out (List D)) : TA := tF K mg W (rVs K) f
abbrev tOp' (f : LS → Store → Out (Option Int)) : TO := tF K mg W rO f
/-- a target -/
def GO (Q : SV → Hp → Prop) (ρ : List Addr) (H : Hp) : Out LS → Prop
  | .ok ls' st' => ∀ ρ' σ' H', Ext ρ H ρ' H' → At K H' ρ' σ' ls' st' → Q σ' H'
  | _ => False
def tG (g : D → LS → Store → Out LS) : TG := fun v σ H Q => ∃ ρ ls st d, At K H ρ σ ls st ∧ RV K H ρ v d ∧ GO K Q ρ H (g d ls st)
def tGs' (g : List D → LS → Store → Out LS) : TGs := fun vs σ H Q => ∃ ρ ls st ds, At K H ρ σ ls st ∧ RVs K H ρ vs ds ∧ GO K Q ρ H (g ds ls st)
/-- a statement -/
def PSO (N : Ends) (ρ : List Addr) (H : Hp) : SO → Prop
  | .nx ls' st' => ∀ ρ' σ' H', Ext ρ H ρ' H' → At K H' ρ' σ' ls' st' → N.nx σ' H'
  | .rt d st' => ∀ ρ' v H', Ext ρ H ρ' H' → RS K H' ρ' st' → RV K H' ρ' v d → N.rt v H'
  | .bk ls' st' => ∀ ρ' σ' H', Ext ρ H ρ' H' → At K H' ρ' σ' ls' st' → N.bk σ' H'
  | .ct ls' st' => ∀ ρ' σ' H', Ext ρ H ρ' H' → At K H' ρ' σ' ls' st' → N.ct σ' H'
  | .ex e ls' st' => ∀ ρ' σ' cls dd H', Ext ρ H ρ' H' → At K H' ρ' σ' ls' st' → RX K mg H' ρ' cls dd e → W cls dd σ' H'
  | .bad => False
def tS (g : LS → Store → SO) : TS := fun N σ H => ∃ ρ ls st, At K H ρ σ ls st ∧ PSO K mg W N ρ H (g ls st)
end
abbrev DE (X : Cx) (W : WX) (e : Expr) (f : LS → Store → Out D) : Prop := PE X e (tE X.K X.mg W f)
abbrev DT (X : Cx) (W : WX) (e : Expr) (f : LS → Store → Out Bool) : Prop := PT X e (tT X.K X.mg W f)
abbrev DW (X : Cx) (W : WX) (e : Expr) (f : LS → Store → Out Bool) : Prop := PW X e (tT X.K X.mg W f)
abbrev DA (X : Cx) (W : WX) (es : List Expr) (f : LS → Store → Out (List D)) : Prop := PA X es (tA X.K X.mg W f)
abbrev DP (X : Cx) (W : WX) (e : Option Expr) (f : LS → Store → Out (Option Int)) : Prop := PO X e (tOp' X.K X.mg W f)
abbrev DG (X : Cx) (tg : Expr) (g : D → LS → Store → Out LS) : Prop := PG X tg (tG X.K g)
abbrev DGs (X : Cx) (tg : List Expr) (g : List D → LS → Store → Out LS) : Prop := PGs X tg (tGs' X.K g)
abbrev DS (X : Cx) (W : WX) (s : Stmt) (g : LS → Store → SO) : Prop := PS X s (tS X.K X.mg W g)
abbrev DSs (X : Cx) (W : WX) (s : List Stmt) (g : LS → Store → SO) : Prop := PSs X s (tS X.K X.mg W g)

section
variable {K : PySem.W.Frag} {mg : Str → Option Value} {W : WX} {α β γ δ : Type} {R : Hp → List Addr → β → α → Prop} {R2 : Hp → List Addr → δ → γ → Prop} {σ : SV} {Q Q' : β → Hp → Prop} {ρ ρ' : List Addr} {H H' : Hp}
theorem RX.keepx {H : Hp} {ρ : List Addr} {cls : Value} {dd : Option Addr} {e : Exc} (h : RX K mg H ρ cls dd e) : True := trivial
theorem OO.mono {o : Out α} (h : OO K mg W R σ Q ρ H o) (w : ∀ b H, Q b H → Q' b H) : OO K mg W R σ Q' ρ H o := by
  cases o with
  | ok a st => exact fun ρ' b H' e s r => w _ _ (h ρ' b H' e s r)
  | ex e st => exact h
  | bad => exact h
theorem OO.grow {o : Out α} (h : OO K mg W R σ Q ρ H o) (e : Ext ρ H ρ' H') : OO K mg W R σ Q ρ' H' o := by
  cases o with
  | ok a st => exact fun ρ2 b H2 e2 s r => h ρ2 b H2 (e.trans e2) s r
  | ex x st => exact fun ρ2 cls dd H2 e2 s r => h ρ2 cls dd H2 (e.trans e2) s r
  | bad => exact h
theorem OO.bind {o : Out α} {f : α → Store → Out γ} {Q2 : δ → Hp → Prop} (h : OO K mg W R2 σ Q2 ρ H (o.bind f)) :
    OO K mg W R σ (fun b H1 => ∃ ρ1 a st1, Ext ρ H ρ1 H1 ∧ RS K H1 ρ1 st1 ∧ R H1 ρ1 b a ∧ OO K mg W R2 σ Q2 ρ1 H1 (f a st1)) ρ H o := by
  cases o with
  | ok a st => exact fun ρ1 b H1 e s r => ⟨ρ1, a, st, e, s, r, OO.grow h e⟩
  | ex x st => exact h
  | bad => exact h
/-- a reading by the first of two functions, then the rest -/
theorem tF_bind {o : LS → Store → Out α} {f : LS → α → Store → Out γ} {ls : LS} {st : Store} {Q2 : δ → Hp → Prop} (A : At K H ρ σ ls st) (h : OO K mg W R2 σ Q2 ρ H ((o ls st).bind (f ls)))
    {R1 : β → Hp → Prop} (k : ∀ ρ1 b H1 a st1, Ext ρ H ρ1 H1 → At K H1 ρ1 σ ls st1 → R H1 ρ1 b a → OO K mg W R2 σ Q2 ρ1 H1 (f ls a st1) → R1 b H1) : tF K mg W R o σ H R1 :=
  ⟨ρ, ls, st, A, (OO.bind h).mono fun b H1 ⟨ρ1, a, st1, e, s, r, q⟩ => k ρ1 b H1 a st1 e (A.grow e s) r q⟩
/-- at an end -/
theorem OO.done {a : α} {b : β} {st : Store} (h : OO K mg W R σ Q ρ H (.ok a st)) (s : RS K H ρ st) (r : R H ρ b a) : Q b H := h ρ b H (Ext.refl _ _) s r
theorem OO.here {a : α} {b : β} {st : Store} (h : OO K mg W R σ Q ρ H (.ok a st)) (e : Ext ρ H ρ' H') (s : RS K H' ρ' st) (r : R H' ρ' b a) : Q b H' := h ρ' b H' e s r
end

section
variable {X : Cx} {W : WX} {a b c e : Expr} {es : List Expr} {fa fb fc f : LS → Store → Out D} {pos : Pos}
/-! ### names, constants -/
def varD (i : Nat) : LS → Store → Out D := fun ls st => match getL ls i with
  | some d => .ok d st
  | none => .bad
def litD (d : D) : LS → Store → Out D := fun _ st => .ok d st
theorem de_var {i : Nat} {x : Str} {t : TE} (h : PE X (.Name x pos) (tVar i)) : DE X W (.Name x pos) (varD i) := pe_imp h fun σ H Q ⟨ρ, ls, st, A, p⟩ => by
  unfold varD at p
  cases e : getL ls i with
  | none => rw [e] at p; exact p.elim
  | some d =>
    rw [e] at p
    obtain ⟨v, h1, h2⟩ := A.loc i d e
    exact ⟨v, h1, OO.done p A.sto h2⟩
theorem de_lit {d : D} {v : V} (h : PE X e (tC v)) (r : ∀ H ρ, RV X.K H ρ v d) : DE X W e (litD d) := pe_imp h fun σ H Q ⟨ρ, ls, st, A, p⟩ => OO.done p A.sto (r H ρ)
theorem de_int {i : Int} {j : Nat} : DE X W (.Constant (.int i) j pos) (litD (.int i)) := de_lit pe_int fun _ _ => .int i
theorem de_bl {i : Bool} {j : Nat} : DE X W (.Constant (.bool i) j pos) (litD (.bl i)) := de_lit pe_bl fun _ _ => .bl i
theorem de_non {j : Nat} : DE X W (.Constant .none j pos) (litD .non) := de_lit pe_non fun _ _ => .non
theorem de_str {x : Str} {j : Nat} : DE X W (.Constant (.str x) j pos) (litD (.str x)) := de_lit pe_str fun _ _ => .str x
/-- the name that stands in the i-th slot -/
theorem dv (i : Nat) {x : Str} {pos : Pos} (hN : X.N[i]? = some x := by rfl) (hv : Vis X.env.scope x := by first | exact Or.inl rfl | exact Or.inr (Or.inl rfl) | exact Or.inr (Or.inr rfl)) (hd : (x == ("__debug__" : Str)) = false := by decide)
    (hcd : (x == ("__classdict__" : Str)) = false := by decide) : DE X W (.Name x pos) (varD i) := de_var (t := tVar i) (pe_var hN hv hd hcd)

/-! ### two operands -/
def bin2 (F : D → D → Store → Out D) (fa fb : LS → Store → Out D) : LS → Store → Out D := fun ls st => (fa ls st).bind fun x st1 => (fb ls st1).bind fun y st2 => F x y st2
def un1 (F : D → Store → Out D) (fa : LS → Store → Out D) : LS → Store → Out D := fun ls st => (fa ls st).bind fun x st1 => F x st1
/-- what an operator's rule asks is what F gives -/
def OpD (X : Cx) (W : WX) (r : R2) (F : D → D → Store → Out D) : Prop := ∀ (σ : SV) (ρ : List Addr) (H : Hp) (st : Store) (x y : V) (dx dy : D) (Q : VK),
  RS X.K H ρ st → RV X.K H ρ x dx → RV X.K H ρ y dy → OO X.K X.mg W (rV X.K) σ Q ρ H (F dx dy st) → r x y H Q
def UnD (X : Cx) (W : WX) (r : V → Hp → VK → Prop) (F : D → Store → Out D) : Prop := ∀ (σ : SV) (ρ : List Addr) (H : Hp) (st : Store) (x : V) (dx : D) (Q : VK),
  RS X.K H ρ st → RV X.K H ρ x dx → OO X.K X.mg W (rV X.K) σ Q ρ H (F dx st) → r x H Q
def CallD (X : Cx) (W : WX) (r : List V → Hp → VK → Prop) (F : List D → Store → Out D) : Prop := ∀ (σ : SV) (ρ : List Addr) (H : Hp) (st : Store) (xs : List V) (ds : List D) (Q : VK),
  RS X.K H ρ st → RVs X.K H ρ xs ds → OO X.K X.mg W (rV X.K) σ Q ρ H (F ds st) → r xs H Q
theorem bin_read {r : R2} {F : D → D → Store → Out D} (hd : OpD X W r F) {σ : SV} {H : Hp} {Q : VK} (h : tE X.K X.mg W (bin2 F fa fb) σ H Q) : tOp r (tE X.K X.mg W fa) (tE X.K X.mg W fb) σ H Q := by
  obtain ⟨ρ, ls, st, A, p⟩ := h
  refine tF_bind (R2 := rV X.K) (f := fun ls x st1 => (fb ls st1).bind fun y st2 => F x y st2) A p fun ρ1 x H1 dx st1 e1 A1 r1 q1 => ?_
  refine tF_bind (R2 := rV X.K) (f := fun _ y st2 => F dx y st2) A1 q1 fun ρ2 y H2 dy st2 e2 A2 r2 q2 => ?_
  exact hd σ ρ2 H2 st2 x y dx dy Q A2.sto (RV.ext e2 _ r1) r2 q2
theorem de_bin {op : Operator} {r : R2} {F : D → D → Store → Out D} (ho : OpR X (binaryOp op) r) (hd : OpD X W r F) (ha : DE X W a fa) (hb : DE X W b fb) : DE X W (.BinOp a op b pos) (bin2 F fa fb) :=
  pe_imp (pe_op ho ha hb) fun _ _ _ h => bin_read hd h
theorem de_cmp {op : CmpOp} {r : R2} {F : D → D → Store → Out D} (ho : OpR X (compareOp op) r) (hd : OpD X W r F) (ha : DE X W a fa) (hb : DE X W b fb) (hm : behindInMarks op b = false) : DE X W (.Compare a [op] [b] pos) (bin2 F fa fb) :=
  pe_imp (pe_cmpR ho ha hb hm) fun _ _ _ h => bin_read hd h
/-- an outcome that is to be a bool -/
def asB (o : Out D) : Out Bool := match o with
  | .ok (.bl b) st => .ok b st
  | .ex e st => .ex e st
  | _ => .bad
@[simp] theorem asB_ok (b : Bool) (st : Store) : asB (.ok (.bl b) st) = .ok b st := rfl
@[simp] theorem asB_ex (e : Exc) (st : Store) : asB (.ex e st) = .ex e st := rfl
@[simp] theorem asB_bad : asB .bad = .bad := rfl
def boolD (f : LS → Store → Out D) : LS → Store → Out Bool := fun ls st => asB (f ls st)
theorem asB_read {o : Out D} {σ : SV} {Q : Bool → Hp → Prop} {ρ : List Addr} {H : Hp} {K : PySem.W.Frag} {mg : Str → Option Value} (h : OO K mg W rB σ Q ρ H (asB o)) : OO K mg W (rV K) σ (fun x H' => ∃ k, x = .bl k ∧ Q k H') ρ H o := by
  cases o with
  | bad => exact h
  | ex e st => exact h
  | ok d st =>
    cases d with
    | bl b =>
      intro ρ' v H' e s r
      cases r
      exact ⟨b, rfl, h ρ' b H' e s rfl⟩
    | _ => exact h.elim
theorem dt_cmp {op : CmpOp} {r : R2} {F : D → D → Store → Out D} (ho : OpR X (compareOp op) r) (hd : OpD X W r F) (ha : DE X W a fa) (hb : DE X W b fb) (hm : behindInMarks op b = false) : DT X W (.Compare a [op] [b] pos) (boolD (bin2 F fa fb)) :=
  pt_imp (pt_cmpR ho ha hb hm) fun σ H Q h => by
    obtain ⟨ρ, ls, st, A, p⟩ := h
    exact bin_read hd ⟨ρ, ls, st, A, asB_read p⟩
theorem de_un {op : UnaryOp} {r : V → Hp → VK → Prop} {F : D → Store → Out D} (ho : UnR X (unaryOp op) r) (hd : UnD X W r F) (ha : DE X W a fa) : DE X W (.UnaryOp op a pos) (un1 F fa) :=
  pe_imp (pe_un ho ha) fun σ H Q ⟨ρ, ls, st, A, p⟩ => tF_bind (R2 := rV X.K) (f := fun _ x st1 => F x st1) A p fun ρ1 x H1 dx st1 e1 A1 r1 q1 => hd σ ρ1 H1 st1 x dx Q A1.sto r1 q1

/-! ### arguments, displays -/
def nilA : LS → Store → Out (List D) := fun _ st => .ok [] st
def consA (fa : LS → Store → Out D) (fr : LS → Store → Out (List D)) : LS → Store → Out (List D) := fun ls st => (fa ls st).bind fun x st1 => (fr ls st1).bind fun xs st2 => .ok (x :: xs) st2
theorem da_nil : DA X W [] nilA := pa_imp pa_nil fun σ H Q ⟨ρ, ls, st, A, p⟩ => OO.done p A.sto RVs.nil
theorem da_cons {fr : LS → Store → Out (List D)} (ha : DE X W a fa) (hr : DA X W es fr) (hs : starEach (a :: es) X.env = (false, eval a X.env) :: starEach es X.env := by rfl) : DA X W (a :: es) (consA fa fr) :=
  pa_imp (pa_cons ha hr hs) fun σ H Q ⟨ρ, ls, st, A, p⟩ => by
    refine tF_bind (R2 := rVs X.K) (f := fun ls x st1 => (fr ls st1).bind fun xs st2 => .ok (x :: xs) st2) A p fun ρ1 x H1 dx st1 e1 A1 r1 q1 => ?_
    refine tF_bind (R2 := rVs X.K) (f := fun _ xs st2 => .ok (dx :: xs) st2) A1 q1 fun ρ2 xs H2 ds st2 e2 A2 r2 q2 => ?_
    exact OO.done q2 A2.sto (RVs.cons (RV.ext e2 _ r1) r2)
def tupD (fr : LS → Store → Out (List D)) : LS → Store → Out D := fun ls st => (fr ls st).bind fun xs st1 => if xs.length ≤ 16777216 then .ok (.tup xs) st1 else .bad
def lstD (fr : LS → Store → Out (List D)) : LS → Store → Out D := fun ls st => (fr ls st).bind fun xs st1 => if xs.length ≤ 16777216 then .ok (.ref st1.length) (st1 ++ [.lst xs]) else .bad
theorem de_tup {fr : LS → Store → Out (List D)} {x1 : Nat} (h : DA X W es fr) : DE X W (.Tuple es x1 pos) (tupD fr) := pe_imp (pe_tup h) fun σ H Q ⟨ρ, ls, st, A, p⟩ => by
  refine tF_bind (R2 := rV X.K) (f := fun _ xs st1 => if xs.length ≤ 16777216 then .ok (.tup xs) st1 else .bad) A p fun ρ1 xs H1 ds st1 e1 A1 r1 q1 => ?_
  by_cases hl : ds.length ≤ 16777216
  · have q2 : OO X.K X.mg W (rV X.K) σ Q ρ1 H1 (.ok (.tup ds) st1) := by simpa only [if_pos hl] using q1
    refine ⟨by rw [RVs.length r1, sizeLine_eq]; exact hl, fun p hp => ?_⟩
    have x := Ext.laid (ρ := ρ1) (o := .tup xs) hp
    exact OO.here q2 x (A1.sto.laid hp) (.tup (.inl ⟨upd_same, A1.sto.out hp⟩) (RVs.ext x _ r1))
  · rw [if_neg hl] at q1; exact q1.elim
theorem de_lst {fr : LS → Store → Out (List D)} (h : DA X W es fr) : DE X W (.List es pos) (lstD fr) := pe_imp (pe_lst h) fun σ H Q ⟨ρ, ls, st, A, p⟩ => by
  refine tF_bind (R2 := rV X.K) (f := fun _ xs st1 => if xs.length ≤ 16777216 then .ok (.ref st1.length) (st1 ++ [.lst xs]) else .bad) A p fun ρ1 xs H1 ds st1 e1 A1 r1 q1 => ?_
  by_cases hl : ds.length ≤ 16777216
  · have q2 : OO X.K X.mg W (rV X.K) σ Q ρ1 H1 (.ok (.ref st1.length) (st1 ++ [.lst ds])) := by simpa only [if_pos hl] using q1
    refine ⟨by rw [RVs.length r1, sizeLine_eq]; exact hl, fun p hp => ?_⟩
    exact OO.here q2 (Ext.cell hp) (A1.sto.newL hp r1) (.ref (by rw [← A1.sto.len, List.getElem?_append_right (Nat.le_refl _)]; simp))
  · rw [if_neg hl] at q1; exact q1.elim

/-! ### tests -/
def truD (st : Store) : D → Option Bool
  | .non => some false
  | .bl b => some b
  | .int i => some (i != 0)
  | .tup l => some (!l.isEmpty)
  | .lst l => some (!l.isEmpty)
  | .cst l => some (!l.isEmpty)
  | .ref n => (match st[n]? with
    | some (.lst l) => some (!l.isEmpty)
    | some (.dic l) => some (!l.isEmpty)
    | none => none)
  | .str _ => none
  | .adr _ => none
def testD (f : LS → Store → Out D) : LS → Store → Out Bool := fun ls st => (f ls st).bind fun d st1 => match truD st1 d with
  | some b => .ok b st1
  | none => .bad
theorem RVs.isEmpty {K : PySem.W.Frag} {H : Hp} {ρ : List Addr} {vs : List V} {ds : List D} (h : RVs K H ρ vs ds) : vs.isEmpty = ds.isEmpty := by cases h <;> rfl
theorem tru_read {K : PySem.W.Frag} {H : Hp} {ρ : List Addr} {st : Store} {v : V} {d : D} {b : Bool} (s : RS K H ρ st) (r : RV K H ρ v d) (h : truD st d = some b) : TruV K v H b := by
  cases r with
  | non => cases h; rfl
  | bl b => cases h; rfl
  | int i => cases h; rfl
  | str x => cases h
  | adr => cases h
  | tup h1 h2 => cases h; exact .inr (.inl ⟨_, h1.sq, by rw [h2.isEmpty]⟩)
  | lst h1 h2 h3 => cases h; exact .inl ⟨_, .inl (.inl h1), by rw [h3.isEmpty]⟩
  | cst h1 h2 => cases h; exact .inl ⟨_, h1.sq, by rw [h2.isEmpty]⟩
  | ref h1 =>
    rename_i a n
    unfold truD at h
    cases e : st[n]? with
    | none => simp [e] at h
    | some c =>
      have hc := s.cell n a c h1 e
      cases c with
      | lst l =>
        simp only [e] at h
        have h : some (!l.isEmpty) = some b := h
        cases h
        obtain ⟨vs, h2, h3⟩ := hc
        exact .inl ⟨vs, .inl (.inl h2), by rw [h3.isEmpty]⟩
      | dic l =>
        simp only [e] at h
        have h : some (!l.isEmpty) = some b := h
        cases h
        obtain ⟨vs, h2, h3⟩ := hc
        refine .inr (.inr ⟨vs, h2, ?_⟩)
        cases h3 <;> rfl
theorem dt_truth (ha : DE X W a fa) (he : ∀ whole, isTrue a X.env whole = (do let v ← whole; standAt a.pos; holding [v] (truthy v)) := by intro _; rfl) : DT X W a (testD fa) :=
  pt_imp (pt_truth ha he) fun σ H Q ⟨ρ, ls, st, A, p⟩ => by
    refine tF_bind (R2 := rB) (f := fun _ d st1 => match truD st1 d with | some b => .ok b st1 | none => .bad) A p fun ρ1 x H1 dx st1 e1 A1 r1 q1 => ?_
    cases e : truD st1 dx with
    | none => simp only [e] at q1; exact q1.elim
    | some b =>
      simp only [e] at q1
      exact ⟨b, tru_read A1.sto r1 e, OO.done q1 A1.sto rfl⟩
def notT (f : LS → Store → Out Bool) : LS → Store → Out Bool := fun ls st => (f ls st).bind fun b st1 => .ok (!b) st1
def andT (f g : LS → Store → Out Bool) : LS → Store → Out Bool := fun ls st => (f ls st).bind fun b st1 => if b = true then g ls st1 else .ok false st1
def orT (f g : LS → Store → Out Bool) : LS → Store → Out Bool := fun ls st => (f ls st).bind fun b st1 => if b = true then .ok true st1 else g ls st1
variable {ta tb tc : LS → Store → Out Bool} {rest : List Expr}
theorem dt_not (ha : DT X W a ta) : DT X W (.UnaryOp .Not a pos) (notT ta) := pt_imp (pt_not ha) fun σ H Q ⟨ρ, ls, st, A, p⟩ =>
  tF_bind (R2 := rB) (f := fun _ b st1 => .ok (!b) st1) A p fun ρ1 x H1 dx st1 e1 A1 r1 q1 => by
    obtain rfl : x = dx := r1
    exact OO.done q1 A1.sto rfl
theorem dw_and1 (ha : DT X W a ta) : DW X W (.BoolOp .And [a] pos) ta := pw_and1 ha
theorem dw_or1 (ha : DT X W a ta) : DW X W (.BoolOp .Or [a] pos) ta := pw_or1 ha
theorem dw_and (ha : DT X W a ta) (hb : DW X W (.BoolOp .And (b :: rest) pos) tb) : DW X W (.BoolOp .And (a :: b :: rest) pos) (andT ta tb) := pw_imp (pw_and ha hb) fun σ H Q ⟨ρ, ls, st, A, p⟩ =>
  tF_bind (R2 := rB) (f := fun ls b st1 => if b = true then tb ls st1 else .ok false st1) A p fun ρ1 x H1 dx st1 e1 A1 r1 q1 => by
    obtain rfl : x = dx := r1
    cases x with
    | true => exact ⟨ρ1, ls, st1, A1, q1⟩
    | false => exact OO.done q1 A1.sto rfl
theorem dw_or (ha : DT X W a ta) (hb : DW X W (.BoolOp .Or (b :: rest) pos) tb) : DW X W (.BoolOp .Or (a :: b :: rest) pos) (orT ta tb) := pw_imp (pw_or ha hb) fun σ H Q ⟨ρ, ls, st, A, p⟩ =>
  tF_bind (R2 := rB) (f := fun ls b st1 => if b = true then .ok true st1 else tb ls st1) A p fun ρ1 x H1 dx st1 e1 A1 r1 q1 => by
    obtain rfl : x = dx := r1
    cases x with
    | false => exact ⟨ρ1, ls, st1, A1, q1⟩
    | true => exact OO.done q1 A1.sto rfl
/-! .. as values (bools) -/
def andV (f g : LS → Store → Out D) : LS → Store → Out D := fun ls st => (asB (f ls st)).bind fun b st1 => if b = true then g ls st1 else .ok (.bl false) st1
def orV (f g : LS → Store → Out D) : LS → Store → Out D := fun ls st => (asB (f ls st)).bind fun b st1 => if b = true then .ok (.bl true) st1 else g ls st1
def notV (f : LS → Store → Out D) : LS → Store → Out D := fun ls st => (asB (f ls st)).bind fun b st1 => .ok (.bl (!b)) st1
theorem asB_bind {o : LS → Store → Out D} {f : LS → Bool → Store → Out D} {ls : LS} {st : Store} {σ : SV} {Q2 : VK} {ρ : List Addr} {H : Hp} {K : PySem.W.Frag} {mg : Str → Option Value} (A : At K H ρ σ ls st) (h : OO K mg W (rV K) σ Q2 ρ H ((asB (o ls st)).bind (f ls)))
    {R1 : VK} (k : ∀ ρ1 b H1 st1, Ext ρ H ρ1 H1 → At K H1 ρ1 σ ls st1 → OO K mg W (rV K) σ Q2 ρ1 H1 (f ls b st1) → R1 (.bl b) H1) : tE K mg W o σ H R1 :=
  ⟨ρ, ls, st, A, (asB_read (OO.bind (R := rB) h)).mono fun x H1 ⟨b, ex, ρ1, b', st1, e, s, r, q⟩ => by
    obtain rfl : b = b' := r
    subst ex
    exact k ρ1 b H1 st1 e (A.grow e s) q⟩
theorem de_one {op : BoolOp} (ha : DE X W a fa) : DE X W (.BoolOp op [a] pos) fa := pe_one ha
theorem de_and (ha : DE X W a fa) (hb : DE X W (.BoolOp .And (b :: rest) pos) fb) : DE X W (.BoolOp .And (a :: b :: rest) pos) (andV fa fb) := pe_imp (pe_and ha hb) fun σ H Q ⟨ρ, ls, st, A, p⟩ =>
  asB_bind (f := fun ls b st1 => if b = true then fb ls st1 else .ok (.bl false) st1) A p fun ρ1 x H1 st1 e1 A1 q1 => ⟨x, rfl, by
    cases x with
    | true => exact ⟨ρ1, ls, st1, A1, q1⟩
    | false => exact OO.done q1 A1.sto (RV.bl false)⟩
theorem de_or (ha : DE X W a fa) (hb : DE X W (.BoolOp .Or (b :: rest) pos) fb) : DE X W (.BoolOp .Or (a :: b :: rest) pos) (orV fa fb) := pe_imp (pe_or ha hb) fun σ H Q ⟨ρ, ls, st, A, p⟩ =>
  asB_bind (f := fun ls b st1 => if b = true then .ok (.bl true) st1 else fb ls st1) A p fun ρ1 x H1 st1 e1 A1 q1 => ⟨x, rfl, by
    cases x with
    | false => exact ⟨ρ1, ls, st1, A1, q1⟩
    | true => exact OO.done q1 A1.sto (RV.bl true)⟩
theorem de_not (ha : DE X W a fa) : DE X W (.UnaryOp .Not a pos) (notV fa) := pe_imp (pe_not ha) fun σ H Q ⟨ρ, ls, st, A, p⟩ =>
  asB_bind (f := fun _ b st1 => .ok (.bl (!b)) st1) A p fun ρ1 x H1 st1 e1 A1 q1 => ⟨x, rfl, OO.done q1 A1.sto (RV.bl _)⟩
def ifE (t : LS → Store → Out Bool) (f g : LS → Store → Out D) : LS → Store → Out D := fun ls st => (t ls st).bind fun b st1 => if b = true then f ls st1 else g ls st1
theorem de_if (hc : DT X W c tc) (ha : DE X W a fa) (hb : DE X W b fb) : DE X W (.IfExp c a b pos) (ifE tc fa fb) := pe_imp (pe_ifExp hc ha hb) fun σ H Q ⟨ρ, ls, st, A, p⟩ =>
  tF_bind (R2 := rV X.K) (f := fun ls b st1 => if b = true then fa ls st1 else fb ls st1) A p fun ρ1 x H1 dx st1 e1 A1 r1 q1 => by
    obtain rfl : x = dx := r1
    cases x with
    | true => exact ⟨ρ1, ls, st1, A1, q1⟩
    | false => exact ⟨ρ1, ls, st1, A1, q1⟩
end

/-! ### statements -/
section
variable {K : PySem.W.Frag} {mg : Str → Option Value} {W : WX} {N N' : Ends} {ρ ρ' : List Addr} {H H' : Hp} {σ : SV} {ls : LS} {st : Store}
theorem PSO.grow {o : SO} (h : PSO K mg W N ρ H o) (e : Ext ρ H ρ' H') : PSO K mg W N ρ' H' o := by
  cases o with
  | nx l s => exact fun ρ2 σ' H2 e2 a => h ρ2 σ' H2 (e.trans e2) a
  | rt d s => exact fun ρ2 v H2 e2 a r => h ρ2 v H2 (e.trans e2) a r
  | bk l s => exact fun ρ2 σ' H2 e2 a => h ρ2 σ' H2 (e.trans e2) a
  | ct l s => exact fun ρ2 σ' H2 e2 a => h ρ2 σ' H2 (e.trans e2) a
  | ex x l s => exact fun ρ2 σ' c d H2 e2 a r => h ρ2 σ' c d H2 (e.trans e2) a r
  | bad => exact h
def ofE {α : Type} (o : Out α) (ls : LS) (k : α → Store → SO) : SO := match o with
  | .ok a st => k a st
  | .ex e st => .ex e ls st
  | .bad => .bad
@[simp] theorem ofE_ok {α : Type} (a : α) (st : Store) (ls : LS) (k : α → Store → SO) : ofE (.ok a st) ls k = k a st := rfl
@[simp] theorem ofE_ex {α : Type} (e : Exc) (st : Store) (ls : LS) (k : α → Store → SO) : ofE (.ex e st : Out α) ls k = .ex e ls st := rfl
@[simp] theorem ofE_bad {α : Type} (ls : LS) (k : α → Store → SO) : ofE (.bad : Out α) ls k = .bad := rfl
theorem ofE_read {α β : Type} {R : Hp → List Addr → β → α → Prop} {o : LS → Store → Out α} {k : LS → α → Store → SO} (A : At K H ρ σ ls st) (h : PSO K mg W N ρ H (ofE (o ls st) ls (k ls)))
    {R1 : β → Hp → Prop} (f : ∀ ρ1 b H1 a st1, Ext ρ H ρ1 H1 → At K H1 ρ1 σ ls st1 → R H1 ρ1 b a → PSO K mg W N ρ1 H1 (k ls a st1) → R1 b H1) : tF K mg W R o σ H R1 := by
  refine ⟨ρ, ls, st, A, ?_⟩
  cases e : o ls st with
  | ok a s1 => rw [e] at h; exact fun ρ1 b H1 x s r => f ρ1 b H1 a s1 x (A.grow x s) r (PSO.grow h x)
  | ex x s1 => rw [e] at h; exact fun ρ1 c d H1 y s r => h ρ1 σ c d H1 y (A.grow y s) r
  | bad => rw [e] at h; exact h
theorem PSO.doneNx (h : PSO K mg W N ρ H (.nx ls st)) (A : At K H ρ σ ls st) : N.nx σ H := h ρ σ H (Ext.refl _ _) A
end
section
variable {X : Cx} {W : WX} {st : Stmt} {rest : List Stmt} {g1 g2 g : LS → Store → SO} {e : Expr} {fe : LS → Store → Out D} {pos : Pos}
def skipD : LS → Store → SO := fun ls st => .nx ls st
def seqD (g1 g2 : LS → Store → SO) : LS → Store → SO := fun ls st => match g1 ls st with
  | .nx ls' st' => g2 ls' st'
  | o => o
theorem ds_nil : DSs X W [] skipD := pss_imp pss_nil fun N σ H ⟨ρ, ls, st, A, p⟩ => PSO.doneNx p A
theorem ds_cons (h1 : DS X W st g1) (h2 : DSs X W rest g2) : DSs X W (st :: rest) (seqD g1 g2) := pss_imp (pss_cons h1 h2) fun N σ H ⟨ρ, ls, st, A, p⟩ => by
  refine ⟨ρ, ls, st, A, ?_⟩
  unfold seqD at p
  cases e : g1 ls st with
  | nx l s => rw [e] at p; exact fun ρ1 σ1 H1 x A1 => ⟨ρ1, l, s, A1, PSO.grow p x⟩
  | rt d s => rw [e] at p; exact p
  | bk l s => rw [e] at p; exact p
  | ct l s => rw [e] at p; exact p
  | ex x l s => rw [e] at p; exact p
  | bad => rw [e] at p; exact p
theorem ds_one (h1 : DS X W st g1) : DSs X W [st] g1 := pss_one h1
theorem ds_pass : DS X W (.Pass pos) skipD := ps_imp ps_pass fun N σ H ⟨ρ, ls, st, A, p⟩ => PSO.doneNx p A
theorem ds_break : DS X W (.Break pos) (fun ls st => .bk ls st) := ps_imp ps_break fun N σ H ⟨ρ, ls, st, A, p⟩ => p ρ σ H (Ext.refl _ _) A
theorem ds_continue : DS X W (.Continue pos) (fun ls st => .ct ls st) := ps_imp ps_continue fun N σ H ⟨ρ, ls, st, A, p⟩ => p ρ σ H (Ext.refl _ _) A
def dropD (fe : LS → Store → Out D) : LS → Store → SO := fun ls st => ofE (fe ls st) ls fun _ st1 => .nx ls st1
theorem ds_expr (he : DE X W e fe) (hs : swapsWith e none pos.line X.env = pure false := by rfl) : DS X W (.Expr e pos) (dropD fe) := ps_imp (ps_expr he hs) fun N σ H ⟨ρ, ls, st, A, p⟩ =>
  ofE_read (k := fun ls _ st1 => .nx ls st1) A p fun ρ1 v H1 d st1 x A1 r q => PSO.doneNx q A1
def retD (fe : LS → Store → Out D) : LS → Store → SO := fun ls st => ofE (fe ls st) ls fun d st1 => .rt d st1
theorem ds_ret (he : DE X W e fe) : DS X W (.Return (some e) pos) (retD fe) := ps_imp (ps_ret he) fun N σ H ⟨ρ, ls, st, A, p⟩ =>
  ofE_read (k := fun _ d st1 => .rt d st1) A p fun ρ1 v H1 d st1 x A1 r q => q ρ1 v H1 (Ext.refl _ _) A1.sto r
def ifS (t : LS → Store → Out Bool) (g1 g2 : LS → Store → SO) : LS → Store → SO := fun ls st => ofE (t ls st) ls fun b st1 => if b = true then g1 ls st1 else g2 ls st1
theorem ds_if {c : Expr} {sa sb : List Stmt} {tc : LS → Store → Out Bool} (hc : DT X W c tc) (ha : DSs X W sa g1) (hb : DSs X W sb g2) : DS X W (.If c sa sb pos) (ifS tc g1 g2) := ps_imp (ps_if hc ha hb) fun N σ H ⟨ρ, ls, st, A, p⟩ =>
  ofE_read (R := rB) (k := fun ls b st1 => if b = true then g1 ls st1 else g2 ls st1) A p fun ρ1 v H1 d st1 x A1 r q => by
    obtain rfl : v = d := r
    cases v with
    | true => exact ⟨ρ1, ls, st1, A1, q⟩
    | false => exact ⟨ρ1, ls, st1, A1, q⟩
/-- code that is not reached -/
def neverD : LS → Store → SO := fun _ _ => .bad
theorem ds_never : DS X W st neverD := ⟨fun _ _ _ _ _ _ ⟨_, _, _, _, p⟩ => p.elim⟩
theorem dss_never {sts : List Stmt} : DSs X W sts neverD := ⟨fun _ _ _ _ _ _ ⟨_, _, _, _, p⟩ => p.elim⟩

/-! ### targets, stores -/
def nameG (i : Nat) : D → LS → Store → Out LS := fun d ls st => .ok (setL ls i d) st
theorem dg_name {i : Nat} {x : Str} (hN : X.N.Nodup) (hi : X.N[i]? = some x) (hx : Loc X.env.scope x) (hf : X.fn x = true ∨ X.env.scope.names.lookup x = some .local := by first | exact .inl rfl | exact .inr rfl | assumption) : DG X (.Name x pos) (nameG i) :=
  pg_imp (pg_name hN hi hx hf) fun v σ H Q ⟨ρ, ls, st, d, A, r, p⟩ => p ρ _ H (Ext.refl _ _) (A.put i r)
def nilG : List D → LS → Store → Out LS := fun ds ls st => match ds with
  | [] => .ok ls st
  | _ => .bad
def consG (g : D → LS → Store → Out LS) (gs : List D → LS → Store → Out LS) : List D → LS → Store → Out LS := fun ds ls st => match ds with
  | d :: ds => (match g d ls st with
    | .ok ls1 st1 => gs ds ls1 st1
    | _ => .bad)
  | [] => .bad
theorem dgs_nil : DGs X [] nilG := pgs_imp pgs_nil fun vs σ H Q ⟨ρ, ls, st, ds, A, r, p⟩ => by
  cases r with
  | nil => exact ⟨rfl, p ρ σ H (Ext.refl _ _) A⟩
  | cons _ _ => exact p.elim
theorem dgs_cons {es : List Expr} {gg : D → LS → Store → Out LS} {gs : List D → LS → Store → Out LS} (h1 : DG X e gg) (h2 : DGs X es gs)
    (hs : (assignEach (e :: es) X.env).map (·.2) = assign e X.env :: (assignEach es X.env).map (·.2) := by rfl) : DGs X (e :: es) (consG gg gs) := pgs_imp (pgs_cons h1 h2 hs) fun vs σ H Q ⟨ρ, ls, st, ds, A, r, p⟩ => by
  cases r with
  | nil => exact p.elim
  | @cons v vs d ds r1 r2 =>
    have p : GO X.K Q ρ H (match gg d ls st with | .ok ls1 st1 => gs ds ls1 st1 | _ => .bad) := p
    refine ⟨v, vs, rfl, ρ, ls, st, d, A, r1, ?_⟩
    cases e1 : gg d ls st with
    | bad => rw [e1] at p; exact p.elim
    | ex x s => rw [e1] at p; exact p.elim
    | ok l1 s1 =>
      rw [e1] at p
      have p : GO X.K Q ρ H (gs ds l1 s1) := p
      refine fun ρ1 σ1 H1 x A1 => ⟨ρ1, l1, s1, ds, A1, RVs.ext x _ r2, ?_⟩
      cases e2 : gs ds l1 s1 with
      | bad => rw [e2] at p; exact p.elim
      | ex _ _ => rw [e2] at p; exact p.elim
      | ok l2 s2 => rw [e2] at p; exact fun ρ2 σ2 H2 y A2 => p ρ2 σ2 H2 (x.trans y) A2
def tupG (n : Nat) (gs : List D → LS → Store → Out LS) : D → LS → Store → Out LS := fun d ls st => match d with
  | .tup l => if l.length = n then gs l ls st else .bad
  | _ => .bad
theorem dg_tup {es : List Expr} {k : Nat} {gs : List D → LS → Store → Out LS} {n : Nat} (hc : X.calm = true) (h : DGs X es gs)
    (hn : (assignEach es X.env).length = n := by rfl) (hst : (assignEach es X.env).findIdx? (·.1) = none := by rfl) : DG X (.Tuple es k pos) (tupG n gs) :=
  pg_imp (pg_tup hc h hn hst) fun v σ H Q ⟨ρ, ls, st, d, A, r, p⟩ => by
    cases r with
    | @tup a vs ds h1 h2 =>
      unfold tupG at p
      by_cases hl : ds.length = n
      · simp only [if_pos hl] at p
        exact ⟨a, vs, rfl, h1.sq, by rw [h2.length]; exact hl, ρ, ls, st, ds, A, h2, p⟩
      · simp only [if_neg hl] at p; exact p.elim
    | _ => exact p.elim
def asgD (fe : LS → Store → Out D) (g : D → LS → Store → Out LS) : LS → Store → SO := fun ls st => ofE (fe ls st) ls fun d st1 => match g d ls st1 with
  | .ok ls' st' => .nx ls' st'
  | _ => .bad
theorem GO.ofPSO {K : PySem.W.Frag} {mg : Str → Option Value} {N : Ends} {ρ : List Addr} {H : Hp} {o : Out LS} (h : PSO K mg W N ρ H (match o with | .ok ls' st' => .nx ls' st' | _ => .bad)) : GO K N.nx ρ H o := by
  cases o with
  | ok l s => exact h
  | ex _ _ => exact h.elim
  | bad => exact h.elim
theorem ds_asg {tg : Expr} {gg : D → LS → Store → Out LS} (he : DE X W e fe) (hg : DG X tg gg) (hs : swapsWithSole [tg] e pos.line X.env = pure false := by rfl) (hw : swappedStores [tg] e X.env = pure none := by rfl)
    (h1 : (assignEach [tg] X.env).map (·.2) = [assign tg X.env] := by rfl) : DS X W (.Assign [tg] e pos) (asgD fe gg) := ps_imp (ps_asg he hg hs hw h1) fun N σ H ⟨ρ, ls, st, A, p⟩ =>
  ofE_read (k := fun ls d st1 => match gg d ls st1 with | .ok ls' st' => .nx ls' st' | _ => .bad) A p fun ρ1 v H1 d st1 x A1 r q => ⟨ρ1, ls, st1, d, A1, r, GO.ofPSO q⟩
theorem ds_set {i : Nat} {x : Str} {pos' : Pos} (hN : X.N.Nodup) (hi : X.N[i]? = some x) (hx : Loc X.env.scope x) (he : DE X W e fe) (hs : swapsWith e (some (.Name x pos')) pos.line X.env = pure false := by rfl)
    (hf : X.fn x = true ∨ X.env.scope.names.lookup x = some .local := by first | exact .inl rfl | exact .inr rfl | assumption) : DS X W (.Assign [.Name x pos'] e pos) (asgD fe (nameG i)) := ps_imp (ps_set hN hi hx he hs hf) fun N σ H ⟨ρ, ls, st, A, p⟩ =>
  ofE_read (k := fun ls d st1 => match nameG i d ls st1 with | .ok ls' st' => .nx ls' st' | _ => .bad) A p fun ρ1 v H1 d st1 x A1 r q => PSO.doneNx q (A1.put i r)
/-- a, b = x, y with plain local names -/
def parD (i j : Nat) (fr : LS → Store → Out (List D)) : LS → Store → SO := fun ls st => ofE (fr ls st) ls fun ds st1 => match ds with
  | [d, e] => .nx (setL (setL ls i d) j e) st1
  | _ => .bad
theorem ds_par {i j : Nat} {x y : Str} {a b : Expr} {fr : LS → Store → Out (List D)} {px py pt : Pos} {kt k2 pt2} (hc : X.calm = true) (hN : X.N.Nodup) (hi : X.N[i]? = some x) (hj : X.N[j]? = some y) (hij : i ≠ j)
    (hx : X.env.scope.names.lookup x = some .local) (hy : X.env.scope.names.lookup y = some .local) (ha : DA X W [a, b] fr)
    (hw : swappedStores [.Tuple [.Name x px, .Name y py] kt pt] (.Tuple [a, b] k2 pt2) X.env = pure (some [x, y]) := by rfl)
    (hs : swapsWithSole [.Tuple [.Name x px, .Name y py] kt pt] (.Tuple [a, b] k2 pt2) pos.line X.env = pure false := by rfl) :
    DS X W (.Assign [.Tuple [.Name x px, .Name y py] kt pt] (.Tuple [a, b] k2 pt2) pos) (parD i j fr) := ps_imp (ps_par hc hN hi hj hij hx hy ha hw hs) fun N σ H ⟨ρ, ls, st, A, p⟩ =>
  ofE_read (R := rVs X.K) (k := fun ls ds st1 => match ds with | [d, e] => .nx (setL (setL ls i d) j e) st1 | _ => .bad) A p fun ρ1 vs H1 ds st1 x A1 r q => by
    cases r with
    | nil => exact q.elim
    | cons r1 r2 =>
      cases r2 with
      | nil => exact q.elim
      | cons r2 r3 =>
        cases r3 with
        | nil => exact ⟨_, _, rfl, PSO.doneNx q ((A1.put i r1).put j r2)⟩
        | cons _ _ => exact q.elim
end

/-! ### while -/
section
variable {α β : Type}
def runN (f : α → α ⊕ β) : Nat → α → Option β
  | 0, _ => none
  | n + 1, s => match f s with
    | .inl s' => runN f n s'
    | .inr r => some r
theorem runN_mono (f : α → α ⊕ β) : ∀ {n m : Nat} {s : α} {r : β}, runN f n s = some r → n ≤ m → runN f m s = some r
  | n + 1, m + 1, s, r, h, l => by
    unfold runN at h ⊢
    cases e : f s with
    | inl s' => rw [e] at h; exact runN_mono f h (Nat.le_of_succ_le_succ l)
    | inr r' => rw [e] at h; exact h
/-- a loop's end, dflt where there is none -/
noncomputable def loop (f : α → α ⊕ β) (dflt : β) (s : α) : β := open Classical in if h : ∃ r n, runN f n s = some r then Classical.choose h else dflt
theorem loop_of (f : α → α ⊕ β) (dflt : β) {s : α} {n : Nat} {r : β} (h : runN f n s = some r) : loop f dflt s = r := by
  have ex : ∃ r n, runN f n s = some r := ⟨r, n, h⟩
  unfold loop
  rw [dif_pos ex]
  obtain ⟨m, hm⟩ := Classical.choose_spec ex
  have h1 := runN_mono f h (Nat.le_max_left n m)
  have h2 := runN_mono f hm (Nat.le_max_right n m)
  rw [h1] at h2
  exact (Option.some.inj h2).symm
theorem loop_step (f : α → α ⊕ β) (dflt : β) (s : α) : loop f dflt s = match f s with
  | .inl s' => loop f dflt s'
  | .inr r => r := by
  cases e : f s with
  | inr r => exact loop_of (n := 1) f dflt (by unfold runN; rw [e])
  | inl s' =>
    show loop f dflt s = loop f dflt s'
    by_cases ex : ∃ r n, runN f n s' = some r
    · obtain ⟨r, n, h⟩ := ex
      rw [loop_of f dflt h]
      exact loop_of (n := n + 1) f dflt (by unfold runN; rw [e]; exact h)
    · have ex2 : ¬ ∃ r n, runN f n s = some r := fun ⟨r, n, h⟩ => by
        cases n with
        | zero => cases h
        | succ n => unfold runN at h; rw [e] at h; exact ex ⟨r, n, h⟩
      unfold loop
      rw [dif_neg ex, dif_neg ex2]
theorem loop_run (f : α → α ⊕ β) (dflt : β) (s : α) : (∃ n, runN f n s = some (loop f dflt s)) ∨ loop f dflt s = dflt := by
  by_cases ex : ∃ r n, runN f n s = some r
  · obtain ⟨r, n, h⟩ := ex
    exact .inl ⟨n, by rw [loop_of f dflt h]; exact h⟩
  · exact .inr (by unfold loop; rw [dif_neg ex])
end
/-- one turn of a while -/
def whStep (t : LS → Store → Out Bool) (b : LS → Store → SO) (s : LS × Store) : (LS × Store) ⊕ SO := match t s.1 s.2 with
  | .ok true st1 => (match b s.1 st1 with
    | .nx ls' st' => .inl (ls', st')
    | .ct ls' st' => .inl (ls', st')
    | .bk ls' st' => .inr (.nx ls' st')
    | o => .inr o)
  | .ok false st1 => .inr (.nx s.1 st1)
  | .ex e st1 => .inr (.ex e s.1 st1)
  | .bad => .inr .bad
noncomputable def whileD (t : LS → Store → Out Bool) (b : LS → Store → SO) : LS → Store → SO := fun ls st => loop (whStep t b) .bad (ls, st)
section
variable {X : Cx} {W : WX} {pos : Pos} {c : Expr} {body : List Stmt} {tc : LS → Store → Out Bool} {g : LS → Store → SO}
theorem ds_while (hp : PassesOwn (model X.prog X.w) X.A X.env X.xe) (hc : DT X W c tc) (hb : DSs X W body g) : DS X W (.While c body [] pos) (whileD tc g) := ps_imp (ps_while hp hc hb) fun N σ H ⟨ρ, ls, st, A, p⟩ => by
  unfold whileD at p
  rcases loop_run (whStep tc g) .bad (ls, st) with ⟨n, hn⟩ | hn
  · refine ⟨fun m σ H => ∃ ρ ls st r, At X.K H ρ σ ls st ∧ runN (whStep tc g) m (ls, st) = some r ∧ PSO X.K X.mg W N ρ H r, ⟨n, ρ, ls, st, _, A, hn, p⟩, ?_⟩
    rintro m σ H ⟨ρ, ls, st, r, A, hr, p⟩
    cases m with
    | zero => cases hr
    | succ m =>
      unfold runN whStep at hr
      refine ⟨ρ, ls, st, A, ?_⟩
      cases e : tc ls st with
      | bad => simp only [e] at hr; cases hr; exact p
      | ex x s1 => simp only [e] at hr; cases hr; exact fun ρ1 c d H1 y s r => p ρ1 σ c d H1 y (A.grow y s) r
      | ok b s1 =>
        rintro ρ1 b' H1 x s ⟨⟩
        have A1 := A.grow x s
        cases b with
        | false => simp only [e] at hr; cases hr; exact PSO.doneNx (PSO.grow p x) A1
        | true =>
          refine ⟨fun σ' H' => ∃ ρ ls st, At X.K H' ρ σ' ls st ∧ runN (whStep tc g) m (ls, st) = some r ∧ PSO X.K X.mg W N ρ H' r, fun σ' H' ⟨ρ, ls, st, A, hr, p⟩ => ⟨m, Nat.lt_succ_self m, ρ, ls, st, r, A, hr, p⟩, ρ1, ls, s1, A1, ?_⟩
          cases eb : g ls s1 with
          | nx l s2 => simp only [e, eb] at hr; exact fun ρ2 σ2 H2 y A2 => ⟨ρ2, l, s2, A2, hr, PSO.grow p (x.trans y)⟩
          | ct l s2 => simp only [e, eb] at hr; exact fun ρ2 σ2 H2 y A2 => ⟨ρ2, l, s2, A2, hr, PSO.grow p (x.trans y)⟩
          | bk l s2 => simp only [e, eb] at hr; cases hr; exact PSO.grow p x
          | rt d s2 => simp only [e, eb] at hr; cases hr; exact PSO.grow p x
          | ex y l s2 => simp only [e, eb] at hr; cases hr; exact PSO.grow p x
          | bad => simp only [e, eb] at hr; cases hr; exact p.elim
  · rw [hn] at p; exact p.elim
end
end DD

set_option maxRecDepth 100000
set_option maxHeartbeats 1000000
/-! DD3: defs as plain functions: promises by a function (spD), what a def leaves behind is packed (Pk), calls, the law's end. -/
namespace DD
open PySem PySem.Spec PyProof.Rows L2

/-! ### packing: cells that are no more wanted are dropped, lists that nobody holds as a cell are frozen -/
mutual
def ltD (k : Nat) : D → Bool
  | .ref m => decide (m < k)
  | .tup l => ltDs k l
  | .lst l => ltDs k l
  | .cst l => ltDs k l
  | _ => true
def ltDs (k : Nat) : List D → Bool
  | [] => true
  | d :: ds => ltD k d && ltDs k ds
end
def ltC (k : Nat) : Cell → Bool
  | .lst l => ltDs k l
  | .dic kvs => ltDs k (kvs.map (·.2))
def ltS (k : Nat) (st : Store) : Bool := st.all (ltC k)
section
variable (st : Store) (keep : List Nat)
mutual
inductive Fz : D → D → Prop
  | non : Fz .non .non
  | bl (b : Bool) : Fz (.bl b) (.bl b)
  | int (i : Int) : Fz (.int i) (.int i)
  | str (x : Str) : Fz (.str x) (.str x)
  | adr (a : Addr) : Fz (.adr a) (.adr a)
  | tup {l l' : List D} : Fzs l l' → Fz (.tup l) (.tup l')
  | lst {l l' : List D} : Fzs l l' → Fz (.lst l) (.lst l')
  | cst {l l' : List D} : Fzs l l' → Fz (.cst l) (.cst l')
  | kept {m k : Nat} : keep[k]? = some m → Fz (.ref m) (.ref k)
  | froz {m : Nat} {l l' : List D} : m ∉ keep → st[m]? = some (.lst l) → Fzs l l' → Fz (.ref m) (.lst l')
inductive Fzs : List D → List D → Prop
  | nil : Fzs [] []
  | cons {d d' : D} {l l' : List D} : Fz d d' → Fzs l l' → Fzs (d :: l) (d' :: l')
end
def FzC : Cell → Cell → Prop
  | .lst l, .lst l' => Fzs st keep l l'
  | .dic kvs, .dic kvs' => kvs.map (·.1) = kvs'.map (·.1) ∧ Fzs st keep (kvs.map (·.2)) (kvs'.map (·.2))
  | _, _ => False
end
structure Pack (n : Nat) (st : Store) (d : D) (st' : Store) (d' : D) : Prop where
  ex : ∃ keep : List Nat, (∃ t, keep = List.range n ++ t) ∧ keep.Nodup ∧ st'.length = keep.length ∧
    (∀ (k m : Nat), keep[k]? = some m → ∃ c c', st[m]? = some c ∧ st'[k]? = some c' ∧ FzC st keep c c') ∧ Fz st keep d d'
section
variable {K : PySem.W.Frag} {H : Hp} {ρ ρ' : List Addr} {st st' : Store} {keep : List Nat}
mutual
theorem Fz.rv (s : RS K H ρ st) (hk : ∀ (k m : Nat), keep[k]? = some m → ρ'[k]? = ρ[m]?) (hs : ∀ a ∈ ρ', ∃ k m : Nat, keep[k]? = some m ∧ ρ[m]? = some a) : ∀ {d d' : D}, Fz st keep d d' → ∀ {v : V}, RV K H ρ v d → RV K H ρ' v d'
  | _, _, .non, _, r => by cases r; exact .non
  | _, _, .bl b, _, r => by cases r; exact .bl b
  | _, _, .int i, _, r => by cases r; exact .int i
  | _, _, .str x, _, r => by cases r; exact .str x
  | _, _, .adr a, _, r => by cases r; exact .adr
  | _, _, .tup h, _, r => by
    cases r with
    | tup h1 h2 => exact .tup (h1.elim (fun q => .inl ⟨q.1, fun z => let ⟨_, _, _, e⟩ := hs _ z; q.2 (List.mem_of_getElem? e)⟩) .inr) (Fzs.rv s hk hs h h2)
  | _, _, .lst h, _, r => by
    cases r with
    | lst h1 h2 h3 => exact .lst h1 (fun z => let ⟨_, _, _, e⟩ := hs _ z; h2 (List.mem_of_getElem? e)) (Fzs.rv s hk hs h h3)
  | _, _, .cst h, _, r => by
    cases r with
    | cst h1 h2 => exact .cst (h1.elim (fun q => .inl ⟨q.1, fun z => let ⟨_, _, _, e⟩ := hs _ z; q.2 (List.mem_of_getElem? e)⟩) .inr) (Fzs.rv s hk hs h h2)
  | _, _, .kept h, _, r => by
    cases r with
    | ref h1 => exact .ref (by rw [hk _ _ h]; exact h1)
  | _, _, .froz (m := m) hm h h2, _, r => by
    cases r with
    | ref h1 =>
      obtain ⟨vs, q1, q2⟩ := s.cell m _ _ h1 h
      refine .lst q1 (fun z => ?_) (Fzs.rv s hk hs h2 q2)
      obtain ⟨k, m', e1, e2⟩ := hs _ z
      obtain ⟨l1, z1⟩ := List.getElem?_eq_some_iff.mp h1
      obtain ⟨l2, z2⟩ := List.getElem?_eq_some_iff.mp e2
      have e : m = m' := (List.getElem_inj s.nd).mp (z1.trans z2.symm)
      exact hm (e ▸ List.mem_of_getElem? e1)
theorem Fzs.rv (s : RS K H ρ st) (hk : ∀ (k m : Nat), keep[k]? = some m → ρ'[k]? = ρ[m]?) (hs : ∀ a ∈ ρ', ∃ k m : Nat, keep[k]? = some m ∧ ρ[m]? = some a) : ∀ {l l' : List D}, Fzs st keep l l' → ∀ {vs : List V}, RVs K H ρ vs l → RVs K H ρ' vs l'
  | _, _, .nil, _, r => by cases r; exact .nil
  | _, _, .cons h t, _, r => by
    cases r with
    | cons h1 h2 => exact .cons (Fz.rv s hk hs h h1) (Fzs.rv s hk hs t h2)
end
end

section
variable {K : PySem.W.Frag} {H H0 : Hp} {ρ ρ0 : List Addr} {st st' : Store} {keep : List Nat}
theorem FzC.co (s : RS K H ρ st) {ρ' : List Addr} (hk : ∀ (k m : Nat), keep[k]? = some m → ρ'[k]? = ρ[m]?) (hs : ∀ a ∈ ρ', ∃ k m : Nat, keep[k]? = some m ∧ ρ[m]? = some a) {a : Addr} {c c' : Cell} (h : FzC st keep c c') (x : CO K H ρ a c) : CO K H ρ' a c' := by
  cases c with
  | lst l =>
    cases c' with
    | lst l' =>
      obtain ⟨vs, h1, h2⟩ := x
      exact ⟨vs, h1, Fzs.rv s hk hs h h2⟩
    | dic _ => exact h.elim
  | dic kvs =>
    cases c' with
    | lst _ => exact h.elim
    | dic kvs' =>
      obtain ⟨ws, h1, h2⟩ := x
      obtain ⟨e1, e2⟩ := h
      refine ⟨ws, h1, ?_⟩
      have key : ∀ {ws : List (Key × V)} {kvs kvs' : List (Key × D)}, KVr K H ρ ws kvs → kvs.map (·.1) = kvs'.map (·.1) → Fzs st keep (kvs.map (·.2)) (kvs'.map (·.2)) → KVr K H ρ' ws kvs' := by
        intro ws kvs kvs' h2
        induction h2 generalizing kvs' with
        | nil =>
          intro e1 e2
          cases kvs' with
          | nil => exact .nil
          | cons _ _ => cases e1
        | cons r t ih =>
          intro e1 e2
          cases kvs' with
          | nil => cases e1
          | cons q qs =>
            simp only [List.map_cons, List.cons.injEq] at e1
            simp only [List.map_cons] at e2
            cases e2 with
            | cons f1 f2 => exact .cons ⟨r.1.trans e1.1, Fz.rv s hk hs f1 r.2⟩ (ih e1.2 f2)
      exact key h2 e1 e2
theorem Pack.sound {d d' : D} {v : V} {n : Nat} (P : Pack n st d st' d') (s : RS K H ρ st) (r : RV K H ρ v d) (x : Ext ρ0 H0 ρ H) (hn : ρ0.length = n) : ∃ ρ', Ext ρ0 H0 ρ' H ∧ RS K H ρ' st' ∧ RV K H ρ' v d' := by
  obtain ⟨keep, ⟨t, ht⟩, nd, hl, hc, hf⟩ := P.ex
  have inb : ∀ (k m : Nat), keep[k]? = some m → m < ρ.length := fun k m e => by
    obtain ⟨c, c', h1, _, _⟩ := hc k m e
    rw [s.len]; exact (List.getElem?_eq_some_iff.mp h1).1
  have hk : ∀ (k m : Nat), keep[k]? = some m → (keep.map fun m => ρ.getD m 0)[k]? = ρ[m]? := fun k m e => by
    have lt := inb k m e
    rw [List.getElem?_map, e]
    simp [List.getD, lt]
  have hs : ∀ a ∈ keep.map (fun m => ρ.getD m 0), ∃ k m : Nat, keep[k]? = some m ∧ ρ[m]? = some a := fun a ha => by
    obtain ⟨k, hk', e⟩ := List.mem_iff_getElem.mp ha
    have hkl : k < keep.length := by simpa using hk'
    have e1 : keep[k]? = some keep[k] := by simp [hkl]
    refine ⟨k, keep[k], e1, ?_⟩
    rw [← hk _ _ e1]
    rw [List.getElem?_eq_getElem hk', e]
  obtain ⟨u, hu⟩ := x.pre
  refine ⟨keep.map fun m => ρ.getD m 0, ⟨⟨t.map fun m => ρ.getD m 0, ?_⟩, x.keep, fun a ha na => ?_⟩, ⟨?_, by rw [List.length_map, hl], fun k a c' h1 h2 => ?_⟩, Fz.rv s hk hs hf r⟩
  · rw [ht, List.map_append]
    congr 1
    refine List.ext_getElem? fun i => ?_
    by_cases hi : i < n
    · rw [List.getElem?_map, List.getElem?_range hi, hu]
      have h0 : i < ρ0.length := by omega
      simp [List.getD, List.getElem?_append_left h0, h0]
    · rw [List.getElem?_eq_none (by simp; omega), List.getElem?_eq_none (by omega)]
  · obtain ⟨k, m, _, e⟩ := hs a ha
    exact x.new a (List.mem_of_getElem? e) na
  · refine List.Pairwise.map _ (fun a b hab => ?_) (List.pairwise_iff_getElem.mpr (fun i j hi hj hij => ?_) : keep.Pairwise fun a b => ρ.getD a 0 ≠ ρ.getD b 0)
    · exact hab
    · intro e
      have l1 := inb i keep[i] (by simp [hi])
      have l2 := inb j keep[j] (by simp [hj])
      simp only [List.getD, List.getElem?_eq_getElem l1, List.getElem?_eq_getElem l2, Option.getD_some] at e
      have e2 := (List.getElem_inj s.nd).mp e
      have e3 := (List.getElem_inj nd).mp e2
      omega
  · have hk1 : k < keep.length := by
      have := (List.getElem?_eq_some_iff.mp h1).1
      simpa using this
    have e1 : keep[k]? = some keep[k] := by simp [hk1]
    obtain ⟨c, c2, q1, q2, q3⟩ := hc k _ e1
    rw [h2] at q2; cases q2
    rw [hk _ _ e1] at h1
    exact FzC.co s hk hs q3 (s.cell _ _ _ h1 q1)
end
mutual
theorem fz_refl {st : Store} {keep : List Nat} {n : Nat} (h : ∀ m, m < n → keep[m]? = some m) : ∀ d : D, ltD n d = true → Fz st keep d d
  | .non, _ => .non
  | .bl b, _ => .bl b
  | .int i, _ => .int i
  | .str x, _ => .str x
  | .adr a, _ => .adr a
  | .tup l, e => .tup (fzs_refl h l (by simpa [ltD] using e))
  | .lst l, e => .lst (fzs_refl h l (by simpa [ltD] using e))
  | .cst l, e => .cst (fzs_refl h l (by simpa [ltD] using e))
  | .ref m, e => .kept (h m (by simpa [ltD] using e))
theorem fzs_refl {st : Store} {keep : List Nat} {n : Nat} (h : ∀ m, m < n → keep[m]? = some m) : ∀ l : List D, ltDs n l = true → Fzs st keep l l
  | [], _ => .nil
  | d :: l, e => by
    have e : ltD n d = true ∧ ltDs n l = true := by simpa [ltDs] using e
    exact .cons (fz_refl h d e.1) (fzs_refl h l e.2)
end
theorem fzC_refl {st : Store} {keep : List Nat} {n : Nat} (h : ∀ m, m < n → keep[m]? = some m) : ∀ c : Cell, ltC n c = true → FzC st keep c c
  | .lst l, e => fzs_refl h l e
  | .dic kvs, e => ⟨rfl, fzs_refl h _ e⟩
theorem range_get {n m : Nat} (h : m < n) : (List.range n)[m]? = some m := by simp [h]
/-- cells behind st' are dropped -/
theorem Pack.drop {n : Nat} {st' : Store} {d : D} (g : Store) (hn : n ≤ st'.length) (h1 : ltS st'.length st' = true) (h2 : ltD st'.length d = true) : Pack n (st' ++ g) d st' d where
  ex := by
    refine ⟨List.range st'.length, ⟨List.range' n (st'.length - n), ?_⟩, List.nodup_range, by simp, fun k m e => ?_, fz_refl (fun m hm => range_get hm) d h2⟩
    · rw [List.range_eq_range', List.range_eq_range']
      have e : st'.length = n + (st'.length - n) := by omega
      conv => lhs; rw [e, ← List.range'_append]
      simp
    · have hk : k < st'.length := by
        have := (List.getElem?_eq_some_iff.mp e).1
        simpa using this
      rw [range_get hk] at e; cases e
      refine ⟨st'[k], st'[k], by rw [List.getElem?_append_left hk]; simp [hk], by simp [hk], fzC_refl (fun m hm => range_get hm) _ (List.all_eq_true.mp h1 _ (List.getElem_mem hk))⟩
/-- a new list comes back: cell m, which stands behind the callers' cells -/
theorem Pack.fresh {n m : Nat} {st st0 : Store} {c c' : Cell} (hn : st0.length = n) (h0 : st.take n = st0) (hm : n ≤ m) (hc : st[m]? = some c) (h1 : ltS n st0 = true) (h2 : FzC st (List.range n ++ [m]) c c') : Pack n st (.ref m) (st0 ++ [c']) (.ref n) where
  ex := by
    have hr : ∀ i, i < n → (List.range n ++ [m])[i]? = some i := fun i hi => by rw [List.getElem?_append_left (by simpa using hi)]; exact range_get hi
    have hl : (List.range n ++ [m])[n]? = some m := by rw [List.getElem?_append_right (by simp)]; simp
    refine ⟨List.range n ++ [m], ⟨[m], rfl⟩, ?_, by simp [hn], fun k i e => ?_, .kept hl⟩
    · refine List.nodup_append.mpr ⟨List.nodup_range, by simp, fun a ha b hb => ?_⟩
      have := List.mem_range.mp ha
      rw [List.mem_singleton.mp hb]
      omega
    · have hk : k < n + 1 := by
        have := (List.getElem?_eq_some_iff.mp e).1
        simpa using this
      by_cases hkn : k < n
      · rw [hr k hkn] at e; cases e
        have hk0 : k < st0.length := by omega
        refine ⟨st0[k], st0[k], ?_, by rw [List.getElem?_append_left hk0]; simp [hk0], fzC_refl hr _ (List.all_eq_true.mp h1 _ (List.getElem_mem hk0))⟩
        have : (st.take n)[k]? = some st0[k] := by rw [h0]; simp [hk0]
        rw [List.getElem?_take_of_lt hkn] at this
        exact this
      · have e2 : k = n := by omega
        subst e2
        rw [hl] at e; cases e
        exact ⟨c, c', hc, by rw [← hn, List.getElem?_append_right (Nat.le_refl _)]; simp, h2⟩
inductive Pk (n : Nat) : Out D → Out D → Prop
  | same (o : Out D) : Pk n o o
  | ok {st st' : Store} {d d' : D} : Pack n st d st' d' → Pk n (.ok d st) (.ok d' st')
  | ex {st st' : Store} {c : Str} : Pack n st .non st' .non → Pk n (.ex ⟨c, []⟩ st) (.ex ⟨c, []⟩ st')

/-! ### promises -/
def spD (K : PySem.W.Frag) (mg : Str → Option Value) (n : Nat) (F : List D → Store → Out D) : Sp := fun vs H Q E =>
  ∃ ρ ds st, ds.length = n ∧ RS K H ρ st ∧ RVs K H ρ vs ds ∧ OO K mg (fun c d _ H => E c d H) (rV K) [] Q ρ H (F ds st)
theorem OO.re {K : PySem.W.Frag} {mg : Str → Option Value} {W W' : WX} {α β : Type} {R : Hp → List Addr → β → α → Prop} {σ σ' : SV} {Q : β → Hp → Prop} {ρ : List Addr} {H : Hp} {o : Out α} (h : OO K mg W R σ Q ρ H o)
    (w : ∀ c d H, W c d σ H → W' c d σ' H) : OO K mg W' R σ' Q ρ H o := by
  cases o with
  | ok a st => exact h
  | ex e st => exact fun ρ' c d H' x s r => w _ _ _ (h ρ' c d H' x s r)
  | bad => exact h
/-- what a def promises where no list or tuple is being shown -/
structure FnG (P : Program) (w : World) (K : PySem.W.Frag) (mg : Str → Option Value) (base : Heap) (k : Nat) (f : Addr) (fd : FuncData) (ps : List Str) (sp : Sp) : Prop where
  len : ∀ vs H Q E, sp vs H Q E → vs.length = ps.length
  run : ∀ (A : Around) (outer : List Env) (s : Shared) (H : Hp) (args : Args) (us : List Value) (vs : List V) (Q : VK) (E : XK), Room k A → A.guards = some [] → Env0 P w K mg base A outer s H → BindsTo s fd args (ps.zip us) →
    Vals vs us → sp vs H Q E → codeAny (model P w) A (.call (.ref f) args) (CR (L2.CX P w) outer P w H s Q E) s
structure DFn (P : Program) (w : World) (K : PySem.W.Frag) (mg : Str → Option Value) (base : Heap) (x : Str) (n k : Nat) (F : List D → Store → Out D) : Prop where
  ex : ∃ f fd ps, mg x = some (.ref f) ∧ PySem.W.keepIn K (.ref f) = true ∧ Binds K fd ps [] ∧ ps.length = n ∧ FnG P w K mg base k f fd ps (spD K mg n F)
/-- what every rule may lean on -/
structure Ctx (X : Cx) (W : WX) (k : Nat) : Prop where
  tk : Takes X W
  rm : Room k X.A
  gd : X.A.guards = some []
  po : PassesOwn (model X.prog X.w) X.A X.env X.xe
section
variable {X : Cx} {W : WX} {k j n : Nat} {x : Str} {p pos : Pos} {e : Expr} {es : List Expr} {F : List D → Store → Out D} {fr : LS → Store → Out (List D)}
structure LenA (n : Nat) (fr : LS → Store → Out (List D)) : Prop where
  ok : ∀ ls st ds st', fr ls st = .ok ds st' → ds.length = n
theorem LenA.nil : LenA 0 nilA := ⟨fun ls st ds st' h => by cases h; rfl⟩
theorem LenA.cons {fa : LS → Store → Out D} (h : LenA n fr) : LenA (n + 1) (consA fa fr) := ⟨fun ls st ds st' e => by
  unfold consA at e
  cases e1 : fa ls st with
  | bad => rw [e1] at e; cases e
  | ex _ _ => rw [e1] at e; cases e
  | ok d s1 =>
    rw [e1] at e
    have e : (fr ls s1).bind (fun xs st2 => .ok (d :: xs) st2) = .ok ds st' := e
    cases e2 : fr ls s1 with
    | bad => rw [e2] at e; cases e
    | ex _ _ => rw [e2] at e; cases e
    | ok l s2 =>
      rw [e2] at e
      cases e
      exact congrArg Nat.succ (h.ok _ _ _ _ e2)⟩
def callD (F : List D → Store → Out D) (fr : LS → Store → Out (List D)) : LS → Store → Out D := fun ls st => (fr ls st).bind fun ds st1 => F ds st1
theorem run_fnD {f : Addr} {fd : FuncData} {ps : List Str} {pins : List (Addr × Obj)} {σ : SV} {H : Hp} {s : Shared} {Q : VK} {us : List Value} {vs : List V} (G : FnG X.prog X.w X.K X.mg X.base j f fd ps (spD X.K X.mg n F)) (C : Ctx X W k) (hj : j ≤ k) (hb : Binds X.K fd ps [])
    (I : Inv X pins σ H s) (r : Vals vs us) (h : spD X.K X.mg n F vs H Q (WE W σ)) : wpAny (model X.prog X.w) X.A (call (.ref f) us) (EP X pins σ Q) X.xe s := by
  have hl : us.length = ps.length := by rw [← r.length]; exact G.len _ _ _ _ h
  have b := hb s us I.kIn (by rw [List.append_nil]; exact hl)
  rw [List.append_nil] at b
  refine wpAny_call (codeAny_mono (G.run X.A X.stack s H ⟨us, []⟩ us vs Q (WE W σ) (C.rm.mono hj) C.gd I.env0 b r h) fun r s' hq => ?_)
  cases r with
  | error e => exact passAt C.tk σ pins H s e s' I hq
  | ok fl =>
    cases fl with
    | ret u => exact I.after hq
    | next => exact hq.elim
    | brk => exact hq.elim
    | cont => exact hq.elim
/-- f(e, ..) -/
theorem de_call (C : Ctx X W k) (G : DFn X.prog X.w X.K X.mg X.base x n j F) (ha : DA X W (e :: es) fr) (hj : j ≤ k := by decide) (hn : (e :: es).length = n := by rfl) (hg : Gl X x := by rfl) (hdb : (x == ("__debug__" : Str)) = false := by decide)
    (he : starEach (e :: es) X.env = (false, eval e X.env) :: starEach es X.env := by rfl) (hpl : (backTo pos (starEach es X.env)).any (·.1) = false := by rfl) (hlen : LenA n fr := by repeat (first | exact LenA.nil | apply LenA.cons)) :
    DE X W (.Call (.Name x p) (e :: es) [] pos) (callD F fr) := by
  refine ⟨fun pins s σ H Q I ⟨ρ, ls, st, A, h⟩ => ?_⟩
  obtain ⟨f, fd, ps, hm, hk, hb, hp, hf⟩ := G.ex
  refine wpAny_Call_Name_kw (ld_glob I hg hm ?_ hdb)
  have h1 : tA X.K X.mg W fr σ H fun vs H1 => spD X.K X.mg n F vs H1 Q (WE W σ) := by
    refine ⟨ρ, ls, st, A, ?_⟩
    unfold callD at h
    cases e1 : fr ls st with
    | bad => rw [e1] at h; exact h
    | ex y s1 => rw [e1] at h; exact h
    | ok ds s1 =>
      rw [e1] at h
      exact fun ρ1 vs H1 x1 s r => ⟨ρ1, ds, s1, hlen.ok _ _ _ _ e1, s, r, OO.re (OO.grow h x1) fun _ _ _ z => z⟩
  refine PySem.W.callWith_K (h₀ := X.base) I.ok.mod.kin hk (thn (ha.run pos pins s σ H _ I h1) fun us s1 ⟨vs, H1, I1, r, q⟩ => ⟨I1.kIn, ?_⟩) he hpl
  exact run_fnD hf C hj hb I1 r q
/-- f() -/
theorem de_call0 (C : Ctx X W k) (G : DFn X.prog X.w X.K X.mg X.base x 0 j F) (hj : j ≤ k := by decide) (hg : Gl X x := by rfl) (hdb : (x == ("__debug__" : Str)) = false := by decide) : DE X W (.Call (.Name x p) [] [] pos) (callD F nilA) := by
  refine ⟨fun pins s σ H Q I ⟨ρ, ls, st, A, h⟩ => ?_⟩
  obtain ⟨f, fd, ps, hm, hk, hb, hp, hf⟩ := G.ex
  refine wpAny_Call_Name_kw (ld_glob I hg hm ?_ hdb)
  exact PySem.W.callWith_K0 I.kIn hk (run_fnD (us := []) (vs := []) hf C hj hb I .nil ⟨ρ, [], st, rfl, A.sto, .nil, OO.re (by exact h) fun _ _ _ z => z⟩)
end
/-! ### a def's body -/
def startD (m : Nat) (ds : List D) : LS := ds.map some ++ List.replicate (m - ds.length) none
theorem getL_eq : ∀ (l : LS) (i : Nat), getL l i = (l[i]?).join
  | [], _ => by simp [getL]
  | x :: _, 0 => by cases x <;> simp [getL]
  | _ :: r, n + 1 => by rw [getL_succ, getL_eq r n]; simp
theorem At.start {K : PySem.W.Frag} {H : Hp} {ρ : List Addr} {st : Store} {vs : List V} {ds : List D} (N : List Str) (s : RS K H ρ st) (r : RVs K H ρ vs ds) : At K H ρ (L2.start N vs) (startD N.length ds) st := by
  have hl := r.length
  refine ⟨by simp [startD, L2.start, hl], fun i d e => ?_, s⟩
  rw [getL_eq] at e
  unfold startD at e
  by_cases hi : i < ds.length
  · rw [List.getElem?_append_left (by simpa using hi), List.getElem?_map] at e
    have h1 : ds[i]? = some d := by
      rw [List.getElem?_eq_getElem hi] at e ⊢
      simpa using e
    obtain ⟨v, q1, q2⟩ := r.get h1
    refine ⟨v, ?_, q2⟩
    unfold L2.start
    rw [List.getElem?_append_left (by simpa [hl] using hi), List.getElem?_map, q1]
    rfl
  · rw [List.getElem?_append_right (by simpa using hi), List.getElem?_replicate] at e
    split at e <;> cases e
/-- a body's outcome as the call's -/
def endO : SO → Out D
  | .rt d st => .ok d st
  | .nx _ st => .ok .non st
  | .ex e _ st => .ex e st
  | _ => .bad
section
mutual
theorem RV.lt {K : PySem.W.Frag} {H : Hp} {ρ : List Addr} : ∀ (d : D) {v : V}, RV K H ρ v d → ltD ρ.length d = true
  | .non, _, _ => rfl
  | .bl _, _, _ => rfl
  | .int _, _, _ => rfl
  | .str _, _, _ => rfl
  | .adr _, _, _ => rfl
  | .tup l, _, h => by
    cases h with
    | tup _ h2 => simpa [ltD] using RVs.lt l h2
  | .lst l, _, h => by
    cases h with
    | lst _ _ h2 => simpa [ltD] using RVs.lt l h2
  | .cst l, _, h => by
    cases h with
    | cst _ h2 => simpa [ltD] using RVs.lt l h2
  | .ref m, _, h => by
    cases h with
    | ref h1 => simpa [ltD] using (List.getElem?_eq_some_iff.mp h1).1
theorem RVs.lt {K : PySem.W.Frag} {H : Hp} {ρ : List Addr} : ∀ (l : List D) {vs : List V}, RVs K H ρ vs l → ltDs ρ.length l = true
  | [], _, _ => rfl
  | d :: l, _, h => by
    cases h with
    | cons h1 h2 => simp only [ltDs, Bool.and_eq_true]; exact ⟨RV.lt d h1, RVs.lt l h2⟩
end
theorem KVr.rvs {K : PySem.W.Frag} {H : Hp} {ρ : List Addr} : ∀ {ws : List (Key × V)} {kvs : List (Key × D)}, KVr K H ρ ws kvs → RVs K H ρ (ws.map (·.2)) (kvs.map (·.2))
  | _, _, .nil => .nil
  | _, _, .cons r t => .cons r.2 (KVr.rvs t)
theorem RS.lt {K : PySem.W.Frag} {H : Hp} {ρ : List Addr} {st : Store} (s : RS K H ρ st) : ltS st.length st = true := List.all_eq_true.mpr fun c hc => by
  obtain ⟨n, hn, e⟩ := List.mem_iff_getElem.mp hc
  have h2 : st[n]? = some c := by rw [List.getElem?_eq_getElem hn, e]
  obtain ⟨a, h1, x⟩ := s.at h2
  rw [← s.len]
  cases c with
  | lst l => obtain ⟨vs, _, r⟩ := x; exact RVs.lt l r
  | dic kvs => obtain ⟨ws, _, r⟩ := x; exact RVs.lt _ r.rvs
end
section
variable {P : Program} {w : World} {K : PySem.W.Frag} {mg : Str → Option Value} {base : Heap}
theorem Pk.read {W : WX} {n : Nat} {o o' : Out D} (p : Pk n o o') {Q : VK} {ρ0 : List Addr} {H0 : Hp} (hn : ρ0.length = n) (h : OO K mg W (rV K) [] Q ρ0 H0 o') : OO K mg W (rV K) [] Q ρ0 H0 o := by
  cases p with
  | same => exact h
  | ok p => exact fun ρ v H x s r => let ⟨ρ', x', s', r'⟩ := p.sound s r x hn; h ρ' v H x' s' r'
  | ex p =>
      intro ρ c d H x s r
      obtain ⟨ρ', x', s', _⟩ := p.sound s (v := .non) .non x hn
      obtain ⟨C, h1, h2, h3⟩ := r
      exact h ρ' c d H x' s' ⟨C, h1, h2, h3⟩
/-- a def's own function, from its body's -/
theorem FnG.mk' {x qual : Str} {st : Stmt} {f : Addr} {fd : FuncData} {N ps : List Str} {n k : Nat} {F : List D → Store → Out D} {g : LS → Store → SO} (Fn : Fun K x qual st f fd) (S : FnScope N ps (defScope st)) (hn : ps.length = n)
    (body : ∀ (cdv : Value) (A : Around) (outer : List Env) (s : Shared) (H : Hp) (E : XK), Ctx (cxOf (L2.CX P w) P w K mg base N qual (defScope st) f cdv A outer s H E) (fun c d _ H => E c d H) k →
      DSs (cxOf (L2.CX P w) P w K mg base N qual (defScope st) f cdv A outer s H E) (fun c d _ H => E c d H) (defBody st) g)
    (sem : ∀ (ds : List D) (st : Store), ds.length = n → ltS st.length st = true → ltDs st.length ds = true → Pk st.length (endO (g (startD N.length ds) st)) (F ds st) ∨ F ds st = .bad) : FnG P w K mg base (k + 1) f fd ps (spD K mg n F) := by
  obtain ⟨oc, od, kV, doc, pm, an, cdv, ct, osl, rfl, lk, hcd⟩ := Fn.ex
  refine ⟨fun vs H Q E h => ?_, fun A outer s H args us vs Q E hr hg e0 hbt r hsp => ?_⟩
  · obtain ⟨ρ, ds, st, h1, _, h2, _⟩ := h
    rw [h2.length, h1, hn]
  · have hl : vs.length = ps.length := by
      obtain ⟨ρ, ds, st, h1, _, h2, _⟩ := hsp
      rw [h2.length, h1, hn]
    have KX : K.In s.heap := e0.mod.kin.keeps fun b o e => (e0.bs b o e).1
    have lim : s.heap.NoLimit := e0.mod.nolimit.keeps fun b o e => (e0.bs b o e).1
    have hkind : ∀ y ∈ ps.zip us, (defScope st).names.lookup y.1 = some .local ∨ ((defScope st).names.lookup y.1 = some .cell ∧ ((cellsFrom (s.heap.objs.size + 1) (defScope st).names []).lookup y.1).isSome = true) := fun y hy => by
      rcases S.par y.1 (List.of_mem_zip hy).1 with q | q
      · exact .inl q
      · exact .inr ⟨q, PySem.W.cellsFrom_some _ _ _ (.inl q)⟩
    refine codeAny_call_function hr.depth (KX _ _ lk) rfl S.co S.gen rfl (PySem.W.codeRec_of KX hcd) (hbt _ _ _ _ ?_)
    refine wpAny_newFunctionEnv_cells S.kind hkind fun env he s1 x1 => ?_
    subst he
    refine ⟨lim.keeps x1.toInCall.keep, codeAny_func ?_⟩
    have C : Ctx (cxOf (L2.CX P w) P w K mg base N qual (defScope st) f cdv A outer s H E) (fun c d _ H => E c d H) k := ⟨takes_of rfl rfl rfl rfl, hr.deeper _, hg, passes_of rfl⟩
    have ht := body cdv A outer s H E C
    have I : Inv (cxOf (L2.CX P w) P w K mg base N qual (defScope st) f cdv A outer s H E) [] (L2.start N vs) H s1 := inv_start S hr.hd e0 hl r x1
    obtain ⟨ρ, ds, st0, h1, h2, h3, h4⟩ := hsp
    have a0 := At.start N h2 h3
    have p : OO K mg (fun c d _ H => E c d H) (rV K) [] Q ρ H (endO (g (startD N.length ds) st0)) := by
      rcases sem ds st0 h1 h2.lt (by rw [← h2.len]; exact RVs.lt ds h3) with q | q
      · exact q.read h2.len h4
      · rw [q] at h4; exact h4.elim
    have q : tS K mg (fun c d _ H => E c d H) g { nx := fun _ H' => Q .non H', rt := Q } (L2.start N vs) H := by
      refine ⟨ρ, _, st0, a0, ?_⟩
      cases e : g (startD N.length ds) st0 with
      | nx l s2 => rw [e] at p; exact fun ρ' σ' H' x A' => p ρ' .non H' x A'.sto .non
      | rt d s2 => rw [e] at p; exact p
      | bk l s2 => rw [e] at p; exact p.elim
      | ct l s2 => rw [e] at p; exact p.elim
      | ex c l s2 => rw [e] at p; exact fun ρ' σ' c d H' x A' r => p ρ' c d H' x A'.sto r
      | bad => rw [e] at p; exact p
    refine wpAny_mono (ht.run [] s1 (L2.start N vs) H _ I q) (fun fl s' hs => ?_) fun e s' hs => hs
    have fin : ∀ {σ' : SV} {H' : Hp} {v : V} {u : Value}, Inv (cxOf (L2.CX P w) P w K mg base N qual (defScope st) f cdv A outer s H E) [] σ' H' s' → RelV v u → Q v H' → CE outer P w H s Q u s' :=
      fun {σ' H' v u} J rv q => ⟨v, H', J.os, J.bare, J.base, J.hok, rv, q⟩
    cases fl with
    | ret u =>
      obtain ⟨v, σ', H', J, rv, q⟩ := hs
      exact fin J rv q
    | next =>
      obtain ⟨σ', H', J, q⟩ := hs
      exact fin (v := V.non) (u := Value.none) J rfl q
    | brk =>
      obtain ⟨_, _, _, q⟩ := hs
      exact q.elim
    | cont =>
      obtain ⟨_, _, _, q⟩ := hs
      exact q.elim
theorem DFn.mk' {x qual : Str} {st : Stmt} {f : Addr} {fd : FuncData} {N ps : List Str} {n k : Nat} {F : List D → Store → Out D} {g : LS → Store → SO} (Fn : Fun K x qual st f fd) (gm : mg x = some (.ref f)) (S : FnScope N ps (defScope st)) (b : Binds K fd ps []) (hn : ps.length = n)
    (body : ∀ (cdv : Value) (A : Around) (outer : List Env) (s : Shared) (H : Hp) (E : XK), Ctx (cxOf (L2.CX P w) P w K mg base N qual (defScope st) f cdv A outer s H E) (fun c d _ H => E c d H) k →
      DSs (cxOf (L2.CX P w) P w K mg base N qual (defScope st) f cdv A outer s H E) (fun c d _ H => E c d H) (defBody st) g)
    (sem : ∀ (ds : List D) (st : Store), ds.length = n → ltS st.length st = true → ltDs st.length ds = true → Pk st.length (endO (g (startD N.length ds) st)) (F ds st) ∨ F ds st = .bad) : DFn P w K mg base x n (k + 1) F := ⟨f, fd, ps, gm, Fn.kp, b, hn, FnG.mk' Fn S hn body sem⟩
end
end DD

set_option maxRecDepth 100000
set_option maxHeartbeats 1000000
/-! DD4: what loops walk, for, list comprehensions. -/
namespace DD
open PySem PySem.Spec PyProof.Rows L2

/-- what a loop walks: the items; cells that are to stay as they are -/
structure Its where
  l : List D
  chk : List (Nat × List D)
noncomputable def okB (its : Its) (st : Store) : Bool := open Classical in its.chk.all fun p => decide (st[p.1]? = some (.lst p.2))
@[simp] theorem okB_none (l : List D) (st : Store) : okB ⟨l, []⟩ st = true := rfl
theorem okB_some {l m : List D} {n : Nat} {st : Store} (h : st[n]? = some (.lst m)) : okB ⟨l, [(n, m)]⟩ st = true := by
  simp [okB, h]
theorem okB_at {its : Its} {st : Store} {n : Nat} {l : List D} (h : okB its st = true) (e : (n, l) ∈ its.chk) : st[n]? = some (.lst l) := by
  unfold okB at h
  simpa using List.all_eq_true.mp h _ e
theorem okB_iff {its : Its} {st : Store} : okB its st = true ↔ ∀ p ∈ its.chk, st[p.1]? = some (.lst p.2) := by
  unfold okB
  rw [List.all_eq_true]
  simp
section
variable {K : PySem.W.Frag} {H H' : Hp} {ρ : List Addr} {σ : SV} {ls : LS} {st : Store}
theorem Ext.same (h : L2.Same H H') : Ext ρ H ρ H' := ⟨⟨[], by simp⟩, fun a o e _ => h a o e, fun a h n => absurd h n⟩
theorem RS.same (s : RS K H ρ st) (h : L2.Same H H') : RS K H' ρ st := ⟨s.nd, s.len, fun n a c e1 e2 => (s.cell n a c e1 e2).ext (Ext.same h) (by
  have t := (s.cell n a c e1 e2).there
  cases e : H a with
  | none => exact absurd e t
  | some o => exact h a o e)⟩
end
/-- the iterator J yields these items -/
def WalkI (K : PySem.W.Frag) (H : Hp) (ρ : List Addr) (J : It) (its : Its) : Prop := ∀ (ρ' : List Addr) (H' : Hp) (st' : Store), Ext ρ H ρ' H' → RS K H' ρ' st' → okB its st' = true →
  (∀ (i : Nat) (d : D), its.l[i]? = some d → J.go i H' ∧ ∀ x H'', J.yld i H' x H'' → L2.Same H' H'' ∧ RV K H'' ρ' x d) ∧ ∀ i, its.l.length ≤ i → J.stop i H'
abbrev tI (K : PySem.W.Frag) (mg : Str → Option Value) (W : WX) (fi : LS → Store → Out Its) : TI := tF K mg W (WalkI K) fi
abbrev DI (X : Cx) (W : WX) (tg e : Expr) (fi : LS → Store → Out Its) : Prop := PI X tg e (tI X.K X.mg W fi)
noncomputable def forL (ok : Store → Bool) (g : D → LS → Store → Out LS) (b : LS → Store → SO) : List D → LS → Store → SO
  | [], ls, st => if ok st = true then .nx ls st else .bad
  | d :: r, ls, st => if ok st = true then (match g d ls st with
    | .ok ls1 st1 => (match b ls1 st1 with
      | .nx ls' st' => forL ok g b r ls' st'
      | .ct ls' st' => forL ok g b r ls' st'
      | .bk ls' st' => .nx ls' st'
      | o => o)
    | _ => .bad) else .bad
noncomputable def forD (fi : LS → Store → Out Its) (g : D → LS → Store → Out LS) (b : LS → Store → SO) : LS → Store → SO := fun ls st => ofE (fi ls st) ls fun its st1 => forL (okB its) g b its.l ls st1
section
variable {X : Cx} {W : WX} {pos : Pos} {tg iter : Expr} {body : List Stmt} {fi : LS → Store → Out Its} {g : D → LS → Store → Out LS} {b : LS → Store → SO}
theorem ds_for (hp : PassesOwn (model X.prog X.w) X.A X.env X.xe) (hc : X.calm = true) (hi : DI X W tg iter fi) (hg : DG X tg g) (hb : DSs X W body b)
    (hs : ∀ x, foldedSetIterable iter X.env x = pure x := by intro _; rfl) : DS X W (.For tg iter body [] pos) (forD fi g b) := ps_imp (ps_for hp hc hi hg hb hs) fun N σ H ⟨ρ, ls, st, A, p⟩ => by
  refine ofE_read (R := WalkI X.K) (k := fun ls its st1 => forL (okB its) g b its.l ls st1) A p fun ρ1 J H1 its st1 x1 A1 wk p1 => ?_
  refine ⟨fun i m σ H => m = its.l.length - i ∧ i ≤ its.l.length ∧ ∃ ρ ls st, Ext ρ1 H1 ρ H ∧ At X.K H ρ σ ls st ∧ PSO X.K X.mg W N ρ H (forL (okB its) g b (its.l.drop i) ls st), ⟨its.l.length, by simp, Nat.zero_le _, ρ1, ls, st1, Ext.refl _ _, A1, by simpa using p1⟩, ?_⟩
  rintro i m σ2 H2 ⟨rfl, hi, ρ2, ls2, st2, x2, A2, p2⟩
  by_cases hlt : i < its.l.length
  · rw [List.drop_eq_getElem_cons hlt] at p2
    unfold forL at p2
    by_cases hok : okB its st2 = true
    · rw [if_pos hok] at p2
      obtain ⟨q1, _⟩ := wk ρ2 H2 st2 x2 A2.sto hok
      obtain ⟨go, yl⟩ := q1 i its.l[i] (by simp [hlt])
      refine .inr ⟨go, fun σ' H' => ∃ ρ ls st, Ext ρ1 H1 ρ H' ∧ At X.K H' ρ σ' ls st ∧ PSO X.K X.mg W N ρ H' (forL (okB its) g b (its.l.drop (i + 1)) ls st),
        fun σ' H' ⟨ρ, ls, st, y1, y2, y3⟩ => ⟨its.l.length - (i + 1), by omega, rfl, hlt, ρ, ls, st, y1, y2, y3⟩, fun x H' y => ?_⟩
      obtain ⟨sm, rv⟩ := yl x H' y
      have x3 : Ext ρ2 H2 ρ2 H' := Ext.same sm
      refine ⟨ρ2, ls2, st2, its.l[i], A2.grow x3 (A2.sto.same sm), rv, ?_⟩
      cases eg : g its.l[i] ls2 st2 with
      | bad => rw [eg] at p2; exact p2.elim
      | ex _ _ => rw [eg] at p2; exact p2.elim
      | ok l3 s3 =>
        rw [eg] at p2
        refine fun ρ4 σ4 H4 x4 A4 => ⟨ρ4, l3, s3, A4, ?_⟩
        have x14 : Ext ρ1 H1 ρ4 H4 := (x2.trans x3).trans x4
        have x24 : Ext ρ2 H2 ρ4 H4 := x3.trans x4
        cases eb : b l3 s3 with
        | nx l5 s5 => simp only [eb] at p2; exact fun ρ5 σ5 H5 x5 A5 => ⟨ρ5, l5, s5, x14.trans x5, A5, PSO.grow p2 (x24.trans x5)⟩
        | ct l5 s5 => simp only [eb] at p2; exact fun ρ5 σ5 H5 x5 A5 => ⟨ρ5, l5, s5, x14.trans x5, A5, PSO.grow p2 (x24.trans x5)⟩
        | bk l5 s5 => simp only [eb] at p2; exact PSO.grow p2 x24
        | rt d s5 => simp only [eb] at p2; exact PSO.grow p2 x24
        | ex e l5 s5 => simp only [eb] at p2; exact PSO.grow p2 x24
        | bad => simp only [eb] at p2; exact p2
    · rw [if_neg hok] at p2; exact p2.elim
  · have e : i = its.l.length := by omega
    subst e
    rw [List.drop_length] at p2
    unfold forL at p2
    by_cases hok : okB its st2 = true
    · rw [if_pos hok] at p2
      exact .inl ⟨(wk ρ2 H2 st2 x2 A2.sto hok).2 _ (Nat.le_refl _), PSO.doneNx p2 A2⟩
    · rw [if_neg hok] at p2; exact p2.elim
end

/-! ### what is walked -/
def itsOf (d : D) (st : Store) : Option Its := match d with
  | .tup l => some ⟨l, []⟩
  | .lst l => some ⟨l, []⟩
  | .cst l => some ⟨l, []⟩
  | .ref n => (match st[n]? with
    | some (.lst l) => some ⟨l, [(n, l)]⟩
    | _ => none)
  | _ => none
def isTup : D → Bool
  | .tup _ => true
  | _ => false
def seqI (f : LS → Store → Out D) : LS → Store → Out Its := fun ls st => (f ls st).bind fun d st1 => match itsOf d st1 with
  | some its => .ok its st1
  | none => .bad
/-- what bears a list that is walked or read -/
theorem list_of {K : PySem.W.Frag} {H H' : Hp} {ρ ρ' : List Addr} {st st' : Store} {v : V} {d : D} {its : Its} (h : itsOf d st = some its) (r : RV K H ρ v d) (x : Ext ρ H ρ' H') (s : RS K H' ρ' st') (hok : okB its st' = true) :
    ∃ a vs, v = .ref a ∧ RVs K H' ρ' vs its.l ∧ ((isTup d = true ∧ SqT K H' a vs) ∨ (isTup d = false ∧ SqL K H' a vs)) := by
  cases r with
  | @tup a vs ds h1 h2 => cases h; exact ⟨a, vs, rfl, RVs.ext x _ h2, .inl ⟨rfl, (h1.ext x).sq⟩⟩
  | @lst a vs ds h1 h2 h3 => cases h; exact ⟨a, vs, rfl, RVs.ext x _ h3, .inr ⟨rfl, .inl (.inl (x.keep _ _ h1 h2))⟩⟩
  | @cst a vs ds h1 h2 => cases h; exact ⟨a, vs, rfl, RVs.ext x _ h2, .inr ⟨rfl, (h1.ext x).sq⟩⟩
  | @ref a n h1 =>
    have h : (match st[n]? with | some (.lst l) => some (⟨l, [(n, l)]⟩ : Its) | _ => none) = some its := h
    cases e : st[n]? with
    | none => simp only [e] at h; cases h
    | some c =>
      cases c with
      | dic _ => simp only [e] at h; cases h
      | lst l =>
        simp only [e] at h; cases h
        obtain ⟨vs, q1, q2⟩ := s.cell n a _ (x.at h1) (okB_at hok (List.mem_singleton.mpr rfl))
        exact ⟨a, vs, rfl, q2, .inr ⟨rfl, .inl (.inl q1)⟩⟩
  | _ => cases h
theorem okB_now {d : D} {st : Store} {its : Its} (h : itsOf d st = some its) : okB its st = true := by
  unfold itsOf at h
  cases d with
  | tup l => cases h; rfl
  | lst l => cases h; rfl
  | cst l => cases h; rfl
  | ref n =>
    cases e : st[n]? with
    | none => simp only [e] at h; cases h
    | some c =>
      cases c with
      | dic _ => simp only [e] at h; cases h
      | lst l => simp only [e] at h; cases h; exact okB_some e
  | _ => cases h
section
variable {X : Cx} {W : WX} {pos p : Pos} {tg iter e e2 : Expr} {f : LS → Store → Out D} {fr : LS → Store → Out (List D)}
theorem pi_or {t t' : TI} (h : PI X tg e t) (h' : PI X tg e t') : PI X tg e (fun σ H R => t σ H R ∨ t' σ H R) := ⟨fun pins s σ H R I q => q.elim (h.run pins s σ H R I) (h'.run pins s σ H R I)⟩
theorem walk_list {K : PySem.W.Frag} {H : Hp} {ρ : List Addr} {st : Store} {a : Addr} {d : D} {its : Its} (h : itsOf d st = some its) (r : RV K H ρ (.ref a) d) (hl : isTup d = false) : WalkI K H ρ (Itl K a) its := by
  intro ρ' H' st' x s hok
  obtain ⟨a', vs, e, rs, q⟩ := list_of h r x s hok
  cases e
  have q : SqL K H' a vs := by
    rcases q with ⟨q, _⟩ | ⟨_, q⟩
    · rw [hl] at q; cases q
    · exact q
  refine ⟨fun i d hd => ?_, fun i hi => ⟨vs, q, by rw [rs.length]; exact hi⟩⟩
  obtain ⟨v, h1, h2⟩ := rs.get hd
  exact ⟨⟨vs, v, q, h1⟩, fun x H'' ⟨e, y⟩ => by
    subst e
    have := y vs q
    rw [h1] at this; cases this
    exact ⟨L2.Same.refl _, h2⟩⟩
theorem walk_tup {K : PySem.W.Frag} {H : Hp} {ρ : List Addr} {st : Store} {a : Addr} {d : D} {its : Its} (h : itsOf d st = some its) (r : RV K H ρ (.ref a) d) (hl : isTup d = true) : WalkI K H ρ (Itt K a) its := by
  intro ρ' H' st' x s hok
  obtain ⟨a', vs, e, rs, q⟩ := list_of h r x s hok
  cases e
  have q : SqT K H' a vs := by
    rcases q with ⟨_, q⟩ | ⟨q, _⟩
    · exact q
    · rw [hl] at q; cases q
  refine ⟨fun i d hd => ?_, fun i hi => ⟨vs, q, by rw [rs.length]; exact hi⟩⟩
  obtain ⟨v, h1, h2⟩ := rs.get hd
  exact ⟨⟨vs, v, q, h1⟩, fun x H'' ⟨e, y⟩ => by
    subst e
    have := y vs q
    rw [h1] at this; cases this
    exact ⟨L2.Same.refl _, h2⟩⟩
/-- over a list or a tuple -/
theorem di_seq (he : DE X W e f) : DI X W tg e (seqI f) := pi_imp (pi_or (pi_list he) (pi_tup he)) fun σ H R ⟨ρ, ls, st, A, p⟩ => by
  have two : ∀ b : Bool, (∀ d st1, f ls st = .ok d st1 → isTup d = b) → (∀ ρ1 x H1 d st1 its, Ext ρ H ρ1 H1 → At X.K H1 ρ1 σ ls st1 → RV X.K H1 ρ1 x d → isTup d = b → itsOf d st1 = some its → OO X.K X.mg W (WalkI X.K) σ R ρ1 H1 (.ok its st1) →
      (if b = true then (∃ a, x = V.ref a ∧ (∃ xs, SqT X.K H1 a xs) ∧ R (Itt X.K a) H1) else ∃ a, x = V.ref a ∧ (∃ xs, SqL X.K H1 a xs) ∧ R (Itl X.K a) H1)) := by
    intro b _ ρ1 x H1 d st1 its x1 A1 r1 hb e1 q1
    obtain ⟨a, vs, rfl, rs, q⟩ := list_of e1 r1 (Ext.refl _ _) A1.sto (okB_now e1)
    cases b with
    | true =>
      rw [if_pos rfl]
      rcases q with ⟨_, q⟩ | ⟨q, _⟩
      · exact ⟨a, rfl, ⟨vs, q⟩, OO.done q1 A1.sto (walk_tup e1 r1 hb)⟩
      · rw [hb] at q; cases q
    | false =>
      rw [if_neg Bool.false_ne_true]
      rcases q with ⟨q, _⟩ | ⟨_, q⟩
      · rw [hb] at q; cases q
      · exact ⟨a, rfl, ⟨vs, q⟩, OO.done q1 A1.sto (walk_list e1 r1 hb)⟩
  have go : ∀ b : Bool, (∀ d st1, f ls st = .ok d st1 → isTup d = b) → tE X.K X.mg W f σ H (fun x H1 => if b = true then (∃ a, x = V.ref a ∧ (∃ xs, SqT X.K H1 a xs) ∧ R (Itt X.K a) H1) else ∃ a, x = V.ref a ∧ (∃ xs, SqL X.K H1 a xs) ∧ R (Itl X.K a) H1) := by
    intro b hb
    refine ⟨ρ, ls, st, A, ?_⟩
    have p : OO X.K X.mg W (WalkI X.K) σ R ρ H ((f ls st).bind fun d st1 => match itsOf d st1 with | some its => .ok its st1 | none => .bad) := p
    cases ef : f ls st with
    | bad => rw [ef] at p; exact p
    | ex _ _ => rw [ef] at p; exact p
    | ok d st1 =>
      rw [ef] at p
      intro ρ1 x H1 x1 s1 r1
      have p : OO X.K X.mg W (WalkI X.K) σ R ρ H (match itsOf d st1 with | some its => .ok its st1 | none => .bad) := p
      cases e1 : itsOf d st1 with
      | none => rw [e1] at p; exact p.elim
      | some its =>
        rw [e1] at p
        exact two b hb ρ1 x H1 d st1 its x1 (A.grow x1 s1) r1 (hb d st1 ef) e1 (OO.grow p x1)
  cases ef : f ls st with
  | bad => exact .inl (by unfold iList; simpa using go false (fun d st1 e => by rw [ef] at e; cases e))
  | ex _ _ => exact .inl (by unfold iList; simpa using go false (fun d st1 e => by rw [ef] at e; cases e))
  | ok d st1 =>
    cases hb : isTup d with
    | true => exact .inr (by unfold iTup; simpa using go true (fun d' st1' e => by rw [ef] at e; cases e; exact hb))
    | false => exact .inl (by unfold iList; simpa using go false (fun d' st1' e => by rw [ef] at e; cases e; exact hb))
/-- a condition that nothing computes (the kernel is not to look into it) -/
noncomputable def okP (p : Prop) : Bool := open Classical in decide p
@[simp] theorem okP_iff {p : Prop} : okP p = true ↔ p := by unfold okP; simp
theorem okP_of {p : Prop} (h : p) : okP p = true := okP_iff.mpr h
/-- over range(n), range(a, b) -/
def rangeL (lo : Int) (n : Nat) : List D := (List.range n).map fun (i : Nat) => D.int (lo + (i : Int))
noncomputable def rng1 (fr : LS → Store → Out (List D)) : LS → Store → Out Its := fun ls st => (fr ls st).bind fun ds st1 => match ds with
  | [.int j] => if okP (-4611686018427387904 ≤ j ∧ j < 4611686018427387904) = true then .ok ⟨rangeL 0 j.toNat, []⟩ st1 else .bad
  | _ => .bad
noncomputable def rng2 (fr : LS → Store → Out (List D)) : LS → Store → Out Its := fun ls st => (fr ls st).bind fun ds st1 => match ds with
  | [.int i, .int j] => if okP (-4611686018427387904 ≤ i ∧ i < 4611686018427387904 ∧ -4611686018427387904 ≤ j ∧ j < 4611686018427387904) = true then .ok ⟨rangeL i (j - i).toNat, []⟩ st1 else .bad
  | _ => .bad
theorem walk_range {K : PySem.W.Frag} {H : Hp} {ρ : List Addr} (lo : Int) (n : Nat) : WalkI K H ρ (Itr lo n) ⟨rangeL lo n, []⟩ := fun ρ' H' st' x s hok => by
  refine ⟨fun i d hd => ?_, fun i hi => by simpa [rangeL, Itr] using hi⟩
  have hi : i < n := by
    have := (List.getElem?_eq_some_iff.mp hd).1
    simpa [rangeL] using this
  have e : d = .int (lo + i) := by
    simp only [rangeL, List.getElem?_map, List.getElem?_range hi, Option.map_some] at hd
    cases hd; rfl
  subst e
  refine ⟨hi, fun x H'' ⟨e, y⟩ => ?_⟩
  subst e y
  exact ⟨L2.Same.refl _, .int _⟩
theorem di_range1 {a : Expr} (hm : X.mg "range" = none) (ha : DA X W [a] fr) (hg : Gl X "range" := by rfl) (hs : starEach [a] X.env = [(false, eval a X.env)] := by rfl) : DI X W tg (.Call (.Name "range" p) [a] [] pos) (rng1 fr) :=
  pi_imp (pi_range1 hg hm ha hs) fun σ H R ⟨ρ, ls, st, A, q⟩ => by
    refine tF_bind (R2 := WalkI X.K) (f := fun _ ds st1 => match ds with | [.int j] => if okP (-4611686018427387904 ≤ j ∧ j < 4611686018427387904) = true then .ok ⟨rangeL 0 j.toNat, []⟩ st1 else .bad | _ => .bad) A q fun ρ1 vs H1 ds st1 x1 A1 r1 q1 => ?_
    split at q1
    · cases r1 with
      | cons r1 r2 =>
        cases r2
        cases r1
        split at q1
        · rename_i h
          have h := okP_iff.mp h
          exact ⟨_, rfl, by omega, by omega, OO.done q1 A1.sto (walk_range 0 _)⟩
        · exact q1.elim
    · exact q1.elim
theorem di_range2 {a b : Expr} (hm : X.mg "range" = none) (ha : DA X W [a, b] fr) (hg : Gl X "range" := by rfl) (hs : starEach [a, b] X.env = [(false, eval a X.env), (false, eval b X.env)] := by rfl) (hs2 : starEach [b] X.env = [(false, eval b X.env)] := by rfl) :
    DI X W tg (.Call (.Name "range" p) [a, b] [] pos) (rng2 fr) :=
  pi_imp (pi_range2 hg hm ha hs hs2) fun σ H R ⟨ρ, ls, st, A, q⟩ => by
    refine tF_bind (R2 := WalkI X.K) (f := fun _ ds st1 => match ds with | [.int i, .int j] => if okP (-4611686018427387904 ≤ i ∧ i < 4611686018427387904 ∧ -4611686018427387904 ≤ j ∧ j < 4611686018427387904) = true then .ok ⟨rangeL i (j - i).toNat, []⟩ st1 else .bad | _ => .bad) A q fun ρ1 vs H1 ds st1 x1 A1 r1 q1 => ?_
    split at q1
    · cases r1 with
      | cons r1 r2 =>
        cases r2 with
        | cons r2 r3 =>
          cases r3
          cases r1; cases r2
          split at q1
          · rename_i h
            have h := okP_iff.mp h
            exact ⟨_, _, rfl, ⟨by omega, by omega, by omega, by omega⟩, OO.done q1 A1.sto (walk_range _ _)⟩
          · exact q1.elim
    · exact q1.elim
/-- over enumerate(a list), zip of two lists or of two tuples: new pairs -/
def enumL : Nat → List D → List D
  | _, [] => []
  | n, d :: ds => .tup [.int n, d] :: enumL (n + 1) ds
theorem enumL_get : ∀ (l : List D) (n i : Nat), (enumL n l)[i]? = (l[i]?).map fun d => .tup [.int ((n + i : Nat) : Int), d]
  | [], n, i => by simp [enumL]
  | d :: ds, n, 0 => by simp [enumL]
  | d :: ds, n, i + 1 => by
    rw [enumL, List.getElem?_cons_succ, enumL_get ds (n + 1) i, List.getElem?_cons_succ]
    congr 1
    funext d
    congr 4
    omega
theorem enumL_length : ∀ (l : List D) (n : Nat), (enumL n l).length = l.length
  | [], _ => rfl
  | _ :: ds, n => congrArg Nat.succ (enumL_length ds (n + 1))
def zipL (l m : List D) : List D := (l.zip m).map fun p => .tup [p.1, p.2]
theorem zipL_get {l m : List D} {i : Nat} {d : D} (h : (zipL l m)[i]? = some d) : ∃ a b, l[i]? = some a ∧ m[i]? = some b ∧ d = .tup [a, b] := by
  unfold zipL at h
  rw [List.getElem?_map] at h
  cases e : (l.zip m)[i]? with
  | none => rw [e] at h; cases h
  | some p =>
    rw [e] at h
    have h : some (D.tup [p.1, p.2]) = some d := h
    cases h
    obtain ⟨h1, h2⟩ := List.getElem?_zip_eq_some.mp e
    exact ⟨p.1, p.2, h1, h2, rfl⟩
theorem zipL_length (l m : List D) : (zipL l m).length = min l.length m.length := by simp [zipL]
/-- two sequences of one kind -/
def zipI (fr : LS → Store → Out (List D)) : LS → Store → Out Its := fun ls st => (fr ls st).bind fun ds st1 => match ds with
  | [d, e] => (match itsOf d st1, itsOf e st1 with
    | some i, some j => if isTup d = isTup e then .ok ⟨zipL i.l j.l, i.chk ++ j.chk⟩ st1 else .bad
    | _, _ => .bad)
  | _ => .bad
theorem RV.two {K : PySem.W.Frag} {H : Hp} {ρ : List Addr} {T : Addr} {x y : V} {d e : D} {st : Store} (s : RS K H ρ st) (hT : H T = none) (r1 : RV K H ρ x d) (r2 : RV K H ρ y e) : L2.Same H (upd H T (.tup [x, y])) ∧ RV K (upd H T (.tup [x, y])) ρ (.ref T) (.tup [d, e]) := by
  have sm : L2.Same H (upd H T (.tup [x, y])) := fun b o h => by rw [upd_ne (ne_of_none h hT)]; exact h
  have x := Ext.same (ρ := ρ) sm
  exact ⟨sm, .tup (.inl ⟨upd_same, s.out hT⟩) (.cons (RV.ext x _ r1) (.cons (RV.ext x _ r2) .nil))⟩
theorem okB_app {l l1 l2 : List D} {c1 c2 : List (Nat × List D)} {st : Store} (h : okB ⟨l, c1 ++ c2⟩ st = true) : okB ⟨l1, c1⟩ st = true ∧ okB ⟨l2, c2⟩ st = true := by
  rw [okB_iff] at h
  exact ⟨okB_iff.mpr fun p hp => h p (List.mem_append_left _ hp), okB_iff.mpr fun p hp => h p (List.mem_append_right _ hp)⟩
theorem di_zip {tpos : Pos} {elts : List Expr} {kk : Nat} (hm : X.mg "zip" = none) (ha : DA X W [e, e2] fr) (hg : Gl X "zip" := by rfl)
    (hs : starEach [e, e2] X.env = (false, eval e X.env) :: starEach [e2] X.env := by rfl) (hpl : (backTo pos (starEach [e2] X.env)).any (·.1) = false := by rfl) :
    DI X W (.Tuple elts kk tpos) (.Call (.Name "zip" p) [e, e2] [] pos) (zipI fr) := pi_imp (RZ.pi_zipA hg hm ha hs hpl) fun σ H R ⟨ρ, ls, st, A, q⟩ => by
  refine tF_bind (R2 := WalkI X.K) (f := fun _ ds st1 => match ds with
    | [d, e] => (match itsOf d st1, itsOf e st1 with
      | some i, some j => if isTup d = isTup e then .ok ⟨zipL i.l j.l, i.chk ++ j.chk⟩ st1 else .bad
      | _, _ => .bad)
    | _ => .bad) A q fun ρ1 vs H1 ds st1 x1 A1 r1 q1 => ?_
  split at q1
  · rename_i d e
    cases r1 with
    | cons r1 r2 =>
      cases r2 with
      | cons r2 r3 =>
        cases r3
        split at q1
        · rename_i i j ei ej
          split at q1
          · rename_i hk
            obtain ⟨a, us, rfl, ra, qa⟩ := list_of ei r1 (Ext.refl _ _) A1.sto (okB_now ei)
            obtain ⟨b, ws, rfl, rb, qb⟩ := list_of ej r2 (Ext.refl _ _) A1.sto (okB_now ej)
            refine ⟨a, b, us, ws, rfl, ?_⟩
            cases hd : isTup d with
            | false =>
              have hd2 : isTup e = false := hk ▸ hd
              have qa : SqL X.K H1 a us := by
                rcases qa with ⟨z, _⟩ | ⟨_, z⟩
                · rw [hd] at z; cases z
                · exact z
              have qb : SqL X.K H1 b ws := by
                rcases qb with ⟨z, _⟩ | ⟨_, z⟩
                · rw [hd2] at z; cases z
                · exact z
              refine .inl ⟨qa, qb, OO.done q1 A1.sto ?_⟩
              intro ρ' H' st' x s hok
              obtain ⟨o1, o2⟩ := okB_app (l1 := i.l) (l2 := j.l) hok
              obtain ⟨_, vs1, e1, s1, k1⟩ := list_of ei r1 x s o1
              obtain ⟨_, vs2, e2, s2, k2⟩ := list_of ej r2 x s o2
              cases e1; cases e2
              have k1 : SqL X.K H' a vs1 := by
                rcases k1 with ⟨z, _⟩ | ⟨_, z⟩
                · rw [hd] at z; cases z
                · exact z
              have k2 : SqL X.K H' b vs2 := by
                rcases k2 with ⟨z, _⟩ | ⟨_, z⟩
                · rw [hd2] at z; cases z
                · exact z
              refine ⟨fun n d hn => ?_, fun n hn => ⟨vs1, vs2, k1, k2, ?_⟩⟩
              · obtain ⟨da, db, h1, h2, rfl⟩ := zipL_get hn
                obtain ⟨xa, g1, g2⟩ := s1.get h1
                obtain ⟨xb, g3, g4⟩ := s2.get h2
                refine ⟨⟨vs1, vs2, xa, xb, k1, k2, g1, g3⟩, fun y H'' ⟨T, y1, y2, ey, hT, eH, w1, w2⟩ => ?_⟩
                have z1 := w1 _ k1
                have z2 := w2 _ k2
                rw [g1] at z1; rw [g3] at z2
                cases z1; cases z2
                subst ey; subst eH
                exact RV.two s hT g2 g4
              · have hn : (zipL i.l j.l).length ≤ n := hn
                rw [zipL_length] at hn
                rw [s1.length, s2.length]
                omega
            | true =>
              have hd2 : isTup e = true := hk ▸ hd
              have qa : SqT X.K H1 a us := by
                rcases qa with ⟨_, z⟩ | ⟨z, _⟩
                · exact z
                · rw [hd] at z; cases z
              have qb : SqT X.K H1 b ws := by
                rcases qb with ⟨_, z⟩ | ⟨z, _⟩
                · exact z
                · rw [hd2] at z; cases z
              refine .inr ⟨qa, qb, OO.done q1 A1.sto ?_⟩
              intro ρ' H' st' x s hok
              obtain ⟨o1, o2⟩ := okB_app (l1 := i.l) (l2 := j.l) hok
              obtain ⟨_, vs1, e1, s1, k1⟩ := list_of ei r1 x s o1
              obtain ⟨_, vs2, e2, s2, k2⟩ := list_of ej r2 x s o2
              cases e1; cases e2
              have k1 : SqT X.K H' a vs1 := by
                rcases k1 with ⟨_, z⟩ | ⟨z, _⟩
                · exact z
                · rw [hd] at z; cases z
              have k2 : SqT X.K H' b vs2 := by
                rcases k2 with ⟨_, z⟩ | ⟨z, _⟩
                · exact z
                · rw [hd2] at z; cases z
              refine ⟨fun n d hn => ?_, fun n hn => ⟨vs1, vs2, k1, k2, ?_⟩⟩
              · obtain ⟨da, db, h1, h2, rfl⟩ := zipL_get hn
                obtain ⟨xa, g1, g2⟩ := s1.get h1
                obtain ⟨xb, g3, g4⟩ := s2.get h2
                refine ⟨⟨vs1, vs2, xa, xb, k1, k2, g1, g3⟩, fun y H'' ⟨T, y1, y2, ey, hT, eH, w1, w2⟩ => ?_⟩
                have z1 := w1 _ k1
                have z2 := w2 _ k2
                rw [g1] at z1; rw [g3] at z2
                cases z1; cases z2
                subst ey; subst eH
                exact RV.two s hT g2 g4
              · have hn : (zipL i.l j.l).length ≤ n := hn
                rw [zipL_length] at hn
                rw [s1.length, s2.length]
                omega
          · exact q1.elim
        · exact q1.elim
  · exact q1.elim
/-- enumerate of a list -/
def enumI (fr : LS → Store → Out (List D)) : LS → Store → Out Its := fun ls st => (fr ls st).bind fun ds st1 => match ds with
  | [d] => (match itsOf d st1 with
    | some i => if isTup d = false then .ok ⟨enumL 0 i.l, i.chk⟩ st1 else .bad
    | _ => .bad)
  | _ => .bad
theorem di_enum {tpos : Pos} {elts : List Expr} {kk : Nat} (hm : X.mg "enumerate" = none) (ha : DA X W [e] fr) (hg : Gl X "enumerate" := by rfl) (hs : starEach [e] X.env = [(false, eval e X.env)] := by rfl) :
    DI X W (.Tuple elts kk tpos) (.Call (.Name "enumerate" p) [e] [] pos) (enumI fr) := pi_imp (pi_enum hg hm ha hs) fun σ H R ⟨ρ, ls, st, A, q⟩ => by
  refine tF_bind (R2 := WalkI X.K) (f := fun _ ds st1 => match ds with
    | [d] => (match itsOf d st1 with
      | some i => if isTup d = false then .ok ⟨enumL 0 i.l, i.chk⟩ st1 else .bad
      | _ => .bad)
    | _ => .bad) A q fun ρ1 vs H1 ds st1 x1 A1 r1 q1 => ?_
  split at q1
  · rename_i d
    cases r1 with
    | cons r1 r2 =>
      cases r2
      split at q1
      · rename_i i ei
        split at q1
        · rename_i hd
          obtain ⟨a, us, rfl, ra, qa⟩ := list_of ei r1 (Ext.refl _ _) A1.sto (okB_now ei)
          have qa : SqL X.K H1 a us := by
            rcases qa with ⟨z, _⟩ | ⟨_, z⟩
            · rw [hd] at z; cases z
            · exact z
          refine ⟨a, us, rfl, qa, OO.done q1 A1.sto ?_⟩
          intro ρ' H' st' x s hok
          have hok : okB i st' = true := okB_iff.mpr (okB_iff.mp hok)
          obtain ⟨_, vs1, e1, s1, k1⟩ := list_of ei r1 x s hok
          cases e1
          have k1 : SqL X.K H' a vs1 := by
            rcases k1 with ⟨z, _⟩ | ⟨_, z⟩
            · rw [hd] at z; cases z
            · exact z
          refine ⟨fun n d hn => ?_, fun n hn => ⟨vs1, k1, ?_⟩⟩
          · have hn : (enumL 0 i.l)[n]? = some d := hn
            rw [enumL_get] at hn
            cases e2 : i.l[n]? with
            | none => rw [e2] at hn; cases hn
            | some da =>
              rw [e2] at hn
              have hn : some (D.tup [.int ((0 + n : Nat) : Int), da]) = some d := hn
              cases hn
              obtain ⟨xa, g1, g2⟩ := s1.get e2
              refine ⟨⟨vs1, xa, k1, g1⟩, fun y H'' ⟨T, y1, ey, hT, eH, w1⟩ => ?_⟩
              have z1 := w1 _ k1
              rw [g1] at z1
              cases z1
              subst ey; subst eH
              rw [Nat.zero_add]
              exact RV.two s hT (.int _) g2
          · have hn : (enumL 0 i.l).length ≤ n := hn
            rw [enumL_length] at hn
            rw [s1.length]
            exact hn
        · exact q1.elim
      · exact q1.elim
  · exact q1.elim
end

/-! ### list comprehensions -/
def delL : LS → Nat → LS
  | [], _ => []
  | _ :: r, 0 => none :: r
  | x :: r, n + 1 => x :: delL r n
@[simp] theorem delL_zero (x : Option D) (r : LS) : delL (x :: r) 0 = none :: r := rfl
@[simp] theorem delL_succ (x : Option D) (r : LS) (n : Nat) : delL (x :: r) (n + 1) = x :: delL r n := rfl
def wipeL (ls : LS) : List Nat → LS
  | [] => ls
  | v :: vs => delL (wipeL ls vs) v
theorem delL_length : ∀ (l : LS) (n : Nat), (delL l n).length = l.length
  | [], _ => rfl
  | _ :: _, 0 => rfl
  | x :: r, n + 1 => congrArg Nat.succ (delL_length r n)
theorem getL_delL : ∀ (l : LS) (n m : Nat) (d : D), getL (delL l n) m = some d → getL l m = some d ∧ m ≠ n
  | [], _, _, _, h => by cases h
  | _ :: _, 0, 0, _, h => by cases h
  | _ :: _, 0, m + 1, _, h => ⟨h, by simp⟩
  | _ :: _, n + 1, 0, _, h => ⟨h, by simp⟩
  | _ :: r, n + 1, m + 1, d, h => let ⟨a, b⟩ := getL_delL r n m d h; ⟨a, fun e => b (Nat.succ.inj e)⟩
theorem wipe_get {σ : SV} {i : Nat} {x : Option V} : ∀ {vs : List Nat}, i ∉ vs → σ[i]? = some x → (wipe σ vs)[i]? = some x
  | [], _, h => h
  | v :: vs, hn, h => by
    unfold wipe
    rw [List.getElem?_set_ne (fun e => hn (by rw [e]; exact List.mem_cons_self))]
    exact wipe_get (fun z => hn (List.mem_cons_of_mem _ z)) h
theorem At.wipe {K : PySem.W.Frag} {H : Hp} {ρ : List Addr} {σ : SV} {ls : LS} {st : Store} (A : At K H ρ σ ls st) (vs : List Nat) : At K H ρ (L2.wipe σ vs) (wipeL ls vs) st := by
  refine ⟨?_, fun i d h => ?_, A.sto⟩
  · rw [wipe_length]
    have : ∀ vs, (wipeL ls vs).length = ls.length := by
      intro vs
      induction vs with
      | nil => rfl
      | cons v vs ih => unfold wipeL; rw [delL_length]; exact ih
    rw [this, A.len]
  · have key : ∀ vs, getL (wipeL ls vs) i = some d → getL ls i = some d ∧ i ∉ vs := by
      intro vs
      induction vs with
      | nil => intro h; exact ⟨h, by simp⟩
      | cons v vs ih =>
        intro h
        obtain ⟨h1, h2⟩ := getL_delL _ _ _ _ h
        obtain ⟨h3, h4⟩ := ih h1
        exact ⟨h3, by simp only [List.mem_cons, not_or]; exact ⟨h2, h4⟩⟩
    obtain ⟨h1, h2⟩ := key vs h
    obtain ⟨v, h3, h4⟩ := A.loc i d h1
    exact ⟨v, wipe_get h2 h3, h4⟩
/-- a target within a comprehension: only the slots vs are changed -/
def tGx (K : PySem.W.Frag) (vs : List Nat) (g : D → LS → Store → Out LS) : TG := fun v σ H Q => ∃ ρ ls st d, At K H ρ σ ls st ∧ RV K H ρ v d ∧ GO K (fun σ' H' => L2.wipe σ' vs = L2.wipe σ vs → H' = H → Q σ' H') ρ H (g d ls st)
def tGxs (K : PySem.W.Frag) (vs : List Nat) (g : List D → LS → Store → Out LS) : TGs := fun v σ H Q => ∃ ρ ls st d, At K H ρ σ ls st ∧ RVs K H ρ v d ∧ GO K (fun σ' H' => L2.wipe σ' vs = L2.wipe σ vs → H' = H → Q σ' H') ρ H (g d ls st)
abbrev DGx (X : Cx) (vs : List Nat) (tg : Expr) (g : D → LS → Store → Out LS) : Prop := PG X tg (tGx X.K vs g)
abbrev DGxs (X : Cx) (vs : List Nat) (tg : List Expr) (g : List D → LS → Store → Out LS) : Prop := PGs X tg (tGxs X.K vs g)
theorem wipe_set {σ : SV} {i : Nat} {x : Option V} : ∀ {vs : List Nat}, i ∈ vs → L2.wipe (σ.set i x) vs = L2.wipe σ vs
  | [], h => by cases h
  | v :: vs, h => by
    have comm : ∀ (vs : List Nat) (τ : SV), L2.wipe (τ.set i x) vs = (L2.wipe τ vs).set i x ∨ i ∈ vs := by
      intro vs
      induction vs with
      | nil => intro τ; exact .inl rfl
      | cons w ws ih =>
        intro τ
        by_cases hw : i = w
        · exact .inr (by rw [hw]; exact List.mem_cons_self)
        · rcases ih τ with e | e
          · refine .inl ?_
            show (L2.wipe (τ.set i x) ws).set w none = ((L2.wipe τ ws).set w none).set i x
            rw [e, List.set_comm _ _ hw]
          · exact .inr (List.mem_cons_of_mem _ e)
    show (L2.wipe (σ.set i x) vs).set v none = (L2.wipe σ vs).set v none
    by_cases hi : i ∈ vs
    · rw [wipe_set hi]
    · have hv : i = v := (List.mem_cons.mp h).resolve_right hi
      rcases comm vs σ with e | e
      · rw [e, hv, List.set_set]
      · exact absurd e hi
section
variable {X : Cx} {W : WX} {pos : Pos} {vs : List Nat} {e : Expr}
theorem dgx_name {i : Nat} {x : Str} (hi : i ∈ vs) (h : PG X (.Name x pos) (gName i)) : DGx X vs (.Name x pos) (nameG i) := pg_imp h fun v σ H Q ⟨ρ, ls, st, d, A, r, p⟩ => p ρ _ H (Ext.refl _ _) (A.put i r) (wipe_set hi) rfl
theorem dgxs_nil : DGxs X vs [] nilG := pgs_imp pgs_nil fun us σ H Q ⟨ρ, ls, st, ds, A, r, p⟩ => by
  cases r with
  | nil => exact ⟨rfl, p ρ σ H (Ext.refl _ _) A rfl rfl⟩
  | cons _ _ => exact p.elim
theorem dgxs_cons {es : List Expr} {gg : D → LS → Store → Out LS} {gs : List D → LS → Store → Out LS} (h1 : DGx X vs e gg) (h2 : DGxs X vs es gs)
    (hs : (assignEach (e :: es) X.env).map (·.2) = assign e X.env :: (assignEach es X.env).map (·.2) := by rfl) : DGxs X vs (e :: es) (consG gg gs) := pgs_imp (pgs_cons h1 h2 hs) fun us σ H Q ⟨ρ, ls, st, ds, A, r, p⟩ => by
  cases r with
  | nil => exact p.elim
  | @cons v us d ds r1 r2 =>
    have p : GO X.K (fun σ' H' => L2.wipe σ' vs = L2.wipe σ vs → H' = H → Q σ' H') ρ H (match gg d ls st with | .ok ls1 st1 => gs ds ls1 st1 | _ => .bad) := p
    refine ⟨v, us, rfl, ρ, ls, st, d, A, r1, ?_⟩
    cases e1 : gg d ls st with
    | bad => rw [e1] at p; exact p.elim
    | ex x s => rw [e1] at p; exact p.elim
    | ok l1 s1 =>
      rw [e1] at p
      have p : GO X.K (fun σ' H' => L2.wipe σ' vs = L2.wipe σ vs → H' = H → Q σ' H') ρ H (gs ds l1 s1) := p
      refine fun ρ1 σ1 H1 x A1 w1 hh1 => ⟨ρ1, l1, s1, ds, A1, RVs.ext x _ r2, ?_⟩
      cases e2 : gs ds l1 s1 with
      | bad => rw [e2] at p; exact p.elim
      | ex _ _ => rw [e2] at p; exact p.elim
      | ok l2 s2 => rw [e2] at p; exact fun ρ2 σ2 H2 y A2 w2 hh2 => p ρ2 σ2 H2 (x.trans y) A2 (w2.trans w1) (hh2.trans hh1)
theorem dgx_tup {es : List Expr} {k : Nat} {gs : List D → LS → Store → Out LS} {n : Nat} (hc : X.calm = true) (h : DGxs X vs es gs)
    (hn : (assignEach es X.env).length = n := by rfl) (hst : (assignEach es X.env).findIdx? (·.1) = none := by rfl) : DGx X vs (.Tuple es k pos) (tupG n gs) :=
  pg_imp (pg_tup hc h hn hst) fun v σ H Q ⟨ρ, ls, st, d, A, r, p⟩ => by
    cases r with
    | @tup a us ds h1 h2 =>
      unfold tupG at p
      by_cases hl : ds.length = n
      · simp only [if_pos hl] at p
        exact ⟨a, us, rfl, h1.sq, by rw [h2.length]; exact hl, ρ, ls, st, ds, A, h2, p⟩
      · simp only [if_neg hl] at p; exact p.elim
    | _ => exact p.elim
abbrev DTs (X : Cx) (W : WX) (ifs : List Expr) (f : LS → Store → Out Bool) : Prop := PTs X ifs (tT X.K X.mg W f)
def yesT : LS → Store → Out Bool := fun _ st => .ok true st
theorem dts_nil : DTs X W [] yesT := ⟨fun pins s σ H Q I ⟨ρ, ls, st, A, p⟩ => (pts_nil (X := X)).run pins s σ H Q I (OO.done p A.sto rfl)⟩
theorem dts_one {c : Expr} {f : LS → Store → Out Bool} (h : DT X W c f) : DTs X W [c] f := pts_one h
end
theorem wipe_idem (σ : SV) (vs : List Nat) : L2.wipe (L2.wipe σ vs) vs = L2.wipe σ vs := by
  have key : ∀ (us vs : List Nat), (∀ u ∈ us, u ∈ vs) → L2.wipe (L2.wipe σ us) vs = L2.wipe σ vs := by
    intro us
    induction us with
    | nil => intro vs _; rfl
    | cons u us ih =>
      intro vs h
      show L2.wipe ((L2.wipe σ us).set u none) vs = _
      rw [wipe_set (h u List.mem_cons_self)]
      exact ih vs fun x hx => h x (List.mem_cons_of_mem _ hx)
  exact key vs vs fun _ h => h
/-- within a comprehension nothing is raised -/
abbrev W0 : WX := fun _ _ _ _ => False
noncomputable def lcL (ok : Store → Bool) (n : Nat) (g : D → LS → Store → Out LS) (ft : LS → Store → Out Bool) (fe : LS → Store → Out D) (lsw : LS) : List D → Store → Out D
  | [], st => if ok st = true then .ok (.ref n) st else .bad
  | d :: r, st => if ok st = true then (match g d lsw st with
    | .ok ls1 st1 => (match ft ls1 st1 with
      | .ok b st2 => if b = true then (match fe ls1 st2 with
          | .ok y st3 => (match st3[n]? with
            | some (.lst acc) => if acc.length < 16777216 then lcL ok n g ft fe lsw r (st3.set n (.lst (acc ++ [y]))) else .bad
            | _ => .bad)
          | _ => .bad) else lcL ok n g ft fe lsw r st2
      | _ => .bad)
    | _ => .bad) else .bad
noncomputable def lcD (fi : LS → Store → Out Its) (g : D → LS → Store → Out LS) (ft : LS → Store → Out Bool) (fe : LS → Store → Out D) (vs : List Nat) : LS → Store → Out D := fun ls st =>
  (fi ls st).bind fun its st1 => lcL (okB its) st1.length g ft fe (wipeL ls vs) its.l (st1 ++ [.lst []])
theorem OO.noEx {K : PySem.W.Frag} {mg : Str → Option Value} {α β : Type} {R : Hp → List Addr → β → α → Prop} {σ : SV} {Q : β → Hp → Prop} {ρ : List Addr} {H : Hp} {a : α} {st : Store} (W : WX)
    (h : ∀ ρ' b H', Ext ρ H ρ' H' → RS K H' ρ' st → R H' ρ' b a → Q b H') : OO K mg W R σ Q ρ H (.ok a st) := h
theorem lc_read {K : PySem.W.Frag} {mg : Str → Option Value} {W : WX} {fi : LS → Store → Out Its} {g : D → LS → Store → Out LS} {ft : LS → Store → Out Bool} {fe : LS → Store → Out D} {vs : List Nat} {σ : SV} {H : Hp} {Q : VK}
    (h : tE K mg W (lcD fi g ft fe vs) σ H Q) : tLc (tI K mg W fi) (tGx K vs g) (tT K mg W0 ft) (tE K mg W0 fe) vs σ H Q := by
  obtain ⟨ρ, ls, st, A, p⟩ := h
  refine tF_bind (R := WalkI K) (R2 := rV K) (f := fun ls its st1 => lcL (okB its) st1.length g ft fe (wipeL ls vs) its.l (st1 ++ [.lst []])) A p fun ρ1 J H1 its st1 x1 A1 wk p1 => ?_
  intro Dn hD
  have xc := Ext.cell (ρ := ρ1) (o := .lst []) hD
  have s0 := A1.sto.newL hD (vs := []) (l := []) .nil
  have hn : (ρ1 ++ [Dn])[st1.length]? = some Dn := by rw [← A1.sto.len, List.getElem?_append_right (Nat.le_refl _)]; simp
  refine ⟨fun i m H => m = its.l.length - i ∧ i ≤ its.l.length ∧ ∃ ρ st, Ext (ρ1 ++ [Dn]) (upd H1 Dn (.lst [])) ρ H ∧ RS K H ρ st ∧ OO K mg W (rV K) σ Q ρ H (lcL (okB its) st1.length g ft fe (wipeL ls vs) (its.l.drop i) st),
    ⟨its.l.length, by simp, Nat.zero_le _, ρ1 ++ [Dn], st1 ++ [.lst []], Ext.refl _ _, s0, by simpa using OO.grow p1 xc⟩, ?_⟩
  rintro i m H2 ⟨rfl, hi, ρ2, st2, x2, s2, p2⟩
  have x12 : Ext ρ1 H1 ρ2 H2 := xc.trans x2
  have hn2 : ρ2[st1.length]? = some Dn := x2.at hn
  by_cases hlt : i < its.l.length
  · rw [List.drop_eq_getElem_cons hlt] at p2
    unfold lcL at p2
    by_cases hok : okB its st2 = true
    · rw [if_pos hok] at p2
      obtain ⟨q1, _⟩ := wk ρ2 H2 st2 x12 s2 hok
      obtain ⟨go, yl⟩ := q1 i its.l[i] (by simp [hlt])
      refine .inr ⟨go, fun H' => ∃ ρ st, Ext (ρ1 ++ [Dn]) (upd H1 Dn (.lst [])) ρ H' ∧ RS K H' ρ st ∧ OO K mg W (rV K) σ Q ρ H' (lcL (okB its) st1.length g ft fe (wipeL ls vs) (its.l.drop (i + 1)) st),
        fun H' ⟨ρ, st, y1, y2, y3⟩ => ⟨its.l.length - (i + 1), by omega, rfl, hlt, ρ, st, y1, y2, y3⟩, fun x H' y => ?_⟩
      obtain ⟨sm, rv⟩ := yl x H' y
      have x3 : Ext ρ2 H2 ρ2 H' := Ext.same sm
      have Aw : At K H' ρ2 (L2.wipe σ vs) (wipeL ls vs) st2 := (A1.grow (x12.trans x3) (s2.same sm)).wipe vs
      refine ⟨ρ2, wipeL ls vs, st2, its.l[i], Aw, rv, ?_⟩
      cases eg : g its.l[i] (wipeL ls vs) st2 with
      | bad => rw [eg] at p2; exact p2.elim
      | ex _ _ => rw [eg] at p2; exact p2.elim
      | ok l3 s3 =>
        simp only [eg] at p2
        intro ρ4 σ4 H4 x4 A4 hw hh
        have x24 : Ext ρ2 H2 ρ4 H4 := x3.trans x4
        refine ⟨by rw [hw]; exact wipe_idem σ vs, ρ4, l3, s3, A4, ?_⟩
        cases et : ft l3 s3 with
        | bad => rw [et] at p2; exact p2.elim
        | ex _ _ => rw [et] at p2; exact p2.elim
        | ok b s5 =>
          simp only [et] at p2
          rintro ρ5 b' H5 x5 S5 ⟨⟩
          have x25 : Ext ρ2 H2 ρ5 H5 := x24.trans x5
          cases b with
          | false =>
            rw [if_neg Bool.false_ne_true] at p2 ⊢
            exact ⟨ρ5, s5, x2.trans x25, S5, OO.grow p2 x25⟩
          | true =>
            rw [if_pos rfl] at p2 ⊢
            refine ⟨ρ5, l3, s5, A4.grow x5 S5, ?_⟩
            cases ee : fe l3 s5 with
            | bad => rw [ee] at p2; exact p2.elim
            | ex _ _ => rw [ee] at p2; exact p2.elim
            | ok yd s6 =>
              simp only [ee] at p2
              intro ρ6 yv H6 x6 S6 r6
              have x26 : Ext ρ2 H2 ρ6 H6 := x25.trans x6
              cases ea : s6[st1.length]? with
              | none => simp only [ea] at p2; exact p2.elim
              | some c =>
                cases c with
                | dic _ => simp only [ea] at p2; exact p2.elim
                | lst acc =>
                  simp only [ea] at p2
                  by_cases hl : acc.length < 16777216
                  · rw [if_pos hl] at p2
                    have h6 := x26.at hn2
                    obtain ⟨va, g1, g2⟩ := S6.cell _ _ _ h6 ea
                    refine ⟨va, g1, by rw [g2.length, sizeLine_eq]; exact hl, ρ6, s6.set st1.length (.lst (acc ++ [yd])), ?_, S6.writeL h6 (g2.snoc r6), ?_⟩
                    · exact (x2.trans x26).trans (Ext.write (List.mem_of_getElem? h6))
                    · exact OO.grow p2 (x26.trans (Ext.write (List.mem_of_getElem? h6)))
                  · rw [if_neg hl] at p2; exact p2.elim
    · rw [if_neg hok] at p2; exact p2.elim
  · have e : i = its.l.length := by omega
    subst e
    rw [List.drop_length] at p2
    unfold lcL at p2
    by_cases hok : okB its st2 = true
    · rw [if_pos hok] at p2
      exact .inl ⟨(wk ρ2 H2 st2 x12 s2 hok).2 _ (Nat.le_refl _), OO.done p2 s2 (.ref hn2)⟩
    · rw [if_neg hok] at p2; exact p2.elim
end DD

set_option maxRecDepth 100000
set_option maxHeartbeats 1000000
/-! DD5: operators, comparisons, subscripts, slices, built-ins over data. -/
namespace DD
open PySem PySem.Spec PyProof.Rows L2

section
variable {X : Cx} {W : WX}
/-! ### ints -/
/-- F gives g of two ints where C holds, else nothing -/
theorem opd_int {C : Int → Int → Prop} {g : Int → Int → V} {gd : Int → Int → D} {F : D → D → Store → Out D} (hg : ∀ i j (H : Hp) (ρ : List Addr), RV X.K H ρ (g i j) (gd i j))
    (hF : ∀ dx dy st, (∃ i j, dx = .int i ∧ dy = .int j ∧ C i j ∧ F dx dy st = .ok (gd i j) st) ∨ F dx dy st = .bad) : OpD X W (rI C g) F := by
  intro σ ρ H st x y dx dy Q s rx ry h
  rcases hF dx dy st with ⟨i, j, rfl, rfl, c, e⟩ | e
  · cases rx; cases ry
    rw [e] at h
    exact ⟨i, j, rfl, rfl, c, OO.done h s (hg i j H ρ)⟩
  · rw [e] at h; exact h.elim
theorem opd_int0 {g : Int → Int → V} {gd : Int → Int → D} {F : D → D → Store → Out D} (hg : ∀ i j (H : Hp) (ρ : List Addr), RV X.K H ρ (g i j) (gd i j))
    (hF : ∀ dx dy st, (∃ i j, dx = .int i ∧ dy = .int j ∧ F dx dy st = .ok (gd i j) st) ∨ F dx dy st = .bad) : OpD X W (rI0 g) F := by
  intro σ ρ H st x y dx dy Q s rx ry h
  rcases hF dx dy st with ⟨i, j, rfl, rfl, e⟩ | e
  · cases rx; cases ry
    rw [e] at h
    exact ⟨i, j, rfl, rfl, OO.done h s (hg i j H ρ)⟩
  · rw [e] at h; exact h.elim
theorem opd_or {r r' : R2} {F F' : D → D → Store → Out D} (h1 : OpD X W r F) (h2 : OpD X W r' F') {G : D → D → Store → Out D} (hG : ∀ dx dy st, G dx dy st = F dx dy st ∨ G dx dy st = F' dx dy st) : OpD X W (fun x y H Q => r x y H Q ∨ r' x y H Q) G := by
  intro σ ρ H st x y dx dy Q s rx ry h
  rcases hG dx dy st with e | e
  · rw [e] at h; exact .inl (h1 σ ρ H st x y dx dy Q s rx ry h)
  · rw [e] at h; exact .inr (h2 σ ρ H st x y dx dy Q s rx ry h)
def subV : D → D → Store → Out D
  | .int i, .int j, st => .ok (.int (i - j)) st
  | _, _, _ => .bad
theorem od_sub : OpD X W (rI0 fun i j => .int (i - j)) subV := opd_int0 (fun _ _ _ _ => .int _) fun dx dy st => by
  unfold subV; split
  · exact .inl ⟨_, _, rfl, rfl, rfl⟩
  · exact .inr rfl
/-- the tracked list that a datum is -/
def lstOf (st : Store) : D → Option (List D)
  | .lst l => some l
  | .ref n => (match st[n]? with
    | some (.lst l) => some l
    | _ => none)
  | _ => none
theorem lstOf_read {K : PySem.W.Frag} {H : Hp} {ρ : List Addr} {st : Store} {v : V} {d : D} {l : List D} (s : RS K H ρ st) (r : RV K H ρ v d) (h : lstOf st d = some l) : ∃ a vs, v = .ref a ∧ H a = some (.lst vs) ∧ RVs K H ρ vs l := by
  cases r with
  | lst h1 h2 h3 => cases h; exact ⟨_, _, rfl, h1, h3⟩
  | @ref a n h1 =>
    have h : (match st[n]? with | some (.lst l) => some l | _ => none) = some l := h
    cases e : st[n]? with
    | none => simp only [e] at h; cases h
    | some c =>
      cases c with
      | dic _ => simp only [e] at h; cases h
      | lst l =>
        simp only [e] at h; cases h
        obtain ⟨vs, q1, q2⟩ := s.cell n a _ h1 e
        exact ⟨a, vs, rfl, q1, q2⟩
  | _ => cases h
def catL (d e : D) (st : Store) : Out D := match lstOf st d, lstOf st e with
  | some l, some m => if l.length + m.length ≤ 16777216 then .ok (.ref st.length) (st ++ [.lst (l ++ m)]) else .bad
  | _, _ => .bad
def addI (d e : D) (st : Store) : Out D := match d, e with
  | .int i, .int j => .ok (.int (i + j)) st
  | _, _ => .bad
def addS (d e : D) (st : Store) : Out D := match d, e with
  | .str x, .str y => if x.length + y.length ≤ 16777216 then .ok (.str (x ++ y)) st else .bad
  | _, _ => .bad
def addT (d e : D) (st : Store) : Out D := match d, e with
  | .tup l, .tup m => if l.length + m.length ≤ 16777216 then .ok (.tup (l ++ m)) st else .bad
  | _, _ => .bad
def addV (d e : D) (st : Store) : Out D := match d with
  | .int _ => addI d e st
  | .str _ => addS d e st
  | .tup _ => addT d e st
  | _ => catL d e st
theorem ref_new {K : PySem.W.Frag} {H : Hp} {ρ : List Addr} {st : Store} (s : RS K H ρ st) (p : Addr) : (ρ ++ [p])[st.length]? = some p := by rw [← s.len, List.getElem?_append_right (Nat.le_refl _)]; simp
theorem od_cat : OpD X W rCat catL := by
  intro σ ρ H st x y dx dy Q s rx ry h
  unfold catL at h
  split at h
  · rename_i l m e1 e2
    split at h
    · rename_i hl
      obtain ⟨a, vs, rfl, h1, r1⟩ := lstOf_read s rx e1
      obtain ⟨b, ws, rfl, h2, r2⟩ := lstOf_read s ry e2
      refine ⟨a, b, vs, ws, rfl, rfl, h1, h2, by rw [r1.length, r2.length, sizeLine_eq]; exact hl, fun p hp => ?_⟩
      exact OO.here h (Ext.cell hp) (s.newL hp (r1.append r2)) (.ref (ref_new s p))
    · exact h.elim
  · exact h.elim
theorem od_addS : OpD X W (fun x y H Q => ∃ i j, x = .str i ∧ y = .str j ∧ i.length + j.length ≤ sizeLine ∧ Q (.str (i ++ j)) H) addS := by
  intro σ ρ H st x y dx dy Q s rx ry h
  unfold addS at h
  split at h
  · split at h
    · rename_i hl
      cases rx; cases ry
      exact ⟨_, _, rfl, rfl, by rw [sizeLine_eq]; exact hl, OO.done h s (.str _)⟩
    · exact h.elim
  · exact h.elim
theorem od_addT : OpD X W (rCatA X.K) addT := by
  intro σ ρ H st x y dx dy Q s rx ry h
  unfold addT at h
  split at h
  · split at h
    · rename_i l m hl
      cases rx with
      | @tup a vs ds h1 r1 =>
        cases ry with
        | @tup b ws es h2 r2 =>
          refine ⟨a, b, vs, ws, rfl, rfl, h1.sq, h2.sq, by rw [r1.length, r2.length, sizeLine_eq]; exact hl, fun e => ?_, fun n e => ?_, fun n n' p hp => ?_⟩
          · subst e
            cases r1
            exact OO.done h s (.tup h2 r2)
          · subst e
            cases r2
            rw [List.append_nil] at h
            exact OO.done h s (.tup h1 r1)
          · have x := Ext.laid (ρ := ρ) (o := .tup (vs ++ ws)) hp
            exact OO.here h x (s.laid hp) (.tup (.inl ⟨upd_same, s.out hp⟩) (RVs.ext x _ (r1.append r2)))
    · exact h.elim
  · exact h.elim
theorem od_addI : OpD X W (rI0 fun i j => .int (i + j)) addI := opd_int0 (fun _ _ _ _ => .int _) fun dx dy st => by
  unfold addI; split
  · exact .inl ⟨_, _, rfl, rfl, rfl⟩
  · exact .inr rfl
variable {a b c e : Expr} {es : List Expr} {fa fb fc f : LS → Store → Out D} {fr : LS → Store → Out (List D)} {pos p : Pos}
theorem de_add (ha : DE X W a fa) (hb : DE X W b fb) : DE X W (.BinOp a .Add b pos) (bin2 addV fa fb) :=
  de_bin (op_add.or (op_add_str.or (op_catA.or op_cat))) (opd_or od_addI (opd_or od_addS (opd_or (G := fun d e st => match d with | .tup _ => addT d e st | _ => catL d e st) od_addT od_cat (fun dx dy st => by cases dx <;> first | exact .inl rfl | exact .inr rfl))
    (G := fun d e st => match d with | .str _ => addS d e st | .tup _ => addT d e st | _ => catL d e st) (fun dx dy st => by cases dx <;> first | exact .inl rfl | exact .inr rfl)) (fun dx dy st => by cases dx <;> first | exact .inl rfl | exact .inr rfl)) ha hb
theorem de_sub (ha : DE X W a fa) (hb : DE X W b fb) : DE X W (.BinOp a .Sub b pos) (bin2 subV fa fb) := de_bin op_sub od_sub ha hb
/-- a product: one factor small, or both not too long -/
noncomputable def mulOk (i j : Int) : Bool := okP ((-18446744073709551616 < i ∧ i < 18446744073709551616) ∨ (-18446744073709551616 < j ∧ j < 18446744073709551616) ∨ i.natAbs.log2 + j.natAbs.log2 < 1000000)
noncomputable def mulI (d e : D) (st : Store) : Out D := match d, e with
  | .int i, .int j => if mulOk i j = true then .ok (.int (i * j)) st else .bad
  | _, _ => .bad
noncomputable def repL (d e : D) (st : Store) : Out D := match lstOf st d, e with
  | some l, .int k => if okP (k ≤ 1000 ∧ -1000 ≤ k ∧ l.length ≤ 1000) = true then .ok (.ref st.length) (st ++ [.lst (List.replicate k.toNat l).flatten]) else .bad
  | _, _ => .bad
noncomputable def mulV (d e : D) (st : Store) : Out D := match d with
  | .int _ => mulI d e st
  | _ => repL d e st
theorem mulOk_l {i j : Int} (h : -18446744073709551616 < i) (h' : i < 18446744073709551616) : mulOk i j = true := okP_of (.inl ⟨h, h'⟩)
theorem mulOk_r {i j : Int} (h : -18446744073709551616 < j) (h' : j < 18446744073709551616) : mulOk i j = true := okP_of (.inr (.inl ⟨h, h'⟩))
theorem mulOk_ok {i j : Int} (h : mulOk i j = true) : IntMulOk i j := by
  rcases okP_iff.mp h with h | h | h
  · exact CMul.ok (.inl ⟨by omega, by omega⟩)
  · exact CMul.ok (.inr ⟨by omega, by omega⟩)
  · exact CMulW.ok h
theorem op_mulG : OpR X (binaryOp .Mult) (rI (fun i j => IntMulOk i j) fun i j => .int (i * j)) := opI fun _ _ _ _ _ _ _ hc q => mul_int q hc
theorem od_mul : OpD X W (rI (fun i j => IntMulOk i j) fun i j => .int (i * j)) mulI := opd_int (fun _ _ _ _ => .int _) fun dx dy st => by
  unfold mulI; split
  · split
    · rename_i h
      exact .inl ⟨_, _, rfl, rfl, mulOk_ok h, rfl⟩
    · exact .inr rfl
  · exact .inr rfl
theorem RVs.rep {K : PySem.W.Frag} {H : Hp} {ρ : List Addr} {vs : List V} {l : List D} (r : RVs K H ρ vs l) : ∀ k : Nat, RVs K H ρ (List.replicate k vs).flatten (List.replicate k l).flatten
  | 0 => .nil
  | k + 1 => by
    rw [List.replicate_succ, List.replicate_succ, List.flatten_cons, List.flatten_cons]
    exact r.append (RVs.rep r k)
theorem od_rep : OpD X W rRep repL := by
  intro σ ρ H st x y dx dy Q s rx ry h
  unfold repL at h
  split at h
  · rename_i l k e1
    split at h
    · rename_i hl
      have hl := okP_iff.mp hl
      obtain ⟨a, vs, rfl, h1, r1⟩ := lstOf_read s rx e1
      cases ry
      refine ⟨a, k, vs, rfl, rfl, h1, by omega, by omega, ?_, fun p hp => ?_⟩
      · rw [r1.length, sizeLine_eq]
        have h2 : k.toNat ≤ 1000 := by omega
        calc l.length * k.toNat ≤ 1000 * 1000 := Nat.mul_le_mul hl.2.2 h2
          _ ≤ 16777216 := by decide
      · exact OO.here h (Ext.cell hp) (s.newL hp (r1.rep _)) (.ref (ref_new s p))
    · exact h.elim
  · exact h.elim
theorem de_mul (ha : DE X W a fa) (hb : DE X W b fb) : DE X W (.BinOp a .Mult b pos) (bin2 mulV fa fb) :=
  de_bin (op_mulG.or op_rep) (opd_or od_mul od_rep fun dx dy st => by cases dx <;> first | exact .inl rfl | exact .inr rfl) ha hb
/-- division by what is not 0, not too long -/
noncomputable def divOk (j : Int) : Bool := okP (j ≠ 0 ∧ ((-18446744073709551616 < j ∧ j < 18446744073709551616) ∨ j.natAbs.log2 < 9000))
noncomputable def fdivV (d e : D) (st : Store) : Out D := match d, e with
  | .int i, .int j => if divOk j = true then .ok (.int (i.fdiv j)) st else .bad
  | _, _ => .bad
theorem divOk_small {j : Int} (h : j ≠ 0) (h0 : -18446744073709551616 < j) (h' : j < 18446744073709551616) : divOk j = true := okP_of ⟨h, .inl ⟨h0, h'⟩⟩
theorem divOk_log {j : Int} (h : divOk j = true) : j ≠ 0 ∧ j.natAbs.log2 < 9000 := by
  obtain ⟨h1, h2⟩ := okP_iff.mp h
  refine ⟨h1, ?_⟩
  rcases h2 with h2 | h2
  · have : j.natAbs.log2 < 64 := by
      by_cases hz : j.natAbs = 0
      · rw [hz]; decide
      · rw [Nat.log2_lt hz]; omega
    omega
  · exact h2
theorem op_fdivG : OpR X (binaryOp .FloorDiv) (rI (fun _ j => j ≠ 0 ∧ j.natAbs.log2 < 9000) fun i j => .int (i.fdiv j)) := opI fun i j _ _ _ _ _ hc q => floordiv_int hc.1 q (.inl (PyProof.noPylong_of_log2 hc.2))
theorem od_fdiv : OpD X W (rI (fun _ j => j ≠ 0 ∧ j.natAbs.log2 < 9000) fun i j => .int (i.fdiv j)) fdivV := opd_int (gd := fun i j => .int (i.fdiv j)) (fun _ _ _ _ => .int _) fun dx dy st => by
  unfold fdivV; split
  · split
    · rename_i i j h
      exact .inl ⟨_, _, rfl, rfl, divOk_log h, rfl⟩
    · exact .inr rfl
  · exact .inr rfl
theorem de_fdiv (ha : DE X W a fa) (hb : DE X W b fb) : DE X W (.BinOp a .FloorDiv b pos) (bin2 fdivV fa fb) := de_bin op_fdivG od_fdiv ha hb
def modV (d e : D) (st : Store) : Out D := match d, e with
  | .int i, .int j => if j = 0 then .bad else .ok (.int (i.fmod j)) st
  | _, _ => .bad
theorem od_mod : OpD X W (rI (fun _ j => j ≠ 0) fun i j => .int (i.fmod j)) modV := opd_int (gd := fun i j => .int (i.fmod j)) (fun _ _ _ _ => .int _) fun dx dy st => by
  unfold modV; split
  · split
    · exact .inr rfl
    · rename_i i j h
      exact .inl ⟨_, _, rfl, rfl, h, rfl⟩
  · exact .inr rfl
theorem de_mod (ha : DE X W a fa) (hb : DE X W b fb) : DE X W (.BinOp a .Mod b pos) (bin2 modV fa fb) := de_bin op_modN od_mod ha hb
noncomputable def powV (d e : D) (st : Store) : Out D := match d, e with
  | .int i, .int j => if okP (0 ≤ j ∧ j ≤ 1000 ∧ -18446744073709551616 < i ∧ i < 18446744073709551616) = true then .ok (.int (i ^ j.toNat)) st else .bad
  | _, _ => .bad
theorem od_pow : OpD X W (rI CPow fun i j => .int (i ^ j.toNat)) powV := opd_int (fun _ _ _ _ => .int _) fun dx dy st => by
  unfold powV; split
  · split
    · rename_i h
      have h := okP_iff.mp h
      exact .inl ⟨_, _, rfl, rfl, ⟨h.1, by omega, by omega⟩, rfl⟩
    · exact .inr rfl
  · exact .inr rfl
theorem de_pow (ha : DE X W a fa) (hb : DE X W b fb) : DE X W (.BinOp a .Pow b pos) (bin2 powV fa fb) := de_bin op_pow od_pow ha hb
def negV (d : D) (st : Store) : Out D := match d with
  | .int i => .ok (.int (-i)) st
  | _ => .bad
theorem ud_neg : UnD X W (rU fun i => .int (-i)) negV := by
  intro σ ρ H st x dx Q s rx h
  unfold negV at h
  split at h
  · cases rx
    exact ⟨_, rfl, OO.done h s (.int _)⟩
  · exact h.elim
theorem de_neg (ha : DE X W a fa) : DE X W (.UnaryOp .USub a pos) (un1 negV fa) := de_un un_neg ud_neg ha

/-! ### comparisons -/
def ltV (d e : D) (st : Store) : Out D := match d, e with
  | .int i, .int j => .ok (.bl (decide (i < j))) st
  | _, _ => .bad
def leV (d e : D) (st : Store) : Out D := match d, e with
  | .int i, .int j => .ok (.bl (decide (i ≤ j))) st
  | _, _ => .bad
def gtV (d e : D) (st : Store) : Out D := match d, e with
  | .int i, .int j => .ok (.bl (decide (j < i))) st
  | _, _ => .bad
def geV (d e : D) (st : Store) : Out D := match d, e with
  | .int i, .int j => .ok (.bl (decide (j ≤ i))) st
  | _, _ => .bad
theorem od_lt : OpD X W (rI0 fun i j => .bl (decide (i < j))) ltV := opd_int0 (fun _ _ _ _ => .bl _) fun dx dy st => by
  unfold ltV; split
  · exact .inl ⟨_, _, rfl, rfl, rfl⟩
  · exact .inr rfl
theorem od_le : OpD X W (rI0 fun i j => .bl (decide (i ≤ j))) leV := opd_int0 (fun _ _ _ _ => .bl _) fun dx dy st => by
  unfold leV; split
  · exact .inl ⟨_, _, rfl, rfl, rfl⟩
  · exact .inr rfl
theorem od_gt : OpD X W (rI0 fun i j => .bl (decide (j < i))) gtV := opd_int0 (fun _ _ _ _ => .bl _) fun dx dy st => by
  unfold gtV; split
  · exact .inl ⟨_, _, rfl, rfl, rfl⟩
  · exact .inr rfl
theorem od_ge : OpD X W (rI0 fun i j => .bl (decide (j ≤ i))) geV := opd_int0 (fun _ _ _ _ => .bl _) fun dx dy st => by
  unfold geV; split
  · exact .inl ⟨_, _, rfl, rfl, rfl⟩
  · exact .inr rfl
/-- data as data -/
def toP (st : Store) : Nat → D → Option PyData
  | 0, _ => none
  | _ + 1, .non => some .none
  | _ + 1, .bl b => some (.bool b)
  | _ + 1, .int i => some (.int i)
  | _ + 1, .str x => some (.str x)
  | n + 1, .tup l => (l.mapM (toP st n)).map .tuple
  | n + 1, .lst l => (l.mapM (toP st n)).map .list
  | n + 1, .cst l => (l.mapM (toP st n)).map .list
  | n + 1, .ref m => (match st[m]? with
    | some (.lst l) => (l.mapM (toP st n)).map .list
    | _ => none)
  | _ + 1, .adr _ => none
theorem mapM_read {K : PySem.W.Frag} {H : Hp} {ρ : List Addr} {f : D → Option PyData} (hf : ∀ d v p, RV K H ρ v d → f d = some p → Dp K H v p) : ∀ {l : List D} {vs : List V} {ps : List PyData}, RVs K H ρ vs l → l.mapM f = some ps → DpAll K H vs ps
  | [], _, _, .nil, h => by
    simp at h; subst h; exact .nil
  | d :: l, _, _, .cons r t, h => by
    simp only [List.mapM_cons] at h
    cases e1 : f d with
    | none => rw [e1] at h; simp at h
    | some p =>
      rw [e1] at h
      cases e2 : l.mapM f with
      | none => rw [e2] at h; simp at h
      | some ps' =>
        rw [e2] at h
        simp at h
        subst h
        exact .cons (hf d _ p r e1) (mapM_read hf t e2)
theorem toP_read {K : PySem.W.Frag} {H : Hp} {ρ : List Addr} {st : Store} (s : RS K H ρ st) : ∀ (n : Nat) (d : D) (v : V) (p : PyData), RV K H ρ v d → toP st n d = some p → Dp K H v p
  | 0, _, _, _, _, h => by cases h
  | n + 1, d, v, p, r, h => by
    have ih := toP_read s n
    have key : ∀ {l : List D} {vs : List V} {g : List PyData → PyData}, RVs K H ρ vs l → (l.mapM (toP st n)).map g = some p → ∃ ps, p = g ps ∧ DpAll K H vs ps := by
      intro l vs g rs hh
      cases e : l.mapM (toP st n) with
      | none => rw [e] at hh; cases hh
      | some ps =>
        rw [e] at hh
        exact ⟨ps, (Option.some.inj hh).symm, mapM_read (fun d v p r h => ih d v p r h) rs e⟩
    cases r with
    | non => cases h; exact .non
    | bl b => cases h; exact .bl b
    | int i => cases h; exact .int i
    | str x => cases h; exact .str x
    | tup h1 h2 =>
      obtain ⟨ps, rfl, q⟩ := key (g := .tuple) h2 h
      exact .tup h1.sq q
    | lst h1 _ h2 =>
      obtain ⟨ps, rfl, q⟩ := key (g := .list) h2 h
      exact .lst (.inl (.inl h1)) q
    | cst h1 h2 =>
      obtain ⟨ps, rfl, q⟩ := key (g := .list) h2 h
      exact .lst h1.sq q
    | @ref a m h1 =>
      have h : (match st[m]? with | some (.lst l) => (l.mapM (toP st n)).map PyData.list | _ => none) = some p := h
      cases e : st[m]? with
      | none => simp only [e] at h; cases h
      | some c =>
        cases c with
        | dic _ => simp only [e] at h; cases h
        | lst l =>
          simp only [e] at h
          obtain ⟨vs, q1, q2⟩ := s.cell m a _ h1 e
          obtain ⟨ps, rfl, q⟩ := key (g := .list) q2 h
          exact .lst (.inl (.inl q1)) q
    | adr => cases h
def eqG (neg : Bool) (d e : D) (st : Store) : Out D := match toP st 60 d, toP st 60 e with
  | some p, some q => if SeqAt.shaped p = true ∧ SeqAt.shaped q = true then .ok (.bl (if neg then !PyData.eqv p q else PyData.eqv p q)) st else .bad
  | _, _ => .bad
def twoS : D → D → Option (Str × Str)
  | .str x, .str y => some (x, y)
  | _, _ => none
def eqS (neg : Bool) (d e : D) (st : Store) : Out D := match twoS d e with
  | some p => .ok (.bl (if neg then !decide (p.1 = p.2) else decide (p.1 = p.2))) st
  | none => .bad
def eqF (neg : Bool) (d e : D) (st : Store) : Out D := if (twoS d e).isSome = true then eqS neg d e st else eqG neg d e st
abbrev eqV := eqF false
abbrev neV := eqF true
theorem od_eqG : OpD X W (rEqD X.K) (eqG false) := by
  intro σ ρ H st x y dx dy Q s rx ry h
  unfold eqG at h
  split at h
  · rename_i p q e1 e2
    split at h
    · rename_i hl
      exact ⟨p, q, toP_read s _ _ _ _ rx e1, toP_read s _ _ _ _ ry e2, hl.1, hl.2, OO.done h s (.bl _)⟩
    · exact h.elim
  · exact h.elim
theorem od_neG : OpD X W (rNeD X.K) (eqG true) := by
  intro σ ρ H st x y dx dy Q s rx ry h
  unfold eqG at h
  split at h
  · rename_i p q e1 e2
    split at h
    · rename_i hl
      exact ⟨p, q, toP_read s _ _ _ _ rx e1, toP_read s _ _ _ _ ry e2, hl.1, hl.2, OO.done h s (.bl _)⟩
    · exact h.elim
  · exact h.elim
theorem twoS_some {d e : D} {p : Str × Str} (h : twoS d e = some p) : d = .str p.1 ∧ e = .str p.2 := by
  unfold twoS at h
  split at h
  · cases h; exact ⟨rfl, rfl⟩
  · cases h
theorem od_eqS : OpD X W rEq (eqS false) := by
  intro σ ρ H st x y dx dy Q s rx ry h
  unfold eqS at h
  cases e : twoS dx dy with
  | none => rw [e] at h; exact h.elim
  | some p =>
    simp only [e] at h
    obtain ⟨rfl, rfl⟩ := twoS_some e
    cases rx; cases ry
    refine ⟨rfl, ?_⟩
    have q : decide (V.str p.1 = V.str p.2) = decide (p.1 = p.2) := by simp
    rw [q]
    exact OO.done h s (.bl _)
theorem od_neS : OpD X W rNe (eqS true) := by
  intro σ ρ H st x y dx dy Q s rx ry h
  unfold eqS at h
  cases e : twoS dx dy with
  | none => rw [e] at h; exact h.elim
  | some p =>
    simp only [e] at h
    obtain ⟨rfl, rfl⟩ := twoS_some e
    cases rx; cases ry
    refine ⟨rfl, ?_⟩
    have q : decide (V.str p.1 = V.str p.2) = decide (p.1 = p.2) := by simp
    rw [q]
    exact OO.done h s (.bl _)
theorem eqF_or (neg : Bool) (d e : D) (st : Store) : eqF neg d e st = eqS neg d e st ∨ eqF neg d e st = eqG neg d e st := by
  unfold eqF
  split
  · exact .inl rfl
  · exact .inr rfl
/-- in, not in, over a list or a tuple -/
def inF (neg : Bool) (d e : D) (st : Store) : Out D := match toP st 60 d, toP st 60 e with
  | some p, some (.list qs) => if SeqAt.shaped p = true ∧ SeqAt.shaped (.list qs) = true then .ok (.bl (if neg then !qs.any fun z => PyData.eqv z p else qs.any fun z => PyData.eqv z p)) st else .bad
  | _, _ => .bad
theorem od_in : OpD X W (rInD X.K) (inF false) := by
  intro σ ρ H st x y dx dy Q s rx ry h
  unfold inF at h
  split at h
  · rename_i p q e1 e2
    split at h
    · rename_i hl
      exact ⟨p, q, toP_read s _ _ _ _ rx e1, toP_read s _ _ _ _ ry e2, hl.1, hl.2, OO.done h s (.bl _)⟩
    · exact h.elim
  · exact h.elim
theorem od_notIn : OpD X W (rNotInD X.K) (inF true) := by
  intro σ ρ H st x y dx dy Q s rx ry h
  unfold inF at h
  split at h
  · rename_i p q e1 e2
    split at h
    · rename_i hl
      exact ⟨p, q, toP_read s _ _ _ _ rx e1, toP_read s _ _ _ _ ry e2, hl.1, hl.2, OO.done h s (.bl _)⟩
    · exact h.elim
  · exact h.elim
/-- is None, is not None -/
def isNonF (neg : Bool) (d e : D) (st : Store) : Out D := match d, e with
  | .non, .non => .ok (.bl (!neg)) st
  | _, .non => .ok (.bl neg) st
  | _, _ => .bad
theorem od_isN : OpD X W (fun x y H Q => y = .non ∧ Q (.bl (decide (x = .non))) H) (isNonF false) := by
  intro σ ρ H st x y dx dy Q s rx ry h
  cases ry <;> try (cases rx <;> exact h.elim)
  cases rx <;> exact ⟨rfl, OO.done h s (show RV X.K H ρ _ _ from by simpa using RV.bl _)⟩
theorem od_notN : OpD X W (fun x y H Q => y = .non ∧ Q (.bl (!decide (x = .non))) H) (isNonF true) := by
  intro σ ρ H st x y dx dy Q s rx ry h
  cases ry <;> try (cases rx <;> exact h.elim)
  cases rx <;> exact ⟨rfl, OO.done h s (show RV X.K H ρ _ _ from by simpa using RV.bl _)⟩
def isBlF (neg : Bool) (d e : D) (st : Store) : Out D := match d, e with
  | .bl x, .bl y => .ok (.bl (if neg then !decide (x = y) else decide (x = y))) st
  | _, _ => .bad
theorem od_isB : OpD X W rIsB (isBlF false) := by
  intro σ ρ H st x y dx dy Q s rx ry h
  unfold isBlF at h
  split at h
  · cases rx; cases ry
    exact ⟨_, _, rfl, rfl, OO.done h s (.bl _)⟩
  · exact h.elim
theorem od_notB : OpD X W rNotB (isBlF true) := by
  intro σ ρ H st x y dx dy Q s rx ry h
  unfold isBlF at h
  split at h
  · cases rx; cases ry
    exact ⟨_, _, rfl, rfl, OO.done h s (.bl _)⟩
  · exact h.elim
/-- the operators that a comparison may hold, each with its function -/
structure CmpD (X : Cx) (W : WX) (op : CmpOp) (F : D → D → Store → Out D) : Prop where
  ex : ∃ r : R2, OpR X (compareOp op) r ∧ OpD X W r F
variable {k : Nat}
theorem cm_lt : CmpD X W .Lt ltV := ⟨_, op_lt, od_lt⟩
theorem cm_le : CmpD X W .LtE leV := ⟨_, op_le, od_le⟩
theorem cm_gt : CmpD X W .Gt gtV := ⟨_, op_gt, od_gt⟩
theorem cm_ge : CmpD X W .GtE geV := ⟨_, op_ge, od_ge⟩
theorem cm_eq (C : Ctx X W k) : CmpD X W .Eq eqV := ⟨_, op_eq.or (op_eqD C.rm.units), opd_or od_eqS od_eqG (eqF_or false)⟩
theorem cm_ne (C : Ctx X W k) : CmpD X W .NotEq neV := ⟨_, op_ne.or (op_neD C.rm.units), opd_or od_neS od_neG (eqF_or true)⟩
theorem cm_isN : CmpD X W .Is (isNonF false) := ⟨_, op_isN, od_isN⟩
theorem cm_notN : CmpD X W .IsNot (isNonF true) := ⟨_, op_notN, od_notN⟩
theorem cm_isB : CmpD X W .Is (isBlF false) := ⟨_, op_isBl, od_isB⟩
theorem cm_notB : CmpD X W .IsNot (isBlF true) := ⟨_, op_notBl, od_notB⟩
theorem cm_in (C : Ctx X W k) : CmpD X W .In (inF false) := ⟨_, op_inD (by have := C.rm.un; omega), od_in⟩
theorem cm_notIn (C : Ctx X W k) : CmpD X W .NotIn (inF true) := ⟨_, op_notInD (by have := C.rm.un; omega), od_notIn⟩
variable {F G : D → D → Store → Out D} {op op' : CmpOp}
theorem de_c (hc : CmpD X W op F) (ha : DE X W a fa) (hb : DE X W b fb) (hm : behindInMarks op b = false := by first | exact nobehind _ (by decide) (by decide) | rfl) : DE X W (.Compare a [op] [b] pos) (bin2 F fa fb) :=
  let ⟨_, h1, h2⟩ := hc.ex; de_cmp h1 h2 ha hb hm
theorem dt_c (hc : CmpD X W op F) (ha : DE X W a fa) (hb : DE X W b fb) (hm : behindInMarks op b = false := by first | exact nobehind _ (by decide) (by decide) | rfl) : DT X W (.Compare a [op] [b] pos) (boolD (bin2 F fa fb)) :=
  let ⟨_, h1, h2⟩ := hc.ex; dt_cmp h1 h2 ha hb hm
/-- a < b < c -/
def chainD (F G : D → D → Store → Out D) (fa fb fc : LS → Store → Out D) : LS → Store → Out D := fun ls st => (fa ls st).bind fun x st1 => (fb ls st1).bind fun y st2 => (asB (F x y st2)).bind fun k st3 =>
  if k = true then (fc ls st3).bind fun z st4 => G y z st4 else .ok (.bl false) st3
theorem asB_OO {o : Out D} {f : Bool → Store → Out D} {σ : SV} {Q : VK} {ρ : List Addr} {H : Hp} {K : PySem.W.Frag} {mg : Str → Option Value} (h : OO K mg W (rV K) σ Q ρ H ((asB o).bind f)) :
    OO K mg W (rV K) σ (fun v H1 => ∃ b ρ1 st1, v = .bl b ∧ Ext ρ H ρ1 H1 ∧ RS K H1 ρ1 st1 ∧ OO K mg W (rV K) σ Q ρ1 H1 (f b st1)) ρ H o := by
  cases o with
  | bad => exact h
  | ex _ _ => exact h
  | ok d st =>
    cases d with
    | bl b =>
      intro ρ1 v H1 x s r
      cases r
      exact ⟨b, ρ1, st, rfl, x, s, OO.grow (by exact h) x⟩
    | _ => exact h.elim
theorem chain_read {r r' : R2} (hd : OpD X W r F) (hd' : OpD X W r' G) {σ : SV} {H : Hp} {Q : VK} (h : tE X.K X.mg W (chainD F G fa fb fc) σ H Q) : tChain r r' (tE X.K X.mg W fa) (tE X.K X.mg W fb) (tE X.K X.mg W fc) σ H Q := by
  obtain ⟨ρ, ls, st, A, q⟩ := h
  refine tF_bind (R2 := rV X.K) (f := fun ls x st1 => (fb ls st1).bind fun y st2 => (asB (F x y st2)).bind fun k st3 => if k = true then (fc ls st3).bind fun z st4 => G y z st4 else .ok (.bl false) st3) A q fun ρ1 x H1 dx st1 e1 A1 r1 q1 => ?_
  refine tF_bind (R2 := rV X.K) (f := fun ls y st2 => (asB (F dx y st2)).bind fun k st3 => if k = true then (fc ls st3).bind fun z st4 => G y z st4 else .ok (.bl false) st3) A1 q1 fun ρ2 y H2 dy st2 e2 A2 r2 q2 => ?_
  refine hd σ ρ2 H2 st2 x y dx dy _ A2.sto (RV.ext e2 _ r1) r2 ((asB_OO q2).mono ?_)
  rintro v H3 ⟨k, ρ3, st3, rfl, e3, s3, q3⟩
  refine ⟨k, rfl, ?_⟩
  cases k with
  | true =>
    rw [if_pos rfl] at q3 ⊢
    exact tF_bind (R2 := rV X.K) (f := fun _ z st4 => G dy z st4) (A2.grow e3 s3) q3 fun ρ4 z H4 dz st4 e4 A4 r4 q4 => hd' σ ρ4 H4 st4 y z dy dz Q A4.sto (RV.ext (e3.trans e4) _ r2) r4 q4
  | false =>
    rw [if_neg Bool.false_ne_true] at q3 ⊢
    exact OO.done q3 s3 (.bl false)
theorem de_chain (h1 : CmpD X W op F) (h2 : CmpD X W op' G) (ha : DE X W a fa) (hb : DE X W b fb) (hc : DE X W c fc) (hm : lastMarks [op, op'] [b, c] = false := by with_unfolding_all rfl) : DE X W (.Compare a [op, op'] [b, c] pos) (chainD F G fa fb fc) :=
  let ⟨_, o1, d1⟩ := h1.ex
  let ⟨_, o2, d2⟩ := h2.ex
  pe_imp (pe_chain o1 o2 ha hb hc hm) fun _ _ _ h => chain_read d1 d2 h
theorem dt_chain (h1 : CmpD X W op F) (h2 : CmpD X W op' G) (ha : DE X W a fa) (hb : DE X W b fb) (hc : DE X W c fc) (hm : lastMarks [op, op'] [b, c] = false := by with_unfolding_all rfl) : DT X W (.Compare a [op, op'] [b, c] pos) (boolD (chainD F G fa fb fc)) :=
  let ⟨_, o1, d1⟩ := h1.ex
  let ⟨_, o2, d2⟩ := h2.ex
  pt_imp (pt_chain o1 o2 ha hb hc hm) fun σ H Q h => by
    obtain ⟨ρ, ls, st, A, q⟩ := h
    exact chain_read d1 d2 ⟨ρ, ls, st, A, asB_read q⟩

/-! ### subscripts -/
def ixD (d e : D) (st : Store) : Out D := match itsOf d st, e with
  | some its, .int i => (match atI its.l i with
    | some v => .ok v st
    | none => .bad)
  | _, _ => .bad
theorem RVs.atI {K : PySem.W.Frag} {H : Hp} {ρ : List Addr} {vs : List V} {l : List D} {i : Int} {d : D} (r : RVs K H ρ vs l) (h : L2.atI l i = some d) : ∃ v, L2.atI vs i = some v ∧ RV K H ρ v d := by
  unfold L2.atI at h ⊢
  rw [r.length]
  cases e : ixN l.length i with
  | none => rw [e] at h; cases h
  | some j =>
    rw [e] at h
    exact r.get h
theorem od_ix : OpD X W (rIx X.K) ixD := by
  intro σ ρ H st x y dx dy Q s rx ry h
  unfold ixD at h
  split at h
  · rename_i its i e1
    split at h
    · rename_i v e2
      obtain ⟨a, vs, rfl, r1, q⟩ := list_of e1 rx (Ext.refl _ _) s (okB_now e1)
      cases ry
      obtain ⟨w, e3, r3⟩ := r1.atI e2
      rcases q with ⟨_, q⟩ | ⟨_, q⟩
      · exact .inr (.inl ⟨a, vs, _, w, rfl, rfl, q, e3, OO.done h s r3⟩)
      · exact .inl ⟨a, vs, _, w, rfl, rfl, q, e3, OO.done h s r3⟩
    · exact h.elim
  · exact h.elim
theorem de_ix (ha : DE X W a fa) (hb : DE X W b fb) (hs : PlainIx b := by exact (fun _ _ => rfl)) : DE X W (.Subscript a b pos) (bin2 ixD fa fb) := pe_imp (pe_ix ix_seq ha hb hs) fun _ _ _ h => bin_read od_ix h
/-- o[i] = v, o a list that is a cell -/
def setIx (o i v : D) (st : Store) : Out Unit := match o, i with
  | .ref n, .int k => (match st[n]? with
    | some (.lst l) => (match ixN l.length k with
      | some j => .ok () (st.set n (.lst (l.set j v)))
      | none => .bad)
    | _ => .bad)
  | _, _ => .bad
def subG (fo fi : LS → Store → Out D) : D → LS → Store → Out LS := fun d ls st => (fo ls st).bind fun o st1 => (fi ls st1).bind fun i st2 => (setIx o i d st2).bind fun _ st3 => .ok ls st3
theorem GO.bind1 {K : PySem.W.Frag} {mg : Str → Option Value} {W : WX} {o : LS → Store → Out D} {k : LS → D → Store → Out LS} {ls : LS} {st : Store} {σ : SV} {Q : SV → Hp → Prop} {ρ : List Addr} {H : Hp} (A : At K H ρ σ ls st)
    (h : GO K Q ρ H ((o ls st).bind (k ls))) {R1 : VK} (f : ∀ ρ1 v H1 d st1, Ext ρ H ρ1 H1 → At K H1 ρ1 σ ls st1 → RV K H1 ρ1 v d → GO K Q ρ1 H1 (k ls d st1) → R1 v H1) : tE K mg W o σ H R1 := by
  refine ⟨ρ, ls, st, A, ?_⟩
  cases e : o ls st with
  | bad => rw [e] at h; exact h.elim
  | ex _ _ => rw [e] at h; exact h.elim
  | ok d s1 =>
    rw [e] at h
    intro ρ1 v H1 x s r
    refine f ρ1 v H1 d s1 x (A.grow x s) r ?_
    have h : GO K Q ρ H (k ls d s1) := h
    cases e2 : k ls d s1 with
    | bad => rw [e2] at h; exact h.elim
    | ex _ _ => rw [e2] at h; exact h.elim
    | ok l2 s2 => rw [e2] at h; exact fun ρ2 σ2 H2 y A2 => h ρ2 σ2 H2 (x.trans y) A2
theorem dg_sub {o i : Expr} {fo fi : LS → Store → Out D} (ho : DE X W o fo) (hi : DE X W i fi)
    (ha : ∀ v, assign (.Subscript o i pos) X.env v = (do
      let ov ← holding [v] (eval o X.env)
      let iv ← holding [v, ov] (eval i X.env)
      standAt pos
      holding [v, ov, iv] (setItem ov iv v)
      release [v, ov, iv] []) := by intro _; rfl) : DG X (.Subscript o i pos) (subG fo fi) := pg_imp (pg_sub ho hi set_list ha) fun v σ H Q ⟨ρ, ls, st, d, A, r, q⟩ => by
  refine GO.bind1 (W := W) (k := fun ls o st1 => (fi ls st1).bind fun i st2 => (setIx o i d st2).bind fun _ st3 => .ok ls st3) A q fun ρ1 vo H1 dO st1 x1 A1 r1 q1 => ?_
  refine GO.bind1 (W := W) (k := fun ls i st2 => (setIx dO i d st2).bind fun _ st3 => .ok ls st3) A1 q1 fun ρ2 vi H2 di st2 x2 A2 r2 q2 => ?_
  unfold setIx at q2
  split at q2
  · rename_i n k
    split at q2
    · rename_i l el
      split at q2
      · rename_i j ej
        cases r2
        have r1' := RV.ext x2 _ r1
        cases r1' with
        | @ref a _ hr =>
          obtain ⟨ws, g1, g2⟩ := A2.sto.cell n a _ hr el
          refine ⟨a, ws, k, j, rfl, rfl, g1, by rw [g2.length]; exact ej, ?_⟩
          have rd := RV.ext (x1.trans x2) _ r
          exact q2 ρ2 σ _ (Ext.write (List.mem_of_getElem? hr)) (A2.grow (Ext.write (List.mem_of_getElem? hr)) (A2.sto.writeL hr (g2.set rd j)))
      · exact q2.elim
    · exact q2.elim
  · exact q2.elim

/-! ### slices -/
def noP : LS → Store → Out (Option Int) := fun _ st => .ok none st
def someP (f : LS → Store → Out D) : LS → Store → Out (Option Int) := fun ls st => (f ls st).bind fun d st1 => match d with
  | .int i => .ok (some i) st1
  | _ => .bad
theorem dp_none : DP X W none noP := po_imp po_none fun σ H R ⟨ρ, ls, st, A, q⟩ => OO.done q A.sto rfl
theorem dp_some (he : DE X W e f) : DP X W (some e) (someP f) := po_imp (po_some he) fun σ H R ⟨ρ, ls, st, A, q⟩ =>
  tF_bind (R2 := rO) (f := fun _ d st1 => match d with | .int i => .ok (some i) st1 | _ => .bad) A q fun ρ1 x H1 d st1 x1 A1 r1 q1 => by
    cases r1 with
    | int i => exact ⟨i, rfl, OO.done q1 A1.sto rfl⟩
    | _ => exact q1.elim
/-- l[lo:hi] -/
def cutD (l : List D) (lo hi : Option Int) : List D := (l.drop (HT.sIx l.length 0 lo)).take (HT.sIx l.length l.length hi - HT.sIx l.length 0 lo)
def slV (d : D) (lo hi : Option Int) (st : Store) : Out D := match itsOf d st with
  | some its => if isTup d = true then .ok (.tup (cutD its.l lo hi)) st else .ok (.ref st.length) (st ++ [.lst (cutD its.l lo hi)])
  | none => .bad
def slD (f : LS → Store → Out D) (fl fh : LS → Store → Out (Option Int)) : LS → Store → Out D := fun ls st => (f ls st).bind fun d st1 => (fl ls st1).bind fun lo st2 => (fh ls st2).bind fun hi st3 => slV d lo hi st3
theorem RVs.cut {K : PySem.W.Frag} {H : Hp} {ρ : List Addr} {vs : List V} {l : List D} (r : RVs K H ρ vs l) (lo hi : Option Int) : RVs K H ρ (cutV vs lo hi) (cutD l lo hi) := by
  unfold cutV cutD
  rw [r.length]
  exact (r.drop _).take _
theorem cut_whole {l : List D} {lo hi : Option Int} (h : HT.sIx l.length 0 lo = 0 ∧ HT.sIx l.length l.length hi = l.length) : cutD l lo hi = l := by
  unfold cutD
  rw [h.1, h.2]
  simp
theorem de_slice {lo hi : Option Expr} {fl fh : LS → Store → Out (Option Int)} {p2 : Pos} (he : DE X W e f) (hl : DP X W lo fl) (hh : DP X W hi fh) : DE X W (.Subscript e (.Slice lo hi none p2) pos) (slD f fl fh) :=
  pe_imp (pe_slice (sl_list.or sl_tupA) he hl hh) fun σ H Q ⟨ρ, ls, st, A, q⟩ => by
    refine tF_bind (R2 := rV X.K) (f := fun ls d st1 => (fl ls st1).bind fun lo st2 => (fh ls st2).bind fun hi st3 => slV d lo hi st3) A q fun ρ1 x H1 d st1 x1 A1 r1 q1 => ?_
    refine tF_bind (R := rO) (R2 := rV X.K) (f := fun ls lo st2 => (fh ls st2).bind fun hi st3 => slV d lo hi st3) A1 q1 fun ρ2 l H2 dl st2 x2 A2 r2 q2 => ?_
    obtain rfl : l = dl := r2
    refine tF_bind (R := rO) (R2 := rV X.K) (f := fun _ hi st3 => slV d l hi st3) A2 q2 fun ρ3 h H3 dh st3 x3 A3 r3 q3 => ?_
    obtain rfl : h = dh := r3
    have rx := RV.ext (x2.trans x3) _ r1
    unfold slV at q3
    cases e1 : itsOf d st3 with
    | none => rw [e1] at q3; exact q3.elim
    | some its =>
      simp only [e1] at q3
      obtain ⟨a, vs, rfl, rs, k⟩ := list_of e1 rx (Ext.refl _ _) A3.sto (okB_now e1)
      rcases k with ⟨hd, k⟩ | ⟨hd, k⟩
      · rw [if_pos hd] at q3
        refine .inr ⟨a, vs, rfl, k, fun hw => ?_, fun _ p hp => ?_⟩
        · rw [rs.length] at hw
          rw [cut_whole hw] at q3
          refine OO.done q3 A3.sto ?_
          cases rx with
          | tup g1 g2 => cases e1; exact .tup g1 g2
          | _ => cases hd
        · have xx := Ext.laid (ρ := ρ3) (o := .tup (cutV vs l h)) hp
          exact OO.here q3 xx (A3.sto.laid hp) (.tup (.inl ⟨upd_same, A3.sto.out hp⟩) (RVs.ext xx _ (rs.cut l h)))
      · rw [if_neg (by rw [hd]; exact Bool.false_ne_true)] at q3
        exact .inl ⟨a, vs, rfl, k, fun p hp => OO.here q3 (Ext.cell hp) (A3.sto.newL hp (rs.cut l h)) (.ref (ref_new A3.sto p))⟩

/-! ### built-ins -/
/-- f(e, ..) by its rule -/
theorem call_read {r : List V → Hp → VK → Prop} {F : List D → Store → Out D} (hd : CallD X W r F) {σ : SV} {H : Hp} {Q : VK} (h : tE X.K X.mg W (callD F fr) σ H Q) : tCB r (tA X.K X.mg W fr) σ H Q := by
  obtain ⟨ρ, ls, st, A, q⟩ := h
  exact tF_bind (R := rVs X.K) (R2 := rV X.K) (f := fun _ ds st1 => F ds st1) A q fun ρ1 vs H1 ds st1 x1 A1 r1 q1 => hd σ ρ1 H1 st1 vs ds Q A1.sto r1 q1
theorem de_callB {x : Str} {id : String} {r : List V → Hp → VK → Prop} {G : List D → Store → Out D} (hc : CallR X (.builtin id) r) (hd : CallD X W r G) (hm : X.mg x = none) (hv : bootBuiltins x = some (.builtin id)) (ha : DA X W (e :: es) fr) (hg : Gl X x := by rfl) (hn : x ≠ "__name__" := by decide) (hdb : (x == ("__debug__" : Str)) = false := by decide)
    (he : starEach (e :: es) X.env = (false, eval e X.env) :: starEach es X.env := by rfl) (hpl : (backTo pos (starEach es X.env)).any (·.1) = false := by rfl) : DE X W (.Call (.Name x p) (e :: es) [] pos) (callD G fr) :=
  pe_imp (pe_callB hc hg hm hv ha hn hdb he hpl) fun _ _ _ h => call_read hd h
theorem de_callTy {x : Str} {T : String} {r : List V → Hp → VK → Prop} {G : List D → Store → Out D} (hc : CallR X (.type T) r) (hd : CallD X W r G) (hm : X.mg x = none) (hv : bootBuiltins x = some (.type T)) (ha : DA X W (e :: es) fr) (hg : Gl X x := by rfl) (hn : x ≠ "__name__" := by decide) (hdb : (x == ("__debug__" : Str)) = false := by decide)
    (he : starEach (e :: es) X.env = (false, eval e X.env) :: starEach es X.env := by rfl) (hpl : (backTo pos (starEach es X.env)).any (·.1) = false := by rfl) : DE X W (.Call (.Name x p) (e :: es) [] pos) (callD G fr) :=
  pe_imp (pe_callTy hc hg hm hv ha hn hdb he hpl) fun _ _ _ h => call_read hd h
def lenV (ds : List D) (st : Store) : Out D := match ds with
  | [d] => (match itsOf d st with
    | some its => .ok (.int its.l.length) st
    | none => .bad)
  | _ => .bad
theorem cd_len : CallD X W (fun xs H Q => ∃ p ys, xs = [.ref p] ∧ (SqL X.K H p ys ∨ SqT X.K H p ys) ∧ Q (.int ys.length) H) lenV := by
  intro σ ρ H st xs ds Q s r h
  unfold lenV at h
  split at h
  · rename_i d
    cases r with
    | cons r1 r2 =>
      cases r2
      cases e1 : itsOf d st with
      | none => rw [e1] at h; exact h.elim
      | some its =>
        rw [e1] at h
        obtain ⟨a, vs, rfl, rs, k⟩ := list_of e1 r1 (Ext.refl _ _) s (okB_now e1)
        refine ⟨a, vs, rfl, k.elim (fun k => .inr k.2) (fun k => .inl k.2), OO.done h s ?_⟩
        rw [rs.length]; exact .int _
  · exact h.elim
def absV' (ds : List D) (st : Store) : Out D := match ds with
  | [.int i] => .ok (.int (if i < 0 then -i else i)) st
  | _ => .bad
theorem cd_abs : CallD X W (fun xs H Q => ∃ i, xs = [.int i] ∧ Q (.int (if i < 0 then -i else i)) H) absV' := by
  intro σ ρ H st xs ds Q s r h
  unfold absV' at h
  split at h
  · cases r with
    | cons r1 r2 => cases r2; cases r1; exact ⟨_, rfl, OO.done h s (.int _)⟩
  · exact h.elim
def intV (ds : List D) (st : Store) : Out D := match ds with
  | [.int i] => .ok (.int i) st
  | [.bl b] => .ok (.int (if b then 1 else 0)) st
  | _ => .bad
theorem cd_int : CallD X W (fun xs H Q => (∃ i, xs = [.int i] ∧ Q (.int i) H) ∨ ∃ k, xs = [.bl k] ∧ Q (.int (if k then 1 else 0)) H) intV := by
  intro σ ρ H st xs ds Q s r h
  unfold intV at h
  split at h
  · cases r with
    | cons r1 r2 => cases r2; cases r1; exact .inl ⟨_, rfl, OO.done h s (.int _)⟩
  · cases r with
    | cons r1 r2 => cases r2; cases r1; exact .inr ⟨_, rfl, OO.done h s (.int _)⟩
  · exact h.elim
/-- list(x), tuple(x) -/
def listV (ds : List D) (st : Store) : Out D := match ds with
  | [d] => (match itsOf d st with
    | some its => .ok (.ref st.length) (st ++ [.lst its.l])
    | none => .bad)
  | _ => .bad
theorem cd_list : CallD X W (fun xs H Q => ∃ p ys, xs = [.ref p] ∧ (SqL X.K H p ys ∨ SqT X.K H p ys) ∧ ∀ l, H l = none → Q (.ref l) (upd H l (.lst ys))) listV := by
  intro σ ρ H st xs ds Q s r h
  unfold listV at h
  split at h
  · rename_i d
    cases r with
    | cons r1 r2 =>
      cases r2
      cases e1 : itsOf d st with
      | none => rw [e1] at h; exact h.elim
      | some its =>
        rw [e1] at h
        obtain ⟨a, vs, rfl, rs, k⟩ := list_of e1 r1 (Ext.refl _ _) s (okB_now e1)
        exact ⟨a, vs, rfl, k.elim (fun k => .inr k.2) (fun k => .inl k.2), fun p hp => OO.here h (Ext.cell hp) (s.newL hp rs) (.ref (ref_new s p))⟩
  · exact h.elim
def tupleV (ds : List D) (st : Store) : Out D := match ds with
  | [d] => (match itsOf d st with
    | some its => .ok (.tup its.l) st
    | none => .bad)
  | _ => .bad
theorem cd_tuple : CallD X W (fun xs H Q => ∃ p ys, xs = [.ref p] ∧ ((SqL X.K H p ys ∧ ∀ l, H l = none → Q (.ref l) (upd H l (.tup ys))) ∨ (SqT X.K H p ys ∧ Q (.ref p) H))) tupleV := by
  intro σ ρ H st xs ds Q s r h
  unfold tupleV at h
  split at h
  · rename_i d
    cases r with
    | cons r1 r2 =>
      cases r2
      cases e1 : itsOf d st with
      | none => rw [e1] at h; exact h.elim
      | some its =>
        rw [e1] at h
        obtain ⟨a, vs, rfl, rs, k⟩ := list_of e1 r1 (Ext.refl _ _) s (okB_now e1)
        refine ⟨a, vs, rfl, ?_⟩
        rcases k with ⟨hd, k⟩ | ⟨hd, k⟩
        · refine .inr ⟨k, OO.done h s ?_⟩
          cases r1 with
          | tup g1 g2 => cases e1; exact .tup g1 g2
          | _ => cases hd
        · refine .inl ⟨k, fun p hp => ?_⟩
          have xx := Ext.laid (ρ := ρ) (o := .tup vs) hp
          exact OO.here h xx (s.laid hp) (.tup (.inl ⟨upd_same, s.out hp⟩) (RVs.ext xx _ rs))
  · exact h.elim
/-- ints, bools of a list -/
def intsOf : List D → Option (List Int)
  | [] => some []
  | .int i :: l => (intsOf l).map (i :: ·)
  | _ => none
theorem intsOf_eq : ∀ {l : List D} {ns : List Int}, intsOf l = some ns → l = ns.map D.int
  | [], ns, h => by cases h; rfl
  | .int i :: l, ns, h => by
    have h : (intsOf l).map (i :: ·) = some ns := h
    cases e : intsOf l with
    | none => rw [e] at h; cases h
    | some ms => rw [e] at h; cases h; rw [List.map_cons, intsOf_eq e]
  | .non :: _, _, h => by cases h
  | .bl _ :: _, _, h => by cases h
  | .str _ :: _, _, h => by cases h
  | .tup _ :: _, _, h => by cases h
  | .lst _ :: _, _, h => by cases h
  | .cst _ :: _, _, h => by cases h
  | .ref _ :: _, _, h => by cases h
  | .adr _ :: _, _, h => by cases h
theorem intsOf_map : ∀ ns : List Int, intsOf (ns.map D.int) = some ns
  | [] => rfl
  | n :: ns => by rw [List.map_cons]; show (intsOf (ns.map D.int)).map (n :: ·) = _; rw [intsOf_map ns]; rfl
def boolsOf : List D → Option (List Bool)
  | [] => some []
  | .bl i :: l => (boolsOf l).map (i :: ·)
  | _ => none
theorem boolsOf_eq : ∀ {l : List D} {ns : List Bool}, boolsOf l = some ns → l = ns.map D.bl
  | [], ns, h => by cases h; rfl
  | .bl i :: l, ns, h => by
    have h : (boolsOf l).map (i :: ·) = some ns := h
    cases e : boolsOf l with
    | none => rw [e] at h; cases h
    | some ms => rw [e] at h; cases h; rw [List.map_cons, boolsOf_eq e]
  | .non :: _, _, h => by cases h
  | .int _ :: _, _, h => by cases h
  | .str _ :: _, _, h => by cases h
  | .tup _ :: _, _, h => by cases h
  | .lst _ :: _, _, h => by cases h
  | .cst _ :: _, _, h => by cases h
  | .ref _ :: _, _, h => by cases h
  | .adr _ :: _, _, h => by cases h
theorem boolsOf_map : ∀ ns : List Bool, boolsOf (ns.map D.bl) = some ns
  | [] => rfl
  | n :: ns => by rw [List.map_cons]; show (boolsOf (ns.map D.bl)).map (n :: ·) = _; rw [boolsOf_map ns]; rfl
/-- a built-in over a list (no tuple) -/
def onL (k : List D → Store → Out D) (ds : List D) (st : Store) : Out D := match ds with
  | [d] => (match itsOf d st with
    | some its => if isTup d = true then .bad else k its.l st
    | none => .bad)
  | _ => .bad
theorem onL_read {k : List D → Store → Out D} {σ : SV} {ρ : List Addr} {H : Hp} {st : Store} {xs : List V} {ds : List D} {Q : VK} (s : RS X.K H ρ st) (r : RVs X.K H ρ xs ds) (h : OO X.K X.mg W (rV X.K) σ Q ρ H (onL k ds st)) :
    ∃ a vs l, xs = [.ref a] ∧ SqL X.K H a vs ∧ RVs X.K H ρ vs l ∧ OO X.K X.mg W (rV X.K) σ Q ρ H (k l st) := by
  unfold onL at h
  split at h
  · rename_i d
    cases r with
    | cons r1 r2 =>
      cases r2
      cases e1 : itsOf d st with
      | none => rw [e1] at h; exact h.elim
      | some its =>
        simp only [e1] at h
        obtain ⟨a, vs, rfl, rs, q⟩ := list_of e1 r1 (Ext.refl _ _) s (okB_now e1)
        rcases q with ⟨hd, q⟩ | ⟨hd, q⟩
        · rw [if_pos hd] at h; exact h.elim
        · rw [if_neg (by rw [hd]; exact Bool.false_ne_true)] at h
          exact ⟨a, vs, its.l, rfl, q, rs, h⟩
  · exact h.elim
def sumL (l : List D) (st : Store) : Out D := match intsOf l with
  | some ns => .ok (.int ns.sum) st
  | none => .bad
def anyL (l : List D) (st : Store) : Out D := match boolsOf l with
  | some ns => .ok (.bl (ns.any id)) st
  | none => .bad
def allL (l : List D) (st : Store) : Out D := match boolsOf l with
  | some ns => .ok (.bl (ns.all id)) st
  | none => .bad
theorem cd_sum : CallD X W (rSum X.K) (onL sumL) := by
  intro σ ρ H st xs ds Q s r h
  obtain ⟨a, vs, l, rfl, q, rs, h⟩ := onL_read s r h
  unfold sumL at h
  split at h
  · rename_i ns e
    rw [intsOf_eq e] at rs
    rw [rs.ints] at q
    exact ⟨a, ns, rfl, q, OO.done h s (.int _)⟩
  · exact h.elim
theorem cd_any : CallD X W (rAny X.K) (onL anyL) := by
  intro σ ρ H st xs ds Q s r h
  obtain ⟨a, vs, l, rfl, q, rs, h⟩ := onL_read s r h
  unfold anyL at h
  split at h
  · rename_i ns e
    rw [boolsOf_eq e] at rs
    rw [rs.bls] at q
    exact ⟨a, ns, rfl, q, OO.done h s (.bl _)⟩
  · exact h.elim
theorem cd_all : CallD X W (rAll X.K) (onL allL) := by
  intro σ ρ H st xs ds Q s r h
  obtain ⟨a, vs, l, rfl, q, rs, h⟩ := onL_read s r h
  unfold allL at h
  split at h
  · rename_i ns e
    rw [boolsOf_eq e] at rs
    rw [rs.bls] at q
    exact ⟨a, ns, rfl, q, OO.done h s (.bl _)⟩
  · exact h.elim
end
end DD

set_option maxRecDepth 100000
set_option maxHeartbeats 1000000
/-! DD6: isinstance, repr, sorted, min, methods of lists, dicts. -/
namespace DD
open PySem PySem.Spec PyProof.Rows L2

/-! ### isinstance with a built-in class -/
inductive Ty where
  | non | bl | int | str | tup | lst | dic
  deriving DecidableEq
def Ty.nm : Ty → String
  | .non => "NoneType" | .bl => "bool" | .int => "int" | .str => "str" | .tup => "tuple" | .lst => "list" | .dic => "dict"
def tyD (st : Store) : D → Option Ty
  | .non => some .non
  | .bl _ => some .bl
  | .int _ => some .int
  | .str _ => some .str
  | .tup _ => some .tup
  | .lst _ => some .lst
  | .cst _ => some .lst
  | .ref n => (match st[n]? with
    | some (.lst _) => some .lst
    | some (.dic _) => some .dic
    | none => none)
  | .adr _ => none
/-- a is b or a class below it -/
def Ty.isA (a b : Ty) : Bool := decide (a = b) || (decide (a = .bl) && decide (b = .int))
theorem kit_isA (a b : Ty) (hb : b ≠ .non) : kitB a.nm b.nm = some (a.isA b) := by
  cases a <;> cases b <;> first | exact absurd rfl hb | decide +kernel
theorem tyD_read {K : PySem.W.Frag} {H : Hp} {ρ : List Addr} {st : Store} {v : V} {d : D} {t : Ty} (s : RS K H ρ st) (r : RV K H ρ v d) (h : tyD st d = some t) : TyX K H v (.type t.nm) := by
  cases r with
  | non => cases h; exact .base .non
  | bl b => cases h; exact .base (.bl b)
  | int i => cases h; exact .base (.int i)
  | str x => cases h; exact .base (.str x)
  | tup h1 h2 =>
    cases h
    rcases h1 with ⟨h1, _⟩ | ⟨o, its, n, e, c, _⟩
    · exact .base (.tup h1)
    · exact .kTuple e c
  | lst h1 h2 h3 => cases h; exact .base (.lst h1)
  | cst h1 h2 =>
    cases h
    rcases h1 with ⟨⟨o, h1⟩, _⟩ | ⟨o, its, n, e, c, _⟩
    · exact .base (.frz h1)
    · exact .kList e c
  | @ref a n h1 =>
    have h : (match st[n]? with | some (.lst _) => some Ty.lst | some (.dic _) => some Ty.dic | none => none) = some t := h
    cases e : st[n]? with
    | none => simp only [e] at h; cases h
    | some c =>
      cases c with
      | lst l =>
        simp only [e] at h; cases h
        obtain ⟨vs, q1, q2⟩ := s.cell n a _ h1 e
        exact .base (.lst q1)
      | dic l =>
        simp only [e] at h; cases h
        obtain ⟨vs, q1, q2⟩ := s.cell n a _ h1 e
        exact .base (.dK q1)
  | adr => cases h
section
variable {X : Cx} {W : WX} {k : Nat} {a b c e : Expr} {es : List Expr} {fa fb fc f : LS → Store → Out D} {fr : LS → Store → Out (List D)} {pos p p2 : Pos}
def isiV (t : Ty) (d : D) (st : Store) : Out D := match tyD st d with
  | some u => .ok (.bl (u.isA t)) st
  | none => .bad
theorem de_isi {x : Str} (t : Ty) (hm : X.mg "isinstance" = none) (hx : X.mg x = none) (hv : bootBuiltins x = some (.type t.nm)) (he : DE X W e f) (ht : t ≠ .non := by decide) (hg : Gl X "isinstance" := by rfl) (hgx : Gl X x := by rfl) (hn : x ≠ "__name__" := by decide) (hd : (x == ("__debug__" : Str)) = false := by decide)
    (hs : starEach [e, .Name x p2] X.env = (false, eval e X.env) :: starEach [.Name x p2] X.env := by rfl) (hpl : (backTo pos (starEach [.Name x p2] X.env)).any (·.1) = false := by rfl)
    (hs2 : starEach [.Name x p2] X.env = (false, eval (.Name x p2) X.env) :: starEach [] X.env := by rfl) :
    DE X W (.Call (.Name "isinstance" p) [e, .Name x p2] [] pos) (un1 (isiV t) f) :=
  pe_imp (pe_callB call_isi hg hm boot_isinstance (pa_cons he (pa_cons (pe_bltn (v := .ty t.nm) hgx hx hv rfl hn hd) pa_nil hs2) hs) (by decide) (by decide) hs hpl) fun σ H Q ⟨ρ, ls, st, A, q⟩ =>
    tF_bind (R2 := rV X.K) (f := fun _ d st1 => isiV t d st1) A q fun ρ1 v H1 d st1 x1 A1 r1 q1 => by
      unfold isiV at q1
      cases e1 : tyD st1 d with
      | none => rw [e1] at q1; exact q1.elim
      | some u =>
        rw [e1] at q1
        exact ⟨v, .ty t.nm, .type u.nm, .type t.nm, u.isA t, rfl, .ty _, tyD_read A1.sto r1 e1, kit_ty (kit_isA u t ht), OO.done q1 A1.sto (RV.bl _)⟩

/-! ### repr -/
def rRepr (K : PySem.W.Frag) : List V → Hp → VK → Prop := fun xs H Q => ∃ (x : V) (d : PyData), xs = [x] ∧ Dp K H x d ∧ d.showable = true ∧ d.hasDict = false ∧ d.depth ≤ 64 ∧ d.shown.length ≤ sizeLine ∧ Q (.str d.shown) H
theorem call_repr (C : Ctx X W k) : CallR X (.builtin "repr") (rRepr X.K) := by
  intro pins s σ H xs us Q I r h
  obtain ⟨x, d, rfl, hd, hs, hnd, hdp, hsz, q⟩ := h
  obtain ⟨u, rfl, ru⟩ := vals1 r
  have hun := C.rm.un
  obtain ⟨as, rd⟩ := Dp.reads I d x u hd ru
  by_cases hD : isDisplay d = true
  · obtain ⟨a, rfl⟩ := isRef_of_reads rd hD
    exact repr_of_reads' rd hs (PyData.noDict_hsm hnd) C.gd (by omega) (fun _ _ e => e) (fun h' u' tk hk => ⟨.str d.shown, H, I.kept (t' := tk) hk, ⟨_, rfl⟩, q⟩) hsz
  · cases d with
    | none =>
      cases rd
      refine PySem.P.repr_of_none ⟨.str PyData.none.shown, H, I.tok _, ⟨s.toks, ?_⟩, q⟩
      rw [PyData.shown_none]
    | bool b =>
      cases rd
      refine PySem.P.repr_of_bool ⟨.str (PyData.bool b).shown, H, I.tok _, ⟨s.toks, ?_⟩, q⟩
      rw [PyData.shown_bool]
    | int i =>
      cases rd
      refine PySem.P.repr_of_int (of_decide_eq_true (show decide (i.natAbs.log2 < 1920) = true from hs)) ⟨.str (PyData.int i).shown, H, I.tok _, ⟨s.toks, ?_⟩, q⟩
      rw [PyData.shown_int]
    | str y =>
      cases rd
      rw [PyData.shown_str] at hsz
      refine PySem.P.repr_of_str ⟨.str (PyData.str y).shown, H, I.tok _, ⟨s.toks, ?_⟩, q⟩ hsz
      rw [PyData.shown_str]
    | list _ => exact absurd rfl hD
    | tuple _ => exact absurd rfl hD
    | dict _ => cases hnd
def reprV (ds : List D) (st : Store) : Out D := match ds with
  | [d] => (match toP st 60 d with
    | some p => if p.showable = true ∧ p.hasDict = false ∧ p.depth ≤ 64 ∧ p.shown.length ≤ 16777216 then .ok (.str p.shown) st else .bad
    | none => .bad)
  | _ => .bad
theorem cd_repr : CallD X W (rRepr X.K) reprV := by
  intro σ ρ H st xs ds Q s r h
  unfold reprV at h
  split at h
  · rename_i d
    cases r with
    | cons r1 r2 =>
      cases r2
      cases e1 : toP st 60 d with
      | none => rw [e1] at h; exact h.elim
      | some p =>
        simp only [e1] at h
        split at h
        · rename_i hc
          exact ⟨_, p, rfl, toP_read s _ _ _ _ r1 e1, hc.1, hc.2.1, hc.2.2.1, by rw [sizeLine_eq]; exact hc.2.2.2, OO.done h s (.str _)⟩
        · exact h.elim
  · exact h.elim

/-! ### sorted of alike data -/
def encD (st : Store) (d : D) : PyData := (toP st 60 d).getD .none
structure SortOk (st : Store) (l : List D) : Prop where
  some : ∀ d ∈ l, ∃ p, toP st 60 d = some p ∧ p.depth ≤ 64
  alike : PySem.W.AllAlike (l.map (encD st))
  kind : PySem.W.Sortable (l.map (encD st))
  len : l.length ≤ 16777216
noncomputable def sortedL (l : List D) (st : Store) : Out D := open Classical in if SortOk st l then .ok (.ref st.length) (st ++ [.lst (l.mergeSort (PySem.W.dataLe false (encD st)))]) else .bad
theorem sortedL_ok {l : List D} {st : Store} (h : SortOk st l) : sortedL l st = .ok (.ref st.length) (st ++ [.lst (l.mergeSort (PySem.W.dataLe false (encD st)))]) := by
  unfold sortedL
  rw [if_pos h]
def rSortedD (K : PySem.W.Frag) : List V → Hp → VK → Prop := fun xs H Q => ∃ (a : Addr) (vs : List V) (l : List D) (enc : D → PyData) (R : V → D → Prop), xs = [.ref a] ∧ SqL K H a vs ∧ PySem.W.EachIs R vs l ∧ PySem.W.EachIs (fun v d => Dp K H v (enc d) ∧ (enc d).depth ≤ 64) vs l ∧
  PySem.W.AllAlike (l.map enc) ∧ PySem.W.Sortable (l.map enc) ∧ ∀ p ws, PySem.W.EachIs R ws (l.mergeSort (PySem.W.dataLe false enc)) → H p = none → Q (.ref p) (upd H p (.lst ws))
theorem each_vals {R : V → D → Prop} : ∀ {vs : List V} {us : List Value} {l : List D}, Vals vs us → PySem.W.EachIs R vs l → PySem.W.EachIs (fun u d => ∃ v, RelV v u ∧ R v d) us l
  | _, _, _, .nil, .nil => .nil
  | _, _, _, .cons r t, .cons e es => .cons ⟨_, r, e⟩ (each_vals t es)
theorem each_back {R : V → D → Prop} : ∀ {us : List Value} {l : List D}, PySem.W.EachIs (fun u d => ∃ v, RelV v u ∧ R v d) us l → ∃ vs, Vals vs us ∧ PySem.W.EachIs R vs l
  | _, _, .nil => ⟨[], .nil, .nil⟩
  | _, _, .cons ⟨v, r, e⟩ es => let ⟨vs, h1, h2⟩ := each_back es; ⟨v :: vs, .cons r h1, .cons e h2⟩
theorem each_len {α β : Type} {R : α → β → Prop} : ∀ {l : List α} {m : List β}, PySem.W.EachIs R l m → l.length = m.length
  | _, _, .nil => rfl
  | _, _, .cons _ t => congrArg Nat.succ (each_len t)
theorem each_get {R : Value → D → Prop} {S : D → Prop} : ∀ {l : List Value} {m : List D}, PySem.W.EachIs R l m → (∀ u d, R u d → S d) → ∀ d ∈ m, S d
  | _, _, .nil, _, _, h => by cases h
  | _, _, .cons r t, f, d, h => by
    rcases List.mem_cons.mp h with rfl | h
    · exact f _ _ r
    · exact each_get t f d h
theorem call_sortedD (C : Ctx X W k) : CallR X (.builtin "sorted") (rSortedD X.K) := by
  intro pins s σ H xs us Q I r h
  obtain ⟨a, vs, l, enc, R, rfl, hq, e1, e2, hal, hk, q⟩ := h
  obtain ⟨u, rfl, ru⟩ := vals1 r
  obtain rfl : u = Value.ref a := ru
  obtain ⟨its, rv, hl, hz⟩ := I.list hq
  have hun := C.rm.un
  have er := each_vals rv e2
  have er2 : PySem.W.EachIs (fun v d => ∃ as, Reads s.heap v (enc d) as) its l := er.mono fun u d ⟨v, r1, r2, _⟩ => Dp.reads I _ v u r2 r1
  have hb : ∀ d ∈ l, (enc d).depth ≤ 64 := each_get er fun u d ⟨_, _, _, z⟩ => z
  have hlen : l.length ≤ sizeLine := by rw [← each_len e1]; exact hz
  refine PySem.W.sorted_data hl.isList (each_vals rv e1) er2 hal hk hlen (fun d hd => by have := hb d hd; omega) fun out ho he => ?_
  obtain ⟨ws, hw, he2⟩ := each_back he
  obtain ⟨n, hn⟩ := sortedAll_at s.heap its (List.toArray out)
  refine ⟨.ref (s.heap.objs.size + 1), upd H (s.heap.objs.size + 1) (.lst ws), I.laid (t' := s.toks) (fun b o e => sortedAll_old e) (Nat.le_succ _) ⟨?_, out, n, hw, by simpa using hn⟩, rfl, q _ ws he2 (I.hok.fresh (Nat.le_succ _))⟩
  rw [hw.length, ho]
  exact hlen
theorem rvs_each {K : PySem.W.Frag} {H : Hp} {ρ : List Addr} : ∀ {vs : List V} {l : List D}, RVs K H ρ vs l → PySem.W.EachIs (RV K H ρ) vs l
  | _, _, .nil => .nil
  | _, _, .cons r t => .cons r (rvs_each t)
theorem each_rvs {K : PySem.W.Frag} {H : Hp} {ρ : List Addr} : ∀ {vs : List V} {l : List D}, PySem.W.EachIs (RV K H ρ) vs l → RVs K H ρ vs l
  | _, _, .nil => .nil
  | _, _, .cons r t => .cons r (each_rvs t)
theorem rvs_enc {K : PySem.W.Frag} {H : Hp} {ρ : List Addr} {st : Store} (s : RS K H ρ st) : ∀ {vs : List V} {l : List D}, RVs K H ρ vs l → (∀ d ∈ l, ∃ p, toP st 60 d = some p ∧ p.depth ≤ 64) → PySem.W.EachIs (fun v d => Dp K H v (encD st d) ∧ (encD st d).depth ≤ 64) vs l
  | _, _, .nil, _ => .nil
  | _, _, .cons (d := d) r t, h => by
    refine .cons ?_ (rvs_enc s t fun x hx => h x (List.mem_cons_of_mem _ hx))
    obtain ⟨p, h1, h2⟩ := h d List.mem_cons_self
    unfold encD
    rw [h1]
    exact ⟨toP_read s _ _ _ _ r h1, h2⟩
theorem cd_sorted : CallD X W (rSortedD X.K) (onL sortedL) := by
  intro σ ρ H st xs ds Q s r h
  obtain ⟨a, vs, l, rfl, q, rs, h⟩ := onL_read s r h
  unfold sortedL at h
  split at h
  · rename_i hc
    exact ⟨a, vs, l, encD st, RV X.K H ρ, rfl, q, rvs_each rs, rvs_enc s rs hc.some, hc.alike, hc.kind, fun p ws hw hp => OO.here h (Ext.cell hp) (s.newL hp (each_rvs hw)) (.ref (ref_new s p))⟩
  · exact h.elim

/-! ### methods -/
theorem tyV_of {K : PySem.W.Frag} {H : Hp} {ρ : List Addr} {st : Store} {v : V} {d : D} {t : Ty} (s : RS K H ρ st) (r : RV K H ρ v d) (h : tyD st d = some t) (ht : t = .lst ∨ t = .dic ∨ t = .str ∨ t = .int) : tyV K t.nm v H := by
  cases r with
  | non => cases h; simp at ht
  | bl b => cases h; simp at ht
  | int i => cases h; rfl
  | str x => cases h; rfl
  | tup h1 h2 => cases h; simp at ht
  | lst h1 h2 h3 => cases h; exact .inl ⟨rfl, _, .inl (.inl h1)⟩
  | cst h1 h2 => cases h; exact .inl ⟨rfl, _, h1.sq⟩
  | @ref a n h1 =>
    have h : (match st[n]? with | some (.lst _) => some Ty.lst | some (.dic _) => some Ty.dic | none => none) = some t := h
    cases e : st[n]? with
    | none => simp only [e] at h; cases h
    | some c =>
      cases c with
      | lst l =>
        simp only [e] at h; cases h
        obtain ⟨vs, q1, q2⟩ := s.cell n a _ h1 e
        exact .inl ⟨rfl, _, .inl (.inl q1)⟩
      | dic l =>
        simp only [e] at h; cases h
        obtain ⟨vs, q1, q2⟩ := s.cell n a _ h1 e
        exact .inr (.inr (.inl ⟨rfl, .inl ⟨_, q1⟩⟩))
  | adr => cases h
/-- what a method's rule asks is what F gives -/
def MethD (X : Cx) (W : WX) (r : V → List V → Hp → VK → Prop) (F : D → List D → Store → Out D) : Prop := ∀ (σ : SV) (ρ : List Addr) (H : Hp) (st : Store) (x : V) (d : D) (xs : List V) (ds : List D) (Q : VK),
  RS X.K H ρ st → RV X.K H ρ x d → RVs X.K H ρ xs ds → OO X.K X.mg W (rV X.K) σ Q ρ H (F d ds st) → r x xs H Q
def methD (T : Ty) (F : D → List D → Store → Out D) (fo : LS → Store → Out D) (fr : LS → Store → Out (List D)) : LS → Store → Out D := fun ls st => (fo ls st).bind fun d st1 => if tyD st1 d = some T then (fr ls st1).bind fun ds st2 => F d ds st2 else .bad
theorem meth_read {r : V → List V → Hp → VK → Prop} {F : D → List D → Store → Out D} {T : Ty} {fo : LS → Store → Out D} (hd : MethD X W r F) (ht : T = .lst ∨ T = .dic ∨ T = .str ∨ T = .int) {σ : SV} {H : Hp} {Q : VK} (h : tE X.K X.mg W (methD T F fo fr) σ H Q) :
    tBM X.K T.nm r (tE X.K X.mg W fo) (tA X.K X.mg W fr) σ H Q := by
  obtain ⟨ρ, ls, st, A, q⟩ := h
  refine tF_bind (R := rV X.K) (R2 := rV X.K) (f := fun ls d st1 => if tyD st1 d = some T then (fr ls st1).bind fun ds st2 => F d ds st2 else .bad) A q fun ρ1 x H1 d st1 x1 A1 r1 q1 => ?_
  split at q1
  · rename_i hc
    refine ⟨tyV_of A1.sto r1 hc ht, ?_⟩
    exact tF_bind (R := rVs X.K) (R2 := rV X.K) (f := fun _ ds st2 => F d ds st2) A1 q1 fun ρ2 xs H2 ds st2 x2 A2 r2 q2 => hd σ ρ2 H2 st2 x d xs ds Q A2.sto (RV.ext x2 _ r1) r2 q2
  · exact q1.elim
section
variable {o : Expr} {fo : LS → Store → Out D} {name : Str} {apos cpos : Pos} {id : String}
theorem de_meth (T : Ty) (ht : T = .lst ∨ T = .dic ∨ T = .str ∨ T = .int) {r : V → List V → Hp → VK → Prop} {F : D → List D → Store → Out D} (pa : PlainAttrs T.nm) (slot : Slot T.nm name id) (hty : typeOf (.builtin id) = pure (.type "method_descriptor")) (hm : MtR X id r) (hd : MethD X W r F) (ho : DE X W o fo) (ha : DA X W (e :: es) fr)
    (hbase : attributeBase o name X.env (eval o X.env) = eval o X.env := by rfl)
    (hfew : ((backTo cpos (starEach (e :: es) X.env)).all (fun x => !x.1) && (backToKw cpos (keywordEach [] X.env)).all (fun x => x.1.isSome)
      && decide ((e :: es).length + ([] : List Keyword).length + (if ([] : List Keyword).isEmpty then 0 else 1) < 30)) = true := by rfl)
    (hline : (apos.endLine == cpos.line) = true := by rfl) (hs : starEach (e :: es) X.env = (false, eval e X.env) :: starEach es X.env := by rfl) (hplain : (backTo cpos (starEach es X.env)).any (·.1) = false := by rfl) :
    DE X W (.Call (.Attribute o name apos) (e :: es) [] cpos) (methD T F fo fr) :=
  pe_imp (pe_bm pa slot hty hm ho ha hbase hfew hline hs hplain) fun _ _ _ h => meth_read hd ht h
theorem de_meth0 (T : Ty) (ht : T = .lst ∨ T = .dic ∨ T = .str ∨ T = .int) {r : V → List V → Hp → VK → Prop} {F : D → List D → Store → Out D} (pa : PlainAttrs T.nm) (slot : Slot T.nm name id) (hty : typeOf (.builtin id) = pure (.type "method_descriptor")) (hm : MtR X id r) (hd : MethD X W r F) (ho : DE X W o fo)
    (hbase : attributeBase o name X.env (eval o X.env) = eval o X.env := by rfl) (hline : (apos.endLine == cpos.line) = true := by rfl) : DE X W (.Call (.Attribute o name apos) [] [] cpos) (methD T F fo nilA) :=
  pe_imp (pe_bm0 pa slot hty hm ho hbase hline) fun σ H Q h => by
    obtain ⟨ρ, ls, st, A, q⟩ := h
    refine tF_bind (R := rV X.K) (R2 := rV X.K) (f := fun ls d st1 => if tyD st1 d = some T then (nilA ls st1).bind fun ds st2 => F d ds st2 else .bad) A q fun ρ1 x H1 d st1 x1 A1 r1 q1 => ?_
    split at q1
    · rename_i hc
      exact ⟨tyV_of A1.sto r1 hc ht, hd σ ρ1 H1 st1 x d [] [] Q A1.sto r1 .nil q1⟩
    · exact q1.elim
end
/-- the list of a cell -/
def cellL (st : Store) (n : Nat) : Option (List D) := match st[n]? with
  | some (.lst l) => some l
  | _ => none
theorem cellL_eq {st : Store} {n : Nat} {l : List D} (h : cellL st n = some l) : st[n]? = some (.lst l) := by
  unfold cellL at h
  cases e : st[n]? with
  | none => rw [e] at h; cases h
  | some c =>
    rw [e] at h
    cases c with
    | lst l => cases h; rfl
    | dic _ => cases h
def appV (d : D) (ds : List D) (st : Store) : Out D := match d, ds with
  | .ref n, [e] => (match cellL st n with
    | some l => if l.length < 16777216 then .ok .non (st.set n (.lst (l ++ [e]))) else .bad
    | none => .bad)
  | _, _ => .bad
theorem md_append : MethD X W rAppend appV := by
  intro σ ρ H st x d xs ds Q s rx rs h
  unfold appV at h
  split at h
  · rename_i n e
    split at h
    · rename_i l el
      split at h
      · rename_i hl
        cases rx with
        | @ref a _ hr =>
          cases rs with
          | @cons v _ _ _ r1 r2 =>
            cases r2
            obtain ⟨vs, g1, g2⟩ := s.cell n a _ hr (cellL_eq el)
            refine ⟨a, vs, v, rfl, rfl, g1, by rw [g2.length, sizeLine_eq]; exact hl, ?_⟩
            exact OO.here h (Ext.write (List.mem_of_getElem? hr)) (s.writeL hr (g2.snoc r1)) .non
      · exact h.elim
    · exact h.elim
  · exact h.elim
theorem de_append {o : Expr} {fo : LS → Store → Out D} {apos cpos : Pos} (ho : DE X W o fo) (ha : DA X W [e] fr) (hbase : attributeBase o "append" X.env (eval o X.env) = eval o X.env := by rfl)
    (hfew : ((backTo cpos (starEach [e] X.env)).all (fun x => !x.1) && (backToKw cpos (keywordEach [] X.env)).all (fun x => x.1.isSome)
      && decide ([e].length + ([] : List Keyword).length + (if ([] : List Keyword).isEmpty then 0 else 1) < 30)) = true := by rfl)
    (hline : (apos.endLine == cpos.line) = true := by rfl) (hs : starEach [e] X.env = (false, eval e X.env) :: starEach [] X.env := by rfl) (hplain : (backTo cpos (starEach [] X.env)).any (·.1) = false := by rfl) :
    DE X W (.Call (.Attribute o "append" apos) [e] [] cpos) (methD .lst appV fo fr) :=
  de_meth .lst (.inl rfl) PySem.F.plainAttrs_list PySem.F.slot_list_append PySem.F.type_list_append mt_append md_append ho ha hbase hfew hline hs hplain

/-! ### in over tuples of any data; any, all over any data -/
def rInT (K : PySem.W.Frag) (neg : Bool) : R2 := fun x y H Q => ∃ d ds, Dp K H x d ∧ Dp K H y (.tuple ds) ∧ SeqAt.shaped d = true ∧ SeqAt.shaped (.tuple ds) = true ∧ Q (.bl (if neg then !ds.any fun z => PyData.eqv z d else ds.any fun z => PyData.eqv z d)) H
theorem op_inT (hu : X.A.units + 65 < cLine) : OpR X (compareOp .In) (rInT X.K false) := by
  intro pins s σ H x y v u Q I rx ry h
  obtain ⟨d, ds, hd, he, sd, se, q⟩ := h
  obtain ⟨as, r1⟩ := Dp.reads I d x v hd rx
  obtain ⟨bs, r2⟩ := Dp.reads I (.tuple ds) y u he ry
  exact SeqAt.in_tuple_reads r2 r1 (SeqAt.canLay_of_shaped se) (SeqAt.canLay_of_shaped sd) (room_in_shaped sd hu) ⟨.bl _, H, I, rfl, q⟩
theorem op_notInT (hu : X.A.units + 65 < cLine) : OpR X (compareOp .NotIn) (rInT X.K true) := by
  intro pins s σ H x y v u Q I rx ry h
  obtain ⟨d, ds, hd, he, sd, se, q⟩ := h
  obtain ⟨as, r1⟩ := Dp.reads I d x v hd rx
  obtain ⟨bs, r2⟩ := Dp.reads I (.tuple ds) y u he ry
  exact SeqAt.notIn_tuple_reads r2 r1 (SeqAt.canLay_of_shaped se) (SeqAt.canLay_of_shaped sd) (room_in_shaped sd hu) ⟨.bl _, H, I, rfl, q⟩
def inTF (neg : Bool) (d e : D) (st : Store) : Out D := match toP st 60 d, toP st 60 e with
  | some p, some (.tuple qs) => if SeqAt.shaped p = true ∧ SeqAt.shaped (.tuple qs) = true then .ok (.bl (if neg then !qs.any fun z => PyData.eqv z p else qs.any fun z => PyData.eqv z p)) st else .bad
  | _, _ => .bad
theorem od_inT (neg : Bool) : OpD X W (rInT X.K neg) (inTF neg) := by
  intro σ ρ H st x y dx dy Q s rx ry h
  unfold inTF at h
  split at h
  · rename_i p q e1 e2
    split at h
    · rename_i hl
      exact ⟨p, q, toP_read s _ _ _ _ rx e1, toP_read s _ _ _ _ ry e2, hl.1, hl.2, OO.done h s (.bl _)⟩
    · exact h.elim
  · exact h.elim
theorem cm_inT (C : Ctx X W k) : CmpD X W .In (inTF false) := ⟨_, op_inT (by have := C.rm.un; omega), od_inT false⟩
theorem cm_notInT (C : Ctx X W k) : CmpD X W .NotIn (inTF true) := ⟨_, op_notInT (by have := C.rm.un; omega), od_inT true⟩
/-- in, over a list or a tuple -/
def inV (neg : Bool) (d e : D) (st : Store) : Out D := if isTup e = true then inTF neg d e st else inF neg d e st
theorem cm_inV (C : Ctx X W k) : CmpD X W .In (inV false) := ⟨_, (op_inD (by have := C.rm.un; omega)).or (op_inT (by have := C.rm.un; omega)), opd_or od_in (od_inT false) fun dx dy st => by
  unfold inV; split
  · exact .inr rfl
  · exact .inl rfl⟩
theorem cm_notInV (C : Ctx X W k) : CmpD X W .NotIn (inV true) := ⟨_, (op_notInD (by have := C.rm.un; omega)).or (op_notInT (by have := C.rm.un; omega)), opd_or od_notIn (od_inT true) fun dx dy st => by
  unfold inV; split
  · exact .inr rfl
  · exact .inl rfl⟩
end
end DD

set_option maxRecDepth 100000
set_option maxHeartbeats 2000000
/-! DD7: own exceptions whose __init__ says super().__init__(): made, raised, caught. -/
namespace DD
open PySem PySem.Spec PyProof.Rows L2

/-- a class of exceptions below ValueError, as the written part has it -/
structure XC (K : PySem.W.Frag) (C : Addr) : Prop where
  cls : PySem.W.excInitIn K C PySem.HandSPX.veTail "ValueError.__new__" = true
  exC : PySem.W.subIn K (.ref C) (.type "BaseException") = some true
  tyC : PySem.W.typeIn K (.ref C) = some (.type "type")
  kC : PySem.W.keepIn K (.ref C) = true
/-- super().__init__() and nothing else -/
abbrev iniBody (p0 p1 p2 p3 p4 : Pos) : List Stmt := [.Expr (.Call (.Attribute (.Call (.Name "super" p0) [] [] p1) "__init__" p2) [] [] p3) p4]
structure Ini0 (prog : Program) (K : PySem.W.Frag) (C : Addr) : Prop where
  xc : XC K C
  ex : ∃ (fI cda cc : Addr) (oc : Value) (od : Option Addr) (osl : Array (Option Value)) (nm q : Str) (params : Arguments) (scope : Scope) (kV doc pm ct : Value) (an : Option Addr) (ar : Arg) (p0 p1 p2 p3 p4 : Pos),
    PySem.W.findIn K (.ref C) "__init__" = some (some (.ref fI)) ∧ PySem.W.typeIn K (.ref fI) = some (.type "function") ∧
    K.lookup fI = some ⟨oc, od, .func (PySem.W.ksFn nm q params (iniBody p0 p1 p2 p3 p4) scope .none kV doc pm an (.ref cda) ct cc), osl⟩ ∧
    PySem.W.codeIn K (.ref cda) q = true ∧ (∃ ccl cdd vs ccs file tf, K.lookup cda = some ⟨ccl, cdd, .fields vs, ccs⟩ ∧ vs[2]? = some (.str file tf) ∧ (prog.main.file == file) = true) ∧
    (∃ cl cld csl, K.lookup cc = some ⟨cl, cld, .cell (some (.ref C)), csl⟩) ∧
    (params.posonlyargs ++ params.args).head? = some ar ∧ (∀ u : Value, bindArgs (PySem.W.ksFn nm q params (iniBody p0 p1 p2 p3 p4) scope .none kV doc pm an (.ref cda) ct cc) ⟨[u], []⟩ = pure [(ar.arg, u)]) ∧
    scope.names.lookup ("super" : Str) = some .globalImplicit ∧ scope.names.lookup ("__class__" : Str) = some .free ∧ scope.names.lookup ar.arg = some .local ∧ scope.kind = .function ∧
    (∀ x ∈ scope.names, x.2 ≠ .cell) ∧ scope.isCoroutine = false ∧ scope.isGenerator = false ∧
    (∀ env : Env, env.scope = scope → swapsWith (.Call (.Attribute (.Call (.Name "super" p0) [] [] p1) "__init__" p2) [] [] p3) none p4.line env = pure false) ∧
    (∃ pl : Sem Bool, ∀ env : Env, eval (.Call (.Attribute (.Call (.Name "super" p0) [] [] p1) "__init__" p2) [] [] p3) env = (do
      let ov ← attributeBase (.Call (.Name "super" p0) [] [] p1) "__init__" env (eval (.Call (.Name "super" p0) [] [] p1) env)
      standAt p2.atName
      let (f, first) ← holding [ov] (getMethod ov "__init__" pl)
      callWith p3 f first (backTo p3 (starEach [] env)) []))
  sup : PySem.W.ks_superIn K C C "__init__" = some (some (.builtin "ValueError.__init__"))
  sub : PySem.W.subIn K (.ref C) (.type "ValueError") = some true
  own : PySem.W.mroIn K C (.ref C) = some true
  opq : PySem.W.nsIn K cStatics "thirdparty.any" = some none
  top : (prog.main.scope.names.lookup ("super" : Str)).isSome = false
section
open PySem.W PySem.Calls
variable {prog : Program} {w : World} {A : Around} {K : PySem.W.Frag} {C : Addr}
theorem call_bwV {E : Value → Shared → Prop} {h : Heap} {g : Array GenState} {d : Drawn} {t : Nat} {os : OsState} {nm q : Str} {N : Addr} {bs bm : List Value} {hdct : Bool} {sn : List Str} {sub : List Value} {ab : Bool} {col : Option Bool} {dd : Option Addr} {k0 k1 k2 k3 k5 : Option Value}
    {u e t0 : Addr} {rest : List Value} {Q : Value → Shared → Prop}
    (hC : h.get? C = some (excClassObj nm q C N bs bm hdct sn sub ab col dd k0 k1 k2 k3 k5 "ValueError.__new__")) (he : h.get? e = some (HandSPX.excO C t0)) (hu : h.get? u = some (kxs_mw "ValueError.__init__" e)) (hrest : rest.length ≤ sizeLine)
    (hq : ∀ h' t1, (∀ b o, b ≠ e → h.get? b = some o → h'.get? b = some o) → h'.get? e = some (HandSPX.excO C t1) → Q .none ⟨h', g, d, t, os⟩) :
    wpAny (model prog w) A (call (.ref u) rest) Q E ⟨h, g, d, t, os⟩ := by
  refine wpAny_call (codeAny_of_tree ?_)
  show wpAny _ A.in1 (callAny (.ref u) ⟨rest, []⟩) _ _ _
  simp only [callAny]
  refine wpAny_bind (wpAny_load hu ?_)
  simp only [kxs_mw, show (Value.type "method-wrapper" == Value.type "method" || Value.type "method-wrapper" == Value.type "builtin_function_or_method" || Value.type "method-wrapper" == Value.type "method-wrapper") = true by decide, if_true]
  refine W.KFB.if_so (by decide) ?_
  refine wpAny_bind (check_bound_init F.excBase_ValueError.toExcCallFacts hC he rfl ?_)
  refine wpAny_bind (wpAny_pure (wpAny_pure ?_))
  refine ⟨plainId_quiet F.excBase_ValueError.init.plain _, codeAny_builtin F.excBase_ValueError.initEntry ?_⟩
  rw [Around.under_plainId F.excBase_ValueError.init.plain _]
  wp_walk
  refine hq _ h.objs.size (fun b o hb ho => ?_) ?_
  · rw [Heap.get?_update_other _ _ (Ne.symm hb)]
    exact Heap.get?_push_of_some _ ho
  · rw [Heap.get?_update_self _ (Heap.get?_push_of_some _ he) rfl]
    rfl
theorem ini_call {h : Heap} {g : Array GenState} {d : Drawn} {t : Nat} {os : OsState} {mg mb : Str → Option Value} {R : Result → Shared → Prop} (I : Ini0 prog K C) (X : K.In h) (G : h.Ns mainGlobals mg) (hsup : mg "super" = none) (B : h.Ns builtinsNs mb)
    (hmb : ∀ x : Str, x ≠ "__name__" → mb x = bootBuiltins x) (hlim : h.NoLimit) (hroom : (A.under (.builtin "type.__call__" ⟨[.ref C], []⟩)).depth < recursionLimit)
    (hR : ∀ e h' t' t1, (∀ b o, h.get? b = some o → h'.get? b = some o) → h.get? e = none → h.objs.size ≤ e → h'.get? e = some (HandSPX.excO C t1) → R (.ok (.ret (.ref e))) ⟨h', g, d, t', os⟩) :
    codeAny (model prog w) A (.call (.ref C) ⟨[], []⟩) R ⟨h, g, d, t, os⟩ := by
  obtain ⟨nm, N, q, bs, bm, hdct, sn, sub, ab, col, dd, k0, k1, k2, k3, k5, hC, hT⟩ := excInit_of X I.xc.cls
  obtain ⟨fI, cda, cc, oc, od, osl, fnm, fq, params, scope, kV, doc, pm, ct, an, ar, p0, p1, p2, p3, p4, iC, tI, lk, hcd, ⟨ccl, cdd, cvs, ccs, file, tf, lkc, hvs, hfile⟩, ⟨cl, cld, csl, lkcell⟩, hp, hbnd, s1, s2, s3, s4, s5, s6, s7, s8, pl, s9⟩ := I.ex
  refine HandSPX.call_own F.excBase_ValueError hT hC (looks_findIn X iC) (fun self => bind_fn X self tI) (Nat.zero_le _) ?_
  have up1 : ∀ b o, h.get? b = some o → ((h.push (W.kdv_tup [])).push (HandSPX.excO C h.objs.size)).get? b = some o := fun b o e => Heap.get?_push_of_some _ (Heap.get?_push_of_some _ e)
  have hget : ((h.push (kdv_tup [])).push (HandSPX.excO C h.objs.size)).get? (h.objs.size + 1) = some (HandSPX.excO C h.objs.size) := by heap_get
  refine ks_codeAny_call_defAt (fd := ksFn fnm fq params (iniBody p0 p1 p2 p3 p4) scope .none kV doc pm an (.ref cda) ct cc) (body := iniBody p0 p1 p2 p3 p4) (binds := [(ar.arg, .ref (h.objs.size + 1))]) hroom (up1 _ _ (X _ _ lk)) rfl (hlim.keeps up1) (codeRec_of (X.keeps up1) hcd) rfl (.of_eq (hbnd _)) s5 (fun x hx => by rw [List.mem_singleton.mp hx]; exact s3) (fun h2 hns up2 => ?_) s6 s7 s4
  have up : ∀ b o, h.get? b = some o → h2.get? b = some o := fun b o e => up2 _ _ (up1 _ _ e)
  have X2 := X.keeps up
  have he2 := up2 _ _ hget
  obtain ⟨cdD, hD⟩ : ∃ cdD, clsIn K C = some cdD := by 
    have hm := I.sup
    unfold ks_superIn at hm
    cases hc : clsIn K C with
    | none => rw [hc] at hm; cases hm
    | some cd => exact ⟨cd, rfl⟩
  have hC2 := up _ _ hC
  refine ks_wpAt_execs_cons (ks_wpAt_Expr_any (ks_wpAt_MethodCall (c := .func (iniBody p0 p1 p2 p3 p4) (callEnv (ksFn fnm fq params (iniBody p0 p1 p2 p3 p4) scope .none kV doc pm an (.ref cda) ct cc) ((h.push (kdv_tup [])).push (HandSPX.excO C h.objs.size)).objs.size fI)) ?_ (s9 _)) (by show (scope.kind == .module && _) = false; rw [s4]; rfl) (s8 _ rfl))
  refine ks_wpAt_super_base s1 s2 rfl rfl (X2 _ _ lk) rfl hp rfl (X2 _ _ lkc) rfl hvs hfile I.top ?_
  refine ks_loadName_global s4 s1 (loadGlobal_builtin (G.keeps up) hsup (B.keeps up) (v := .type "super") ((hmb _ (by decide +kernel)).trans (by kernel_rfl)) ⟨rfl, ?_⟩)
  refine wpAny_loadName_free s4 s2 rfl ⟨_, X2 _ _ lkcell, rfl⟩ ?_
  refine wpAny_loadName_local s4 s3 hns (v := .ref (h.objs.size + 1)) (by show List.lookup ar.arg [(ar.arg, Value.ref (h.objs.size + 1))] = _; unfold List.lookup; rw [beq_self_eq_true]) ?_
  refine ks_wpAny_isType_cls hC2 rfl ⟨rfl, ?_⟩
  refine ks_wpAny_call_super hC2 rfl he2 rfl (fun c e => nomatch e) (looks_mroIn X2 I.own) (fun h3 e3 up3 => ?_)
  have X3 := X2.keeps up3
  have he3 := up3 _ _ he2
  have J3 : InstAt h3 (h.objs.size + 1) (HandSPX.excO C h.objs.size) C none := ⟨he3, rfl, rfl, trivial⟩
  have hI : Looks (model prog w) h3 (isInstance (.ref (h.objs.size + 1)) (.type "ValueError")) true := J3.type.andThen (looks_subIn X3 I.sub)
  have hm := I.sup
  unfold ks_superIn at hm
  rw [hD] at hm
  refine kxs_getMethod kxs_ValueError e3 (looks_opaque X3 I.opq) (l₀ := cdD.mro) (fun A Q E s k q => wpAny_bind ((looks_clsIn X3 hD) A _ E s k (wpAny_pure q))) rfl X3 hm hI (ks_ne X3 J3 hD) (by decide) ?_
  have e4 : (h3.push (kxs_mw "ValueError.__init__" (h.objs.size + 1))).get? h3.objs.size = some (kxs_mw "ValueError.__init__" (h.objs.size + 1)) := Heap.get?_push_at rfl rfl
  have up4 : ∀ b o, h3.get? b = some o → (h3.push (kxs_mw "ValueError.__init__" (h.objs.size + 1))).get? b = some o := fun b o e => Heap.get?_push_of_some _ e
  refine kxs_callWith (i := "ValueError.__init__") (x := h.objs.size + 1) rfl (evalArgs_empty ⟨e4, ?_⟩)
  refine call_bwV (up4 _ _ (up3 _ _ hC2)) (up4 _ _ he3) e4 (Nat.zero_le _) (fun h5 t1 k5 e5 => ?_)
  refine wpAt_of_wpAny (wpAny_execs_nil ?_)
  refine ⟨rfl, hR _ _ _ _ (fun b o e => k5 b o (fun z => ?_) (up4 _ _ (up3 _ _ (up _ _ e)))) ?_ (Nat.le_succ _) e5⟩
  · rw [z] at e
    exact absurd (Nat.lt_trans (Nat.lt_succ_self _) (Heap.lt_size e)) (Nat.lt_irrefl _)
  · cases z : h.get? (h.objs.size + 1) with
    | none => rfl
    | some o => exact absurd (Nat.lt_trans (Nat.lt_succ_self _) (Heap.lt_size z)) (Nat.lt_irrefl _)
end
section
variable {X : Cx} {W : WX} {k : Nat} {x : Str} {C0 : Addr} {p pos pos' : Pos}
/-- C() -/
theorem pmk_ini (C : Ctx X W k) (I : Ini0 X.prog X.K C0) (hm : X.mg x = some (.ref C0)) (hsup : X.mg "super" = none) (hk : 1 ≤ k) (hg : Gl X x := by rfl) (hdb : (x == ("__debug__" : Str)) = false := by decide) :
    PMk X (.Call (.Name x p) [] [] pos) (fun σ H Q => Q (.ref C0) none H) := by
  intro pins s σ H Q J h
  refine wpAny_Call_Name_kw (ld_glob J hg hm ?_ hdb)
  refine PySem.W.callWith_K0 J.kIn I.xc.kC ?_
  obtain ⟨hp, g, dr, tk, os⟩ := s
  obtain ⟨mb, b1, b2⟩ := J.mod.blt
  obtain ⟨k', rfl⟩ : ∃ k', k = k' + 1 := ⟨k - 1, by omega⟩
  refine wpAny_call (ini_call I J.kIn (J.mod.glob.keeps J.bk) hsup (b1.keeps J.bk) b2 (J.mod.nolimit.keeps J.bk) (C.rm.make C0 [] []).depth fun e h' t' t1 k1 hn hsz he => ?_)
  exact ⟨e, _, _, ⟨hp, g, dr, tk, os⟩, H, .ref C0, none, rfl, J, k1, hn, he, ⟨rfl, rfl⟩, rfl, rfl, J.hok.fresh hsz, rfl, J.bare, raises_own I.xc.exC I.xc.tyC, h⟩
def raiseD (x : Str) : LS → Store → SO := fun ls st => .ex ⟨x, []⟩ ls st
/-- raise C() -/
theorem ds_raise (C : Ctx X W k) (I : Ini0 X.prog X.K C0) (hm : X.mg x = some (.ref C0)) (hsup : X.mg "super" = none) (hk : 1 ≤ k := by decide) (hc : X.calm = true := by rfl) (hg : Gl X x := by rfl) (hdb : (x == ("__debug__" : Str)) = false := by decide) :
    DS X W (.Raise (some (.Call (.Name x p) [] [] pos)) none pos') (raiseD x) :=
  ps_imp (ps_raise hc C.tk (pmk_ini C I hm hsup hk hg hdb)) fun N σ H ⟨ρ, ls, st, A, q⟩ => q ρ σ (.ref C0) none H (Ext.refl _ _) A ⟨C0, hm, rfl, rfl⟩
/-- slot i is emptied behind a suite -/
def unS (i : Nat) : SO → SO
  | .nx ls st => .nx (delL ls i) st
  | .bk ls st => .bk (delL ls i) st
  | .ct ls st => .ct (delL ls i) st
  | .ex _ _ _ => .bad
  | o => o
/-- try: b / except C as n: g; cat tells what the clause takes, n is slot i; a stands for the exception -/
noncomputable def tryD (i : Nat) (cat : Exc → Option Bool) (b : LS → Store → SO) (g : Exc → Addr → LS → Store → SO) : LS → Store → SO := fun ls st => match b ls st with
  | .ex e ls1 st1 => (match cat e with
    | some true => open Classical in if ∀ a, unS i (g e a (setL ls1 i (.adr a)) st1) = unS i (g e 0 (setL ls1 i (.adr 0)) st1) then unS i (g e 0 (setL ls1 i (.adr 0)) st1) else .bad
    | some false => .ex e ls1 st1
    | none => .bad)
  | o => o
theorem At.del {K : PySem.W.Frag} {H : Hp} {ρ : List Addr} {σ : SV} {ls : LS} {st : Store} (A : At K H ρ σ ls st) (i : Nat) : At K H ρ (σ.set i none) (delL ls i) st := A.wipe [i]
abbrev suX (X : Cx) (a : Addr) (oe : Obj) (pn : List (Addr × Obj)) : Cx := X.suite a ((a, oe) :: pn)
/-- what is known within a suite -/
structure CtxS (X : Cx) : Prop where
  un : X.A.units + 64 < cLine
  un2 : X.A.units + 65 < cLine
theorem ds_try_as {i : Nat} {x n : Str} {c : Value} {body suite : List Stmt} {b0 : Stmt} {np hpos tpos : Pos} {gb : LS → Store → SO} {g : Exc → Addr → LS → Store → SO} {cat : Exc → Option Bool}
    (C : Ctx X W k) (hs : X.stack = X.env :: X.outer) (hf : X.env.frame = some X.env.locals) (hN : X.N.Nodup) (hi : X.N[i]? = some n) (hln : X.env.kindOf n = some .local) (hc : Names X x c)
    (hcat : ∀ e b D, cat e = some b → X.mg e.cls = some (.ref D) → PySem.W.exmOne X.K (.ref D) c = some b)
    (hb : ∀ (W : WX) (pn : List (Addr × Obj)) (xe : Value → Shared → Prop), Ctx (X.tr pn xe) W k → DSs (X.tr pn xe) W body gb)
    (hsu : ∀ (e : Exc) (a : Addr) (oe : Obj) (D : Addr) (d : Option Addr) (pn : List (Addr × Obj)), cat e = some true → X.mg e.cls = some (.ref D) → (e.fs = [] → d = none) → Zc (.ref D) d oe → (∃ vs, oe.data = .fields vs) → CtxS (suX X a oe pn) →
      DSs (suX X a oe pn) W0 (b0 :: suite) (g e a)) :
    DS X W (.Try body [.ExceptHandler (some (.Name x np)) (some n) (b0 :: suite) hpos] [] [] tpos) (tryD i cat gb g) := by
  let ts : Addr → Value → Option Addr → TS := fun a cls d N σ H => ∃ (e : Exc) (D : Addr), cat e = some true ∧ X.mg e.cls = some (.ref D) ∧ cls = .ref D ∧ (e.fs = [] → d = none) ∧ tS X.K X.mg W0 (g e a) N σ H
  have hun := C.rm.un
  refine ps_imp (ps_try_as (tb := fun W => tS X.K X.mg W gb) (ts := ts) hs hf hN hi hln hc C.tk (fun W pn xe tk po => hb W pn xe ⟨tk, C.rm, C.gd, po⟩) fun a oe cls d pn hz hfl => ?_) fun N σ H ⟨ρ, ls, st, A, q⟩ => ?_
  · refine ⟨fun pins s σ H N J h => ?_⟩
    obtain ⟨e, D, h1, h2, rfl, h3, h4⟩ := h
    exact (hsu e a oe D d pn h1 h2 h3 hz hfl ⟨by show X.A.units + 64 < cLine; omega, by show X.A.units + 65 < cLine; omega⟩).run pins s σ H N J h4
  · refine ⟨ρ, ls, st, A, ?_⟩
    unfold tryD at q
    cases eb : gb ls st with
    | nx l s => rw [eb] at q; exact q
    | rt d s => rw [eb] at q; exact q
    | bk l s => rw [eb] at q; exact q
    | ct l s => rw [eb] at q; exact q
    | bad => rw [eb] at q; exact q
    | ex e l1 s1 =>
      simp only [eb] at q
      intro ρ1 σ1 cls d H1 x1 A1 rx
      obtain ⟨D, m1, rfl, m2⟩ := rx
      have hdn : e.fs = [] → d = none := fun z => by rw [z] at m2; exact m2
      cases ec : cat e with
      | none => simp only [ec] at q; exact q.elim
      | some b =>
        refine ⟨b, hcat _ b D ec m1, fun hb1 a ha => ?_, fun hb1 => ?_⟩
        · subst hb1
          simp only [ec] at q
          split at q
          · rename_i hind
            refine ⟨e, D, ec, m1, rfl, hdn, ρ1, _, s1, A1.put i .adr, ?_⟩
            rw [← hind a] at q
            have q := PSO.grow q x1
            cases eg : g e a (setL l1 i (.adr a)) s1 with
            | nx l s => rw [eg] at q; exact fun ρ' σ' H' y A' => q ρ' _ H' y (A'.del i)
            | rt d s => rw [eg] at q; exact q
            | bk l s => rw [eg] at q; exact fun ρ' σ' H' y A' => q ρ' _ H' y (A'.del i)
            | ct l s => rw [eg] at q; exact fun ρ' σ' H' y A' => q ρ' _ H' y (A'.del i)
            | bad => rw [eg] at q; exact q.elim
            | ex x l s => rw [eg] at q; exact q.elim
          · exact q.elim
        · subst hb1
          simp only [ec] at q
          exact q ρ1 σ1 (.ref D) d H1 x1 A1 ⟨D, m1, rfl, m2⟩
end
end DD

set_option maxRecDepth 100000
set_option maxHeartbeats 2000000
/-! DD8: comprehensions as rules, isinstance in a suite, dicts, any over a tuple, three at once, whiles in a context. -/
namespace DD
open PySem PySem.Spec PyProof.Rows L2

section
variable {X : Cx} {W : WX} {k : Nat} {pos p p2 spos : Pos} {e : Expr} {es : List Expr} {f : LS → Store → Out D} {fr : LS → Store → Out (List D)}
theorem Ctx.blk (C : Ctx X W k) (s : Shared) (H : Hp) (scope : Scope) (ce : Env) (fp : List Addr) : Ctx (X.blk s H scope ce fp) W0 k :=
  ⟨fun u s' ⟨a, B, sI, pins, σ, H, cls, d, e, I, nb, up, sky, na, os, ag, w⟩ => w.elim, C.rm, C.gd, PassesOwn.never⟩
theorem de_lc {elt tg iter : Expr} {ifs : List Expr} {scope : Scope} {own : List (Str × Nat)} {vs : List Nat} {fi : LS → Store → Out Its} {g : D → LS → Store → Out LS} {ft : LS → Store → Out Bool} {fe : LS → Store → Out D} (C : Ctx X W k) (hc : X.calm = true) (hN : X.N.Nodup)
    (hi : DI X W tg iter fi) (ok : BlkOk X.N X.env.scope scope own) (hvs : own.map (·.2) = vs)
    (h : ∀ (s : Shared) (H : Hp) (C' : Addr) (cl : List (Str × Addr)) (fp : List Addr), Ctx (X.blk s H scope (compEnvC scope cl C' X.env) fp) W0 k →
      DGx (X.blk s H scope (compEnvC scope cl C' X.env) fp) vs tg g ∧ DTs (X.blk s H scope (compEnvC scope cl C' X.env) fp) W0 ifs ft ∧ DE (X.blk s H scope (compEnvC scope cl C' X.env) fp) W0 elt fe)
    (hs : ∀ x, foldedSetIterable iter X.env x = pure x := by intro _; rfl) :
    DE X W (.ListComp elt [⟨tg, iter, ifs, 0⟩] scope pos) (lcD fi g ft fe vs) := by
  subst hvs
  exact pe_imp (pe_lc hc hN hi ok (fun s H C' cl fp => (h s H C' cl fp (C.blk s H scope _ fp)).1) (fun s H C' cl fp => (h s H C' cl fp (C.blk s H scope _ fp)).2.1) (fun s H C' cl fp => (h s H C' cl fp (C.blk s H scope _ fp)).2.2) hs) fun _ _ _ q => lc_read q
theorem ds_setLc {i : Nat} {y : Str} {py : Pos} {elt tg iter : Expr} {ifs : List Expr} {scope : Scope} {own : List (Str × Nat)} {vs : List Nat} {fi : LS → Store → Out Its} {g : D → LS → Store → Out LS} {ft : LS → Store → Out Bool} {fe : LS → Store → Out D} (C : Ctx X W k) (hc : X.calm = true) (hN : X.N.Nodup)
    (hy : X.N[i]? = some y) (hyl : X.env.scope.names.lookup y = some .local) (hsw : swapsWith (.ListComp elt [⟨tg, iter, ifs, 0⟩] scope pos) (some (.Name y py)) spos.line X.env = pure true)
    (hi : DI X W tg iter fi) (ok : BlkOk X.N X.env.scope scope own) (hvs : own.map (·.2) = vs)
    (h : ∀ (s : Shared) (H : Hp) (C' : Addr) (cl : List (Str × Addr)) (fp : List Addr), Ctx (X.blk s H scope (compEnvC scope cl C' X.env) fp) W0 k →
      DGx (X.blk s H scope (compEnvC scope cl C' X.env) fp) vs tg g ∧ DTs (X.blk s H scope (compEnvC scope cl C' X.env) fp) W0 ifs ft ∧ DE (X.blk s H scope (compEnvC scope cl C' X.env) fp) W0 elt fe)
    (hs : ∀ x, foldedSetIterable iter X.env x = pure x := by intro _; rfl) :
    DS X W (.Assign [.Name y py] (.ListComp elt [⟨tg, iter, ifs, 0⟩] scope pos) spos) (asgD (lcD fi g ft fe vs) (nameG i)) := by
  subst hvs
  exact ps_imp (ps_setLc hc hN hy hyl hsw hi ok (fun s H C' cl fp => (h s H C' cl fp (C.blk s H scope _ fp)).1) (fun s H C' cl fp => (h s H C' cl fp (C.blk s H scope _ fp)).2.1) (fun s H C' cl fp => (h s H C' cl fp (C.blk s H scope _ fp)).2.2) hs) fun N σ H ⟨ρ, ls, st, A, q⟩ =>
    lc_read (ofE_read (k := fun ls d st1 => match nameG i d ls st1 with | .ok ls' st' => .nx ls' st' | _ => .bad) A q fun ρ1 v H1 d st1 x A1 r q => PSO.doneNx q (A1.put i r))
theorem ds_whileC {c : Expr} {body : List Stmt} {tc : LS → Store → Out Bool} {g : LS → Store → SO} (C : Ctx X W k) (hc : DT X W c tc) (hb : DSs X W body g) : DS X W (.While c body [] pos) (whileD tc g) := ds_while C.po hc hb
theorem ds_forC {tg iter : Expr} {body : List Stmt} {fi : LS → Store → Out Its} {g : D → LS → Store → Out LS} {b : LS → Store → SO} (C : Ctx X W k) (hc : X.calm = true) (hi : DI X W tg iter fi) (hg : DG X tg g) (hb : DSs X W body b)
    (hs : ∀ x, foldedSetIterable iter X.env x = pure x := by intro _; rfl) : DS X W (.For tg iter body [] pos) (forD fi g b) := ds_for C.po hc hi hg hb hs

/-! ### three at once -/
def parD3 (i j l : Nat) (fr : LS → Store → Out (List D)) : LS → Store → SO := fun ls st => ofE (fr ls st) ls fun ds st1 => match ds with
  | [d, e, f] => .nx (setL (setL (setL ls i d) j e) l f) st1
  | _ => .bad
theorem ds_par3 {i j l : Nat} {x y z : Str} {a b c : Expr} {px py pz pt : Pos} {kt k2 pt2} (hc : X.calm = true) (hN : X.N.Nodup) (hi : X.N[i]? = some x) (hj : X.N[j]? = some y) (hl : X.N[l]? = some z) (hij : i ≠ j) (hil : i ≠ l) (hjl : j ≠ l)
    (hx : X.env.scope.names.lookup x = some .local) (hy : X.env.scope.names.lookup y = some .local) (hz : X.env.scope.names.lookup z = some .local) (ha : DA X W [a, b, c] fr)
    (hw : swappedStores [.Tuple [.Name x px, .Name y py, .Name z pz] kt pt] (.Tuple [a, b, c] k2 pt2) X.env = pure (some [x, y, z]) := by rfl)
    (hs : swapsWithSole [.Tuple [.Name x px, .Name y py, .Name z pz] kt pt] (.Tuple [a, b, c] k2 pt2) pos.line X.env = pure false := by rfl) :
    DS X W (.Assign [.Tuple [.Name x px, .Name y py, .Name z pz] kt pt] (.Tuple [a, b, c] k2 pt2) pos) (parD3 i j l fr) := ps_imp (ps_par3 hc hN hi hj hl hij hil hjl hx hy hz ha hw hs) fun N σ H ⟨ρ, ls, st, A, p⟩ =>
  ofE_read (R := rVs X.K) (k := fun ls ds st1 => match ds with | [d, e, f] => .nx (setL (setL (setL ls i d) j e) l f) st1 | _ => .bad) A p fun ρ1 vs H1 ds st1 x A1 r q => by
    cases r with
    | nil => exact q.elim
    | cons r1 r2 =>
      cases r2 with
      | nil => exact q.elim
      | cons r2 r3 =>
        cases r3 with
        | nil => exact q.elim
        | cons r3 r4 =>
          cases r4 with
          | nil => exact ⟨_, _, _, rfl, PSO.doneNx q (((A1.put i r1).put j r2).put l r3)⟩
          | cons _ _ => exact q.elim

/-! ### constants of the module -/
theorem de_glob {x : Str} {v : V} {u : Value} {d : D} (hm : X.mg x = some u) (r : RelV v u) (rd : ∀ H ρ, RV X.K H ρ v d) (hg : Gl X x := by rfl) (hd : (x == ("__debug__" : Str)) = false := by decide) : DE X W (.Name x pos) (litD d) := de_lit (pe_glob hg hm r hd) rd
theorem de_globI {x : Str} {i : Int} (hm : ∃ t, X.mg x = some (.int i t)) (hg : Gl X x := by rfl) (hd : (x == ("__debug__" : Str)) = false := by decide) : DE X W (.Name x pos) (litD (.int i)) := by
  obtain ⟨t, h⟩ := hm
  exact de_glob h (v := .int i) ⟨t, rfl⟩ (fun _ _ => .int i) hg hd

/-! ### isinstance in a suite -/
def isED (i : Nat) (a : Addr) (b : Bool) : LS → Store → Out D := fun ls st => match getL ls i with
  | some (.adr c) => if c = a then .ok (.bl b) st else .bad
  | _ => .bad
theorem isE_read {i : Nat} {a DA : Addr} {b : Bool} {cv : Value} {c : V} (hcv : ∀ u, RelV c u → u = cv) (hk : PySem.W.kitOne X.K (.ref DA) cv = some b) {σ : SV} {H : Hp} {Q : VK} (h : tE X.K X.mg W (isED i a b) σ H Q) :
    tCB (rIsE X.K DA a) (tCons (tVar i) (tCons (tC c) tNil)) σ H Q := by
  obtain ⟨ρ, ls, st, A, q⟩ := h
  unfold isED at q
  split at q
  · rename_i c' e1
    split at q
    · rename_i e2
      subst e2
      obtain ⟨v, h1, h2⟩ := A.loc i _ e1
      cases h2
      exact ⟨_, h1, c, cv, b, rfl, hcv, hk, OO.done q A.sto (.bl b)⟩
    · exact q.elim
  · exact q.elim
/-- isinstance(e, D2), D2 a class of the text -/
theorem de_isC {i : Nat} {a DA T : Addr} {oe : Obj} {pn : List (Addr × Obj)} {b : Bool} {n x : Str} {pe : Pos} (E : ExcC X.K DA) (hz : Zc (.ref DA) none oe) (hfl : ∃ vs, oe.data = .fields vs) (hk : PySem.W.kitOne X.K (.ref DA) (.ref T) = some b)
    (hx : X.mg x = some (.ref T)) (hm0 : X.mg "isinstance" = none) (hN : X.N[i]? = some n := by rfl) (hv : Vis X.env.scope n := by first | exact Or.inl rfl | exact Or.inr (Or.inl rfl) | exact Or.inr (Or.inr rfl))
    (hg : Gl X "isinstance" := by rfl) (hgx : Gl X x := by rfl) (hd : (x == ("__debug__" : Str)) = false := by decide) (hdn : (n == ("__debug__" : Str)) = false := by decide) (hcd : (n == ("__classdict__" : Str)) = false := by decide)
    (hs : starEach [.Name n pe, .Name x p2] X.env = (false, eval (.Name n pe) X.env) :: starEach [.Name x p2] X.env := by rfl) (hpl : (backTo pos (starEach [.Name x p2] X.env)).any (·.1) = false := by rfl)
    (hs2 : starEach [.Name x p2] X.env = (false, eval (.Name x p2) X.env) :: starEach [] X.env := by rfl) :
    DE (suX X a oe pn) W (.Call (.Name "isinstance" p) [.Name n pe, .Name x p2] [] pos) (isED i a b) :=
  pe_imp (pe_callB (call_isE E hz hfl) hg hm0 boot_isinstance (pa_cons (pe_var (X := suX X a oe pn) hN hv hdn hcd) (pa_cons (pe_glob (X := suX X a oe pn) hgx hx (v := .ref T) rfl hd) pa_nil hs2) hs) (by decide) (by decide) hs hpl) fun _ _ _ h => isE_read (c := .ref T) (cv := .ref T) (fun u hu => hu) hk h
/-- isinstance(e, T), T a class of the language -/
theorem de_isB {i : Nat} {a DA : Addr} {oe : Obj} {pn : List (Addr × Obj)} {b : Bool} {n x : Str} {T : String} {pe : Pos} (E : ExcC X.K DA) (hz : Zc (.ref DA) none oe) (hfl : ∃ vs, oe.data = .fields vs) (hk : PySem.W.kitOne X.K (.ref DA) (.type T) = some b)
    (hx : X.mg x = none) (hbt : bootBuiltins x = some (.type T)) (hm0 : X.mg "isinstance" = none) (hN : X.N[i]? = some n := by rfl) (hv : Vis X.env.scope n := by first | exact Or.inl rfl | exact Or.inr (Or.inl rfl) | exact Or.inr (Or.inr rfl))
    (hg : Gl X "isinstance" := by rfl) (hgx : Gl X x := by rfl) (hnn : x ≠ "__name__" := by decide) (hd : (x == ("__debug__" : Str)) = false := by decide) (hdn : (n == ("__debug__" : Str)) = false := by decide) (hcd : (n == ("__classdict__" : Str)) = false := by decide)
    (hs : starEach [.Name n pe, .Name x p2] X.env = (false, eval (.Name n pe) X.env) :: starEach [.Name x p2] X.env := by rfl) (hpl : (backTo pos (starEach [.Name x p2] X.env)).any (·.1) = false := by rfl)
    (hs2 : starEach [.Name x p2] X.env = (false, eval (.Name x p2) X.env) :: starEach [] X.env := by rfl) :
    DE (suX X a oe pn) W (.Call (.Name "isinstance" p) [.Name n pe, .Name x p2] [] pos) (isED i a b) :=
  pe_imp (pe_callB (call_isE E hz hfl) hg hm0 boot_isinstance (pa_cons (pe_var (X := suX X a oe pn) hN hv hdn hcd) (pa_cons (pe_bltn (X := suX X a oe pn) (v := .ty T) hgx hx hbt rfl hnn hd) pa_nil hs2) hs) (by decide) (by decide) hs hpl) fun _ _ _ h => isE_read (c := .ty T) (cv := .type T) (fun u hu => hu) hk h
/-! .. and its comparisons -/
theorem cms_eq (C : CtxS X) : CmpD X W .Eq eqV := ⟨_, op_eq.or (op_eqD C.un), opd_or od_eqS od_eqG (eqF_or false)⟩
theorem cms_ne (C : CtxS X) : CmpD X W .NotEq neV := ⟨_, op_ne.or (op_neD C.un), opd_or od_neS od_neG (eqF_or true)⟩

/-! ### any over a tuple of ints -/
def flatP : PyData → Bool
  | .none => true
  | .bool _ => true
  | .int _ => true
  | _ => false
def rAnyT (K : PySem.W.Frag) : List V → Hp → VK → Prop := fun xs H Q => ∃ (a : Addr) (ps : List PyData), xs = [.ref a] ∧ Dp K H (.ref a) (.tuple ps) ∧ ps.all flatP = true ∧ Q (.bl (ps.any PyData.truthy)) H
theorem flat_plain : ∀ {ps : List PyData}, ps.all flatP = true → PyData.plainAll ps = true
  | [], _ => rfl
  | p :: ps, h => by
    rw [List.all_cons, Bool.and_eq_true] at h
    rw [PyData.plainAll, flat_plain h.2, Bool.and_true]
    cases p <;> first | rfl | cases h.1
theorem call_anyT (C : Ctx X W k) : CallR X (.builtin "any") (rAnyT X.K) := by
  intro pins s σ H xs us Q I r h
  obtain ⟨a, ps, rfl, hd, hf, q⟩ := h
  obtain ⟨u, rfl, ru⟩ := vals1 r
  obtain rfl : u = Value.ref a := ru
  cases hd with
  | tup hs ha =>
    obtain ⟨its, rv, pl, hz⟩ := I.tuple hs
    obtain ⟨as, h4⟩ := Dp.readsAll I ps _ its ha rv
    refine PySem.W.any_tuple_data (xs := ps) (as := as) C.rm.hd pl (by simpa using h4) (flat_plain hf) (fun x hx => ?_) (fun h' tk hk => ⟨.bl _, H, I.kept (t' := tk) hk, rfl, q⟩)
    have := List.all_eq_true.mp hf x hx
    cases x <;> first | exact trivial | cases this
def anyTV (ds : List D) (st : Store) : Out D := match ds with
  | [d] => (match toP st 60 d with
    | some (.tuple ps) => if ps.all flatP = true then .ok (.bl (ps.any PyData.truthy)) st else .bad
    | _ => .bad)
  | _ => .bad
theorem cd_anyT : CallD X W (rAnyT X.K) anyTV := by
  intro σ ρ H st xs ds Q s r h
  unfold anyTV at h
  split at h
  · rename_i d
    cases r with
    | cons r1 r2 =>
      cases r2
      split at h
      · rename_i ps e1
        split at h
        · rename_i hf
          have hd := toP_read s _ _ _ _ r1 e1
          cases hd with
          | tup h1 h2 => exact ⟨_, ps, rfl, .tup h1 h2, hf, OO.done h s (.bl _)⟩
        · exact h.elim
      · exact h.elim
  · exact h.elim

/-! ### dicts with ints and texts as keys -/
def keyD : D → Option Key
  | .int i => some (.inl i)
  | .str x => some (.inr x)
  | _ => none
theorem keyD_read {K : PySem.W.Frag} {H : Hp} {ρ : List Addr} {v : V} {d : D} {c : Key} (r : RV K H ρ v d) (h : keyD d = some c) : v = kV c := by
  cases r <;> first | (cases h; rfl) | cases h
def valD (kvs : List (Key × D)) (c : Key) : Option D := (kvs.find? fun kv => decide (kv.1 = c)).map (·.2)
def putD (kvs : List (Key × D)) (c : Key) (d : D) : List (Key × D) :=
  if (kvs.any fun kv => decide (kv.1 = c)) = true then kvs.map (fun kv => if kv.1 = c then (kv.1, d) else kv) else kvs ++ [(c, d)]
theorem KVr.val {K : PySem.W.Frag} {H : Hp} {ρ : List Addr} (c : Key) : ∀ {ws : List (Key × V)} {kvs : List (Key × D)}, KVr K H ρ ws kvs → (valV ws c = none ∧ valD kvs c = none) ∨ ∃ v d, valV ws c = some v ∧ valD kvs c = some d ∧ RV K H ρ v d
  | _, _, .nil => .inl ⟨rfl, rfl⟩
  | _, _, .cons (a := p) (b := q) r t => by
    by_cases e : p.1 = c
    · exact .inr ⟨p.2, q.2, by simp [valV, List.find?_cons, e], by simp [valD, List.find?_cons, ← r.1, e], r.2⟩
    · rcases KVr.val c t with ⟨h1, h2⟩ | ⟨v, d, h1, h2, h3⟩
      · exact .inl ⟨by simpa [valV, List.find?_cons, e] using h1, by simpa [valD, List.find?_cons, ← r.1, e] using h2⟩
      · exact .inr ⟨v, d, by simpa [valV, List.find?_cons, e] using h1, by simpa [valD, List.find?_cons, ← r.1, e] using h2, h3⟩
theorem KVr.anyK {K : PySem.W.Frag} {H : Hp} {ρ : List Addr} (c : Key) : ∀ {ws : List (Key × V)} {kvs : List (Key × D)}, KVr K H ρ ws kvs → (ws.any fun kv => decide (kv.1 = c)) = kvs.any fun kv => decide (kv.1 = c)
  | _, _, .nil => rfl
  | _, _, .cons r t => by rw [List.any_cons, List.any_cons, KVr.anyK c t, r.1]
theorem KVr.app {K : PySem.W.Frag} {H : Hp} {ρ : List Addr} : ∀ {ws ws' : List (Key × V)} {kvs kvs' : List (Key × D)}, KVr K H ρ ws kvs → KVr K H ρ ws' kvs' → KVr K H ρ (ws ++ ws') (kvs ++ kvs')
  | _, _, _, _, .nil, s => s
  | _, _, _, _, .cons r t, s => .cons r (KVr.app t s)
theorem KVr.upd' {K : PySem.W.Frag} {H : Hp} {ρ : List Addr} {c : Key} {v : V} {d : D} (rv : RV K H ρ v d) : ∀ {ws : List (Key × V)} {kvs : List (Key × D)}, KVr K H ρ ws kvs → KVr K H ρ (ws.map fun kv => if kv.1 = c then (kv.1, v) else kv) (kvs.map fun kv => if kv.1 = c then (kv.1, d) else kv)
  | _, _, .nil => .nil
  | _, _, .cons (a := p) (b := q) r t => by
    refine .cons ?_ (KVr.upd' rv t)
    dsimp only
    by_cases e : p.1 = c
    · rw [if_pos e, if_pos (r.1 ▸ e)]; exact ⟨r.1, rv⟩
    · rw [if_neg e, if_neg (fun z => e (r.1.trans z))]; exact r
theorem KVr.put {K : PySem.W.Frag} {H : Hp} {ρ : List Addr} {c : Key} {v : V} {d : D} (rv : RV K H ρ v d) {ws : List (Key × V)} {kvs : List (Key × D)} (h : KVr K H ρ ws kvs) : KVr K H ρ (putK ws c v) (putD kvs c d) := by
  unfold putK putD
  rw [h.anyK c]
  split
  · exact h.upd' rv
  · exact h.app (.cons ⟨rfl, rv⟩ .nil)
theorem KVr.length {K : PySem.W.Frag} {H : Hp} {ρ : List Addr} : ∀ {ws : List (Key × V)} {kvs : List (Key × D)}, KVr K H ρ ws kvs → ws.length = kvs.length
  | _, _, .nil => rfl
  | _, _, .cons _ t => congrArg Nat.succ (KVr.length t)
theorem KVr.ext {K : PySem.W.Frag} {H H' : Hp} {ρ ρ' : List Addr} (x : Ext ρ H ρ' H') {ws : List (Key × V)} {kvs : List (Key × D)} (h : KVr K H ρ ws kvs) : KVr K H' ρ' ws kvs := paired_imp (fun _ _ r => ⟨r.1, r.2.ext x⟩) h
/-- the dict of a cell -/
def cellK (st : Store) (n : Nat) : Option (List (Key × D)) := match st[n]? with
  | some (.dic l) => some l
  | _ => none
theorem cellK_eq {st : Store} {n : Nat} {l : List (Key × D)} (h : cellK st n = some l) : st[n]? = some (.dic l) := by
  unfold cellK at h
  cases e : st[n]? with
  | none => rw [e] at h; cases h
  | some c =>
    rw [e] at h
    cases c with
    | dic l => cases h; rfl
    | lst _ => cases h
def dic0D : LS → Store → Out D := fun _ st => .ok (.ref st.length) (st ++ [.dic []])
theorem RS.newK {K : PySem.W.Frag} {H : Hp} {ρ : List Addr} {st : Store} {a : Addr} {ws : List (Key × V)} {kvs : List (Key × D)} (s : RS K H ρ st) (h : H a = none) (r : KVr K H ρ ws kvs) : RS K (upd H a (.dK ws)) (ρ ++ [a]) (st ++ [.dic kvs]) :=
  s.new h ⟨ws, upd_same, r.ext (Ext.cell h)⟩
theorem RS.writeK {K : PySem.W.Frag} {H : Hp} {ρ : List Addr} {st : Store} {a : Addr} {n : Nat} {ws : List (Key × V)} {kvs : List (Key × D)} (s : RS K H ρ st) (h : ρ[n]? = some a) (r : KVr K H ρ ws kvs) : RS K (upd H a (.dK ws)) ρ (st.set n (.dic kvs)) :=
  s.write h ⟨ws, upd_same, r.ext (Ext.write (List.mem_of_getElem? h))⟩
theorem de_dic0 : DE X W (.Dict [] [] pos) dic0D := pe_imp pe_dnewK fun σ H Q ⟨ρ, ls, st, A, q⟩ p hp => OO.here q (Ext.cell hp) (A.sto.newK hp .nil) (.ref (ref_new A.sto p))
/-- o[i] = v, o a dict -/
def putV (o i v : D) (st : Store) : Option Store := match o, keyD i with
  | .ref n, some c => (match cellK st n with
    | some kvs => if kvs.length < 16777216 then some (st.set n (.dic (putD kvs c v))) else none
    | none => none)
  | _, _ => none
def dputD (fo fi fe : LS → Store → Out D) : LS → Store → SO := fun ls st => ofE (fe ls st) ls fun v st1 => ofE (fo ls st1) ls fun o st2 => ofE (fi ls st2) ls fun i st3 => match putV o i v st3 with
  | some st4 => .nx ls st4
  | none => .bad
theorem ds_dput {o i : Expr} {fo fi : LS → Store → Out D} {pos' : Pos} (C : Ctx X W k) (ho : DE X W o fo) (hi : DE X W i fi) (he : DE X W e f) (hs : swapsWith e (some (.Subscript o i pos')) pos.line X.env = pure false := by rfl) :
    DS X W (.Assign [.Subscript o i pos'] e pos) (dputD fo fi f) := ps_imp (ps_dput (by have := C.rm.un; omega) ho hi he hs) fun N σ H ⟨ρ, ls, st, A, q⟩ => by
  refine ofE_read (R := rV X.K) (k := fun ls v st1 => ofE (fo ls st1) ls fun o st2 => ofE (fi ls st2) ls fun i st3 => match putV o i v st3 with | some st4 => .nx ls st4 | none => .bad) A q fun ρ1 v H1 d st1 x1 A1 r1 q1 => ?_
  refine ofE_read (R := rV X.K) (k := fun ls o st2 => ofE (fi ls st2) ls fun i st3 => match putV o i d st3 with | some st4 => .nx ls st4 | none => .bad) A1 q1 fun ρ2 vo H2 dO st2 x2 A2 r2 q2 => ?_
  refine ofE_read (R := rV X.K) (k := fun ls i st3 => match putV dO i d st3 with | some st4 => .nx ls st4 | none => .bad) A2 q2 fun ρ3 vi H3 di st3 x3 A3 r3 q3 => ?_
  cases e1 : putV dO di d st3 with
  | none => rw [e1] at q3; exact q3.elim
  | some st4 =>
    rw [e1] at q3
    have r2' := RV.ext x3 _ r2
    have r1' := RV.ext (x2.trans x3) _ r1
    unfold putV at e1
    split at e1
    · rename_i n c ek
      split at e1
      · rename_i kvs ec
        split at e1
        · rename_i hl
          cases e1
          cases r2' with
          | @ref a _ hr =>
            obtain ⟨ws, g1, g2⟩ := A3.sto.cell n a _ hr (cellK_eq ec)
            have ey := keyD_read r3 ek
            subst ey
            exact ⟨a, _, rfl, DPut.k g1 (by rw [g2.length, sizeLine_eq]; exact hl), PSO.doneNx (PSO.grow q3 (Ext.write (List.mem_of_getElem? hr))) (A3.grow (Ext.write (List.mem_of_getElem? hr)) (A3.sto.writeK hr (g2.put r1')))⟩
        · cases e1
      · cases e1
    · cases e1
/-- o.get(i, v), o a dict -/
def isDic (st : Store) : D → Bool
  | .ref n => (cellK st n).isSome
  | _ => false
def getV (o i v : D) (st : Store) : Out D := match o, keyD i with
  | .ref n, some c => (match cellK st n with
    | some kvs => .ok ((valD kvs c).getD v) st
    | none => .bad)
  | _, _ => .bad
def dget2D (fo fi fe : LS → Store → Out D) : LS → Store → Out D := fun ls st => (fo ls st).bind fun o st1 => if isDic st1 o = true then (fi ls st1).bind fun i st2 => (fe ls st2).bind fun v st3 => getV o i v st3 else .bad
theorem de_dget2 {o i : Expr} {fo fi : LS → Store → Out D} {apos cpos : Pos} (C : Ctx X W k) (ho : DE X W o fo) (hi : DE X W i fi) (he : DE X W e f) (m : M2 X o "get" apos i e cpos := by exact ⟨rfl, rfl, rfl, rfl⟩) :
    DE X W (.Call (.Attribute o "get" apos) [i, e] [] cpos) (dget2D fo fi f) := pe_imp (pe_dget2 (by have := C.rm.un; omega) ho hi he m) fun σ H Q ⟨ρ, ls, st, A, q⟩ => by
  refine tF_bind (R := rV X.K) (R2 := rV X.K) (f := fun ls o st1 => if isDic st1 o = true then (fi ls st1).bind fun i st2 => (f ls st2).bind fun v st3 => getV o i v st3 else .bad) A q fun ρ1 vo H1 dO st1 x1 A1 r1 q1 => ?_
  split at q1
  · rename_i hd
    cases dO with
    | ref n =>
      cases r1 with
      | @ref a _ hr =>
        obtain ⟨kvs, ek⟩ := Option.isSome_iff_exists.mp hd
        obtain ⟨ws, g1, g2⟩ := A1.sto.cell n a _ hr (cellK_eq ek)
        refine ⟨a, rfl, .inl ⟨ws, .inl g1⟩, ?_⟩
        refine tF_bind (R := rV X.K) (R2 := rV X.K) (f := fun ls i st2 => (f ls st2).bind fun v st3 => getV (.ref n) i v st3) A1 q1 fun ρ2 vi H2 di st2 x2 A2 r2 q2 => ?_
        refine tF_bind (R := rV X.K) (R2 := rV X.K) (f := fun _ v st3 => getV (.ref n) di v st3) A2 q2 fun ρ3 vv H3 dv st3 x3 A3 r3 q3 => ?_
        unfold getV at q3
        split at q3
        · rename_i n' c e0 ek2
          cases e0
          split at q3
          · rename_i kvs3 ec3
            have hr3 := x3.at (x2.at hr)
            obtain ⟨ws3, g3, g4⟩ := A3.sto.cell n a _ hr3 (cellK_eq ec3)
            have ey := keyD_read r2 ek2
            subst ey
            refine ⟨_, DGet.k g3, ?_⟩
            rcases g4.val c with ⟨h1, h2⟩ | ⟨v', d', h1, h2, h3⟩
            · rw [h1]; rw [h2] at q3; exact OO.done q3 A3.sto r3
            · rw [h1]; rw [h2] at q3; exact OO.done q3 A3.sto h3
          · exact q3.elim
        · exact q3.elim
    | _ => cases hd
  · exact q1.elim
end
end DD

set_option maxRecDepth 100000
set_option maxHeartbeats 2000000
/-! DD9: the head's facts (defs, exception classes, Bools), the law's end. -/
namespace DD
open PySem PySem.Spec PyProof.Rows L2

/-! ### classes whose __init__ says super().__init__() -/
structure CDef where
  nm : Str
  qual : Str
  params : Arguments
  body : List Stmt
  scope : Scope
abbrev FnC : Type := Option (Str × Str × Arguments × FuncBody × Scope × Addr × List Str × Addr)
def fnC (K : PySem.W.Frag) (x : Str) : FnC := match K.lookup (He.ma K (He.ga K x) "__init__") with
  | some ⟨_, _, .func fd, _⟩ => some (fd.name, fd.qualname, fd.params, fd.body, fd.scope, fd.globals, fd.closure.map (·.1), fd.builtins)
  | _ => none
def CDef.val (d : CDef) : FnC := some ("__init__", d.qual, d.params, .stmts d.body, d.scope, mainGlobals, ["__class__"], builtinsNs)
def dflNo (v : Value) : Bool := match v with
  | .none => true
  | _ => false
def fileB (K : PySem.W.Frag) (file : Str) (v : Value) : Bool := match v with
  | .ref a => (match K.lookup a with
    | some ⟨_, _, .fields vs, _⟩ => (match (vs[2]? : Option Value) with
      | some (Value.str f _) => decide (file = f)
      | _ => false)
    | _ => false)
  | _ => false
def cellB (K : PySem.W.Frag) (C : Addr) (l : List (Str × Addr)) : Bool := match l with
  | [(_, c)] => (match K.lookup c with
    | some ⟨_, _, .cell (some (.ref D)), _⟩ => decide (D = C)
    | _ => false)
  | _ => false
def ownB (K : PySem.W.Frag) (file : Str) (C : Addr) : Bool := match K.lookup (He.ma K C "__init__") with
  | some ⟨_, _, .func fd, _⟩ => dflNo fd.defaults && (PySem.W.codeIn K fd.code fd.qualname && (fileB K file fd.code && cellB K C fd.closure))
  | _ => false
def iniB (K : PySem.W.Frag) (file x : Str) : Bool :=
  PySem.W.excInitIn K (He.ga K x) PySem.HandSPX.veTail "ValueError.__new__" && (decide (PySem.W.subIn K (.ref (He.ga K x)) (.type "BaseException") = some true) && (decide (PySem.W.typeIn K (.ref (He.ga K x)) = some (.type "type")) && (PySem.W.keepIn K (.ref (He.ga K x)) &&
  (He.eqO (PySem.W.findIn K (.ref (He.ga K x)) "__init__") (some (some (.ref (He.ma K (He.ga K x) "__init__")))) && (decide (PySem.W.typeIn K (.ref (He.ma K (He.ga K x) "__init__")) = some (.type "function")) && (ownB K file (He.ga K x) &&
  (He.eqO (PySem.W.ks_superIn K (He.ga K x) (He.ga K x) "__init__") (some (some (.builtin "ValueError.__init__"))) && (decide (PySem.W.subIn K (.ref (He.ga K x)) (.type "ValueError") = some true) && (decide (PySem.W.mroIn K (He.ga K x) (.ref (He.ga K x)) = some true) &&
  He.eqO (PySem.W.nsIn K cStatics "thirdparty.any") (some none))))))))))
/-- what is seen of the text -/
structure IniText (params : Arguments) (body : List Stmt) (scope : Scope) : Prop where
  ex : ∃ (ar : Arg) (p0 p1 p2 p3 p4 : Pos), body = iniBody p0 p1 p2 p3 p4 ∧ (params.posonlyargs ++ params.args).head? = some ar ∧
    (∀ (nm q : Str) (kV doc pm ct : Value) (an : Option Addr) (cda cc : Addr) (u : Value), bindArgs (PySem.W.ksFn nm q params (iniBody p0 p1 p2 p3 p4) scope .none kV doc pm an (.ref cda) ct cc) ⟨[u], []⟩ = pure [(ar.arg, u)]) ∧
    scope.names.lookup ("super" : Str) = some .globalImplicit ∧ scope.names.lookup ("__class__" : Str) = some .free ∧ scope.names.lookup ar.arg = some .local ∧ scope.kind = .function ∧
    (∀ x ∈ scope.names, x.2 ≠ .cell) ∧ scope.isCoroutine = false ∧ scope.isGenerator = false ∧
    (∀ env : Env, env.scope = scope → swapsWith (.Call (.Attribute (.Call (.Name "super" p0) [] [] p1) "__init__" p2) [] [] p3) none p4.line env = pure false) ∧
    (∃ pl : Sem Bool, ∀ env : Env, eval (.Call (.Attribute (.Call (.Name "super" p0) [] [] p1) "__init__" p2) [] [] p3) env = (do
      let ov ← attributeBase (.Call (.Name "super" p0) [] [] p1) "__init__" env (eval (.Call (.Name "super" p0) [] [] p1) env)
      standAt p2.atName
      let (f, first) ← holding [ov] (getMethod ov "__init__" pl)
      callWith p3 f first (backTo p3 (starEach [] env)) []))
theorem fileB_ok {K : PySem.W.Frag} {file : Str} {v : Value} (h : fileB K file v = true) : ∃ cda ccl cdd vs ccs f tf, v = .ref cda ∧ K.lookup cda = some ⟨ccl, cdd, .fields vs, ccs⟩ ∧ vs[2]? = some (.str f tf) ∧ file = f := by
  unfold fileB at h
  split at h
  · rename_i a
    split at h
    · rename_i x1 x2 vs x3 e
      split at h
      · rename_i f t e2
        exact ⟨a, _, _, vs, _, f, t, rfl, e, e2, of_decide_eq_true h⟩
      · cases h
    · cases h
  · cases h
theorem cellB_ok {K : PySem.W.Frag} {C : Addr} {l : List (Str × Addr)} (h : cellB K C l = true) : ∃ n cc cl cld csl, l = [(n, cc)] ∧ K.lookup cc = some ⟨cl, cld, .cell (some (.ref C)), csl⟩ := by
  unfold cellB at h
  split at h
  · rename_i n c
    split at h
    · rename_i x1 x2 D x3 e
      have := of_decide_eq_true h
      subst this
      exact ⟨n, c, _, _, _, rfl, e⟩
    · cases h
  · cases h
theorem dflNo_ok {v : Value} (h : dflNo v = true) : v = .none := by
  cases v <;> first | rfl | cases h
theorem ini_of {prog : Program} {K : PySem.W.Frag} {d : CDef} (e : fnC K d.nm = d.val) (h : iniB K prog.main.file d.nm = true) (T : IniText d.params d.body d.scope) (top : (prog.main.scope.names.lookup ("super" : Str)).isSome = false) : Ini0 prog K (He.ga K d.nm) := by
  obtain ⟨h1, h⟩ := He.ba h
  obtain ⟨h2, h⟩ := He.ba h
  obtain ⟨h3, h⟩ := He.ba h
  obtain ⟨h4, h⟩ := He.ba h
  obtain ⟨h5, h⟩ := He.ba h
  obtain ⟨h6, h⟩ := He.ba h
  obtain ⟨h7, h⟩ := He.ba h
  obtain ⟨h8, h⟩ := He.ba h
  obtain ⟨h9, h⟩ := He.ba h
  obtain ⟨h10, h11⟩ := He.ba h
  obtain ⟨dnm, dq, dpa, dbo, dsc⟩ := d
  obtain ⟨ar, p0, p1, p2, p3, p4, rfl, t1, t2, t3, t4, t5, t6, t7, t8, t9, t10, t11⟩ := T.ex
  dsimp only at *
  refine ⟨⟨h1, of_decide_eq_true h2, of_decide_eq_true h3, h4⟩, ?_, He.eqO_ok h8, of_decide_eq_true h9, of_decide_eq_true h10, He.eqO_ok h11, top⟩
  unfold ownB at h7
  unfold fnC at e
  cases q : K.lookup (He.ma K (He.ga K dnm) "__init__") with
  | none => rw [q] at h7; cases h7
  | some o =>
    obtain ⟨oc, od, dt, osl⟩ := o
    rw [q] at h7 e
    cases dt with
    | func fd =>
      obtain ⟨n1, n2, n3, n4, n5, n6, n7, n8, n9, n10, n11, n12, n13, n14, n15⟩ := fd
      obtain ⟨g1, g⟩ := He.ba (show (dflNo n8 && (PySem.W.codeIn K n13 n2 && (fileB K prog.main.file n13 && cellB K (He.ga K dnm) n7))) = true from h7)
      obtain ⟨g2, g⟩ := He.ba g
      obtain ⟨g3, g4⟩ := He.ba g
      obtain ⟨cda, ccl, cdd, vs, ccs, f, tf, rfl, k1, k2, k3⟩ := fileB_ok g3
      obtain ⟨cn, cc, cl, cld, csl, rfl, k4⟩ := cellB_ok g4
      have e2 : (some (n1, n2, n3, n4, n5, n6, [cn], n15) : FnC) = (some ((("__init__" : Str)), dq, dpa, FuncBody.stmts (iniBody p0 p1 p2 p3 p4), dsc, mainGlobals, [(("__class__" : Str))], builtinsNs) : FnC) := e
      simp only [Option.some.injEq, Prod.mk.injEq, List.cons.injEq, and_true] at e2
      obtain ⟨q1, q2, q3, q4, q5, q6, q7, q8⟩ := e2
      subst q1 q2 q3 q4 q5 q6 q7 q8
      have q9 := dflNo_ok g1
      subst q9
      exact ⟨_, cda, cc, oc, od, osl, _, n2, n3, n5, n9, n10, n11, n14, n12, ar, p0, p1, p2, p3, p4, He.eqO_ok h5, of_decide_eq_true h6, q, g2, ⟨ccl, cdd, vs, ccs, f, tf, k1, k2, by rw [k3]; exact beq_self_eq_true _⟩, ⟨cl, cld, csl, k4⟩, t1, t2 _ _ _ _ _ _ _ _ _, t3, t4, t5, t6, t7, t8, t9, t10, t11⟩
    | _ => cases h7

/-! ### isinstance of exceptions: the classes that are asked -/
def excB (K : PySem.W.Frag) (x : Str) : Bool :=
  He.eqO (PySem.W.findIn K (.ref (He.ga K x)) "__getattribute__") (some (some (.builtin "BaseException.__getattribute__"))) && (He.eqO (PySem.W.findIn K (.ref (He.ga K x)) "__getattr__") (some none) && (decide (PySem.W.subIn K (.ref (He.ga K x)) (.type "BaseException") = some true) &&
  (PySem.W.hasDictIn K (He.ga K x) && (He.eqO (PySem.W.findIn K (.ref (He.ga K x)) "__class__") (some (some (.builtin "object.__class__"))) && (He.eqO (PySem.W.specialIn K (.builtin "object.__class__") "__get__") (some (some (.builtin "getset_descriptor.__get__"))) &&
  (decide (PySem.W.takesIn K (.builtin "object.__class__") = some true) && decide (PySem.W.mroIn K (He.ga K x) (.type "object") = some true)))))))
theorem excB_ok {K : PySem.W.Frag} {x : Str} (h : excB K x = true) : ExcC K (He.ga K x) := by
  obtain ⟨h1, h⟩ := He.ba h
  obtain ⟨h2, h⟩ := He.ba h
  obtain ⟨h3, h⟩ := He.ba h
  obtain ⟨h4, h⟩ := He.ba h
  obtain ⟨h5, h⟩ := He.ba h
  obtain ⟨h6, h⟩ := He.ba h
  obtain ⟨h7, h8⟩ := He.ba h
  exact ⟨He.eqO_ok h1, He.eqO_ok h2, of_decide_eq_true h3, h4, He.eqO_ok h5, He.eqO_ok h6, of_decide_eq_true h7, of_decide_eq_true h8⟩

/-! ### the Hook -/
abbrev AlF : Type := He.AlD × (List FnC × Bool)
def frF (n : Nat) (g : Addr → Option Obj) : PySem.W.Frag := He.frG g (He.asD g n ++ [cStatics])
def obsF (n : Nat) (fa : List He.Fa) (fn : List He.DefD) (cn : List CDef) (ex : PySem.W.Frag → Bool) (g : Addr → Option Obj) : AlF :=
  (He.obsD fa fn (frF n g), (cn.map fun d => fnC (frF n g) d.nm, ex (frF n g)))
def valF (fn : List He.DefD) (cn : List CDef) : AlF := (He.valD fn, (cn.map CDef.val, true))
structure SaysF (fa : List He.Fa) (fn : List He.DefD) (cn : List CDef) (ex : PySem.W.Frag → Bool) (K : PySem.W.Frag) : Prop where
  d : He.SaysD fa fn K
  c : (cn.map fun d => fnC K d.nm) = cn.map CDef.val
  x : ex K = true
def hookF (n : Nat) (fa : List He.Fa) (fn : List He.DefD) (cn : List CDef) (ex : PySem.W.Frag → Bool) : PySem.W.Hook where
  α := AlF
  obs := fun s => obsF n fa fn cn ex s.heap.get?
  val := fun _ => valF fn cn
  says := fun _ h => ∃ K : PySem.W.Frag, K.In h ∧ SaysF fa fn cn ex K
  of := fun _ _ e => ⟨_, He.frG_in, ⟨congrArg (fun z : AlF => z.1) e, congrArg (fun z : AlF => z.2.1) e, congrArg (fun z : AlF => z.2.2) e⟩⟩
  keeps := fun _ _ _ ⟨K, hK, c⟩ k => ⟨K, PySem.W.Frag.In.keeps hK k, c⟩
theorem obsF_eq {n : Nat} {fa : List He.Fa} {fn : List He.DefD} {cn : List CDef} {ex : PySem.W.Frag → Bool} {g : Addr → Option Obj} {s : Shared} (h : ∀ a, g a = s.heap.get? a) : obsF n fa fn cn ex g = (hookF n fa fn cn ex).obs s := by
  have e : g = s.heap.get? := funext h
  rw [e]; rfl
theorem SaysF.cls {fa : List He.Fa} {fn : List He.DefD} {cn : List CDef} {ex : PySem.W.Frag → Bool} {K : PySem.W.Frag} (c : SaysF fa fn cn ex K) (i : Nat) {d : CDef} (h : cn[i]? = some d := by rfl) : fnC K d.nm = d.val := by
  have e2 : (cn.map fun d => fnC K d.nm)[i]? = (cn.map CDef.val)[i]? := by rw [c.c]
  rw [List.getElem?_map, List.getElem?_map, h] at e2
  exact Option.some.inj e2

/-! ### the law's end -/
section
variable {P : Program} {w : World} {K : PySem.W.Frag} {mg mb : Str → Option Value} {k : Nat} {fa a : Addr} {fd : FuncData} {x : Str} {s1 : Shared} {vs : List Value} {ns : List Int} {H : Hp} {F : List D → Store → Out D}
abbrev scr (vs : List Value) : Obj := { cls := .type "list", data := .seq vs.toArray }
theorem endCore (KX : K.In s1.heap) (G : s1.heap.Ns mainGlobals mg) (B : s1.heap.Ns builtinsNs mb) (hmb : ∀ x : Str, x ≠ "__name__" → mb x = bootBuiltins x) (lim : s1.heap.NoLimit) (hg : s1.gens = #[]) (ha : s1.heap.get? a = some (scr vs)) (hr : Room k callerA)
    (fn : ∀ base : Heap, K.In base → base.Ns mainGlobals mg → FnG P w K mg base k fa fd [x] (spD K mg 1 F)) (hb : ∀ (s : Shared) (u : Value), BindsTo s fd ⟨[u], []⟩ [(x, u)]) (hF : ∃ st', F [.cst (ns.map D.int)] [] = .ok (.bl true) st')
    (hO : ∀ b u, H b = some u → b = a ∧ ∃ xs, u = .frz (scr vs) (.lst xs)) (hS : FC K H [] a (ns.map V.int)) (hok : HOk P w H s1.heap) (hK : H a ≠ none → K.lookup a = none) :
    codeAny (model P w) callerA (.call (.ref fa) ⟨[.ref a], []⟩) (fun r s' => r = .ok (.ret (.bool true)) ∧ OldK s1.heap s'.heap ∧ s'.os = s1.os ∧ AllBare s'.gens) s1 := by
  have free : ∀ {b : Addr}, b ≠ a → H b = none := fun {b} n => by
    cases q : H b with
    | none => rfl
    | some u => exact absurd (hO b u q).1 n
  have nsA : ∀ {b : Addr} {m : Str → Option Value}, s1.heap.Ns b m → (hidT s1.heap H).Ns b m := fun {b m} ⟨o, es, ep, e, d, r⟩ => by
    refine ⟨o, es, ep, hidT_get e (free fun z => ?_), d, r⟩
    rw [z, ha] at e
    cases e
    have d : Data.seq vs.toArray _ = Data.dict es ep := d
    cases d
  have inA : K.In (hidT s1.heap H) := fun b o e => hidT_get (KX b o e) (by
    by_cases z : b = a
    · cases q : H b with
      | none => rfl
      | some u =>
        rw [z] at e q
        rw [hK (by rw [q]; exact fun y => nomatch y)] at e
        cases e
    · exact free z)
  have modA : Mod K mg (hidT s1.heap H) := ⟨inA, nsA G, ⟨mb, nsA B, hmb⟩, let ⟨mc, h1, h2⟩ := lim; ⟨mc, nsA h1, h2⟩⟩
  have env : Env0 P w K mg (hidT s1.heap H) callerA [] s1 H := ⟨rfl, modA, fun b o e => of_hidT e, Nat.le_of_eq (hidT_size _ _), trivial, fun b z => absurd (show b ∈ ([] : List Addr) from z) List.not_mem_nil, hok, .of_eq hg⟩
  have pre : spD K mg 1 F [.ref a] H (fun v _ => v = .bl true) (fun _ _ _ => False) := by
    obtain ⟨st', e⟩ := hF
    refine ⟨[], [.cst (ns.map D.int)], [], rfl, ⟨List.nodup_nil, rfl, fun n a c h => by simp at h⟩, .cons (.cst hS (RVs.of_ints ns)) .nil, ?_⟩
    rw [e]
    intro ρ' v H' _ _ r
    cases r
    rfl
  refine codeAny_mono ((fn _ inA (nsA G)).run callerA [] s1 H ⟨[.ref a], []⟩ [.ref a] [.ref a] _ _ hr rfl env (hb s1 (.ref a)) (.cons rfl .nil) pre) fun r s' h => ?_
  cases r with
  | error e =>
    obtain ⟨_, _, _, _, _, _, _, _, _, _, _, _, z⟩ := h
    exact z.elim
  | ok fl =>
    cases fl with
    | ret u =>
      obtain ⟨v, H', os, bare, un, hok', rv, rfl⟩ := h
      obtain rfl : u = Value.bool true := rv
      refine ⟨rfl, OldK.of_keep fun b o e => ?_, os, bare⟩
      cases q : H b with
      | none => exact un.keep b o e q (fun z => absurd (show b ∈ ([] : List Addr) from z) List.not_mem_nil) List.not_mem_nil
      | some u =>
        obtain ⟨_, xs, rfl⟩ := hO b u q
        have e1 := (hok b _ q).1
        have e2 := (hok' b _ (un.frzs b _ _ q)).1
        rw [e] at e1
        cases e1
        exact e2
    | _ => exact False.elim h
theorem endCall (KX : K.In s1.heap) (G : s1.heap.Ns mainGlobals mg) (B : s1.heap.Ns builtinsNs mb) (hmb : ∀ x : Str, x ≠ "__name__" → mb x = bootBuiltins x) (lim : s1.heap.NoLimit) (hg : s1.gens = #[]) (ha : s1.heap.get? a = some (scr vs)) (hi : IntsAre vs ns) (hl : ns.length ≤ sizeLine) (hr : Room k callerA)
    (fn : ∀ base : Heap, K.In base → base.Ns mainGlobals mg → FnG P w K mg base k fa fd [x] (spD K mg 1 F)) (hb : ∀ (s : Shared) (u : Value), BindsTo s fd ⟨[u], []⟩ [(x, u)]) (hF : ∃ st', F [.cst (ns.map D.int)] [] = .ok (.bl true) st') :
    codeAny (model P w) callerA (.call (.ref fa) ⟨[.ref a], []⟩) (fun r s' => r = .ok (.ret (.bool true)) ∧ OldK s1.heap s'.heap ∧ s'.os = s1.os ∧ AllBare s'.gens) s1 := by
  have rv := vals_ints hi
  cases hk : K.lookup a with
  | some o =>
    have e := KX a o hk
    rw [ha] at e
    cases e
    exact endCore (H := fun _ => none) KX G B hmb lim hg ha hr fn hb hF (fun b u z => nomatch (show (none : Option HO) = some u from z)) (.inr ⟨_, vs.toArray, _, hk, rfl, rfl, rfl, by rw [List.size_toArray, hi.length]; exact hl, by simpa using rv⟩)
      (fun b u z => nomatch (show (none : Option HO) = some u from z)) fun z => absurd rfl z
  | none =>
    have one : ∀ b u, (if b = a then some (HO.frz (scr vs) (.lst (ns.map V.int))) else none) = some u → b = a ∧ u = .frz (scr vs) (.lst (ns.map V.int)) := fun b u z => by
      by_cases q : b = a
      · rw [if_pos q] at z; cases z; exact ⟨q, rfl⟩
      · rw [if_neg q] at z; cases z
    refine endCore (H := fun b => if b = a then some (.frz (scr vs) (.lst (ns.map V.int))) else none) KX G B hmb lim hg ha hr fn hb hF (fun b u z => ⟨(one b u z).1, _, (one b u z).2⟩) (.inl ⟨⟨scr vs, if_pos rfl⟩, List.not_mem_nil⟩) (fun b u z => ?_) fun _ => hk
    obtain ⟨rfl, rfl⟩ := one b u z
    exact ⟨ha, by rw [List.length_map]; exact hl, vs, _, rv, ha⟩
end
/-- the law's goal behind the head -/
theorem endWalk {l : PySem.W.OpenLaw} {n k : Nat} {q : Program} {loose : List Str} {XP : (Str → Option Value) → Heap → Prop} {YP : World → Heap → Prop} {d : DefRec} {x : Str}
    (hn : l.most = some n) (hn2 : n ≤ sizeLine) (hdf : d.params.defaults = []) (hr : Room k callerA)
    (W : ∀ (w : World) (mg : Str → Option Value) (fa : Addr) (h : Heap), YP w h → h.Ns mainGlobals mg → mg d.name = some (.ref fa) →
      ∃ (K : PySem.W.Frag) (fd : FuncData) (F : List D → Store → Out D), K.In h ∧ (∀ (s : Shared) (u : Value), BindsTo s fd ⟨[u], []⟩ [(x, u)]) ∧
        (∀ ns : List Int, ns.length ≤ n → ∃ st', F [.cst (ns.map D.int)] [] = .ok (.bl true) st') ∧
        ∀ base : Heap, K.In base → base.Ns mainGlobals mg → FnG l.prog w K mg base k fa fd [x] (spD K mg 1 F)) :
    PySem.W.WalkO q loose XP YP l.row.toRowW d [] (fun f vs => PySem.call f vs) := by
  refine Att.attach_call hn hdf fun w s0 s1 mg mb fa o pm cd doc a vs ns G Y ho hd hcd hmg hobj hints hlen hg => ?_
  obtain ⟨K, fd, F, KX, hb, hsp, hF⟩ := W w mg fa _ Y G.T.g hmg
  exact endCall KX G.T.g G.T.b G.T.builtins G.T.nolimit hg hobj hints (Nat.le_trans hlen hn2) hr hF hb (hsp ns hlen)
end DD

set_option maxRecDepth 100000
set_option maxHeartbeats 2000000
/-! DD10: functions by what is good of them; how meanings are computed; loops. -/
namespace DD
open PySem PySem.Spec PyProof.Rows L2

/-! ### a def's function, chosen among what its body's outcome may be packed to -/
noncomputable def viaF (m : Nat) (g : LS → Store → SO) (Good : List D → Store → Out D → Prop) : List D → Store → Out D := fun ds st =>
  open Classical in if h : ∃ o, Good ds st o ∧ (ltS st.length st = true → ltDs st.length ds = true → Pk st.length (endO (g (startD m ds) st)) o) then Classical.choose h else .bad
theorem viaF_sem (m : Nat) (g : LS → Store → SO) (Good : List D → Store → Out D → Prop) (ds : List D) (st : Store) (h1 : ltS st.length st = true) (h2 : ltDs st.length ds = true) : Pk st.length (endO (g (startD m ds) st)) (viaF m g Good ds st) ∨ viaF m g Good ds st = .bad := by
  unfold viaF
  split
  · rename_i h
    exact .inl ((Classical.choose_spec h).2 h1 h2)
  · exact .inr rfl
theorem viaF_good {m : Nat} {g : LS → Store → SO} {Good : List D → Store → Out D → Prop} {ds : List D} {st : Store} {o : Out D} (h : Good ds st o) (hp : ltS st.length st = true → ltDs st.length ds = true → Pk st.length (endO (g (startD m ds) st)) o) : Good ds st (viaF m g Good ds st) := by
  have ex : ∃ o, Good ds st o ∧ (ltS st.length st = true → ltDs st.length ds = true → Pk st.length (endO (g (startD m ds) st)) o) := ⟨o, h, hp⟩
  unfold viaF
  rw [dif_pos ex]
  exact (Classical.choose_spec ex).1
/-- where the outcome is told outright -/
theorem viaF_eq {m : Nat} {g : LS → Store → SO} {Good : List D → Store → Out D → Prop} {ds : List D} {st : Store} {o : Out D} (h : Good ds st o) (u : ∀ o', Good ds st o' → o' = o) (hp : ltS st.length st = true → ltDs st.length ds = true → Pk st.length (endO (g (startD m ds) st)) o) : viaF m g Good ds st = o := u _ (viaF_good h hp)

/-! ### packing -/
theorem Pk.of_eq {n : Nat} {o o' : Out D} (h : o = o') : Pk n o o' := h ▸ .same o
/-- the store as it was, garbage behind it -/
theorem Pk.dropG {st : Store} {d : D} (g : Store) (h1 : ltS st.length st = true) (h2 : ltD st.length d = true) : Pk st.length (.ok d (st ++ g)) (.ok d st) := .ok (Pack.drop g (Nat.le_refl _) h1 h2)
theorem Pk.dropX {st : Store} {c : Str} (g : Store) (h1 : ltS st.length st = true) : Pk st.length (.ex ⟨c, []⟩ (st ++ g)) (.ex ⟨c, []⟩ st) := .ex (Pack.drop g (Nat.le_refl _) h1 rfl)
theorem set_take {st : Store} {n m : Nat} {c : Cell} : st.set n c ++ [] = st.set n c := List.append_nil _
theorem ltDs_mono {k k' : Nat} (h : k ≤ k') : (∀ d, ltD k d = true → ltD k' d = true) ∧ ∀ l, ltDs k l = true → ltDs k' l = true := by
  have key : ∀ n : Nat, (∀ d : D, sizeOf d < n → ltD k d = true → ltD k' d = true) ∧ ∀ l : List D, sizeOf l < n → ltDs k l = true → ltDs k' l = true := by
    intro n
    induction n with
    | zero => exact ⟨fun d h => absurd h (Nat.not_lt_zero _), fun d h => absurd h (Nat.not_lt_zero _)⟩
    | succ n ih =>
      refine ⟨fun d hd e => ?_, fun l hl e => ?_⟩
      · cases d with
        | ref m => simp only [ltD, decide_eq_true_eq] at e ⊢; omega
        | tup l => simp only [ltD] at e ⊢; exact ih.2 l (by simp at hd; omega) e
        | lst l => simp only [ltD] at e ⊢; exact ih.2 l (by simp at hd; omega) e
        | cst l => simp only [ltD] at e ⊢; exact ih.2 l (by simp at hd; omega) e
        | _ => rfl
      · cases l with
        | nil => rfl
        | cons d l =>
          simp only [ltDs, Bool.and_eq_true] at e ⊢
          exact ⟨ih.1 d (by simp at hl; omega) e.1, ih.2 l (by simp at hl; omega) e.2⟩
  exact ⟨fun d => (key (sizeOf d + 1)).1 d (Nat.lt_succ_self _), fun l => (key (sizeOf l + 1)).2 l (Nat.lt_succ_self _)⟩
theorem ltS_set {st : Store} {n k : Nat} {c : Cell} (h : ltS k st = true) (hc : ltC k c = true) : ltS k (st.set n c) = true := by
  unfold ltS at h ⊢
  rw [List.all_eq_true] at h ⊢
  intro x hx
  rcases List.mem_or_eq_of_mem_set hx with q | rfl
  · exact h x q
  · exact hc
/-- one cell changed, garbage behind -/
theorem Pk.dropS {st : Store} {d : D} {n : Nat} {c : Cell} (g : Store) (h1 : ltS st.length st = true) (hc : ltC st.length c = true) (h2 : ltD st.length d = true) : Pk st.length (.ok d (st.set n c ++ g)) (.ok d (st.set n c)) := by
  have hl : (st.set n c).length = st.length := List.length_set
  exact .ok (Pack.drop g (by rw [hl]; exact Nat.le_refl _) (by rw [hl]; exact ltS_set h1 hc) (by rw [hl]; exact h2))

/-! ### blocks -/
def blkB (N : List Str) (sc scope : Scope) (own : List (Str × Nat)) : Bool :=
  (match scope.kind with | .function => true | _ => false) && (scope.names.all (fun y => decide (scope.names.lookup y.1 = some y.2)) && (own.all (fun p => decide (N[p.2]? = some p.1)) &&
  (scope.names.all (fun y => !decide (y.2 = .free) || (decide (sc.names.lookup y.1 = some .cell) || decide (sc.names.lookup y.1 = some .free))) &&
  scope.names.all (fun y => !(decide (y.2 = .local) || decide (y.2 = .cell)) || ((own.map (·.1)).contains y.1 || !N.contains y.1)))))
theorem blkOk {N : List Str} {sc scope : Scope} {own : List (Str × Nat)} (h : blkB N sc scope own = true) : BlkOk N sc scope own := by
  obtain ⟨h1, h⟩ := He.ba h
  obtain ⟨h2, h⟩ := He.ba h
  obtain ⟨h3, h⟩ := He.ba h
  obtain ⟨h4, h5⟩ := He.ba h
  refine ⟨?_, fun y hy => of_decide_eq_true (List.all_eq_true.mp h2 y hy), fun p hp => of_decide_eq_true (List.all_eq_true.mp h3 p hp), fun y hy e => ?_, fun y hy e => ?_⟩
  · split at h1
    · assumption
    · cases h1
  · have := List.all_eq_true.mp h4 y hy
    rw [decide_eq_true e] at this
    simpa using this
  · have := List.all_eq_true.mp h5 y hy
    have q : (decide (y.2 = NameKind.local) || decide (y.2 = NameKind.cell)) = true := by
      rcases e with e | e <;> rw [e] <;> rfl
    rw [q] at this
    simpa using this
theorem fun_of {K : PySem.W.Frag} {x q : Str} {st : Stmt} {f : Addr} {fd : FuncData} (F : FunD K x q (defArgs st) (defBody st) (defScope st) [] [] f fd) : L2.Fun K x q st f fd := by
  obtain ⟨oc, od, dV, kV, doc, pm, an, cdv, ct, osl, e, lk, hcd, hD, _⟩ := F.ex
  rcases hD with ⟨_, rfl⟩ | ⟨z, _⟩
  · exact ⟨⟨oc, od, kV, doc, pm, an, cdv, ct, osl, e, lk, hcd⟩, F.kp⟩
  · exact absurd rfl z
abbrev wE (E : XK) : WX := fun c d _ H => E c d H
abbrev cxD (P : Program) (w : World) (K : PySem.W.Frag) (mg : Str → Option Value) (base : Heap) (N : List Str) (q : Str) (st : Stmt) (f : Addr) (cdv : Value) (A : Around) (outer : List Env) (s : Shared) (H : Hp) (E : XK) : Cx :=
  cxOf (L2.CX P w) P w K mg base N q (defScope st) f cdv A outer s H E
end DD

set_option maxRecDepth 100000
set_option maxHeartbeats 2000000
/-! DD11: how meanings are computed: simp lemmas, loops, comprehensions. -/
namespace DD
open PySem PySem.Spec PyProof.Rows L2

section
variable {ls : LS} {st : Store} {d e x : D} {i j : Int} {n m : Nat} {f fa fb fc : LS → Store → Out D} {fr : LS → Store → Out (List D)} {t ta tb : LS → Store → Out Bool} {g g1 g2 : LS → Store → SO} {F : D → D → Store → Out D} {G : D → LS → Store → Out LS}
@[simp] theorem seqD_eq : seqD g1 g2 ls st = (match g1 ls st with | .nx l s => g2 l s | o => o) := rfl
@[simp] theorem skipD_eq : skipD ls st = .nx ls st := rfl
@[simp] theorem retD_eq : retD f ls st = ofE (f ls st) ls fun d st1 => .rt d st1 := rfl
@[simp] theorem dropD_eq : dropD f ls st = ofE (f ls st) ls fun _ st1 => .nx ls st1 := rfl
@[simp] theorem asgD_eq : asgD f G ls st = ofE (f ls st) ls fun d st1 => (match G d ls st1 with | .ok ls' st' => .nx ls' st' | _ => .bad) := rfl
@[simp] theorem ifS_eq : ifS t g1 g2 ls st = ofE (t ls st) ls fun b st1 => if b = true then g1 ls st1 else g2 ls st1 := rfl
@[simp] theorem neverD_eq : neverD ls st = .bad := rfl
@[simp] theorem raiseD_eq {c : Str} : raiseD c ls st = .ex ⟨c, []⟩ ls st := rfl
@[simp] theorem parD_eq : parD n m fr ls st = ofE (fr ls st) ls fun ds st1 => (match ds with | [d, e] => .nx (setL (setL ls n d) m e) st1 | _ => .bad) := rfl
@[simp] theorem parD3_eq {l : Nat} : parD3 n m l fr ls st = ofE (fr ls st) ls fun ds st1 => (match ds with | [d, e, f] => .nx (setL (setL (setL ls n d) m e) l f) st1 | _ => .bad) := rfl
@[simp] theorem nameG_eq : nameG n d ls st = .ok (setL ls n d) st := rfl
@[simp] theorem varD_eq : varD n ls st = (match getL ls n with | some d => .ok d st | none => .bad) := rfl
@[simp] theorem litD_eq : litD d ls st = .ok d st := rfl
@[simp] theorem bin2_eq : bin2 F fa fb ls st = (fa ls st).bind fun x st1 => (fb ls st1).bind fun y st2 => F x y st2 := rfl
@[simp] theorem un1_eq {F : D → Store → Out D} : un1 F fa ls st = (fa ls st).bind fun x st1 => F x st1 := rfl
@[simp] theorem boolD_eq : boolD f ls st = asB (f ls st) := rfl
@[simp] theorem testD_eq : testD f ls st = (f ls st).bind fun d st1 => (match truD st1 d with | some b => .ok b st1 | none => .bad) := rfl
@[simp] theorem notT_eq : notT t ls st = (t ls st).bind fun b st1 => .ok (!b) st1 := rfl
@[simp] theorem andT_eq : andT ta tb ls st = (ta ls st).bind fun b st1 => if b = true then tb ls st1 else .ok false st1 := rfl
@[simp] theorem orT_eq : orT ta tb ls st = (ta ls st).bind fun b st1 => if b = true then .ok true st1 else tb ls st1 := rfl
@[simp] theorem andV_eq : andV fa fb ls st = (asB (fa ls st)).bind fun b st1 => if b = true then fb ls st1 else .ok (.bl false) st1 := rfl
@[simp] theorem orV_eq : orV fa fb ls st = (asB (fa ls st)).bind fun b st1 => if b = true then .ok (.bl true) st1 else fb ls st1 := rfl
@[simp] theorem notV_eq : notV fa ls st = (asB (fa ls st)).bind fun b st1 => .ok (.bl (!b)) st1 := rfl
@[simp] theorem ifE_eq : ifE t fa fb ls st = (t ls st).bind fun b st1 => if b = true then fa ls st1 else fb ls st1 := rfl
@[simp] theorem callD_eq {F : List D → Store → Out D} : callD F fr ls st = (fr ls st).bind fun ds st1 => F ds st1 := rfl
@[simp] theorem nilA_eq : nilA ls st = .ok [] st := rfl
@[simp] theorem consA_eq : consA fa fr ls st = (fa ls st).bind fun x st1 => (fr ls st1).bind fun xs st2 => .ok (x :: xs) st2 := rfl
@[simp] theorem tupD_eq : tupD fr ls st = (fr ls st).bind fun xs st1 => if xs.length ≤ 16777216 then .ok (.tup xs) st1 else .bad := rfl
@[simp] theorem lstD_eq : lstD fr ls st = (fr ls st).bind fun xs st1 => if xs.length ≤ 16777216 then .ok (.ref st1.length) (st1 ++ [.lst xs]) else .bad := rfl
@[simp] theorem chainD_eq {F G : D → D → Store → Out D} : chainD F G fa fb fc ls st = (fa ls st).bind fun x st1 => (fb ls st1).bind fun y st2 => (asB (F x y st2)).bind fun k st3 => if k = true then (fc ls st3).bind fun z st4 => G y z st4 else .ok (.bl false) st3 := rfl
@[simp] theorem methD_eq {T : Ty} {F : D → List D → Store → Out D} : methD T F f fr ls st = (f ls st).bind fun d st1 => if tyD st1 d = some T then (fr ls st1).bind fun ds st2 => F d ds st2 else .bad := rfl
@[simp] theorem seqI_eq : seqI f ls st = (f ls st).bind fun d st1 => (match itsOf d st1 with | some its => .ok its st1 | none => .bad) := rfl
@[simp] theorem subG_eq {d : D} : subG fa fb d ls st = (fa ls st).bind fun o st1 => (fb ls st1).bind fun i st2 => (setIx o i d st2).bind fun _ st3 => .ok ls st3 := rfl
@[simp] theorem dic0D_eq : dic0D ls st = .ok (.ref st.length) (st ++ [.dic []]) := rfl
@[simp] theorem nilG_eq : nilG [] ls st = .ok ls st := rfl
@[simp] theorem consG_eq {gs : List D → LS → Store → Out LS} {ds : List D} : consG G gs (d :: ds) ls st = (match G d ls st with | .ok ls1 st1 => gs ds ls1 st1 | _ => .bad) := rfl
@[simp] theorem tupG_eq {gs : List D → LS → Store → Out LS} {l : List D} : tupG n gs (.tup l) ls st = if l.length = n then gs l ls st else .bad := rfl
@[simp] theorem noP_eq : noP ls st = .ok none st := rfl
@[simp] theorem someP_eq : someP f ls st = (f ls st).bind fun d st1 => (match d with | .int i => .ok (some i) st1 | _ => .bad) := rfl
@[simp] theorem slD_eq {fl fh : LS → Store → Out (Option Int)} : slD f fl fh ls st = (f ls st).bind fun d st1 => (fl ls st1).bind fun lo st2 => (fh ls st2).bind fun hi st3 => slV d lo hi st3 := rfl
@[simp] theorem yesT_eq : yesT ls st = .ok true st := rfl
@[simp] theorem forD_eq {fi : LS → Store → Out Its} : forD fi G g ls st = ofE (fi ls st) ls fun its st1 => forL (okB its) G g its.l ls st1 := rfl
@[simp] theorem lcD_eq {fi : LS → Store → Out Its} {vs : List Nat} : lcD fi G t f vs ls st = (fi ls st).bind fun its st1 => lcL (okB its) st1.length G t f (wipeL ls vs) its.l (st1 ++ [.lst []]) := rfl
@[simp] theorem endO_rt : endO (.rt d st) = .ok d st := rfl
@[simp] theorem endO_nx : endO (.nx ls st) = .ok .non st := rfl
@[simp] theorem endO_ex {y : Exc} : endO (.ex y ls st) = .ex y st := rfl
@[simp] theorem truD_bl {b : Bool} : truD st (.bl b) = some b := rfl
@[simp] theorem truD_int : truD st (.int i) = some (i != 0) := rfl
/-! operators -/
@[simp] theorem addV_int : addV (.int i) (.int j) st = .ok (.int (i + j)) st := rfl
@[simp] theorem subV_int : subV (.int i) (.int j) st = .ok (.int (i - j)) st := rfl
@[simp] theorem negV_int : negV (.int i) st = .ok (.int (-i)) st := rfl
@[simp] theorem ltV_int : ltV (.int i) (.int j) st = .ok (.bl (decide (i < j))) st := rfl
@[simp] theorem leV_int : leV (.int i) (.int j) st = .ok (.bl (decide (i ≤ j))) st := rfl
@[simp] theorem gtV_int : gtV (.int i) (.int j) st = .ok (.bl (decide (j < i))) st := rfl
@[simp] theorem geV_int : geV (.int i) (.int j) st = .ok (.bl (decide (j ≤ i))) st := rfl
theorem shaped_int : SeqAt.shaped (.int i) = true := rfl
@[simp] theorem eqV_int : eqF false (.int i) (.int j) st = .ok (.bl (decide (i = j))) st := by
  show (if SeqAt.shaped (PyData.int i) = true ∧ SeqAt.shaped (PyData.int j) = true then Out.ok (D.bl (PyData.eqv (.int i) (.int j))) st else .bad) = _
  rw [if_pos ⟨shaped_int, shaped_int⟩]
  have : PyData.eqv (.int i) (.int j) = decide (i = j) := by rw [PyData.eqv]; exact Bool.eq_iff_iff.mpr (by simp)
  rw [this]
@[simp] theorem neV_int : eqF true (.int i) (.int j) st = .ok (.bl (decide (i ≠ j))) st := by
  show (if SeqAt.shaped (PyData.int i) = true ∧ SeqAt.shaped (PyData.int j) = true then Out.ok (D.bl (!PyData.eqv (.int i) (.int j))) st else .bad) = _
  rw [if_pos ⟨shaped_int, shaped_int⟩]
  have : PyData.eqv (.int i) (.int j) = decide (i = j) := by rw [PyData.eqv]; exact Bool.eq_iff_iff.mpr (by simp)
  rw [this]
  simp
@[simp] theorem modV_int : modV (.int i) (.int j) st = if j = 0 then .bad else .ok (.int (i.fmod j)) st := rfl
@[simp] theorem fdivV_int : fdivV (.int i) (.int j) st = if divOk j = true then .ok (.int (i.fdiv j)) st else .bad := rfl
@[simp] theorem fmod_pos (h : 0 ≤ j) : i.fmod j = i % j := Int.fmod_eq_emod_of_nonneg _ h
@[simp] theorem fdiv_pos (h : 0 ≤ j) : i.fdiv j = i / j := Int.fdiv_eq_ediv_of_nonneg _ h
@[simp] theorem mulV_int : mulV (.int i) (.int j) st = if mulOk i j = true then .ok (.int (i * j)) st else .bad := rfl
@[simp] theorem powV_int : powV (.int i) (.int j) st = if okP (0 ≤ j ∧ j ≤ 1000 ∧ -18446744073709551616 < i ∧ i < 18446744073709551616) = true then .ok (.int (i ^ j.toNat)) st else .bad := rfl
@[simp] theorem ixD_tup {l : List D} : ixD (.tup l) (.int i) st = (match atI l i with | some v => .ok v st | none => .bad) := rfl
@[simp] theorem ixD_lst {l : List D} : ixD (.lst l) (.int i) st = (match atI l i with | some v => .ok v st | none => .bad) := rfl
@[simp] theorem absV_int : absV' [.int i] st = .ok (.int (if i < 0 then -i else i)) st := rfl
@[simp] theorem intV_int : intV [.int i] st = .ok (.int i) st := rfl
@[simp] theorem lenV_tup {l : List D} : lenV [.tup l] st = .ok (.int l.length) st := rfl
@[simp] theorem lenV_lst {l : List D} : lenV [.lst l] st = .ok (.int l.length) st := rfl
@[simp] theorem lenV_cst {l : List D} : lenV [.cst l] st = .ok (.int l.length) st := rfl
@[simp] theorem itsOf_tup {l : List D} : itsOf (.tup l) st = some ⟨l, []⟩ := rfl
@[simp] theorem itsOf_lst {l : List D} : itsOf (.lst l) st = some ⟨l, []⟩ := rfl
@[simp] theorem itsOf_cst {l : List D} : itsOf (.cst l) st = some ⟨l, []⟩ := rfl
theorem itsOf_ref {l : List D} (h : st[n]? = some (.lst l)) : itsOf (.ref n) st = some ⟨l, [(n, l)]⟩ := by unfold itsOf; simp only [h]
@[simp] theorem itsOf_new {l : List D} : itsOf (.ref st.length) (st ++ [.lst l]) = some ⟨l, [(st.length, l)]⟩ := itsOf_ref (by simp)
@[simp] theorem isTup_tup {l : List D} : isTup (.tup l) = true := rfl
@[simp] theorem isTup_ref : isTup (.ref n) = false := rfl
@[simp] theorem isTup_lst {l : List D} : isTup (.lst l) = false := rfl
@[simp] theorem isTup_cst {l : List D} : isTup (.cst l) = false := rfl
@[simp] theorem tyD_int : tyD st (.int i) = some .int := rfl
@[simp] theorem tyD_bl {b : Bool} : tyD st (.bl b) = some .bl := rfl
@[simp] theorem tyD_non : tyD st .non = some .non := rfl
@[simp] theorem tyD_str {y : Str} : tyD st (.str y) = some .str := rfl
@[simp] theorem tyD_tup {l : List D} : tyD st (.tup l) = some .tup := rfl
@[simp] theorem tyD_lst {l : List D} : tyD st (.lst l) = some .lst := rfl
@[simp] theorem isiV_some {T : Ty} : isiV T d st = (match tyD st d with | some u => .ok (.bl (u.isA T)) st | none => .bad) := rfl
theorem tyD_ref {l : List D} (h : st[n]? = some (.lst l)) : tyD st (.ref n) = some .lst := by unfold tyD; simp only [h]
end
@[simp] theorem startD_cons (m : Nat) (d : D) (ds : List D) : startD (m + 1) (d :: ds) = some d :: startD m ds := by simp [startD]
@[simp] theorem startD_nil (m : Nat) : startD (m + 1) [] = none :: startD m [] := by simp [startD, List.replicate_succ]
@[simp] theorem startD_zero : startD 0 [] = [] := rfl

@[simp] theorem boolsOf_mapf (f : D → Bool) (l : List D) : boolsOf (l.map fun x => .bl (f x)) = some (l.map f) := by
  have : (l.map fun x => D.bl (f x)) = (l.map f).map D.bl := by simp
  rw [this, boolsOf_map]
@[simp] theorem intsOf_mapf (f : D → Int) (l : List D) : intsOf (l.map fun x => .int (f x)) = some (l.map f) := by
  have : (l.map fun x => D.int (f x)) = (l.map f).map D.int := by simp
  rw [this, intsOf_map]
@[simp] theorem onL_new {k : List D → Store → Out D} {st : Store} {l : List D} : onL k [.ref st.length] (st ++ [.lst l]) = k l (st ++ [.lst l]) := by
  unfold onL
  simp
theorem ty_tup {st : Store} {d : D} (h : tyD st d = some .tup) : ∃ l, d = .tup l := by
  cases d with
  | tup l => exact ⟨l, rfl⟩
  | ref n =>
    unfold tyD at h
    cases e : st[n]? with
    | none => simp [e] at h
    | some c => cases c <;> simp [e] at h
  | _ => cases h
@[simp] theorem isA_self (t : Ty) : t.isA t = true := by cases t <;> rfl
@[simp] theorem isA_tup (t : Ty) : t.isA .tup = decide (t = .tup) := by cases t <;> rfl
@[simp] theorem isA_str (t : Ty) : t.isA .str = decide (t = .str) := by cases t <;> rfl
@[simp] theorem isA_lst (t : Ty) : t.isA .lst = decide (t = .lst) := by cases t <;> rfl

/-! ### for -/
section
variable {α : Type} {ok : Store → Bool} {g : D → LS → Store → Out LS} {b : LS → Store → SO}
theorem for_fold (R : α → LS → Store → Prop) (f : α → D → α) (hok : ∀ x ls st, R x ls st → ok st = true) : ∀ (l : List D) (x : α) (ls : LS) (st : Store), R x ls st →
    (∀ d ∈ l, ∀ x ls st, R x ls st → ∃ ls1 st1 ls2 st2, g d ls st = .ok ls1 st1 ∧ (b ls1 st1 = .nx ls2 st2 ∨ b ls1 st1 = .ct ls2 st2) ∧ R (f x d) ls2 st2) → ∃ ls' st', forL ok g b l ls st = .nx ls' st' ∧ R (l.foldl f x) ls' st'
  | [], x, ls, st, h, _ => ⟨ls, st, by unfold forL; rw [if_pos (hok _ _ _ h)], h⟩
  | d :: l, x, ls, st, h, step => by
    obtain ⟨ls1, st1, ls2, st2, e1, e2, h2⟩ := step d List.mem_cons_self x ls st h
    obtain ⟨ls', st', e3, h3⟩ := for_fold R f hok l (f x d) ls2 st2 h2 fun y hy => step y (List.mem_cons_of_mem _ hy)
    refine ⟨ls', st', ?_, h3⟩
    unfold forL
    rw [if_pos (hok _ _ _ h), e1]
    rcases e2 with e2 | e2 <;> (simp only [e2]; exact e3)
/-- a loop that may be left by return -/
theorem for_may (R : α → LS → Store → Prop) (P : D → Store → Prop) (hok : ∀ x ls st, R x ls st → ok st = true) : ∀ (l : List D) (x : α) (ls : LS) (st : Store), R x ls st →
    (∀ d ∈ l, ∀ x ls st, R x ls st → ∃ ls1 st1, g d ls st = .ok ls1 st1 ∧ ((∃ x' ls2 st2, (b ls1 st1 = .nx ls2 st2 ∨ b ls1 st1 = .ct ls2 st2) ∧ R x' ls2 st2) ∨ ∃ r st2, b ls1 st1 = .rt r st2 ∧ P r st2)) →
    (∃ x' ls' st', forL ok g b l ls st = .nx ls' st' ∧ R x' ls' st') ∨ ∃ r st', forL ok g b l ls st = .rt r st' ∧ P r st'
  | [], x, ls, st, h, _ => .inl ⟨x, ls, st, by unfold forL; rw [if_pos (hok _ _ _ h)], h⟩
  | d :: l, x, ls, st, h, step => by
    obtain ⟨ls1, st1, e1, h1⟩ := step d List.mem_cons_self x ls st h
    rcases h1 with ⟨x', ls2, st2, e2, h2⟩ | ⟨r, st2, e2, h2⟩
    · have key : forL ok g b (d :: l) ls st = forL ok g b l ls2 st2 := by
        conv => lhs; unfold forL
        rw [if_pos (hok _ _ _ h), e1]
        rcases e2 with e2 | e2 <;> simp only [e2]
      rw [key]
      exact for_may R P hok l x' ls2 st2 h2 fun y hy => step y (List.mem_cons_of_mem _ hy)
    · refine .inr ⟨r, st2, ?_, h2⟩
      unfold forL
      rw [if_pos (hok _ _ _ h), e1]
      simp only [e2]
/-- .. where nothing returns, the state's end is not told by a fold -/
theorem for_inv (R : LS → Store → Prop) (hok : ∀ ls st, R ls st → ok st = true) (l : List D) (ls : LS) (st : Store) (h : R ls st)
    (step : ∀ d ∈ l, ∀ ls st, R ls st → ∃ ls1 st1 ls2 st2, g d ls st = .ok ls1 st1 ∧ (b ls1 st1 = .nx ls2 st2 ∨ b ls1 st1 = .ct ls2 st2) ∧ R ls2 st2) : ∃ ls' st', forL ok g b l ls st = .nx ls' st' ∧ R ls' st' := by
  obtain ⟨ls', st', e, h'⟩ := for_fold (α := Unit) (fun _ => R) (fun _ _ => ()) (fun _ => hok) l () ls st h fun d hd _ => step d hd
  exact ⟨ls', st', e, h'⟩
end
@[simp] theorem okB_nil (l : List D) : okB ⟨l, []⟩ = fun _ => true := by funext st; rfl

/-! ### while -/
theorem while_run {α : Type} {t : LS → Store → Out Bool} {b : LS → Store → SO} (R : α → LS → Store → Prop) (μ : α → Nat) (Done : LS → Store → Prop)
    (step : ∀ x ls st, R x ls st → (∃ st1, t ls st = .ok false st1 ∧ Done ls st1) ∨ ∃ st1 ls2 st2 x', t ls st = .ok true st1 ∧ b ls st1 = .nx ls2 st2 ∧ R x' ls2 st2 ∧ μ x' < μ x) :
    ∀ (x : α) (ls : LS) (st : Store), R x ls st → ∃ ls' st', whileD t b ls st = .nx ls' st' ∧ Done ls' st' := by
  have key : ∀ (n : Nat) (x : α) (ls : LS) (st : Store), μ x < n → R x ls st → ∃ ls' st', whileD t b ls st = .nx ls' st' ∧ Done ls' st' := by
    intro n
    induction n with
    | zero => intro x ls st h; exact absurd h (Nat.not_lt_zero _)
    | succ n ih =>
      intro x ls st hm h
      unfold whileD
      rw [loop_step]
      rcases step x ls st h with ⟨st1, e, hd⟩ | ⟨st1, ls2, st2, x', e1, e2, h2, hlt⟩
      · simp only [whStep, e]
        exact ⟨ls, st1, rfl, hd⟩
      · simp only [whStep, e1, e2]
        exact ih x' ls2 st2 (by omega) h2
  intro x ls st h
  exact key (μ x + 1) x ls st (Nat.lt_succ_self _) h

/-! ### comprehensions -/
theorem lc_run {ok : Store → Bool} {g : D → LS → Store → Out LS} {ft : LS → Store → Out Bool} {fe : LS → Store → Out D} {lsw : LS} {st0 : Store} (p : D → Bool) (h : D → D) : ∀ (l acc : List D),
    (∀ acc', ok (st0 ++ [.lst acc']) = true) → acc.length + l.length ≤ 16777216 →
    (∀ d ∈ l, ∀ acc', ∃ ls1, g d lsw (st0 ++ [.lst acc']) = .ok ls1 (st0 ++ [.lst acc']) ∧ ft ls1 (st0 ++ [.lst acc']) = .ok (p d) (st0 ++ [.lst acc']) ∧ (p d = true → fe ls1 (st0 ++ [.lst acc']) = .ok (h d) (st0 ++ [.lst acc']))) →
    lcL ok st0.length g ft fe lsw l (st0 ++ [.lst acc]) = .ok (.ref st0.length) (st0 ++ [.lst (acc ++ (l.filter p).map h)])
  | [], acc, hok, _, _ => by unfold lcL; rw [if_pos (hok _)]; simp
  | d :: l, acc, hok, hl, step => by
    obtain ⟨ls1, e1, e2, e3⟩ := step d List.mem_cons_self acc
    simp only [List.length_cons] at hl
    unfold lcL
    rw [if_pos (hok _), e1]
    simp only [e2]
    cases hp : p d with
    | false =>
      rw [if_neg Bool.false_ne_true, lc_run p h l acc hok (by omega) fun y hy => step y (List.mem_cons_of_mem _ hy), List.filter_cons, hp]
      simp
    | true =>
      rw [if_pos rfl, e3 hp]
      have e4 : (st0 ++ [Cell.lst acc])[st0.length]? = some (.lst acc) := by simp
      simp only [e4]
      rw [if_pos (by omega)]
      have e5 : (st0 ++ [Cell.lst acc]).set st0.length (.lst (acc ++ [h d])) = st0 ++ [.lst (acc ++ [h d])] := by
        rw [List.set_append_right _ _ (Nat.le_refl _)]; simp
      rw [e5, lc_run p h l (acc ++ [h d]) hok (by simp; omega) fun y hy => step y (List.mem_cons_of_mem _ hy), List.filter_cons, hp]
      simp
/-- the whole: every item gives h of it -/
theorem lc_map {its : Its} {g : D → LS → Store → Out LS} {ft : LS → Store → Out Bool} {fe : LS → Store → Out D} {lsw : LS} {st0 : Store} (h : D → D) (hok : ∀ acc', okB its (st0 ++ [.lst acc']) = true) (hl : its.l.length ≤ 16777216)
    (step : ∀ d ∈ its.l, ∀ acc', ∃ ls1, g d lsw (st0 ++ [.lst acc']) = .ok ls1 (st0 ++ [.lst acc']) ∧ ft ls1 (st0 ++ [.lst acc']) = .ok true (st0 ++ [.lst acc']) ∧ fe ls1 (st0 ++ [.lst acc']) = .ok (h d) (st0 ++ [.lst acc'])) :
    lcL (okB its) st0.length g ft fe lsw its.l (st0 ++ [.lst []]) = .ok (.ref st0.length) (st0 ++ [.lst (its.l.map h)]) := by
  rw [lc_run (fun _ => true) h its.l [] hok (by simpa using hl) fun d hd acc' => by
    obtain ⟨ls1, a, b, c⟩ := step d hd acc'
    exact ⟨ls1, a, b, fun _ => c⟩]
  rw [List.filter_eq_self.mpr (fun _ _ => rfl)]; rfl
theorem okB_app1 {l m : List D} {n : Nat} {st : Store} {c : Cell} (h : st[n]? = some (.lst m)) : okB ⟨l, [(n, m)]⟩ (st ++ [c]) = true := by
  obtain ⟨hn, _⟩ := List.getElem?_eq_some_iff.mp h
  exact okB_iff.mpr fun p hp => by
    rw [List.mem_singleton.mp hp]
    rw [List.getElem?_append_left hn]
    exact h
end DD

set_option maxRecDepth 100000
set_option maxHeartbeats 2000000
/-! DD12: items by places, sorted int tuples, equal data, texts, comprehensions that change the store, cells under a changed cell. -/
namespace DD
open PySem PySem.Spec PyProof.Rows L2

section
variable {x y z u v : D} {st : Store}
@[simp] theorem atI1 : atI [x] 0 = some x := rfl
@[simp] theorem atI2a : atI [x, y] 0 = some x := rfl
@[simp] theorem atI2b : atI [x, y] 1 = some y := rfl
@[simp] theorem atI3a : atI [x, y, z] 0 = some x := rfl
@[simp] theorem atI3b : atI [x, y, z] 1 = some y := rfl
@[simp] theorem atI3c : atI [x, y, z] 2 = some z := rfl
@[simp] theorem atI5a : atI [x, y, z, u, v] 0 = some x := rfl
@[simp] theorem atI5b : atI [x, y, z, u, v] 1 = some y := rfl
@[simp] theorem atI5c : atI [x, y, z, u, v] 2 = some z := rfl
@[simp] theorem atI5d : atI [x, y, z, u, v] 3 = some u := rfl
@[simp] theorem atI5e : atI [x, y, z, u, v] 4 = some v := rfl
theorem atI_nat {l : List D} {n : Nat} (h : l[n]? = some x) : atI l (n : Int) = some x := by
  obtain ⟨hn, _⟩ := List.getElem?_eq_some_iff.mp h
  unfold atI ixN
  rw [if_pos (by omega), if_pos (by exact_mod_cast hn)]
  simpa using h
theorem atI_int {l : List D} {i : Int} (h0 : 0 ≤ i) (h : l[i.toNat]? = some x) : atI l i = some x := by
  have := atI_nat (l := l) (n := i.toNat) h
  rwa [Int.toNat_of_nonneg h0] at this
/-! cells -/
theorem ix_ref {l : List D} {n : Nat} {i : Int} (h : st[n]? = some (.lst l)) : ixD (.ref n) (.int i) st = (match atI l i with | some v => .ok v st | none => .bad) := by
  unfold ixD
  simp only [itsOf_ref h]
  all_goals (cases atI l i <;> rfl)
theorem len_ref {l : List D} {n : Nat} (h : st[n]? = some (.lst l)) : lenV [.ref n] st = .ok (.int l.length) st := by
  unfold lenV
  simp only [itsOf_ref h]
theorem setIx_ref {l : List D} {n : Nat} {i : Int} {j : Nat} (h : st[n]? = some (.lst l)) (hj : ixN l.length i = some j) : setIx (.ref n) (.int i) x st = .ok () (st.set n (.lst (l.set j x))) := by
  unfold setIx
  simp only [h, hj]
theorem app_ref {l : List D} {n : Nat} (h : st[n]? = some (.lst l)) (hl : l.length < 16777216) : appV (.ref n) [x] st = .ok .non (st.set n (.lst (l ++ [x]))) := by
  unfold appV cellL
  simp only [h, if_pos hl]
@[simp] theorem get_new {l : List D} : (st ++ [Cell.lst l])[st.length]? = some (.lst l) := by simp
@[simp] theorem set_new {l m : List D} : (st ++ [Cell.lst l]).set st.length (.lst m) = st ++ [.lst m] := by
  rw [List.set_append_right _ _ (Nat.le_refl _)]; simp
end
theorem fmod_dvd {i j : Int} : i.fmod j = 0 ↔ j ∣ i := ⟨Int.dvd_of_fmod_eq_zero, Int.fmod_eq_zero_of_dvd⟩

/-! ### data -/
@[simp] theorem toP_int {st : Store} {n : Nat} {i : Int} : toP st (n + 1) (.int i) = some (.int i) := rfl
@[simp] theorem toP_bl {st : Store} {n : Nat} {b : Bool} : toP st (n + 1) (.bl b) = some (.bool b) := rfl
@[simp] theorem toP_str {st : Store} {n : Nat} {x : Str} : toP st (n + 1) (.str x) = some (.str x) := rfl
@[simp] theorem toP_non {st : Store} {n : Nat} : toP st (n + 1) .non = some .none := rfl
theorem mapM_some {α β : Type} {f : α → Option β} {g : α → β} : ∀ {l : List α}, (∀ x ∈ l, f x = some (g x)) → l.mapM f = some (l.map g)
  | [], _ => by simp
  | x :: l, h => by
    rw [List.mapM_cons, h x List.mem_cons_self, mapM_some (l := l) fun y hy => h y (List.mem_cons_of_mem _ hy)]
    simp
theorem toP_ints {st : Store} {n : Nat} (ns : List Int) : (ns.map D.int).mapM (toP st (n + 1)) = some (ns.map PyData.int) := by
  rw [mapM_some (g := fun d => match d with | .int i => .int i | _ => .none) fun d hd => by
    obtain ⟨i, _, rfl⟩ := List.mem_map.mp hd
    rfl]
  rw [List.map_map]
  rfl
theorem toP_tupI {st : Store} {n : Nat} (ns : List Int) : toP st (n + 2) (.tup (ns.map D.int)) = some (.tuple (ns.map PyData.int)) := by
  show ((ns.map D.int).mapM (toP st (n + 1))).map PyData.tuple = _
  rw [toP_ints]
  rfl
def tupI (ns : List Int) : D := .tup (ns.map D.int)
theorem enc_tupI (st : Store) (ns : List Int) : encD st (tupI ns) = .tuple (ns.map PyData.int) := by
  unfold encD tupI
  rw [show (60 : Nat) = 58 + 2 from rfl, toP_tupI]
  rfl
theorem alikeAll_ints : ∀ ns ms : List Int, PySem.W.alikeAll (ns.map PyData.int) (ms.map PyData.int) = true
  | [], ms => by cases ms <;> rfl
  | n :: ns, [] => rfl
  | n :: ns, m :: ms => by
    show (PySem.W.alike (.int n) (.int m) && PySem.W.alikeAll (ns.map PyData.int) (ms.map PyData.int)) = true
    rw [alikeAll_ints ns ms]
    rfl
theorem depth_ints : ∀ ns : List Int, PyData.depthAll (ns.map PyData.int) ≤ 1
  | [] => by simp [PyData.depthAll]
  | n :: ns => by
    have := depth_ints ns
    simp only [List.map_cons, PyData.depthAll]
    have h0 : (PyData.int n).depth ≤ 1 := by simp [PyData.depth]
    exact Nat.max_le.mpr ⟨h0, this⟩
/-- a list of tuples of ints, no tuple empty -/
def IsTs (l : List D) : Prop := ∀ d ∈ l, ∃ i ns, d = tupI (i :: ns)
theorem sortOk_ts {st : Store} {l : List D} (h : IsTs l) (hl : l.length ≤ 16777216) : SortOk st l where
  some := fun d hd => by
    obtain ⟨i, ns, rfl⟩ := h d hd
    refine ⟨.tuple ((i :: ns).map PyData.int), by unfold tupI; rw [show (60 : Nat) = 58 + 2 from rfl, toP_tupI], ?_⟩
    have := depth_ints (i :: ns)
    simp only [PyData.depth]
    omega
  alike := fun d hd d' hd' => by
    obtain ⟨e, he, rfl⟩ := List.mem_map.mp hd
    obtain ⟨e', he', rfl⟩ := List.mem_map.mp hd'
    obtain ⟨i, ns, rfl⟩ := h e he
    obtain ⟨i', ns', rfl⟩ := h e' he'
    rw [enc_tupI, enc_tupI]
    show PySem.W.alikeAll _ _ = true
    exact alikeAll_ints _ _
  kind := .inl fun d hd => by
    obtain ⟨e, he, rfl⟩ := List.mem_map.mp hd
    obtain ⟨i, ns, rfl⟩ := h e he
    exact ⟨.int i, ns.map PyData.int, by rw [enc_tupI]; rfl⟩
  len := hl
theorem enc_ts {st : Store} {l : List D} (h : IsTs l) : ∀ d ∈ l, encD st d = encD [] d := fun d hd => by
  obtain ⟨i, ns, rfl⟩ := h d hd
  rw [enc_tupI, enc_tupI]
/-- sorted(l) of such a list, whatever the store -/
noncomputable def sortT (l : List D) : List D := l.mergeSort (PySem.W.dataLe false (encD []))
theorem merge_congr {α : Type} {le le' : α → α → Bool} {l : List α} (h : ∀ a ∈ l, ∀ b ∈ l, le a b = le' a b) : l.mergeSort le = l.mergeSort le' := by
  have key : ∀ (f : α → α → Bool), l.mergeSort f = (l.attach.mergeSort fun a b => f a.1 b.1).map (·.1) := fun f => by
    conv => lhs; rw [← List.attach_map_subtype_val l]
    exact (List.map_mergeSort (r := fun a b => f a.1 b.1) (s := f) (f := Subtype.val) (l := l.attach) (fun _ _ _ _ => rfl)).symm
  rw [key le, key le']
  congr 2
  funext a b
  exact h a.1 a.2 b.1 b.2
theorem sorted_ts {st : Store} {l : List D} (h : IsTs l) (hl : l.length ≤ 16777216) : sortedL l st = .ok (.ref st.length) (st ++ [.lst (sortT l)]) := by
  rw [sortedL_ok (sortOk_ts h hl)]
  unfold sortT
  rw [merge_congr (le := PySem.W.dataLe false (encD st)) (le' := PySem.W.dataLe false (encD [])) fun a ha b hb => by
    unfold PySem.W.dataLe PySem.W.sortLe
    simp only [enc_ts h a ha, enc_ts h b hb]]
theorem mem_sortT {l : List D} {d : D} : d ∈ sortT l ↔ d ∈ l := by
  unfold sortT
  exact List.mem_mergeSort
theorem length_sortT {l : List D} : (sortT l).length = l.length := by
  unfold sortT
  exact List.length_mergeSort _
/-! ### loops told by what was walked -/
theorem for_pre {ok : Store → Bool} {g : D → LS → Store → Out LS} {b : LS → Store → SO} (R : List D → LS → Store → Prop) (hok : ∀ p ls st, R p ls st → ok st = true) (l : List D) (ls : LS) (st : Store) (h : R [] ls st)
    (step : ∀ pre d suf, l = pre ++ d :: suf → ∀ ls st, R pre ls st → ∃ ls1 st1 ls2 st2, g d ls st = .ok ls1 st1 ∧ (b ls1 st1 = .nx ls2 st2 ∨ b ls1 st1 = .ct ls2 st2) ∧ R (pre ++ [d]) ls2 st2) : ∃ ls' st', forL ok g b l ls st = .nx ls' st' ∧ R l ls' st' := by
  have key : ∀ (suf pre : List D), l = pre ++ suf → ∀ ls st, R pre ls st → ∃ ls' st', forL ok g b suf ls st = .nx ls' st' ∧ R l ls' st' := by
    intro suf
    induction suf with
    | nil =>
      intro pre e ls st h
      rw [List.append_nil] at e
      subst e
      exact ⟨ls, st, by unfold forL; rw [if_pos (hok _ _ _ h)], h⟩
    | cons d suf ih =>
      intro pre e ls st h
      obtain ⟨ls1, st1, ls2, st2, e1, e2, h2⟩ := step pre d suf e ls st h
      obtain ⟨ls', st', e3, h3⟩ := ih (pre ++ [d]) (by rw [e, List.append_assoc]; rfl) ls2 st2 h2
      refine ⟨ls', st', ?_, h3⟩
      unfold forL
      rw [if_pos (hok _ _ _ h), e1]
      rcases e2 with e2 | e2 <;> (simp only [e2]; exact e3)
  exact key l [] rfl ls st h
theorem flatMap_len {α β : Type} {f : α → List β} {k : Nat} : ∀ {l : List α}, (∀ x ∈ l, (f x).length ≤ k) → (l.flatMap f).length ≤ l.length * k
  | [], _ => by simp
  | x :: l, h => by
    have h1 := h x List.mem_cons_self
    have h2 := flatMap_len (l := l) fun y hy => h y (List.mem_cons_of_mem _ hy)
    rw [List.flatMap_cons, List.length_append, List.length_cons, Nat.add_mul]
    omega
theorem rangeL_len (lo : Int) (n : Nat) : (rangeL lo n).length = n := by simp [rangeL]
theorem mem_rangeL {lo : Int} {n : Nat} {d : D} (h : d ∈ rangeL lo n) : ∃ i : Nat, i < n ∧ d = .int (lo + i) := by
  obtain ⟨i, hi, rfl⟩ := List.mem_map.mp h
  exact ⟨i, List.mem_range.mp hi, rfl⟩
/-! a new list comes back, garbage before and behind it -/
theorem fzs0 {st : Store} {keep : List Nat} {l : List D} (h : ltDs 0 l = true) : Fzs st keep l l := fzs_refl (n := 0) (fun m hm => absurd hm (Nat.not_lt_zero m)) l h
theorem Pk.fresh1 {st g1 g2 : Store} {l : List D} {k : Nat} (h1 : ltS st.length st = true) (hl : ltDs 0 l = true) (hk : k = st.length + g1.length) : Pk st.length (.ok (.ref k) (st ++ g1 ++ [.lst l] ++ g2)) (.ok (.ref st.length) (st ++ [.lst l])) := by
  subst hk
  refine .ok (Pack.fresh (c := .lst l) rfl ?_ (Nat.le_add_right _ _) ?_ h1 (fzs0 hl))
  · rw [List.append_assoc, List.append_assoc, List.take_left]
  · rw [List.getElem?_append_left (by simp), List.getElem?_append_right (by simp)]
    simp
theorem ltDs_ints (k : Nat) : ∀ ns : List Int, ltDs k (ns.map D.int) = true
  | [] => rfl
  | n :: ns => by rw [List.map_cons]; exact ltDs_ints k ns
theorem ltDs_ts {k : Nat} : ∀ {l : List D}, IsTs l → ltDs k l = true
  | [], _ => rfl
  | d :: l, h => by
    obtain ⟨i, ns, rfl⟩ := h d List.mem_cons_self
    show (ltDs k ((i :: ns).map D.int) && ltDs k l) = true
    rw [ltDs_ints, ltDs_ts fun y hy => h y (List.mem_cons_of_mem _ hy)]
    rfl
theorem rng1_eq {fr : LS → Store → Out (List D)} {ls : LS} {st st1 : Store} {j : Int} (h : fr ls st = .ok [.int j] st1) (h0 : -1000000 ≤ j) (h1 : j ≤ 1000000) : rng1 fr ls st = .ok ⟨rangeL 0 j.toNat, []⟩ st1 := by
  unfold rng1
  rw [h]
  show (if okP _ = true then _ else _) = _
  rw [if_pos (okP_of ⟨by omega, by omega⟩)]
/-! texts, zips -/
@[simp] theorem eqV_str {x y : Str} {st : Store} : eqF false (.str x) (.str y) st = .ok (.bl (decide (x = y))) st := rfl
@[simp] theorem neV_str {x y : Str} {st : Store} : eqF true (.str x) (.str y) st = .ok (.bl (decide (x ≠ y))) st := by
  show Out.ok (D.bl (!decide (x = y))) st = _
  simp
@[simp] theorem eqF_tup {b : Bool} {l : List D} {d : D} {st : Store} : eqF b (.tup l) d st = eqG b (.tup l) d st := rfl
@[simp] theorem eqF_ref {b : Bool} {n : Nat} {d : D} {st : Store} : eqF b (.ref n) d st = eqG b (.ref n) d st := rfl
theorem zipI_tup {fr : LS → Store → Out (List D)} {ls : LS} {st st1 : Store} {l m : List D} (h : fr ls st = .ok [.tup l, .tup m] st1) : zipI fr ls st = .ok ⟨zipL l m, []⟩ st1 := by
  unfold zipI
  rw [h]
  rfl
theorem anyT_ints {st : Store} (ns : List Int) : anyTV [tupI ns] st = .ok (.bl (ns.any fun n => n != 0)) st := by
  unfold anyTV tupI
  have e := toP_tupI (st := st) (n := 58) ns
  simp only [e]
  have h1 : (ns.map PyData.int).all flatP = true := by rw [List.all_map]; exact List.all_eq_true.mpr fun _ _ => rfl
  rw [if_pos h1, List.any_map]
  rfl
theorem eqF_tupI {st : Store} {ns ms : List Int} (b : Bool) (h : SeqAt.shaped (.tuple (ns.map PyData.int)) = true) (h' : SeqAt.shaped (.tuple (ms.map PyData.int)) = true) : eqG b (tupI ns) (tupI ms) st = .ok (.bl (if b then !PyData.eqv (.tuple (ns.map PyData.int)) (.tuple (ms.map PyData.int)) else PyData.eqv (.tuple (ns.map PyData.int)) (.tuple (ms.map PyData.int)))) st := by
  unfold eqG tupI
  have e := toP_tupI (st := st) (n := 58) ns
  have e' := toP_tupI (st := st) (n := 58) ms
  simp only [e, e', if_pos (And.intro h h')]
theorem tyD_app {st g : Store} {d : D} {t : Ty} (h : tyD st d = some t) : tyD (st ++ g) d = some t := by
  cases d with
  | ref n =>
    have h : (match st[n]? with | some (.lst _) => some Ty.lst | some (.dic _) => some Ty.dic | none => none) = some t := h
    show (match (st ++ g)[n]? with | some (.lst _) => some Ty.lst | some (.dic _) => some Ty.dic | none => none) = some t
    cases q : st[n]? with
    | none => rw [q] at h; cases h
    | some c =>
      have hn := (List.getElem?_eq_some_iff.mp q).1
      rw [List.getElem?_append_left hn, q]
      rw [q] at h
      exact h
  | _ => exact h
theorem ty_int {st : Store} {d : D} (h : tyD st d = some .int) : ∃ i, d = .int i := by
  cases d with
  | int i => exact ⟨i, rfl⟩
  | ref n =>
    have h : (match st[n]? with | some (.lst _) => some Ty.lst | some (.dic _) => some Ty.dic | none => none) = some Ty.int := h
    cases q : st[n]? with
    | none => rw [q] at h; cases h
    | some c => rw [q] at h; cases c <;> cases h
  | _ => cases h
/-! dicts -/
theorem valD_put {kvs : List (Key × D)} {c c' : Key} {d : D} : valD (putD kvs c d) c' = if c' = c then some d else valD kvs c' := by
  unfold putD
  split
  · rename_i h
    induction kvs with
    | nil => cases h
    | cons p r ih =>
      rw [List.map_cons]
      by_cases e : p.1 = c
      · rw [if_pos e]
        by_cases e2 : c' = c
        · subst e2; simp [valD, List.find?_cons, e]
        · have e3 : ¬ p.1 = c' := fun z => e2 (z.symm.trans e)
          have key : ∀ r : List (Key × D), valD (r.map fun kv => if kv.1 = c then (kv.1, d) else kv) c' = valD r c' := by
            intro r
            induction r with
            | nil => rfl
            | cons q r ih =>
              rw [List.map_cons]
              by_cases f : q.1 = c
              · have f3 : ¬ q.1 = c' := fun z => e2 (z.symm.trans f)
                rw [if_pos f]
                simp only [valD, List.find?_cons, decide_eq_false f3]
                exact ih
              · rw [if_neg f]
                by_cases f2 : q.1 = c'
                · simp [valD, List.find?_cons, f2]
                · simp only [valD, List.find?_cons, decide_eq_false f2]
                  exact ih
          rw [if_neg e2]
          have := key r
          simp only [valD, List.find?_cons, decide_eq_false e3] at this ⊢
          exact this
      · rw [if_neg e]
        rw [List.any_cons, decide_eq_false e, Bool.false_or] at h
        have := ih h
        by_cases e2 : c' = p.1
        · have e3 : ¬ c' = c := fun z => e (e2.symm.trans z)
          rw [if_neg e3]
          simp [valD, List.find?_cons, e2]
        · have e3 : ¬ p.1 = c' := fun z => e2 z.symm
          simp only [valD, List.find?_cons, decide_eq_false e3] at this ⊢
          exact this
  · rename_i h
    have hn : ∀ p ∈ kvs, ¬ p.1 = c := fun p hp z => h (List.any_eq_true.mpr ⟨p, hp, decide_eq_true z⟩)
    induction kvs with
    | nil =>
      by_cases e : c' = c
      · simp [valD, List.find?_cons, e]
      · have : ¬ c = c' := fun z => e z.symm
        simp [valD, List.find?_cons, e, this]
    | cons p r ih =>
      have hp := hn p List.mem_cons_self
      have ih := ih (fun z => h (by rw [List.any_cons, z, Bool.or_true])) fun q hq => hn q (List.mem_cons_of_mem _ hq)
      rw [List.cons_append]
      by_cases e2 : p.1 = c'
      · have e3 : ¬ c' = c := fun z => hp (e2.trans z)
        rw [if_neg e3]
        simp [valD, List.find?_cons, e2]
      · simp only [valD, List.find?_cons, decide_eq_false e2] at ih ⊢
        exact ih
theorem length_putD (kvs : List (Key × D)) (c : Key) (d : D) : (putD kvs c d).length ≤ kvs.length + 1 := by
  unfold putD
  split
  · rw [List.length_map]; omega
  · rw [List.length_append, List.length_cons, List.length_nil]; omega
theorem put_ref {st : Store} {n : Nat} {kvs : List (Key × D)} {i : Int} {v : D} (h : st[n]? = some (.dic kvs)) (hl : kvs.length < 16777216) : putV (.ref n) (.int i) v st = some (st.set n (.dic (putD kvs (.inl i) v))) := by
  unfold putV keyD cellK
  simp only [h, if_pos hl]
theorem get_ref {st : Store} {n : Nat} {kvs : List (Key × D)} {i : Int} {v : D} (h : st[n]? = some (.dic kvs)) : getV (.ref n) (.int i) v st = .ok ((valD kvs (.inl i)).getD v) st := by
  unfold getV keyD cellK
  simp only [h]
theorem isDic_ref {st : Store} {n : Nat} {kvs : List (Key × D)} (h : st[n]? = some (.dic kvs)) : isDic st (.ref n) = true := by
  unfold isDic cellK
  simp only [h, Option.isSome_some]
@[simp] theorem dputD_eq {ls : LS} {st : Store} {fo fi fe : LS → Store → Out D} : dputD fo fi fe ls st = ofE (fe ls st) ls fun v st1 => ofE (fo ls st1) ls fun o st2 => ofE (fi ls st2) ls fun i st3 => (match putV o i v st3 with | some st4 => .nx ls st4 | none => .bad) := rfl
@[simp] theorem dget2D_eq {ls : LS} {st : Store} {fo fi fe : LS → Store → Out D} : dget2D fo fi fe ls st = (fo ls st).bind fun o st1 => if isDic st1 o = true then (fi ls st1).bind fun i st2 => (fe ls st2).bind fun v st3 => getV o i v st3 else .bad := rfl
@[simp] theorem isNon_int {b : Bool} {i : Int} {st : Store} : isNonF b (.int i) .non st = .ok (.bl b) st := rfl
@[simp] theorem isNon_non {b : Bool} {st : Store} : isNonF b .non .non st = .ok (.bl (!b)) st := rfl
/-! texts of data -/
theorem shown_i {i : Int} (h : i.natAbs < 10 ^ 20) : (PyData.shown (.int i)).length ≤ 21 := by
  rw [PyData.shown_int]
  have := int_text_length_le10 (k := 20) (by decide) h
  show (Str.ofString (toString i)).length ≤ 21
  rw [PySem.ofString_length]
  exact this
def SmallI (ns : List Int) : Prop := ∀ n ∈ ns, n.natAbs < 10 ^ 20
theorem leaves_ints : ∀ {ns : List Int}, SmallI ns → PyData.leavesShortAll 21 (ns.map PyData.int) = true
  | [], _ => rfl
  | n :: ns, h => by
    rw [List.map_cons, PyData.leavesShortAll, leaves_ints (ns := ns) fun x hx => h x (List.mem_cons_of_mem _ hx), PyData.leavesShort]
    rw [decide_eq_true (shown_i (h n List.mem_cons_self))]
    rfl
theorem show_ints : ∀ {ns : List Int}, SmallI ns → PyData.showableAll (ns.map PyData.int) = true
  | [], _ => rfl
  | n :: ns, h => by
    rw [List.map_cons, PyData.showableAll, show_ints (ns := ns) fun x hx => h x (List.mem_cons_of_mem _ hx), PyData.showable]
    have h1 := h n List.mem_cons_self
    have : n.natAbs.log2 < 1920 := by
      by_cases hz : n.natAbs = 0
      · rw [hz]; decide
      · rw [Nat.log2_lt hz]
        have : (10 : Nat) ^ 20 ≤ 2 ^ 1920 := by decide +kernel
        omega
    rw [decide_eq_true this]
    rfl
theorem nodict_ints : ∀ ns : List Int, PyData.hasDictAll (ns.map PyData.int) = false
  | [] => rfl
  | n :: ns => by rw [List.map_cons, PyData.hasDictAll, nodict_ints ns, PyData.hasDict]; rfl
theorem bulk_ints : ∀ ns : List Int, PyData.bulkAll (ns.map PyData.int) = ns.length
  | [] => rfl
  | n :: ns => by rw [List.map_cons, PyData.bulkAll, bulk_ints ns, PyData.bulk, List.length_cons]; omega
theorem repr_tupI {st : Store} {ns : List Int} (h : SmallI ns) (hl : ns.length ≤ 1000) : reprV [tupI ns] st = .ok (.str (PyData.shown (.tuple (ns.map PyData.int)))) st := by
  unfold reprV tupI
  have e := toP_tupI (st := st) (n := 58) ns
  simp only [e]
  have hs : (PyData.tuple (ns.map PyData.int)).leavesShort 21 = true := by rw [PyData.leavesShort]; exact leaves_ints h
  have hb := PyData.shown_le_bulk 21 (by decide) _ hs
  rw [PyData.bulk, bulk_ints] at hb
  have hd := depth_ints ns
  rw [if_pos]
  refine ⟨by rw [PyData.showable]; exact show_ints h, by rw [PyData.hasDict]; exact nodict_ints ns, ?_, by omega⟩
  simp only [PyData.depth]
  omega
/-- a list of short tuples of small ints -/
def SmallT (l : List D) : Prop := ∀ d ∈ l, ∃ i ns, d = tupI (i :: ns) ∧ SmallI (i :: ns) ∧ ns.length ≤ 9
theorem SmallT.ts {l : List D} (h : SmallT l) : IsTs l := fun d hd => let ⟨i, ns, e, _⟩ := h d hd; ⟨i, ns, e⟩
theorem toP_ts {st : Store} : ∀ {l : List D}, IsTs l → l.mapM (toP st 59) = some (l.map (encD []))
  | l, h => mapM_some fun d hd => by
    obtain ⟨i, ns, rfl⟩ := h d hd
    rw [enc_tupI]
    exact toP_tupI (n := 57) _
theorem small_all : ∀ {l : List D}, SmallT l → PyData.leavesShortAll 21 (l.map (encD [])) = true ∧ PyData.showableAll (l.map (encD [])) = true ∧ PyData.hasDictAll (l.map (encD [])) = false ∧ PyData.depthAll (l.map (encD [])) ≤ 2 ∧ PyData.bulkAll (l.map (encD [])) ≤ 11 * l.length
  | [], _ => ⟨rfl, rfl, rfl, by simp [PyData.depthAll], by simp [PyData.bulkAll]⟩
  | d :: l, h => by
    obtain ⟨h1, h2, h3, h4, h5⟩ := small_all (l := l) fun x hx => h x (List.mem_cons_of_mem _ hx)
    obtain ⟨i, ns, rfl, hs, hn⟩ := h d List.mem_cons_self
    have hd := depth_ints (i :: ns)
    rw [List.map_cons, enc_tupI]
    refine ⟨?_, ?_, ?_, ?_, ?_⟩
    · rw [PyData.leavesShortAll, h1, PyData.leavesShort, leaves_ints hs]; rfl
    · rw [PyData.showableAll, h2, PyData.showable, show_ints hs]; rfl
    · rw [PyData.hasDictAll, h3, PyData.hasDict, nodict_ints]; rfl
    · simp only [PyData.depthAll, PyData.depth]
      exact Nat.max_le.mpr ⟨by omega, h4⟩
    · rw [PyData.bulkAll, PyData.bulk, bulk_ints, List.length_cons, List.length_cons]
      omega
theorem repr_cell {st : Store} {n : Nat} {l : List D} (e : st[n]? = some (.lst l)) (h : SmallT l) (hl : l.length ≤ 10000) : reprV [.ref n] st = .ok (.str (PyData.shown (.list (l.map (encD []))))) st := by
  have e1 : toP st 60 (.ref n) = some (.list (l.map (encD []))) := by
    show (match st[n]? with | some (.lst l) => (l.mapM (toP st 59)).map PyData.list | _ => none) = _
    rw [e]
    show (l.mapM (toP st 59)).map PyData.list = _
    rw [toP_ts h.ts]
    rfl
  unfold reprV
  simp only [e1]
  obtain ⟨h1, h2, h3, h4, h5⟩ := small_all h
  have hs : (PyData.list (l.map (encD []))).leavesShort 21 = true := by rw [PyData.leavesShort]; exact h1
  have hb := PyData.shown_le_bulk 21 (by decide) _ hs
  rw [PyData.bulk] at hb
  rw [if_pos]
  refine ⟨by rw [PyData.showable]; exact h2, by rw [PyData.hasDict]; exact h3, ?_, by omega⟩
  simp only [PyData.depth]
  omega
/-! equal tuples of ints -/
theorem eqv_ints : ∀ ns ms : List Int, PyData.eqvAll (ns.map PyData.int) (ms.map PyData.int) = decide (ns = ms)
  | [], [] => rfl
  | [], m :: ms => by simp [PyData.eqvAll]
  | n :: ns, [] => by simp [PyData.eqvAll]
  | n :: ns, m :: ms => by
    rw [List.map_cons, List.map_cons, PyData.eqvAll, eqv_ints ns ms, PyData.eqv]
    exact Bool.eq_iff_iff.mpr (by simp)
theorem eqv_tupI (ns ms : List Int) : PyData.eqv (.tuple (ns.map PyData.int)) (.tuple (ms.map PyData.int)) = decide (ns = ms) := by
  rw [PyData.eqv]
  exact eqv_ints ns ms
theorem canLay_ints : ∀ ns : List Int, PyData.canLayAll0 (ns.map PyData.int) = true
  | [] => rfl
  | n :: ns => by rw [List.map_cons, PyData.canLayAll0, canLay_ints ns, PyData.canLay0]; rfl
theorem shaped_tupI (ns : List Int) : SeqAt.shaped (.tuple (ns.map PyData.int)) = true := by
  have := depth_ints ns
  unfold SeqAt.shaped
  rw [PyData.canLay0, canLay_ints, decide_eq_true]
  · rfl
  · simp only [PyData.depth]; omega
theorem eqG_tupI {b : Bool} {st : Store} (ns ms : List Int) : eqG b (tupI ns) (tupI ms) st = .ok (.bl (if b then !decide (ns = ms) else decide (ns = ms))) st := by
  rw [eqF_tupI b (shaped_tupI ns) (shaped_tupI ms), eqv_tupI]
theorem toP_two {st : Store} (ms ks : List Int) : toP st 60 (.tup [tupI ms, tupI ks]) = some (.tuple [.tuple (ms.map PyData.int), .tuple (ks.map PyData.int)]) := by
  show ([tupI ms, tupI ks].mapM (toP st 59)).map PyData.tuple = _
  have e1 : toP st 59 (tupI ms) = some (.tuple (ms.map PyData.int)) := toP_tupI (n := 57) ms
  have e2 : toP st 59 (tupI ks) = some (.tuple (ks.map PyData.int)) := toP_tupI (n := 57) ks
  simp [e1, e2]
theorem in_two {b : Bool} {st : Store} (ns ms ks : List Int) : inV b (tupI ns) (.tup [tupI ms, tupI ks]) st = .ok (.bl (if b then !(decide (ms = ns) || decide (ks = ns)) else (decide (ms = ns) || decide (ks = ns)))) st := by
  unfold inV
  rw [if_pos isTup_tup]
  unfold inTF
  have e1 : toP st 60 (tupI ns) = some (.tuple (ns.map PyData.int)) := toP_tupI (n := 58) ns
  simp only [e1, toP_two]
  have h1 := depth_ints ms
  have h2 := depth_ints ks
  have hs : SeqAt.shaped (.tuple [.tuple (ms.map PyData.int), .tuple (ks.map PyData.int)]) = true := by
    unfold SeqAt.shaped
    rw [decide_eq_true]
    · simp [PyData.canLay0, PyData.canLayAll0, canLay_ints]
    · simp only [PyData.depth, PyData.depthAll]; omega
  rw [if_pos ⟨shaped_tupI ns, hs⟩]
  simp only [List.any_cons, List.any_nil, Bool.or_false, eqv_tupI]
end DD

set_option maxRecDepth 100000
set_option maxHeartbeats 2000000
/-! DD14: sets of heap keys of any kind (fewer than 64 unlike ones), out of a list of any length, and their sorted lists. -/
namespace GS
open PySem PySem.Spec PyProof.Rows L2
/-- a kind of heap keys whose search shows nothing -/
structure Kd (P : Program) (w : World) (κ : Type) [DecidableEq κ] where
  hk : HeapKind P w κ
  room : ∀ {A : Around}, A.units < cLine → hk.room A
  cls : ∀ {A : Around} {E : Value → Shared → Prop} {s : Shared} {k : κ} {b : Addr} {Q : Bool → Shared → Prop}, hk.is s.heap k b → Q false s → wpAny (model P w) A (ofAClassStatement 8 (.ref b)) Q E s
  hbv : ∀ {A : Around} {E : Value → Shared → Prop} {s : Shared} {k : κ} {b : Addr} {Q : Bool → Shared → Prop}, hk.is s.heap k b → Q true s → wpAny (model P w) A (hashByValue 8 (.ref b)) Q E s
  keep : ∀ {h h' : Heap} {k : κ} {b : Addr}, hk.is h k b → (∀ o, h.get? b = some o → h'.get? b = some o) → hk.is h' k b
  noset : ∀ {h : Heap} {k : κ} {b : Addr} {o : Obj} {es : Array (Int × Value)} {ep : Nat} {t : SetTable}, hk.is h k b → h.get? b = some o → o.data ≠ .set es ep t
/-! ### lists taken in another order -/
theorem range_take {α : Type} (L : List α) : (List.range L.length).filterMap (fun i => L[i]?) = L := by
  have : ∀ n, n ≤ L.length → (List.range n).filterMap (fun i => L[i]?) = L.take n := fun n => by
    induction n with
    | zero => intro _; simp
    | succ n ih =>
      intro h
      have hn : n < L.length := h
      rw [List.range_succ, List.filterMap_append, ih (by omega)]
      rw [List.filterMap_cons_some (List.getElem?_eq_getElem hn), List.filterMap_nil, List.take_add_one, List.getElem?_eq_getElem hn]
      rfl
  rw [this _ (Nat.le_refl _), List.take_length]
theorem reorder {α β : Type} {L : List α} {es : Array β} {f : α → β} {order : Array Nat} (h : es.toList = L.map f) (p : order.toList.Perm (List.range L.length)) :
    ∃ L2 : List α, (order.filterMap (es[·]?)).toList = L2.map f ∧ L2.Perm L ∧ ∀ (g : α → Int) (hs : Array Int), hs.toList = L.map g → L2.map g = order.toList.map fun i => hs.getD i 0 := by
  have e : ∀ i : Nat, es[i]? = (L[i]?).map f := fun i => by rw [← Array.getElem?_toList, h, List.getElem?_map]
  refine ⟨order.toList.filterMap fun i => L[i]?, ?_, ?_, fun g hs hg => ?_⟩
  · rw [Array.toList_filterMap, List.map_filterMap]
    exact congrArg (fun z => List.filterMap z order.toList) (funext e)
  · have := p.filterMap fun i => L[i]?
    rwa [range_take] at this
  · have bd : ∀ i ∈ order.toList, i < L.length := fun i hi => List.mem_range.mp (p.mem_iff.mp hi)
    generalize order.toList = l at bd
    induction l with
    | nil => rfl
    | cons i l ih =>
      have hi := bd i List.mem_cons_self
      have e1 : hs.getD i 0 = g L[i] := by
        have : hs[i]? = some (g L[i]) := by rw [← Array.getElem?_toList, hg, List.getElem?_map, List.getElem?_eq_getElem hi]; rfl
        simp [Array.getD_eq_getD_getElem?, this]
      rw [List.filterMap_cons_some (List.getElem?_eq_getElem hi), List.map_cons, List.map_cons, e1, ih fun j hj => bd j (List.mem_cons_of_mem _ hj)]
/-! ### the way of a search -/
def pr (t : SetTable) (h : Int) (c : Nat) : SetTable.Probe := nth t.mask (t.probeStart h) c
theorem pr_add (t : SetTable) (h : Int) (c q : Nat) : nth t.mask (pr t h c) q = pr t h (c + q) := (nth_add t.mask c (t.probeStart h) q).symm
theorem pr_way (t : SetTable) (h : Int) (c : Nat) : way t.mask h c = (pr t h c).j := rfl
theorem nth_dm (m : Nat) : ∀ (n : Nat) (p : SetTable.Probe), p.dummy = none → (nth m p n).dummy = none
  | 0, _, h => h
  | n + 1, p, h => nth_dm m n (adv m p) (by unfold adv; split <;> exact h)
theorem pr_dm (t : SetTable) (h : Int) (c : Nat) : (pr t h c).dummy = none := nth_dm _ c _ rfl
section
variable {P : Program} {w : World} {κ : Type} [DecidableEq κ] (kd : Kd P w κ)
abbrev hs (k : κ) : Int := kd.hk.hash k
abbrev ent (p : Addr × κ) : Int × Value := (hs kd p.2, .ref p.1)
structure GR (h : Heap) (a : Addr) (L : List (Addr × κ)) (es : Array (Int × Value)) (ep : Nat) (t : SetTable) : Prop where
  at_ : ∃ o, h.get? a = some o ∧ o.ExactSet ∧ o.data = .set es ep t
  en : es.toList = L.map (ent kd)
  tb : TabOk t (L.map fun p => hs kd p.2)
  un : (L.map (·.2)).Nodup
  ks : ∀ p ∈ L, kd.hk.is h p.2 p.1
  pl : t.plain = true
  ld : w.params.followText "set-order" = true ∨ t.led = true
  rm : L.length * 5 < t.mask * 3
  fw : L.length < 64
end
section
variable {P : Program} {w : World} {κ : Type} [DecidableEq κ] {kd : Kd P w κ} {A : Around} {E : Value → Shared → Prop} {s : Shared} {a : Addr} {L : List (Addr × κ)} {es : Array (Int × Value)} {ep : Nat} {t : SetTable}
theorem size_of {L : List (Addr × κ)} {es : Array (Int × Value)} (h : es.toList = L.map (ent kd)) : es.size = L.length := by
  rw [← Array.length_toList, h, List.length_map]
theorem fits_of {n m : Nat} (h1 : t.place.size = n) (h2 : t.dummies = #[]) (h3 : n ≤ t.mask) (h4 : n = m) : t.fits m = true := by
  subst h4
  unfold SetTable.fits SetTable.fill
  rw [h2]
  simp [h1, h3]
theorem GR.fit (R : GR kd s.heap a L es ep t) : t.fits es.size = true := by
  have h := R.tb.sz
  rw [List.length_map] at h
  have := R.rm
  exact fits_of h R.tb.dm (by omega) (size_of R.en).symm
theorem GR.ent (R : GR kd s.heap a L es ep t) {i : Nat} {p : Addr × κ} (h : L[i]? = some p) : es[i]? = some (GS.ent kd p) := by
  rw [← Array.getElem?_toList, R.en, List.getElem?_map, h]; rfl
theorem seen (kx : kd.hk.is s.heap k x) {ys : List Value} (hy : ∀ y ∈ ys, ∃ k' c, y = Value.ref c ∧ kd.hk.is s.heap k' c) {Q : Bool → Shared → Prop} (q : Q false s) : wpAny (model P w) A (searchCouldBeSeen (.ref x) ys) Q E s := by
  unfold searchCouldBeSeen
  refine wpAny_bind (wpAny_forIn_list _ (fun r z s' => z.1 = none ∧ s' = s ∧ ∀ y ∈ r, ∃ k' c, y = Value.ref c ∧ kd.hk.is s.heap k' c) _ ?_ ?_ _ _ ⟨rfl, rfl, hy⟩)
  · intro v r z s' ⟨hz, es, al⟩
    subst es
    obtain ⟨k', c, ev, kc⟩ := al v List.mem_cons_self
    subst ev
    have al' := fun u hu => al u (List.mem_cons_of_mem _ hu)
    dsimp only
    split
    · exact wpAny_pure ⟨rfl, rfl, al'⟩
    · refine wpAny_bind (kd.hk.quiet kx ?_)
      simp only [Bool.not_true, Bool.false_eq_true, if_false]
      refine wpAny_bind (kd.hk.quiet kc ?_)
      simp only [Bool.not_true, Bool.false_eq_true, if_false]
      refine wpAny_bind (kd.cls kx ?_)
      simp only [Bool.false_eq_true, if_false]
      refine wpAny_bind (kd.cls kc ?_)
      simp only [Bool.false_eq_true, if_false]
      exact wpAny_pure ⟨rfl, rfl, al'⟩
  · intro ⟨z1, z2⟩ s' ⟨hz, es, _⟩
    subst es
    simp only at hz
    subst hz
    exact wpAny_pure q
/-- from the c-th step of its way on -/
theorem seek (R : GR kd s.heap a L es ep t) {x : Addr} {k : κ} (kx : kd.hk.is s.heap k x) (hu : A.units < cLine) {K : Nat} (hf : K < 10 * SetTable.turns t.mask)
    (hK : (pr t (hs kd k) K).j ∉ t.place.toList) (hb : ∀ c, c < K → (pr t (hs kd k) c).j ∈ t.place.toList) {Q : SetFound → Shared → Prop}
    (yes : k ∈ L.map (·.2) → Q (.there none) s) (no : k ∉ L.map (·.2) → Q (.free (pr t (hs kd k) K).j false) s) :
    ∀ (f c : Nat) (stand : Option SetTable.Probe), stand.getD (t.probeStart (hs kd k)) = pr t (hs kd k) c → c ≤ K → K - c < f →
      (∀ (i : Nat) p, L[i]? = some p → p.2 = k → ∃ d, c ≤ d ∧ d < K ∧ t.place.toList[i]? = some (pr t (hs kd k) d).j) →
      wpAny (model P w) A (setSearchFrom a (.ref x) (hs kd k) true f stand) Q E s := by
  obtain ⟨o, ho, hex, hd⟩ := R.at_
  have gw : ¬ t.gaveWay = true := by
    unfold SetTable.gaveWay
    rw [mask_odd R.tb.mok]
    decide
  have hat : ∀ (i : Nat) p, L[i]? = some p → (es[i]?.map (·.1)).getD 0 = hs kd p.2 := fun i p hp => by rw [R.ent hp]; rfl
  intro f
  induction f with
  | zero => intro c stand _ _ hlt; exact absurd hlt (Nat.not_lt_zero _)
  | succ f ih =>
    intro c stand est hc hlt hin
    rw [setSearchFrom_succ]
    refine wpAny_bind (wpAny_setState_of ho hd R.fit ?_)
    dsimp only
    refine wp_if_neg gw ?_
    try refine wpAny_bind (wpAny_pure ?_)
    have sp := go_spec t R.tb.ris R.tb.dm (fun i => (es[i]?.map (·.1)).getD 0) (hs kd k) (10 * SetTable.turns t.mask) (K - c) (pr t (hs kd k) c) (pr_dm _ _ _) (by omega)
      (fun q hq => by rw [pr_add]; exact hb _ (by omega)) (by rw [pr_add, Nat.add_sub_cancel' hc]; exact hK)
    simp only [pr_add] at sp
    have pe : t.probe (fun i => (es[i]?.map (·.1)).getD 0) (hs kd k) (stand.getD (t.probeStart (hs kd k))) = SetTable.probe.go t (fun i => (es[i]?.map (·.1)).getD 0) (hs kd k) (10 * SetTable.turns t.mask) (pr t (hs kd k) c) := by rw [est]; rfl
    rcases sp with ⟨q, i, hq, hi, _, first, go⟩ | ⟨none_, go⟩
    · rw [pe, go]
      dsimp only
      have hil : i < L.length := by
        have h1 := (List.getElem?_eq_some_iff.mp hi).1
        have h2 := R.tb.sz
        rw [List.length_map] at h2
        rw [Array.length_toList] at h1
        omega
      obtain ⟨p, hp⟩ : ∃ p, L[i]? = some p := ⟨_, List.getElem?_eq_getElem hil⟩
      have pm := List.mem_of_getElem? hp
      have sl := slot_live R.tb.ris hi
      have main : wpAny (model P w) A (searchRest a (.ref x) (hs kd k) true f es t (pr t (hs kd k) (c + q)).j i (pr t (hs kd k) (c + (q + 1)))) Q E s := by
        unfold searchRest
        rw [R.ent hp]
        dsimp only
        refine wpAny_bind (wpAny_holding (kd.hk.eqBool (kd.room hu) (R.ks p pm) kx (wpAny_bind (wpAny_setState_of ho hd R.fit ?_))))
        dsimp only
        by_cases ek : p.2 = k
        · exact wp_if_pos (by simp [ek]) (wpAny_pure (yes (List.mem_map.mpr ⟨p, pm, ek⟩)))
        · refine wp_if_neg (by simp [ek]) ?_
          try refine wpAny_bind (wpAny_pure ?_)
          rw [sameMem]
          dsimp only
          simp only [if_true, sl, R.ent hp]
          refine wpAny_bind (wpAny_isSame_ref_self (wpAny_bind (wpAny_pure ?_)))
          simp only [if_true]
          refine wp_if_neg (by simp [ek]) (ih (c + (q + 1)) _ rfl (by omega) (by omega) fun i0 p0 h0 k0 => ?_)
          obtain ⟨d, a1, a2, a3⟩ := hin i0 p0 h0 k0
          refine ⟨d, ?_, a2, a3⟩
          rcases Nat.lt_trichotomy d (c + q) with z | z | z
          · have := first (d - c) i0 (by omega) (by rw [Nat.add_sub_cancel' a1]; exact a3)
            exact absurd ((hat i0 p0 h0).trans (by rw [k0])) this
          · rw [z] at a3
            have := sl.symm.trans (slot_live R.tb.ris a3)
            injection this with this
            subst this
            rw [hp] at h0
            cases h0
            exact absurd k0 ek
          · omega
      split
      · refine wpAny_bind (seen kx (fun y hy => ?_) ?_)
        · obtain ⟨e, he, ey⟩ := List.mem_map.mp hy
          have he : e ∈ es.toList := by
            have : e ∈ es ∧ e.1 = hs kd k := by simpa using he
            simpa using this.1
          rw [R.en] at he
          obtain ⟨p2, m2, e2⟩ := List.mem_map.mp he
          exact ⟨p2.2, p2.1, by rw [← ey, ← e2], R.ks p2 m2⟩
        · refine wp_if_neg (by decide) ?_
          try refine wpAny_bind (wpAny_pure ?_)
          exact main
      · try refine wpAny_bind (wpAny_pure ?_)
        exact main
    · rw [pe, go, Nat.add_sub_cancel' hc]
      refine wpAny_pure (no fun hm => ?_)
      obtain ⟨p0, m0, k0⟩ := List.mem_map.mp hm
      obtain ⟨i0, h0⟩ := List.getElem?_of_mem m0
      obtain ⟨d, a1, a2, a3⟩ := hin i0 p0 h0 k0
      exact none_ (d - c) i0 (by omega) (by rw [Nat.add_sub_cancel' a1]; exact a3) ((hat i0 p0 h0).trans (by rw [k0]))
theorem find_key (R : GR kd s.heap a L es ep t) {x : Addr} {k : κ} (kx : kd.hk.is s.heap k x) (hu : A.units < cLine) {Q : SetFound → Shared → Prop} (yes : k ∈ L.map (·.2) → Q (.there none) s)
    (no : ∀ K, k ∉ L.map (·.2) → way t.mask (hs kd k) K ∉ t.place.toList → (∀ c, c < K → way t.mask (hs kd k) c ∈ t.place.toList) → Q (.free (way t.mask (hs kd k) K) false) s) :
    wpAny (model P w) A (setSearch a (.ref x) (hs kd k) true) Q E s := by
  have rm := R.rm
  obtain ⟨K, hf, hK, hb⟩ := R.tb.first (by rw [List.length_map]; omega) (hs kd k)
  have big : 10 * SetTable.turns t.mask ≤ 100000 := by
    unfold SetTable.turns
    rcases R.tb.mok with e | e | e <;> omega
  unfold setSearch
  refine seek R kx hu hf hK hb yes (fun n => no K n hK hb) 100000 0 none rfl (Nat.zero_le _) (by omega) fun i p hp ek => ?_
  have h1 : (L.map fun p => hs kd p.2)[i]? = some (hs kd k) := by rw [List.getElem?_map, hp, ← ek]; rfl
  have h2 : i < t.place.toList.length := by
    rw [Array.length_toList, R.tb.sz]
    exact (List.getElem?_eq_some_iff.mp h1).1
  obtain ⟨d, hd, e⟩ := R.tb.before hK h1 (List.getElem?_eq_getElem h2)
  exact ⟨d, Nat.zero_le _, hd, by rw [List.getElem?_eq_getElem h2, ← e]; rfl⟩
theorem is_same {h h' : Heap} {k : κ} {b : Addr} {o : Obj} {es : Array (Int × Value)} {ep : Nat} {t : SetTable} (kb : kd.hk.is h k b) (ho : h.get? a = some o) (hd : o.data = .set es ep t) (sb : Heap.SameBut a h h') : kd.hk.is h' k b :=
  kd.keep kb fun u hu => (sb.2 b (fun e => by subst e; rw [ho] at hu; cases hu; exact kd.noset kb ho hd)).trans hu
/-- the table laid anew -/
theorem relay {o : Obj} (ho : s.heap.get? a = some o) (hex : o.ExactSet) (hd : o.data = .set es ep t) (en : es.toList = L.map (ent kd)) (hz : t.place.size = es.size) (dm : t.dummies = #[]) (hfl : es.size ≤ t.mask)
    (un : (L.map (·.2)).Nodup) (ks : ∀ p ∈ L, kd.hk.is s.heap p.2 p.1) (pl : t.plain = true) (ld : w.params.followText "set-order" = true ∨ t.led = true) (fw : L.length < 64) {wanted M : Nat} (e0 : SetTable.sizeAbove wanted = M + 1) (hM : MaskOk M) (rm : L.length * 5 < M * 3)
    {Q : Unit → Shared → Prop} (q : ∀ h' L' es' ep' t', Heap.SameBut a s.heap h' → GR kd h' a L' es' ep' t' → L'.Perm L → Q () { s with heap := h' }) : wpAny (model P w) A (setRelay a wanted) Q E s := by
  have hsz := size_of en
  obtain ⟨t', order, er, po, T, em, el, ep2, _⟩ := relaid_ok t (hs := es.map (·.1)) (wanted := wanted) (M := M) (by omega) hM (by rw [Array.size_map]; omega)
  rw [Array.size_map, hsz] at po
  obtain ⟨L2, r1, r2, r3⟩ := reorder en po
  rw [← r3 (fun p => hs kd p.2) (es.map (·.1)) (by rw [Array.toList_map, en, List.map_map]; rfl)] at T
  have z2 : (order.filterMap (es[·]?)).size = es.size := by rw [size_of r1, r2.length_eq, hsz]
  have hM2 : M ≤ 127 := by rcases hM with e | e | e <;> omega
  rw [setRelay_eq]
  refine wpAny_bind (wpAny_setState_of ho hd (fits_of hz dm hfl rfl) ?_)
  dsimp only
  refine wp_if_neg (by rw [sizeLine_eq]; omega) ?_
  try refine wpAny_bind (wpAny_pure ?_)
  rw [er]
  dsimp only
  refine wpAny_bind ?_
  refine wp_if_neg (by simp [z2]) ?_
  try refine wpAny_bind (wpAny_pure ?_)
  refine wpAny_pure (wpAny_storeSet_of ho hd (q _ L2 (order.filterMap (es[·]?)) (ep + 1) t' (Heap.SameBut.update ..) ?_ r2) (by rw [z2, hsz, sizeLine_eq]; omega))
  exact { at_ := ⟨_, store_at ho hd, ⟨hex.1, hex.2.1, hex.2.2⟩, rfl⟩, en := r1, tb := T, un := (r2.map (·.2)).nodup_iff.mpr un, ks := fun p hp => is_same (ks p (r2.mem_iff.mp hp)) ho hd (Heap.SameBut.update ..), pl := by rw [ep2]; exact pl, ld := by rw [el]; exact ld, rm := by rw [r2.length_eq, em]; exact rm, fw := by rw [r2.length_eq]; exact fw }
/-- a key put into the set -/
theorem add (R : GR kd s.heap a L es ep t) {x : Addr} {k : κ} (kx : kd.hk.is s.heap k x) (hu : A.units < cLine) (few : k ∉ L.map (·.2) → L.length + 1 < 64) {Q : Bool → Shared → Prop}
    (q : ∀ b h' L' es' ep' t', Heap.SameBut a s.heap h' → GR kd h' a L' es' ep' t' → (k ∈ L.map (·.2) ∧ L' = L ∨ k ∉ L.map (·.2) ∧ L'.Perm ((x, k) :: L)) → Q b { s with heap := h' }) : wpAny (model P w) A (setAddHashed a (.ref x) (hs kd k)) Q E s := by
  obtain ⟨o, ho, hex, hd⟩ := R.at_
  have rm := R.rm
  unfold setAddHashed
  refine wpAny_holding ?_
  rw [show (100000 : Nat) = 99999 + 1 from rfl, setAddHashedIn_succ]
  refine wpAny_bind (wpAny_setState_of ho hd R.fit ?_)
  dsimp only
  refine wp_if_neg (by simp [byScan, Value.scannable]) ?_
  try refine wpAny_bind (wpAny_pure ?_)
  refine wpAny_bind (find_key R kx hu (fun y => ?_) fun K n hK hb => ?_)
  · dsimp only
    exact wpAny_pure (q false s.heap L es ep t (Heap.SameBut.refl a s.heap) R (.inl ⟨y, rfl⟩))
  · dsimp only
    refine wpAny_bind (wpAny_setState_of ho hd R.fit ?_)
    dsimp only
    obtain ⟨u1, u2, u3, u4, u5, u6, _, _, u9⟩ := R.tb.put hK hb
    have hp := u6.trans R.pl
    generalize ept : t.put (way t.mask (hs kd k) K) = pt at u1 u3 u4 u5 u6 u9 hp ⊢
    obtain ⟨t1, i⟩ := pt
    dsimp only at u1 u3 u4 u5 u6 u9 hp ⊢
    subst u1
    first
      | (refine wpAny_bind ?_; refine wp_if_pos hp ?_; refine kd.hbv kx ?_)
      | refine wp_if_pos hp (wpAny_bind (kd.hbv kx ?_))
    simp only [if_true]
    generalize SetTable.below t.place (way t.mask (hs kd k) K) = i at u2 u3 ⊢
    obtain ⟨L1, eL⟩ : ∃ L1, L1 = L.take i ++ (x, k) :: L.drop i := ⟨_, rfl⟩
    have pm : L1.Perm ((x, k) :: L) := by rw [eL]; exact put_perm L i (x, k)
    have en1 : (SetTable.insertAt es i (hs kd k, Value.ref x)).toList = L1.map (ent kd) := by
      rw [SetTable.toList_insertAt, R.en, eL, List.map_append, List.map_cons, List.map_take, List.map_drop]
    have tb1 : TabOk t1 (L1.map fun p => hs kd p.2) := by
      rw [eL, List.map_append, List.map_cons, List.map_take, List.map_drop]
      exact u3
    have len : L1.length = L.length + 1 := pm.length_eq
    have un1 : (L1.map (·.2)).Nodup := (pm.map (·.2)).nodup_iff.mpr (List.nodup_cons.mpr ⟨n, R.un⟩)
    have z1 := size_of en1
    have few := few n
    generalize SetTable.insertAt es i (hs kd k, Value.ref x) = es1 at en1 z1 ⊢
    refine wpAny_bind (wpAny_storeSet_of ho hd ?_ (by rw [z1, len, sizeLine_eq]; omega))
    have sb : Heap.SameBut a s.heap (s.heap.update a (Obj.putSet es1 t1)) := Heap.SameBut.update ..
    have ho1 := store_at (es' := es1) (t' := t1) ho hd
    generalize s.heap.update a (Obj.putSet es1 t1) = h1 at sb ho1 ⊢
    have ks1 : ∀ p ∈ L1, kd.hk.is h1 p.2 p.1 := fun p hp => by
      rcases List.mem_cons.mp (pm.mem_iff.mp hp) with e | m
      · rw [e]; exact is_same kx ho hd sb
      · exact is_same (R.ks p m) ho hd sb
    have ld1 : w.params.followText "set-order" = true ∨ t1.led = true := by rw [u5]; exact R.ld
    have full : t1.tooFull = true ↔ t1.mask * 3 ≤ (L.length + 1) * 5 := by
      unfold SetTable.tooFull
      rw [decide_eq_true_eq, u9, List.length_map]
    have pz : t1.place.size = es1.size := by rw [tb1.sz, List.length_map, z1]
    by_cases hf : t1.tooFull = true
    · first
        | (refine wpAny_bind ?_; refine wp_if_pos (by simp [hf]) ?_)
        | (refine wp_if_pos (by simp [hf]) ?_; refine wpAny_bind ?_)
      have hf2 := full.mp hf
      rw [u4] at hf2
      rw [size_of R.en]
      have go : ∀ M, SetTable.sizeAbove (SetTable.grown (L.length + 1)) = M + 1 → MaskOk M → (L.length + 1) * 5 < M * 3 → L.length + 1 ≤ t.mask →
          wpAny (model P w) A (setRelay a (SetTable.grown (L.length + 1))) (fun _ s' => wpAny (model P w) A (pure true) Q E s') E { s with heap := h1 } := fun M m1 m2 m3 m4 =>
        relay (s := { s with heap := h1 }) ho1 ⟨hex.1, hex.2.1, hex.2.2⟩ rfl en1 pz tb1.dm (by rw [z1, len, u4]; exact m4) un1 ks1 hp ld1 (by rw [len]; exact few) m1 m2 (by rw [len]; exact m3) fun h2 L2 es2 ep2 t2 sb2 R2 pm2 =>
          wpAny_pure (q true h2 L2 es2 ep2 t2 (sb.trans sb2) R2 (.inr ⟨n, pm2.trans pm⟩))
      rcases R.tb.mok with e | e | e
      · rw [e] at hf2 rm
        have e2 : L.length = 4 := by omega
        exact go 31 (by rw [e2, size_20]) (.inr (.inl rfl)) (by omega) (by omega)
      · rw [e] at hf2 rm
        have e2 : L.length = 18 := by omega
        exact go 127 (by rw [e2, size_76]) (.inr (.inr rfl)) (by omega) (by omega)
      · rw [e] at hf2
        omega
    · first
        | refine wp_if_neg (by simp [hf]) ?_
        | (refine wpAny_bind ?_; refine wp_if_neg (by simp [hf]) ?_; refine wpAny_pure ?_)
      have nf : ¬ t1.mask * 3 ≤ (L.length + 1) * 5 := fun z => hf (full.mpr z)
      exact wpAny_pure (q true h1 L1 es1 (ep + 1) t1 sb { at_ := ⟨_, ho1, ⟨hex.1, hex.2.1, hex.2.2⟩, rfl⟩, en := en1, tb := tb1, un := un1, ks := ks1, pl := hp, ld := ld1, rm := by rw [len]; omega, fw := by rw [len]; exact few } (.inr ⟨n, pm⟩))
/-- what came of the first i items -/
structure Came (ks : List (Addr × κ)) (i : Nat) (L : List (Addr × κ)) : Prop where
  out : ∀ p ∈ L, p ∈ ks.take i
  all : ∀ p ∈ ks.take i, p.2 ∈ L.map (·.2)
theorem Came.zero (ks : List (Addr × κ)) : Came ks 0 [] := ⟨fun p h => (by cases h), fun p h => (by simp at h)⟩
theorem Came.next {ks L L' : List (Addr × κ)} {i : Nat} {x : Addr × κ} (c : Came ks i L) (h : ks[i]? = some x) (d : x.2 ∈ L.map (·.2) ∧ L' = L ∨ x.2 ∉ L.map (·.2) ∧ L'.Perm ((x.1, x.2) :: L)) : Came ks (i + 1) L' := by
  have tk : ks.take (i + 1) = ks.take i ++ [x] := by rw [List.take_add_one, h]; rfl
  refine ⟨fun p hp => ?_, fun p hp => ?_⟩
  · rw [tk, List.mem_append, List.mem_singleton]
    rcases d with ⟨_, e⟩ | ⟨_, pm⟩
    · exact .inl (c.out p (e ▸ hp))
    · rcases List.mem_cons.mp (pm.mem_iff.mp hp) with e | m
      · exact .inr e
      · exact .inl (c.out p m)
  · rw [tk, List.mem_append, List.mem_singleton] at hp
    rcases d with ⟨m, e⟩ | ⟨_, pm⟩
    · subst e
      rcases hp with hp | e
      · exact c.all p hp
      · rw [e]; exact m
    · rw [(pm.map (·.2)).mem_iff, List.map_cons, List.mem_cons]
      rcases hp with hp | e
      · exact .inr (c.all p hp)
      · rw [e]; exact .inl rfl
/-- fewer than 64 unlike keys, whatever part is taken -/
def Few (ks : List (Addr × κ)) : Prop := ∃ ds : List κ, ds.length < 64 ∧ ∀ p ∈ ks, p.2 ∈ ds
theorem nodup_le : ∀ {l D : List κ}, l.Nodup → (∀ x ∈ l, x ∈ D) → l.length ≤ D.length
  | [], _, _, _ => Nat.zero_le _
  | x :: l, D, n, s => by
    obtain ⟨n1, n2⟩ := List.nodup_cons.mp n
    have := nodup_le (D := D.erase x) n2 fun y hy => (List.mem_erase_of_ne (fun e : y = x => n1 (e ▸ hy))).mpr (s y (List.mem_cons_of_mem _ hy))
    have hx := s x List.mem_cons_self
    rw [List.length_erase_of_mem hx] at this
    have := List.length_pos_of_mem hx
    simp only [List.length_cons]
    omega
theorem Came.few {ks L : List (Addr × κ)} {i : Nat} {x : Addr × κ} (c : Came ks i L) (f : Few ks) (un : (L.map (·.2)).Nodup) (h : ks[i]? = some x) (n : x.2 ∉ L.map (·.2)) : L.length + 1 < 64 := by
  obtain ⟨ds, dl, dm⟩ := f
  have := nodup_le (l := x.2 :: L.map (·.2)) (D := ds) (List.nodup_cons.mpr ⟨n, un⟩) fun y hy => by
    rcases List.mem_cons.mp hy with e | m
    · rw [e]; exact dm x (List.mem_of_getElem? h)
    · obtain ⟨p, pm, e⟩ := List.mem_map.mp m
      rw [← e]
      exact dm p (List.mem_of_mem_take (c.out p pm))
  simp only [List.length_cons, List.length_map] at this
  omega
theorem GR.move {h h' : Heap} {L : List (Addr × κ)} (R : GR kd h a L es ep t) (ha : ∀ o, h.get? a = some o → h'.get? a = some o) (ks : ∀ p ∈ L, kd.hk.is h' p.2 p.1) : GR kd h' a L es ep t :=
  let ⟨o, ho, r⟩ := R.at_
  { R with at_ := ⟨o, ha o ho, r⟩, ks := ks }
theorem fresh {h : Heap} (ho : h.get? a = some { cls := .type "set", dict := none, data := .set #[] 0 (.fresh 0 0 (!w.params.followText "set-order")) }) : GR kd h a [] #[] 0 (.fresh 0 0 (!w.params.followText "set-order")) where
  at_ := ⟨_, ho, ⟨rfl, rfl, rfl⟩, rfl⟩
  en := rfl
  tb := { ris := .nil, dm := rfl, sz := rfl, mok := .inl rfl, bd := fun x hx => (by cases hx), reach := fun i h j hi => (by simp at hi) }
  un := .nil
  ks := fun p hp => (by cases hp)
  pl := rfl
  ld := by
    show _ ∨ (!w.params.followText "set-order") = true
    cases w.params.followText "set-order" <;> simp
  rm := by show 0 * 5 < 7 * 3; omega
  fw := by show 0 < 64; omega
/-- the loop that puts a list's items into the set -/
theorem upd_loop {I : Addr} {fp wr : List Addr} {G : Array GenState → Array GenState → Prop} {n : Nat} {Pv : Nat → Value → Prop} {St : Nat → Shared → Prop} {R : Result → Shared → Prop} (W : WalksS P w A.in1 I fp wr G n Pv St) {S : Addr} (hS : S ∉ fp)
    {ks : List (Addr × κ)} (hn : n = ks.length) (few : Few ks) (hv : ∀ i v, Pv i v → ∃ p, ks[i]? = some p ∧ v = .ref p.1) {h0 : Heap} (k0 : ∀ p ∈ ks, kd.hk.is h0 p.2 p.1) (S0 : h0.get? S = none) (w0 : ∀ b ∈ wr, h0.get? b = none) (hu : A.in1.units < cLine) :
    ∀ (m i : Nat) (s : Shared), n - i = m → i ≤ n → St i s → (∀ b o, h0.get? b = some o → s.heap.get? b = some o) → (∃ L es ep t, GR kd s.heap S L es ep t ∧ Came ks i L) →
      (∀ s' L es ep t, Moved (S :: wr) G s s' → GR kd s'.heap S L es ep t → Came ks n L → (∀ b o, h0.get? b = some o → s'.heap.get? b = some o) → R (.ok (.ret .none)) s') →
      codeAny (model P w) A (.builtin "set.update.loop" ⟨[.ref S, .ref I], []⟩) R s := by
  have Sw : S ∉ wr := fun z => hS (W.sub _ z)
  have wS : ∀ b ∈ wr, b ∈ S :: wr := fun b hb => List.mem_cons_of_mem _ hb
  have kept : ∀ {s s' : Shared}, Moved wr G s s' → (∀ b o, h0.get? b = some o → s.heap.get? b = some o) → ∀ b o, h0.get? b = some o → s'.heap.get? b = some o := fun mv kp b o e =>
    mv.heap b o (fun z => by rw [w0 b z] at e; cases e) (kp b o e)
  intro m
  induction m with
  | zero =>
    intro i s hm hi hst kp ⟨L, es, ep, t, R0, c⟩ hR
    obtain rfl : i = n := by omega
    refine codeAny_builtin F.entry_set_update_loop ?_
    rw [Around.under_plainId F.plain_set_update_loop _]
    show wpAny _ A.in1 (pyNext (.ref I) >>= _) _ _ s
    refine wpAny_bind (W.done s _ _ hst fun s' mv => ?_)
    show wpAny _ A.in1 (ret Value.none) _ _ s'
    have kp' := kept mv kp
    exact wpAny_pure (hR s' L es ep t (mv.mono wS) (R0.move (fun o e => mv.heap S o Sw e) fun p hp => kd.keep (k0 p (List.mem_of_mem_take (c.out p hp))) (kp' p.1)) c kp')
  | succ m ih =>
    intro i s hm hi hst kp ⟨L, es, ep, t, R0, c⟩ hR
    refine codeAny_builtin F.entry_set_update_loop ?_
    rw [Around.under_plainId F.plain_set_update_loop _]
    show wpAny _ A.in1 (pyNext (.ref I) >>= _) _ _ s
    refine wpAny_bind (W.item i s _ _ (by omega) hst fun v s' hP hst' mv => ?_)
    obtain ⟨p, hp, rfl⟩ := hv i v hP
    have kp' := kept mv kp
    have R1 : GR kd s'.heap S L es ep t := R0.move (fun o e => mv.heap S o Sw e) fun p hp => kd.keep (k0 p (List.mem_of_mem_take (c.out p hp))) (kp' p.1)
    have kx := kd.keep (k0 p (List.mem_of_getElem? hp)) (kp' p.1)
    show wpAny _ A.in1 (holding [Value.ref p.1] (setAdd S (.ref p.1)) >>= _) _ _ s'
    refine wpAny_bind (wpAny_holding ?_)
    unfold setAdd
    refine wpAny_holding (wpAny_bind (kd.hk.pyHash (kd.room hu) kx ?_))
    refine add (s := { s' with toks := s'.toks + kd.hk.draws p.2 }) R1 kx hu (fun z => c.few few R1.un hp z) fun b h' L' es' ep' t' sb R2 d => ?_
    have kp2 : ∀ b o, h0.get? b = some o → h'.get? b = some o := fun b o e => (sb.2 b (fun z => by rw [z, S0] at e; cases e)).trans (kp' b o e)
    refine wpAny_pure ⟨plainId_quiet F.plain_set_update_loop _, ih (i + 1) _ (by omega) (by omega) (W.frame _ s' _ _ hst' (Nat.le_add_right _ _) fun b hb o e => ?_) kp2 ⟨L', es', ep', t', R2, c.next hp d⟩ fun s2 L2 es2 ep2 t2 mv2 R3 c3 kp3 => ?_⟩
    · rw [sb.2 b (fun z => hS (z ▸ hb))]; exact e
    · refine hR s2 L2 es2 ep2 t2 (Moved.trans W.gtrans ((mv.mono wS).then_heap (Nat.le_add_right _ _) fun b o hb e => ?_) mv2) R3 c3 kp3
      rw [sb.2 b (fun z => hb (z ▸ List.mem_cons_self))]; exact e
abbrev set0 (w : World) : Obj := { cls := .type "set", dict := none, data := .set #[] 0 (.fresh 0 0 (!w.params.followText "set-order")) }
abbrev it0 (l : Addr) : Obj := { cls := .type "list_iterator", data := .fields #[.ref l, .int 0 0] }
set_option maxHeartbeats 4000000 in
/-- set(xs) comes to the loop over xs -/
theorem set_call {l : Addr} {items : Array Value} {Dn : Heap → Prop} {Q : Value → Shared → Prop} (hh : A.handled = none) (hl : s.heap.IsList l items)
    (loop : ∀ (B : Around) (R : Result → Shared → Prop), B.in1.handled = none → B.in1.units ≤ A.units + 3 → (∀ h' tk, Dn h' → R (.ok (.ret .none)) { s with heap := h', toks := tk }) →
      codeAny (model P w) B (.builtin "set.update.loop" ⟨[.ref s.heap.objs.size, .ref (s.heap.objs.size + 1)], []⟩) R { s with heap := (s.heap.push (set0 w)).push (it0 l) })
    (q : ∀ h' tk, Dn h' → Q (.ref s.heap.objs.size) { s with heap := h', toks := tk }) : wpAny (model P w) A (call (.type "set") [.ref l]) Q E s := by
  obtain ⟨c, tl, mro⟩ := F.called_set.mro
  have a1 := F.called_set.made
  have a2 := F.called_set.sub
  have a3 := F.called_set.notType
  have a4 := F.called_set.canCreate
  have a5 := F.typeCall_set_1 (.ref l)
  refine wpAny_call (codeAny_of_tree ?_)
  show wpAny _ _ (callAny (.type "set") _) _ _ _
  refine wpAny_pure ⟨Code.quiet_builtin _ (by decide +kernel), codeAny_builtin F.entry_type_call ?_⟩
  rw [Around.under_plain (weight_type_call_type "set" [.ref l] []) rfl]
  repeat (any_goals (first | assumption | wp_step))
  refine codeAny_mono (code_set_led1 (.ref l) (E := E) (Q₁ := fun v z => v = .ref s.heap.objs.size ∧ z = { s with heap := s.heap.push (set0 w) }) ⟨rfl, rfl⟩) fun r z hr => ?_
  rcases r with e | (_ | _ | _ | v)
  all_goals first | exact hr | exact hr.elim | skip
  · obtain ⟨rfl, rfl⟩ := hr
    have gS : (s.heap.push (set0 w)).get? s.heap.objs.size = some (set0 w) := Heap.get?_push_size _ rfl
    have tS : Shared.TypeIs { s with heap := s.heap.push (set0 w) } (.ref s.heap.objs.size) "set" := ⟨_, gS, rfl⟩
    have b1 := F.called_set.init.lookup
    have b2 := F.called_set.init.bind (.ref s.heap.objs.size)
    repeat (any_goals (first | assumption | wp_step))
    refine codeAny_mono (codeAny_call_builtin (R := wants (fun v z => v = .none ∧ ∃ h' tk, z = { s with heap := h', toks := tk } ∧ Dn h') E) F.called_set.init.plain F.entry_set_init (check_set_init_1 tS ?_)) fun r2 z2 hr2 => ?_
    · obtain ⟨⟨oc, od, dt, sl⟩, ol, oc1, n, od1⟩ := hl
      simp only at oc1 od1
      subst oc1 od1
      have ol1 : (s.heap.push (set0 w)).get? l = some { cls := .type "list", dict := od, data := .seq items n, slots := sl } := Heap.get?_push_of_some _ ol
      have c1 := F.sub_list_set
      have c2 := F.sub_list_frozenset
      have c3 : (Value.type "list" == Value.type "dict") = false := by decide
      have il : (s.heap.push (set0 w)).IsList l items := ⟨_, ol1, rfl, n, rfl⟩
      unfold Builtin.«set.__init__» noKeywords Builtin.Frozenset.updateFrom
      generalize ePI : pyIter = PI
      wp_walk
      subst ePI
      refine wpAny_pyIter_list il (wpAny_bind (wpAny_runValue ?_))
      have sz : (s.heap.push (set0 w)).objs.size = s.heap.objs.size + 1 := Heap.size_push ..
      rw [sz]
      refine loop _ _ (by simp [hh]) ?_ fun h' tk dn => ?_
      · exact Nat.le_refl _
      · show wpAny _ _ _ _ _ _
        refine wpAny_pure ?_
        show wpAny _ _ (ret Value.none) _ _ _
        exact wpAny_pure ⟨rfl, h', tk, rfl, dn⟩
    · rcases r2 with e | (_ | _ | _ | v)
      all_goals first | exact hr2 | exact hr2.elim | skip
      · obtain ⟨rfl, h', tk, rfl, dn⟩ := hr2
        repeat (any_goals (first | assumption | wp_step))
        exact q h' tk dn
end
end GS

set_option maxRecDepth 100000
set_option maxHeartbeats 2000000
/-! DD15: set(xs) of lists, their sorted lists, as readings. -/
namespace GS
open PySem PySem.Spec PyProof.Rows L2
section
variable {P : Program} {w : World} {κ : Type} [DecidableEq κ] {kd : Kd P w κ} {A : Around} {E : Value → Shared → Prop} {s : Shared} {a : Addr} {L : List (Addr × κ)} {es : Array (Int × Value)} {ep : Nat} {t : SetTable}
theorem none_at {h : Heap} {b : Addr} (hb : h.objs.size ≤ b) : h.get? b = none := by
  cases e : h.get? b with
  | none => rfl
  | some o => exact absurd (Heap.lt_size e) (Nat.not_lt.mpr hb)
theorem two_old {h : Heap} {o1 o2 u : Obj} {b : Addr} (e : h.get? b = some u) : ((h.push o1).push o2).get? b = some u := Heap.get?_push_of_some _ (Heap.get?_push_of_some _ e)
theorem is_iter {h : Heap} {l : Addr} (o : Obj) : ((h.push o).push (it0 l)).IsListIter (h.objs.size + 1) l 0 := by
  refine ⟨it0 l, ?_, rfl, rfl⟩
  have := Heap.get?_push_size (h.push o) (o := it0 l) rfl
  rwa [Heap.size_push] at this
/-- set(xs), xs a list of ints -/
theorem set_ints {l : Addr} {items : Array Value} {ns : List Int} {Q : Value → Shared → Prop} (hh : A.handled = none) (hl : s.heap.IsList l items) (hi : IntsAre items.toList ns) (hb : ns.length + 1 < scanBound)
    (q : ∀ h' tk c, SetR w h' s.heap.objs.size (fun j => decide (j ∈ ns)) c → c ≤ ns.length → (∀ b o, s.heap.get? b = some o → h'.get? b = some o) → Q (.ref s.heap.objs.size) { s with heap := h', toks := tk }) :
    wpAny (model P w) A (call (.type "set") [.ref l]) Q E s := by
  have sz : items.size = ns.length := by rw [← Array.length_toList]; exact IntsAre.length hi
  obtain ⟨ol, hol, hlr⟩ := id hl
  have ll := Heap.lt_size hol
  refine set_call (Dn := fun h' => ∃ c, SetR w h' s.heap.objs.size (fun j => decide (j ∈ ns)) c ∧ c ≤ ns.length ∧ ∀ b o, s.heap.get? b = some o → h'.get? b = some o) hh hl (fun B R hB _ hR => ?_) fun h' tk ⟨c, h1, h2, h3⟩ => q h' tk c h1 h2 h3
  refine set_update_ints ((Walks.list hB (s.heap.objs.size + 1) l (Nat.ne_of_lt (Nat.lt_succ_of_lt ll)) items).toS) s.heap.objs.size (by simp; exact Nat.ne_of_gt ll) ns sz hb (fun i v hv => ?_) (items.size - 0) 0 _ (by omega) (Nat.zero_le _)
    ⟨is_iter _, by exact ⟨ol, two_old hol, hlr⟩⟩ ⟨0, Nat.le_refl _, setR_new_at (ns := ns) (Heap.get?_push_of_some _ (Heap.get?_push_size _ rfl))⟩ fun s' c mv hc hS => ?_
  · have e : items.toList[i]? = some v := by rw [Array.getElem?_toList]; exact hv
    obtain ⟨k, t, h1, h2⟩ := hi.at _ _ e
    exact ⟨k, t, h2, h1⟩
  · obtain ⟨h', g2, d2, tk, o2⟩ := s'
    have e1 : g2 = s.gens := mv.gens
    have e2 : d2 = s.drawn := mv.drawn
    have e3 : o2 = s.os := mv.os
    subst e1 e2 e3
    refine hR h' tk ⟨c, hS, by omega, fun b o e => mv.heap b o (fun z => ?_) (two_old e)⟩
    have := Heap.lt_size e
    simp only [List.mem_cons, List.not_mem_nil, or_false] at z
    rcases z with z | z
    · exact absurd z (Nat.ne_of_lt this)
    · exact absurd z (Nat.ne_of_lt (Nat.lt_succ_of_lt this))
/-! ### ints and truth values as keys -/
def isNum (k : Int) : Value → Bool
  | .int i _ => decide (i = k)
  | .bool b => decide ((if b then 1 else 0) = k)
  | _ => false
theorem isNum_cases {k : Int} {v : Value} (h : isNum k v = true) : (∃ t, v = .int k t) ∨ ∃ b : Bool, v = .bool b ∧ (if b then 1 else 0) = k := by
  cases v with
  | int i t => exact .inl ⟨t, by rw [of_decide_eq_true h]⟩
  | bool b => exact .inr ⟨b, rfl, of_decide_eq_true h⟩
  | _ => cases h
theorem hash_bool {b : Bool} {Q : Int → Shared → Prop} (h : Q (hashInt (if b then 1 else 0)) { s with toks := s.toks + 1 }) : wpAny (model P w) A (pyHash (.bool b)) Q E s := by
  have hr := rawHash_range (if b then 1 else 0)
  have ty : s.TypeIs (.bool b) "bool" := PySem.typeIs_bool s b
  unfold pyHash
  first | unfold pyHashByItsType | skip
  refine wpAny_bind ?_
  rw [cRoomFor, if_neg (by exact Bool.false_ne_true)]
  refine wpAny_pure (wpAny_bind (wpAny_specialOf ty F.slot_bool_hash.lookup ?_))
  show wpAny _ _ (if (some (Value.builtin "int.__hash__") == some Value.none) = true then _ else _) Q E s
  rw [if_neg (by rw [beq_builtin_none]; exact Bool.false_ne_true)]
  refine wpAny_bind (wpAny_specialOf ty F.slot_bool_hash.lookup ?_)
  show wpAny _ _ (callSpecialIfBoundUnlessNone? (.bool b) "__hash__" _ >>= _) Q E s
  refine wpAny_bind (wpAny_callSpecialIfBoundUnlessNone?_slot ty F.slot_bool_hash (wpAny_call_entry F.slot_bool_hash ty entry_int_hash ?_ (args_int_hash _)))
  show wpAny _ _ (do ret (← mkInt (rawHash (if b then 1 else 0)))) _ _ s
  refine wpAny_ret_mkInt ?_
  show wpAny _ _ (if (decide (-(2 : Int) ^ 63 ≤ rawHash (if b then 1 else 0)) && decide (rawHash (if b then 1 else 0) < 2 ^ 63)) = true then _ else _) Q E _
  rw [if_pos (by rw [decide_eq_true hr.1, decide_eq_true hr.2]; rfl)]
  exact wpAny_pure h
def numKind (P : Program) (w : World) : KeyKind P w Int where
  is := isNum
  hash := hashInt
  inj := fun v a b h1 h2 => by
    cases v with
    | int i t => exact (of_decide_eq_true h1).symm.trans (of_decide_eq_true h2)
    | bool c => exact (of_decide_eq_true h1).symm.trans (of_decide_eq_true h2)
    | _ => cases h1
  byValue := fun k v h => by rcases isNum_cases h with ⟨t, rfl⟩ | ⟨b, rfl, _⟩ <;> rfl
  pyHash := fun hv h => by
    rcases isNum_cases hv with ⟨t, rfl⟩ | ⟨b, rfl, rfl⟩
    · exact wpAny_pyHash_int h
    · exact hash_bool h
  eqBool := fun {A E s a b u v Q} hu hv h => by
    rcases isNum_cases hu with ⟨t, rfl⟩ | ⟨c, rfl, rfl⟩ <;> rcases isNum_cases hv with ⟨t', rfl⟩ | ⟨c', rfl, rfl⟩
    · exact wpAny_eqBool_int h
    · exact SeqAt.EqAt.int_bool _ _ _ P w E Q h
    · exact SeqAt.EqAt.bool_int _ _ _ P w E Q h
    · refine SeqAt.EqAt.bool_bool _ _ P w E Q ?_
      cases c <;> cases c' <;> exact h
  «strs» := fun k x t v h => by cases h
theorem nums_out {k : List Int} {vs : List Value} (h : ItemsAre (numKind P w) k vs) : ∀ v ∈ vs, (∃ i t, v = Value.int i t) ∨ ∃ b, v = .bool b := by
  induction h with
  | nil => intro v hv; cases hv
  | cons h1 _ ih =>
    intro v hv
    rcases List.mem_cons.mp hv with e | hv
    · subst e
      rcases isNum_cases h1 with ⟨t, e⟩ | ⟨b, e, _⟩
      · exact .inl ⟨_, t, e⟩
      · exact .inr ⟨b, e⟩
    · exact ih v hv
theorem cls_num {n : Nat} {v : Value} (h : (∃ i t, v = Value.int i t) ∨ ∃ b, v = .bool b) : ofAClassStatement n v = pure false := by
  rcases h with ⟨i, t, rfl⟩ | ⟨b, rfl⟩ <;> cases n <;> rfl
theorem hbv_num {n : Nat} {v : Value} (h : (∃ i t, v = Value.int i t) ∨ ∃ b, v = .bool b) : hashByValue n v = pure true := by
  rcases h with ⟨i, t, rfl⟩ | ⟨b, rfl⟩ <;> cases n <;> rfl
/-- tuples of ints and truth values -/
def numTup (P : Program) (w : World) : Kd P w (List Int) where
  hk := tupleKind (numKind P w)
  room := fun h => h
  keep := fun ⟨o, its, n, ho, r⟩ k => ⟨o, its, n, k o ho, r⟩
  noset := fun ⟨o, its, n, ho, _, hd, _⟩ h e => by
    cases ho.symm.trans h
    rw [hd] at e
    cases e
  cls := fun {A E s k b Q} hk q => by
    have ty := IsTupleKey.typeIs hk
    obtain ⟨o, its, n, ho, _, hd, hi⟩ := hk
    unfold ofAClassStatement
    refine wpAny_bind (wpAny_typeOf ty ?_)
    dsimp only
    simp only [show (("tuple" : String) == "tuple") = true by decide, if_true, Bool.not_true, Bool.false_eq_true, if_false]
    try refine wpAny_bind (wpAny_pure ?_)
    try simp only [Bool.not_true, Bool.false_eq_true, if_false]
    show wpAny _ _ (seqItems? (.ref b) >>= _) _ _ s
    refine wpAny_bind (wpAny_seqItems ho hd ?_)
    dsimp only
    refine wpAny_bind ?_
    show wpAny _ _ (forIn its _ _) _ _ s
    rw [← Array.forIn_toList]
    refine wpAny_forIn_list _ (fun r z s' => z.1 = none ∧ s' = s ∧ ∀ v ∈ r, (∃ i t, v = Value.int i t) ∨ ∃ b, v = .bool b) _ ?_ ?_ _ _ ⟨rfl, rfl, nums_out hi⟩
    · intro v r z s' ⟨hz, es, al⟩
      subst es
      rw [cls_num (al v List.mem_cons_self)]
      refine wpAny_bind (wpAny_pure ?_)
      simp only [Bool.false_eq_true, if_false]
      exact wpAny_pure ⟨rfl, rfl, fun u hu => al u (List.mem_cons_of_mem _ hu)⟩
    · intro ⟨z1, z2⟩ s' ⟨hz, es, _⟩
      subst es
      simp only at hz
      subst hz
      exact wpAny_pure q
  hbv := fun {A E s k b Q} hk q => by
    have ty := IsTupleKey.typeIs hk
    obtain ⟨o, its, n, ho, _, hd, hi⟩ := hk
    unfold hashByValue
    refine wpAny_bind (wpAny_specialOf ty F.slot_tuple_hash.lookup ?_)
    show wpAny _ _ (seqItems? (.ref b) >>= _) _ _ s
    refine wpAny_bind (wpAny_seqItems ho hd (wpAny_bind ?_))
    show wpAny _ _ (forIn its _ _) _ _ s
    rw [← Array.forIn_toList]
    refine wpAny_forIn_list _ (fun r z s' => z.1 = none ∧ s' = s ∧ ∀ v ∈ r, (∃ i t, v = Value.int i t) ∨ ∃ b, v = .bool b) _ ?_ ?_ _ _ ⟨rfl, rfl, nums_out hi⟩
    · intro v r z s' ⟨hz, es, al⟩
      subst es
      rw [hbv_num (al v List.mem_cons_self)]
      refine wpAny_bind (wpAny_pure ?_)
      simp only [Bool.not_true, Bool.false_eq_true, if_false]
      exact wpAny_pure ⟨rfl, rfl, fun u hu => al u (List.mem_cons_of_mem _ hu)⟩
    · intro ⟨z1, z2⟩ s' ⟨hz, es, _⟩
      subst es
      simp only at hz
      subst hz
      exact wpAny_pure q
/-- set(xs), xs a list of keys -/
theorem set_keys {l : Addr} {items : Array Value} {ks : List (Addr × κ)} {Q : Value → Shared → Prop} (hh : A.handled = none) (hl : s.heap.IsList l items) (hi : items.toList = ks.map fun p => Value.ref p.1) (hk : ∀ p ∈ ks, kd.hk.is s.heap p.2 p.1) (few : Few ks) (hu : A.units + 3 < cLine)
    (q : ∀ h' tk L es ep t, GR kd h' s.heap.objs.size L es ep t → Came ks ks.length L → (∀ b o, s.heap.get? b = some o → h'.get? b = some o) → Q (.ref s.heap.objs.size) { s with heap := h', toks := tk }) :
    wpAny (model P w) A (call (.type "set") [.ref l]) Q E s := by
  have sz : items.size = ks.length := by rw [← Array.length_toList, hi, List.length_map]
  obtain ⟨ol, hol, hlr⟩ := id hl
  have ll := Heap.lt_size hol
  refine set_call (Dn := fun h' => ∃ L es ep t, GR kd h' s.heap.objs.size L es ep t ∧ Came ks ks.length L ∧ ∀ b o, s.heap.get? b = some o → h'.get? b = some o) hh hl (fun B R hB hBu hR => ?_) fun h' tk ⟨L, es, ep, t, h1, h2, h3⟩ => q h' tk L es ep t h1 h2 h3
  refine upd_loop ((Walks.list hB (s.heap.objs.size + 1) l (Nat.ne_of_lt (Nat.lt_succ_of_lt ll)) items).toS) (S := s.heap.objs.size) (by simp; exact Nat.ne_of_gt ll) sz few (fun i v hv => ?_) hk (none_at (Nat.le_refl _)) (fun b hb => none_at (by rw [List.mem_singleton.mp hb]; exact Nat.le_succ _))
    (Nat.lt_of_le_of_lt hBu hu) (items.size - 0) 0 _ (by omega) (Nat.zero_le _) ⟨is_iter _, by exact ⟨ol, two_old hol, hlr⟩⟩ (fun b o e => two_old e) ⟨[], #[], 0, _, fresh (Heap.get?_push_of_some _ (Heap.get?_push_size _ rfl)), Came.zero ks⟩ fun s' L es ep t mv hS c kp => ?_
  · have e : items.toList[i]? = some v := by rw [Array.getElem?_toList]; exact hv
    rw [hi, List.getElem?_map] at e
    obtain ⟨p, h1, h2⟩ := Option.map_eq_some_iff.mp e
    exact ⟨p, h1, h2.symm⟩
  · obtain ⟨h', g2, d2, tk, o2⟩ := s'
    have e1 : g2 = s.gens := mv.gens
    have e2 : d2 = s.drawn := mv.drawn
    have e3 : o2 = s.os := mv.os
    subst e1 e2 e3
    exact hR h' tk ⟨L, es, ep, t, hS, sz ▸ c, kp⟩
theorem each_refs {α : Type} {R : Value → α → Prop} (f : α → Value) : ∀ {vs : List Value} {L : List α}, vs = L.map f → (∀ x ∈ L, R (f x) x) → PySem.W.EachIs R vs L
  | _, [], e, _ => by rw [e]; exact .nil
  | _, x :: L, e, h => by rw [e]; exact .cons (h x List.mem_cons_self) (each_refs f rfl fun y hy => h y (List.mem_cons_of_mem _ hy))
theorem refs_each {α : Type} (f : α → Value) : ∀ {vs : List Value} {L : List α}, PySem.W.EachIs (fun v x => v = f x) vs L → vs = L.map f
  | _, _, .nil => rfl
  | _, _, .cons h t => by rw [h, refs_each f t]; rfl
theorem as_map {α β : Type} {f : α → β} {L : List α} : ∀ {vs : List β}, (∀ v ∈ vs, v ∈ L.map f) → ∃ L1 : List α, vs = L1.map f ∧ ∀ x ∈ L1, x ∈ L
  | [], _ => ⟨[], rfl, fun x hx => (by cases hx)⟩
  | v :: vs, h => by
    obtain ⟨x, hx, e⟩ := List.mem_map.mp (h v List.mem_cons_self)
    obtain ⟨L1, e1, h1⟩ := as_map fun u hu => h u (List.mem_cons_of_mem _ hu)
    exact ⟨x :: L1, by rw [List.map_cons, e, ← e1], fun y hy => by
      rcases List.mem_cons.mp hy with z | z
      · rw [z]; exact hx
      · exact h1 y z⟩
/-- sorted(set) -/
theorem sorted_keys (R : GR kd s.heap a L es ep t) (hh : A.handled = none) {enc : κ → PyData} (rd : ∀ h' : Heap, (∀ b o, s.heap.get? b = some o → h'.get? b = some o) → ∀ p ∈ L, ∃ as, Reads h' (.ref p.1) (enc p.2) as ∧ ∀ b ∈ as, ∃ o, s.heap.get? b = some o) (al : PySem.W.AllAlike (L.map fun p => enc p.2)) (so : ∀ L1 : List (Addr × κ), L1.Perm L → PySem.W.Sortable (L1.map fun p => enc p.2)) (hu : ∀ p ∈ L, A.units + 2 + (enc p.2).depth < cLine) {Q : Value → Shared → Prop}
    (q : ∀ s' p (out : Array Value) (c : Nat) (L1 : List (Addr × κ)), (∀ b o, s.heap.get? b = some o → s'.heap.get? b = some o) → s'.gens = s.gens → s'.os = s.os → s.heap.objs.size ≤ p → s'.heap.get? p = some (seqObj "list" out c) → L1.Perm L →
      out.toList = (L1.mergeSort (PySem.W.dataLe false fun p => enc p.2)).map (fun p => Value.ref p.1) → Q (.ref p) s') :
    wpAny (model P w) A (call (.builtin "sorted") [.ref a]) Q E s := by
  obtain ⟨o, ho, hex, hd⟩ := R.at_
  have fw := R.fw
  have sz := size_of R.en
  refine Calls.call_function_entry kind_sorted plain_sorted entry_sorted (args_sorted1 _) ?_
  unfold Builtin.«sorted»
  refine wpAny_bind (m := checkCount "sorted" 1 1 _) (wpAny_pure (wpAny_bind (collect_set (A := A.in1) hh ⟨o, ho, hex.1, hd⟩ R.fit (by unfold scanBound; omega) R.tb.ris R.ld fun s1 vs k1 hz g1 o1 pm => ?_)))
  have evs : es.toList.map (·.2) = L.map fun p => Value.ref p.1 := by rw [R.en, List.map_map]; rfl
  rw [evs] at pm
  obtain ⟨L1, e1, m1⟩ := as_map (f := fun p : Addr × κ => Value.ref p.1) (L := L) fun v hv => pm.mem_iff.mp hv
  have pL : L1.Perm L := by
    have inj : ∀ x ∈ L, ∀ y ∈ L, Value.ref x.1 = .ref y.1 → x = y := fun x hx y hy e => by
      injection e with e
      have a1 := R.ks x hx
      rw [e] at a1
      exact Prod.ext e (kd.hk.inj a1 (R.ks y hy))
    have nL : L.Nodup := nodup_of_map R.un
    have nr : (L.map fun p => Value.ref p.1).Nodup := List.pairwise_map.mpr (nL.imp_of_mem fun {x y} hx hy n e => n (inj x hx y hy e))
    rw [e1] at pm
    refine (List.perm_ext_iff_of_nodup (nodup_of_map (pm.nodup_iff.mpr nr)) nL).mpr fun x => ⟨m1 x, fun hx => ?_⟩
    obtain ⟨y, hy, e⟩ := List.mem_map.mp (pm.mem_iff.mpr (List.mem_map.mpr ⟨x, hx, rfl⟩))
    rw [← inj y (m1 y hy) x hx e]
    exact hy
  have vl : vs.length < 64 := by rw [pm.length_eq, List.length_map]; exact fw
  refine wpAny_bind (wpAny_newList ?_ (by rw [sizeLine_eq]; omega))
  have oL : (s1.heap.push (seqObj "list" vs.toArray 0)).get? s1.heap.objs.size = some (seqObj "list" vs.toArray 0) := Heap.get?_push_size _ rfl
  have old : ∀ b u, s.heap.get? b = some u → (s1.heap.push (seqObj "list" vs.toArray 0)).get? b = some u := fun b u e => Heap.get?_push_of_some _ (k1 b u e)
  refine wpAny_bind (wpAny_holding (PySem.W.list_sort_data (s := { s1 with heap := s1.heap.push (seqObj "list" vs.toArray 0) }) (R := fun v p => v = .ref p.1) (enc := fun p : Addr × κ => enc p.2) (bs := L1) oL (each_refs _ e1 fun _ _ => rfl)
    (each_refs _ e1 fun p hp => ?_) ?_ (so L1 pL) ?_ ?_ fun out ol oe => ?_))
  · obtain ⟨as, r, ra⟩ := rd _ old p (m1 p hp)
    refine ⟨as, r, fun z => ?_⟩
    obtain ⟨u, e⟩ := ra _ z
    exact absurd (Heap.lt_size e) (Nat.not_lt.mpr hz)
  · have pe := pL.map fun p => enc p.2
    exact fun d h1 d' h2 => al d (pe.mem_iff.mp h1) d' (pe.mem_iff.mp h2)
  · rw [sizeLine_eq, pL.length_eq]; omega
  · intro p hp
    have := hu p (m1 p hp)
    show A.units + 1 + 1 + _ < _
    omega
  · obtain ⟨c, hc⟩ := sortedHeap_at (vs := vs) (out := List.toArray out) oL
    refine wpAny_pure ⟨_, rfl, q _ s1.heap.objs.size (List.toArray out) c L1 (fun b u e => ?_) g1 o1 hz hc pL (by simpa using refs_each _ oe)⟩
    have h1 := k1 b u e
    have lt := Heap.lt_size h1
    show (sortedHeap (s1.heap.push (seqObj "list" vs.toArray 0)) s1.heap.objs.size vs (List.toArray out)).get? b = some u
    rw [sortedHeap_old (Nat.ne_of_lt lt) (by rw [size_push']; exact Nat.lt_succ_of_lt lt)]
    exact old b u e
end
end GS

set_option maxRecDepth 100000
set_option maxHeartbeats 2000000
/-! DD16: sorted(set(xs)) as a function on data. -/
namespace DD
open PySem PySem.Spec PyProof.Rows L2 GS
/-! ### strictly sorted lists -/
section
variable {α : Type} (lt : α → α → Prop) [DecidableRel lt]
def ins (x : α) : List α → List α
  | [] => [x]
  | y :: r => if lt x y then x :: y :: r else if lt y x then y :: ins x r else y :: r
def srt (l : List α) : List α := l.foldr (ins lt) []
structure Lin : Prop where
  ir : ∀ x, ¬ lt x x
  tr : ∀ x y z, lt x y → lt y z → lt x z
  tri : ∀ x y, ¬ lt x y → ¬ lt y x → x = y
variable {lt}
theorem mem_ins (o : Lin lt) {x y : α} : ∀ {l : List α}, y ∈ ins lt x l ↔ y = x ∨ y ∈ l
  | [] => by simp [ins]
  | z :: r => by
    unfold ins
    split
    · simp
    · split
      · simp only [List.mem_cons, mem_ins o (l := r)]
        constructor
        · rintro (h | h | h)
          · exact .inr (.inl h)
          · exact .inl h
          · exact .inr (.inr h)
        · rintro (h | h | h)
          · exact .inr (.inl h)
          · exact .inl h
          · exact .inr (.inr h)
      · rename_i h1 h2
        rw [o.tri _ _ h1 h2]
        simp
theorem pw_ins (o : Lin lt) {x : α} : ∀ {l : List α}, l.Pairwise lt → (ins lt x l).Pairwise lt
  | [], _ => by simp [ins]
  | z :: r, h => by
    obtain ⟨h1, h2⟩ := List.pairwise_cons.mp h
    unfold ins
    split
    · rename_i c
      exact List.pairwise_cons.mpr ⟨fun y hy => by
        rcases List.mem_cons.mp hy with e | m
        · rw [e]; exact c
        · exact o.tr _ _ _ c (h1 y m), h⟩
    · split
      · rename_i c
        exact List.pairwise_cons.mpr ⟨fun y hy => by
          rcases (mem_ins o).mp hy with e | m
          · rw [e]; exact c
          · exact h1 y m, pw_ins o h2⟩
      · exact h
theorem mem_srt (o : Lin lt) {y : α} : ∀ {l : List α}, y ∈ srt lt l ↔ y ∈ l
  | [] => by simp [srt]
  | x :: l => by
    show y ∈ ins lt x (srt lt l) ↔ _
    rw [mem_ins o, mem_srt o, List.mem_cons]
theorem pw_srt (o : Lin lt) : ∀ (l : List α), (srt lt l).Pairwise lt
  | [] => .nil
  | x :: l => pw_ins o (pw_srt o l)
theorem uniq_srt (o : Lin lt) : ∀ {l m : List α}, l.Pairwise lt → m.Pairwise lt → (∀ x, x ∈ l ↔ x ∈ m) → l = m
  | [], [], _, _, _ => rfl
  | [], y :: m, _, _, h => by simpa using (h y).mpr
  | x :: l, [], _, _, h => by simpa using (h x).mp
  | x :: l, y :: m, hl, hm, h => by
    obtain ⟨a1, a2⟩ := List.pairwise_cons.mp hl
    obtain ⟨b1, b2⟩ := List.pairwise_cons.mp hm
    have e : x = y := by
      rcases List.mem_cons.mp ((h x).mp List.mem_cons_self) with e | q
      · exact e
      · rcases List.mem_cons.mp ((h y).mpr List.mem_cons_self) with e | p
        · exact e.symm
        · exact absurd (o.tr _ _ _ (a1 y p) (b1 x q)) (o.ir x)
    subst e
    rw [uniq_srt o a2 b2 fun z => ⟨fun hz => ?_, fun hz => ?_⟩]
    · rcases List.mem_cons.mp ((h z).mp (List.mem_cons_of_mem _ hz)) with e | q
      · subst e; exact absurd (a1 _ hz) (o.ir _)
      · exact q
    · rcases List.mem_cons.mp ((h z).mpr (List.mem_cons_of_mem _ hz)) with e | q
      · subst e; exact absurd (b1 _ hz) (o.ir _)
      · exact q
theorem nodup_srt (o : Lin lt) (l : List α) : (srt lt l).Nodup := (pw_srt o l).imp fun {a b} h (e : a = b) => o.ir b (by rw [e] at h; exact h)
end
theorem lin_int : Lin (fun x y : Int => x < y) := ⟨fun x => by omega, fun x y z => by omega, fun x y => by omega⟩
abbrev srtI (l : List Int) : List Int := srt (fun x y => x < y) l
/-! ### set(xs) of ints, sorted -/
section
variable {X : Cx} {W : WX} {k : Nat}
def rSetLI (K : PySem.W.Frag) (w : World) : List V → Hp → VK → Prop := fun xs H Q => ∃ (l : Addr) (ns : List Int), xs = [V.ref l] ∧ SqL K H l (ns.map V.int) ∧ ns.length < 64 ∧ ∀ a c, c ≤ ns.length → H a = none → Q (.ref a) (upd H a (SetO w a (fun j => decide (j ∈ ns)) c))
theorem cr_setLI (hc : X.calm = true) : CallR X (.type "set") (rSetLI X.K X.w) := by
  intro pins s σ H xs us Q I r h
  obtain ⟨l, ns, rfl, hl, hn, q⟩ := h
  rw [Vals.ref1 r]
  obtain ⟨its, rv, pl, hz⟩ := I.list hl
  have no : H s.heap.objs.size = none := I.hok.fresh (Nat.le_refl _)
  refine set_ints (P := X.prog) (w := X.w) (I.ok.hd hc) pl.isList (by simpa using ints_of_vals rv) (by unfold scanBound; omega) fun h' tk c R hcn kp => ?_
  exact ⟨.ref s.heap.objs.size, _, I.laid (t' := tk) kp (Nat.le_refl _) (setO_new R), rfl, q _ c hcn no⟩
theorem rvs_of_ints {K : PySem.W.Frag} {H : Hp} {ρ : List Addr} : ∀ ns : List Int, RVs K H ρ (ns.map V.int) (ns.map D.int)
  | [] => .nil
  | n :: ns => .cons (.int n) (rvs_of_ints ns)
def setSortI (d : D) (st : Store) : Out D := match d with
  | .ref n => (match st[n]? with
    | some (.lst l) => (match intsOf l with
      | some ns => if ns.length < 64 then .ok (.ref st.length) (st ++ [.lst ((srtI ns).map .int)]) else .bad
      | none => .bad)
    | _ => .bad)
  | _ => .bad
theorem de_sortSetI {e : Expr} {f : LS → Store → Out D} {p p1 pos pos1 : Pos} (he : DE X W e f) (hm : X.mg "sorted" = none) (hm2 : X.mg "set" = none) (hc : X.calm = true := by rfl) (hg : Gl X "sorted" := by rfl) (hg2 : Gl X "set" := by rfl)
    (h1 : starEach [e] X.env = (false, eval e X.env) :: starEach [] X.env := by rfl) (h2 : starEach [.Call (.Name "set" p1) [e] [] pos1] X.env = (false, eval (.Call (.Name "set" p1) [e] [] pos1) X.env) :: starEach [] X.env := by rfl)
    (h3 : (backTo pos1 (starEach [] X.env)).any (·.1) = false := by rfl) (h4 : (backTo pos (starEach [] X.env)).any (·.1) = false := by rfl) :
    DE X W (.Call (.Name "sorted" p) [.Call (.Name "set" p1) [e] [] pos1] [] pos) (fun ls st => (f ls st).bind setSortI) := by
  refine pe_imp (pe_callB (cr_sortedSet hc) hg hm PyProof.Rows.boot_sorted (pa_cons (pe_callTy (cr_setLI hc) hg2 hm2 PyProof.Rows.boot_set (pa_cons he pa_nil h1) (by decide) (by decide) h1 h3) pa_nil h2) (by decide) (by decide) h2 h4) fun σ H Q ⟨ρ, ls, st, A, q⟩ => ?_
  refine tF_bind (R := rV X.K) (R2 := rV X.K) (f := fun _ d st1 => setSortI d st1) A q fun ρ1 v H1 d st1 x1 A1 r1 q1 => ?_
  unfold setSortI at q1
  cases d with
  | ref n =>
    cases r1 with
    | @ref a _ hr =>
      cases e1 : st1[n]? with
      | none => simp only [e1] at q1; exact q1.elim
      | some cl =>
        cases cl with
        | dic _ => simp only [e1] at q1; exact q1.elim
        | lst l =>
          simp only [e1] at q1
          obtain ⟨vs, g1, g2⟩ := A1.sto.cell n a _ hr e1
          cases e2 : intsOf l with
          | none => simp only [e2] at q1; exact q1.elim
          | some ns =>
            simp only [e2] at q1
            split at q1
            · rename_i hn
              rw [intsOf_eq e2] at g2
              rw [g2.ints] at g1
              refine ⟨a, ns, rfl, .inl (.inl g1), hn, fun b c hcn hb => ⟨b, _, c, rfl, upd_same, by omega, fun ms p0 pw mem _ hp => ?_⟩⟩
              have em : ms = srtI ns := uniq_srt lin_int pw (pw_srt lin_int ns) fun x => by rw [mem, decide_eq_true_eq, mem_srt lin_int]
              subst em
              exact OO.here q1 ((Ext.laid hb).trans (Ext.cell hp)) ((A1.sto.laid hb).newL hp (rvs_of_ints _)) (.ref (ref_new A1.sto p0))
            · exact q1.elim
  | _ => exact q1.elim
end
/-! ### set(xs) of pairs (truth value, int), sorted -/
def bn (b : Bool) : Int := if b then 1 else 0
def keyB (p : Bool × Int) : List Int := [bn p.1, p.2]
def tupB (p : Bool × Int) : D := .tup [.bl p.1, .int p.2]
def ltB (p q : Bool × Int) : Prop := bn p.1 < bn q.1 ∨ bn p.1 = bn q.1 ∧ p.2 < q.2
instance : DecidableRel ltB := fun p q => by unfold ltB; infer_instance
theorem bn_inj {a b : Bool} (h : bn a = bn b) : a = b := by cases a <;> cases b <;> first | rfl | cases h
theorem lin_B : Lin ltB := by
  refine ⟨fun x => ?_, fun x y z => ?_, fun x y h1 h2 => ?_⟩
  · unfold ltB; omega
  · unfold ltB; omega
  · unfold ltB at h1 h2
    exact Prod.ext (bn_inj (by omega)) (by omega)
abbrev srtB (l : List (Bool × Int)) : List (Bool × Int) := srt ltB l
theorem keyB_inj {p q : Bool × Int} (h : keyB p = keyB q) : p = q := by
  unfold keyB at h
  simp only [List.cons.injEq, and_true] at h
  exact Prod.ext (bn_inj h.1) h.2
def encP (p : Bool × Int) : PyData := .tuple [.bool p.1, .int p.2]
def encK : List Int → PyData
  | [x, y] => .tuple [.bool (x == 1), .int y]
  | _ => .tuple [.bool true]
theorem encK_key (p : Bool × Int) : encK (keyB p) = encP p := by
  obtain ⟨b, i⟩ := p
  cases b <;> rfl
theorem lt_bool (a b : Bool) : PySem.W.dataLt (.bool a) (.bool b) = decide (bn a < bn b) := by cases a <;> cases b <;> decide +kernel
theorem lt_intD (a b : Int) : PySem.W.dataLt (.int a) (.int b) = decide (a < b) := by
  have h := congrFun (congrFun (PySem.W.dataLe_int (fun x : Int => x)) b) a
  rw [PySem.W.dataLe_eq] at h
  have h : (!PySem.W.dataLt (.int a) (.int b)) = decide (b ≤ a) := h
  by_cases c : a < b
  · rw [decide_eq_false (by omega)] at h
    rw [decide_eq_true c]
    simpa using h
  · rw [decide_eq_true (by omega)] at h
    rw [decide_eq_false c]
    simpa using h
theorem le_encP (p q : Bool × Int) : PySem.W.dataLe false encP p q = decide (¬ ltB q p) := by
  rw [PySem.W.dataLe_eq]
  show (!PySem.W.dataLt (.tuple [.bool q.1, .int q.2]) (.tuple [.bool p.1, .int p.2])) = _
  rw [PySem.W.dataLt_pair (by simp [PySem.W.alike]) (by simp [PySem.W.alike]), lt_bool, lt_intD]
  have e1 : PyData.eqv (.bool q.1) (.bool p.1) = decide (bn q.1 = bn p.1) := by
    obtain ⟨b, i⟩ := p
    obtain ⟨c, j⟩ := q
    cases b <;> cases c <;> rfl
  have e2 : PyData.eqv (.int q.2) (.int p.2) = decide (q.2 = p.2) := rfl
  rw [e1, e2]
  unfold ltB
  by_cases c1 : bn q.1 = bn p.1
  · rw [if_pos (decide_eq_true c1)]
    by_cases c2 : q.2 = p.2
    · rw [if_pos (decide_eq_true c2)]
      simp [c1, c2]
    · rw [if_neg (by simp [c2])]
      simp [c1]
      by_cases h : q.2 < p.2 <;> simp [h] <;> omega
  · rw [if_neg (by simp [c1])]
    simp [c1]
    by_cases h : bn q.1 < bn p.1 <;> simp [h] <;> omega
/-! the objects of the heap -/
section
variable {P : Program} {w : World}
/-- the set, without its members' own objects -/
structure G0 (P : Program) (w : World) (L : List (Addr × List Int)) (es : Array (Int × Value)) (t : SetTable) : Prop where
  en : es.toList = L.map (ent (numTup P w))
  tb : TabOk t (L.map fun p => hs (numTup P w) p.2)
  un : (L.map (·.2)).Nodup
  pl : t.plain = true
  ld : w.params.followText "set-order" = true ∨ t.led = true
  rm : L.length * 5 < t.mask * 3
  fw : L.length < 64
def SetB (P : Program) (w : World) (a : Addr) (L : List (Addr × List Int)) : HO := .ext fun h => ∃ (es : Array (Int × Value)) (ep : Nat) (t : SetTable), (∃ o, h.get? a = some o ∧ o.ExactSet ∧ o.data = .set es ep t) ∧ G0 P w L es t
theorem setB_new {H : Hp} {h : Heap} {a : Addr} {L : List (Addr × List Int)} {es : Array (Int × Value)} {ep : Nat} {t : SetTable} (R : GR (numTup P w) h a L es ep t) : ObjOk P w H h a (SetB P w a L) := by
  have ⟨o, ho, r⟩ := R.at_
  refine ⟨⟨es, ep, t, R.at_, ⟨R.en, R.tb, R.un, R.pl, R.ld, R.rm, R.fw⟩⟩, ⟨o, ho⟩, fun h1 h2 ⟨es', ep', t', ⟨o', e', r'⟩, g⟩ k => ⟨es', ep', t', ⟨o', k o' e', r'⟩, g⟩⟩
theorem isNums (b : Bool) (i : Int) {us : List Value} (h : Vals [V.bl b, V.int i] us) : ItemsAre (numKind P w) (keyB (b, i)) us := by
  cases h with
  | cons h1 h =>
    cases h with
    | cons h2 h3 =>
      cases h3
      cases h1
      obtain ⟨t, rfl⟩ := h2
      exact .cons (decide_eq_true rfl) (.cons (decide_eq_true rfl) .nil)
end
section
variable {X : Cx} {W : WX} {k : Nat}
theorem inv_num {pins : List (Addr × Obj)} {σ : L2.St} {H : Hp} {s : Shared} {a : Addr} {b : Bool} {i : Int} (I : Inv X pins σ H s) (h : SqT X.K H a [.bl b, .int i]) : (numTup X.prog X.w).hk.is s.heap (keyB (b, i)) a := by
  obtain ⟨its, r, ⟨o, ho, hc, n, hd⟩, _⟩ := I.tuple h
  exact ⟨o, its.toArray, n, ho, hc, hd, by simpa using isNums b i r⟩
/-- the pairs at the addresses -/
def PairsAt (K : PySem.W.Frag) (H : Hp) (ks : List (Addr × List Int)) : Prop := ∀ p ∈ ks, ∃ b i, p.2 = keyB (b, i) ∧ SqT K H p.1 [.bl b, .int i]
def rSetLB (K : PySem.W.Frag) (P : Program) (w : World) : List V → Hp → VK → Prop := fun xs H Q => ∃ (l : Addr) (ks : List (Addr × List Int)), xs = [V.ref l] ∧ SqL K H l (ks.map fun p => V.ref p.1) ∧ PairsAt K H ks ∧ Few ks ∧
  ∀ a L, H a = none → Came ks ks.length L → (L.map (·.2)).Nodup → Q (.ref a) (upd H a (SetB P w a L))
theorem refs_vals : ∀ {ks : List (Addr × List Int)} {us : List Value}, Vals (ks.map fun p => V.ref p.1) us → us = ks.map fun p => Value.ref p.1
  | [], _, .nil => rfl
  | p :: ks, _, .cons r t => by
    cases r
    rw [refs_vals t, List.map_cons]
theorem vals_refs : ∀ ks : List (Addr × List Int), Vals (ks.map fun p => V.ref p.1) (ks.map fun p => Value.ref p.1)
  | [] => .nil
  | p :: ks => .cons rfl (vals_refs ks)
theorem cr_setLB (hc : X.calm = true) (hu : X.A.units + 64 < cLine) : CallR X (.type "set") (rSetLB X.K X.prog X.w) := by
  intro pins s σ H xs us Q I r h
  obtain ⟨l, ks, rfl, hl, hp, fw, q⟩ := h
  rw [Vals.ref1 r]
  obtain ⟨its, rv, pl, hz⟩ := I.list hl
  have no : H s.heap.objs.size = none := I.hok.fresh (Nat.le_refl _)
  refine set_keys (kd := numTup X.prog X.w) (I.ok.hd hc) pl.isList (by simpa using refs_vals rv) (fun p m => ?_) fw (by omega) fun h' tk L es ep t R c kp => ?_
  · obtain ⟨b, i, e, sq⟩ := hp p m
    rw [e]
    exact inv_num I sq
  · exact ⟨.ref s.heap.objs.size, _, I.laid (t' := tk) kp (Nat.le_refl _) (setB_new R), rfl, q _ L no c R.un⟩
def rSortLB (K : PySem.W.Frag) (P : Program) (w : World) : List V → Hp → VK → Prop := fun vs H Q => ∃ (a : Addr) (L : List (Addr × List Int)), vs = [V.ref a] ∧ H a = some (SetB P w a L) ∧ PairsAt K H L ∧
  ∀ (L1 : List (Addr × List Int)) (p : Addr), L1.Perm L → H p = none → Q (.ref p) (upd H p (.lst ((L1.mergeSort (PySem.W.dataLe false fun q => encK q.2)).map fun q => V.ref q.1)))
theorem cr_sortLB (hc : X.calm = true) (hu : X.A.units + 64 < cLine) : CallR X (.builtin "sorted") (rSortLB X.K X.prog X.w) := by
  intro pins s σ H vs us Q I r h
  obtain ⟨a, L, rfl, ha, hp, q⟩ := h
  obtain ⟨es, ep, t, at_, g⟩ := (I.hok a _ ha).1
  have hks : ∀ p ∈ L, (numTup X.prog X.w).hk.is s.heap p.2 p.1 := fun p m => by
    obtain ⟨b, i, e, sq⟩ := hp p m
    rw [e]
    exact inv_num I sq
  have R : GR (numTup X.prog X.w) s.heap a L es ep t := ⟨at_, g.en, g.tb, g.un, hks, g.pl, g.ld, g.rm, g.fw⟩
  rw [Vals.ref1 r]
  have ek : ∀ p ∈ L, ∃ b i, encK p.2 = .tuple [.bool b, .int i] := fun p m => by
    obtain ⟨b, i, e, _⟩ := hp p m
    exact ⟨b, i, by rw [e, encK_key]; rfl⟩
  refine sorted_keys R (I.ok.hd hc) (enc := encK) (fun h' kp p m => ?_) (fun d h1 d' h2 => ?_) (fun L1 pm => .inl fun d h1 => ?_) (fun p m => ?_) fun s' p out c L1 kp g1 o1 hz hg pm eo => ?_
  · obtain ⟨b, i, e, sq⟩ := hp p m
    obtain ⟨its, rv, ⟨o, ho, hcl, n, hd⟩, _⟩ := I.tuple sq
    cases rv with
    | cons r1 r2 =>
      cases r2 with
      | cons r2 r3 =>
        cases r3
        cases r1
        obtain ⟨tk, rfl⟩ := r2
        refine ⟨[], ?_, fun b hb => (by cases hb)⟩
        rw [e, encK_key]
        exact Reads.tuple (kp _ _ ho) hcl hd (.cons (.bool b) (.cons (.int i tk) .nil))
  · obtain ⟨p, hp1, e1⟩ := List.mem_map.mp h1
    obtain ⟨p', hp2, e2⟩ := List.mem_map.mp h2
    obtain ⟨b, i, e3⟩ := ek p hp1
    obtain ⟨b', i', e4⟩ := ek p' hp2
    rw [← e1, ← e2, e3, e4]
    simp [PySem.W.alike, PySem.W.alikeAll]
  · obtain ⟨p, hp1, e1⟩ := List.mem_map.mp h1
    obtain ⟨b, i, e3⟩ := ek p (pm.mem_iff.mp hp1)
    exact ⟨_, _, e1.symm.trans e3⟩
  · obtain ⟨b, i, e3⟩ := ek p m
    rw [e3]
    have : (PyData.tuple [.bool b, .int i]).depth ≤ 2 := by simp [PyData.depth, PyData.depthAll]
    omega
  · have len : (L1.mergeSort (PySem.W.dataLe false fun q => encK q.2)).length < 64 := by rw [List.length_mergeSort, pm.length_eq]; exact R.fw
    have no : H p = none := I.hok.fresh hz
    have vl : Vals ((L1.mergeSort (PySem.W.dataLe false fun q => encK q.2)).map fun q => V.ref q.1) out.toList := by rw [eo]; exact vals_refs _
    have J : Inv X pins σ (upd H p (.lst ((L1.mergeSort (PySem.W.dataLe false fun q => encK q.2)).map fun q => V.ref q.1))) { s with heap := s'.heap, gens := s'.gens, drawn := s'.drawn, toks := s'.toks } :=
      I.call (ch := []) (Un.laid kp hz no) (I.hok.laid kp hz ⟨by rw [List.length_map, sizeLine_eq]; omega, out.toList, c, vl, hg⟩) (by rw [g1]; exact I.bare) (fun _ z => nomatch z)
    have e : s' = { s with heap := s'.heap, gens := s'.gens, drawn := s'.drawn, toks := s'.toks } := by
      obtain ⟨a1, a2, a3, a4, a5⟩ := s'
      cases o1
      rfl
    rw [e]
    exact ⟨.ref p, _, J, rfl, q L1 p pm no⟩
def bisOf : List D → Option (List (Bool × Int))
  | [] => some []
  | .tup [.bl b, .int i] :: l => (bisOf l).map ((b, i) :: ·)
  | _ => none
def setSortB (d : D) (st : Store) : Out D := match d with
  | .ref n => (match st[n]? with
    | some (.lst l) => (match bisOf l with
      | some ps => if (srtB ps).length < 64 then .ok (.ref st.length) (st ++ [.lst ((srtB ps).map tupB)]) else .bad
      | none => .bad)
    | _ => .bad)
  | _ => .bad
def dec : List Int → Bool × Int
  | [x, y] => (x == 1, y)
  | _ => (true, 0)
theorem dec_key (p : Bool × Int) : dec (keyB p) = p := by
  obtain ⟨b, i⟩ := p
  cases b <;> rfl
theorem bis_keys {K : PySem.W.Frag} {H : Hp} {ρ : List Addr} : ∀ {l : List D} {ps : List (Bool × Int)} {vs : List V}, bisOf l = some ps → RVs K H ρ vs l →
    ∃ ks : List (Addr × List Int), vs = ks.map (fun p => V.ref p.1) ∧ ks.map (·.2) = ps.map keyB ∧ ∀ p ∈ ks, ∃ x, p.2 = keyB x ∧ RV K H ρ (.ref p.1) (tupB x) ∧ FT K H ρ p.1 [.bl x.1, .int x.2]
  | [], _, _, h, r => by
    cases h
    cases r
    exact ⟨[], rfl, rfl, fun p hp => (by cases hp)⟩
  | d :: l, ps, _, h, .cons r t => by
    unfold bisOf at h
    split at h
    · rename_i e
      cases e
    · rename_i b i l' e
      cases e
      obtain ⟨ps', e1, e2⟩ := Option.map_eq_some_iff.mp h
      obtain ⟨ks, k1, k2, k3⟩ := bis_keys e1 t
      cases r with
      | @tup a us ds f rs =>
        have : us = [.bl b, .int i] := by
          cases rs with
          | cons r1 rs =>
            cases rs with
            | cons r2 rs =>
              cases rs
              cases r1
              cases r2
              rfl
        subst this
        refine ⟨(a, keyB (b, i)) :: ks, by rw [k1]; rfl, by rw [← e2, List.map_cons, k2]; rfl, fun p hp => ?_⟩
        rcases List.mem_cons.mp hp with e | m
        · subst e
          exact ⟨(b, i), rfl, .tup f rs, f⟩
        · exact k3 p m
    · cases h
theorem sorted_dec {L1 : List (Addr × List Int)} (hk : ∀ p ∈ L1, ∃ x, p.2 = keyB x) (un : (L1.map (·.2)).Nodup) : ((L1.mergeSort (PySem.W.dataLe false fun q => encK q.2)).map fun p => dec p.2).Pairwise ltB := by
  have ek : ∀ p ∈ L1, encK p.2 = encP (dec p.2) := fun p m => by
    obtain ⟨x, e⟩ := hk p m
    rw [e, encK_key, dec_key]
  have e : L1.mergeSort (PySem.W.dataLe false fun q => encK q.2) = L1.mergeSort (fun p q => decide (¬ ltB (dec q.2) (dec p.2))) := merge_congr fun p hp q hq => by
    rw [← le_encP]
    show PySem.W.dataLe false (fun q : Addr × List Int => encK q.2) p q = PySem.W.dataLe false (fun q : Addr × List Int => encP (dec q.2)) p q
    unfold PySem.W.dataLe
    unfold PySem.W.sortLe
    simp only [ek p hp, ek q hq]
  rw [e]
  have pm := List.mergeSort_perm L1 (fun p q => decide (¬ ltB (dec q.2) (dec p.2)))
  have pw := List.pairwise_mergeSort (le := fun p q : Addr × List Int => decide (¬ ltB (dec q.2) (dec p.2))) (fun a b c h1 h2 => by
    simp only [decide_eq_true_eq] at h1 h2 ⊢
    unfold ltB at *
    omega) (fun a b => by
    simp only [Bool.or_eq_true, decide_eq_true_eq]
    unfold ltB
    omega) L1
  have un2 : ((L1.mergeSort (fun p q => decide (¬ ltB (dec q.2) (dec p.2)))).map (·.2)).Nodup := (pm.map (·.2)).nodup_iff.mpr un
  rw [List.pairwise_map]
  have un3 := List.pairwise_map.mp un2
  refine (pw.and un3).imp_of_mem fun {p q} hp hq ⟨h1, h2⟩ => ?_
  simp only [decide_eq_true_eq] at h1
  rcases Classical.em (ltB (dec p.2) (dec q.2)) with c | c
  · exact c
  · exfalso
    apply h2
    obtain ⟨x, ex⟩ := hk p (pm.mem_iff.mp hp)
    obtain ⟨y, ey⟩ := hk q (pm.mem_iff.mp hq)
    have := lin_B.tri _ _ c h1
    rw [ex, ey, dec_key, dec_key] at this
    rw [ex, ey, this]
theorem rvs_keys {K : PySem.W.Frag} {H : Hp} {ρ : List Addr} : ∀ {M : List (Addr × List Int)}, (∀ p ∈ M, RV K H ρ (.ref p.1) (tupB (dec p.2))) → RVs K H ρ (M.map fun q => V.ref q.1) ((M.map fun p => dec p.2).map tupB)
  | [], _ => .nil
  | p :: M, h => .cons (h p List.mem_cons_self) (rvs_keys fun q hq => h q (List.mem_cons_of_mem _ hq))
theorem de_sortSetB {e : Expr} {f : LS → Store → Out D} {p p1 pos pos1 : Pos} (C : Ctx X W k) (he : DE X W e f) (hm : X.mg "sorted" = none) (hm2 : X.mg "set" = none) (hc : X.calm = true := by rfl) (hg : Gl X "sorted" := by rfl) (hg2 : Gl X "set" := by rfl)
    (h1 : starEach [e] X.env = (false, eval e X.env) :: starEach [] X.env := by rfl) (h2 : starEach [.Call (.Name "set" p1) [e] [] pos1] X.env = (false, eval (.Call (.Name "set" p1) [e] [] pos1) X.env) :: starEach [] X.env := by rfl)
    (h3 : (backTo pos1 (starEach [] X.env)).any (·.1) = false := by rfl) (h4 : (backTo pos (starEach [] X.env)).any (·.1) = false := by rfl) :
    DE X W (.Call (.Name "sorted" p) [.Call (.Name "set" p1) [e] [] pos1] [] pos) (fun ls st => (f ls st).bind setSortB) := by
  have hu := C.rm.un
  refine pe_imp (pe_callB (cr_sortLB hc (by omega)) hg hm PyProof.Rows.boot_sorted (pa_cons (pe_callTy (cr_setLB hc (by omega)) hg2 hm2 PyProof.Rows.boot_set (pa_cons he pa_nil h1) (by decide) (by decide) h1 h3) pa_nil h2) (by decide) (by decide) h2 h4) fun σ H Q ⟨ρ, ls, st, A, q⟩ => ?_
  refine tF_bind (R := rV X.K) (R2 := rV X.K) (f := fun _ d st1 => setSortB d st1) A q fun ρ1 v H1 d st1 x1 A1 r1 q1 => ?_
  unfold setSortB at q1
  cases d with
  | ref n =>
    cases r1 with
    | @ref a _ hr =>
      cases e1 : st1[n]? with
      | none => simp only [e1] at q1; exact q1.elim
      | some cl =>
        cases cl with
        | dic _ => simp only [e1] at q1; exact q1.elim
        | lst l =>
          simp only [e1] at q1
          obtain ⟨vs, g1, g2⟩ := A1.sto.cell n a _ hr e1
          cases e2 : bisOf l with
          | none => simp only [e2] at q1; exact q1.elim
          | some ps =>
            simp only [e2] at q1
            split at q1
            · rename_i hn
              obtain ⟨ks, k1, k2, k3⟩ := bis_keys e2 g2
              have inps : ∀ x, keyB x ∈ ks.map (·.2) ↔ x ∈ ps := fun x => by
                rw [k2, List.mem_map]
                exact ⟨fun ⟨y, hy, e⟩ => keyB_inj e ▸ hy, fun h => ⟨x, h, rfl⟩⟩
              have few : Few ks := ⟨(srtB ps).map keyB, by rw [List.length_map]; exact hn, fun p m => by
                obtain ⟨x, ex, _⟩ := k3 p m
                rw [ex]
                exact List.mem_map.mpr ⟨x, (mem_srt lin_B).mpr ((inps x).mp (ex ▸ List.mem_map.mpr ⟨p, m, rfl⟩)), rfl⟩⟩
              rw [k1] at g1
              refine ⟨a, ks, rfl, .inl (.inl g1), fun p m => ?_, few, fun b L hb c un => ⟨b, L, rfl, upd_same, fun p m => ?_, fun L1 p0 pm hp => ?_⟩⟩
              · obtain ⟨x, ex, _, sq⟩ := k3 p m
                exact ⟨x.1, x.2, ex, sq.sq⟩
              · obtain ⟨x, ex, _, sq⟩ := k3 p (List.mem_of_mem_take (c.out p m))
                exact ⟨x.1, x.2, ex, (sq.ext (Ext.laid hb)).sq⟩
              · have sub : ∀ p ∈ L, p ∈ ks := fun p m => List.mem_of_mem_take (c.out p m)
                have al : ∀ p ∈ ks, p.2 ∈ L.map (·.2) := fun p m => c.all p (by rw [List.take_length]; exact m)
                have hk1 : ∀ p ∈ L1, ∃ x, p.2 = keyB x := fun p m => by
                  obtain ⟨x, ex, _⟩ := k3 p (sub p (pm.mem_iff.mp m))
                  exact ⟨x, ex⟩
                have sd := sorted_dec hk1 ((pm.map (·.2)).nodup_iff.mpr un)
                have mp := List.mergeSort_perm L1 (PySem.W.dataLe false fun q => encK q.2)
                have rk := rvs_keys (K := X.K) (H := upd H1 b (SetB X.prog X.w b L)) (ρ := ρ1) (M := L1.mergeSort (PySem.W.dataLe false fun q => encK q.2)) fun p m => by
                  obtain ⟨x, ex, rv, _⟩ := k3 p (sub p (pm.mem_iff.mp (mp.mem_iff.mp m)))
                  rw [ex, dec_key]
                  exact RV.ext (Ext.laid hb) _ rv
                have eM : (L1.mergeSort (PySem.W.dataLe false fun q => encK q.2)).map (fun p => dec p.2) = srtB ps := uniq_srt lin_B sd (pw_srt lin_B ps) fun x => by
                  rw [mem_srt lin_B, ← inps x, List.mem_map]
                  constructor
                  · intro ⟨p, m, e⟩
                    have m := sub p (pm.mem_iff.mp (mp.mem_iff.mp m))
                    obtain ⟨y, ey, _⟩ := k3 p m
                    rw [ey, dec_key] at e
                    rw [← e, ← ey]
                    exact List.mem_map.mpr ⟨p, m, rfl⟩
                  · intro h
                    obtain ⟨p, m, e⟩ := List.mem_map.mp h
                    have := al p m
                    rw [e] at this
                    obtain ⟨q, mq, eq⟩ := List.mem_map.mp this
                    exact ⟨q, mp.mem_iff.mpr (pm.mem_iff.mpr mq), by rw [eq, dec_key]⟩
                rw [eM] at rk
                exact OO.here q1 ((Ext.laid hb).trans (Ext.cell hp)) ((A1.sto.laid hb).newL hp rk) (.ref (ref_new A1.sto p0))
            · exact q1.elim
  | _ => exact q1.elim
end
end DD

set_option maxRecDepth 100000
set_option maxHeartbeats 2000000
/-! DD17: dicts: update, sorted, in, subscripts, displays. -/
namespace DD
open PySem PySem.Spec PyProof.Rows L2 GS
section
variable {X : Cx} {W : WX} {k : Nat}
def mergeD (kvs more : List (Key × D)) : List (Key × D) := more.foldl (fun acc kv => putD acc kv.1 kv.2) kvs
theorem KVr.merge {K : PySem.W.Frag} {H : Hp} {ρ : List Addr} : ∀ {more : List (Key × V)} {mo : List (Key × D)} {ws : List (Key × V)} {kvs : List (Key × D)}, KVr K H ρ more mo → KVr K H ρ ws kvs → KVr K H ρ (mergeK ws more) (mergeD kvs mo)
  | _, _, _, _, .nil, h => h
  | _, _, ws, kvs, .cons (a := p) (b := q) r t, h => by
    have e : putD kvs q.1 q.2 = putD kvs p.1 q.2 := by rw [r.1]
    show KVr K H ρ (mergeK (putK ws p.1 p.2) _) (mergeD (putD kvs q.1 q.2) _)
    rw [e]
    exact KVr.merge t (h.put r.2)
/-! d.update(e) -/
def rUpd : V → List V → Hp → VK → Prop := fun x xs H Q => ∃ a b kvs more, x = .ref a ∧ xs = [.ref b] ∧ a ≠ b ∧ H a = some (.dK kvs) ∧ H b = some (.dK more) ∧ kvs.length + more.length ≤ sizeLine ∧ Q .non (upd H a (.dK (mergeK kvs more)))
theorem mt_update : MtR X "dict.update" rUpd := by
  intro pins s σ H x xs v us Q I rx rxs h
  obtain ⟨a, b, kvs, more, rfl, rfl, ne, ea, eb, hz, q⟩ := h
  cases rx
  obtain ⟨u, rfl, ru⟩ := vals1 rxs
  cases ru
  obtain ⟨za, ha, va, ra, da⟩ := dk_of I.hok ea
  obtain ⟨zb, hb, vb, rb, db⟩ := dk_of I.hok eb
  refine call_meetsIn PySem.F.slot_dict_update da.typeIs PySem.F.entry_dict_update (PySem.F.args_dict_update_2 _ _) (meets_dict_update (mixKind X.prog X.w) a b ne hb) ⟨va, vb, da, db, by rw [← ra.length, ← rb.length]; exact hz, fun h' d1 _ sb => ?_⟩
  have len := length_mergeK more kvs
  have he : ∃ q, h'.get? a = some q := let ⟨q, _, _, hq, _⟩ := d1; ⟨q, hq⟩
  show EP X pins σ Q .none _
  exact ⟨.non, _, d_write (t' := s.toks) I (by rw [ea]; exact True.intro) sb he (dk_new (by omega) ha (rb.merge ra) d1), rfl, q⟩
def updV (d : D) (ds : List D) (st : Store) : Out D := match d, ds with
  | .ref n, [.ref m] => (match cellK st n, cellK st m with
    | some kvs, some more => if n ≠ m ∧ kvs.length + more.length ≤ 16777216 then .ok .non (st.set n (.dic (mergeD kvs more))) else .bad
    | _, _ => .bad)
  | _, _ => .bad
theorem md_update : MethD X W rUpd updV := by
  intro σ ρ H st x d xs ds Q s rx rs h
  unfold updV at h
  split at h
  · rename_i n m
    split at h
    · rename_i kvs more e1 e2
      split at h
      · rename_i hc
        cases rx with
        | @ref a _ hr =>
          cases rs with
          | cons r1 rs =>
            cases rs
            cases r1 with
            | @ref b _ hb =>
              obtain ⟨ws, g1, g2⟩ := s.cell n a _ hr (cellK_eq e1)
              obtain ⟨wm, g3, g4⟩ := s.cell m b _ hb (cellK_eq e2)
              refine ⟨a, b, ws, wm, rfl, rfl, fun z => hc.1 ?_, g1, g3, by rw [g2.length, g4.length, sizeLine_eq]; exact hc.2, OO.here h (Ext.write (List.mem_of_getElem? hr)) (s.writeK hr (g4.merge g2)) .non⟩
              subst z
              exact (List.getElem?_inj (List.getElem?_eq_some_iff.mp hr).1 s.nd).mp (hr.trans hb.symm)
      · exact h.elim
    · exact h.elim
  · exact h.elim
theorem de_update {o e : Expr} {fo f : LS → Store → Out D} {apos cpos : Pos} (ho : DE X W o fo) (he : DE X W e f)
    (hbase : attributeBase o "update" X.env (eval o X.env) = eval o X.env := by rfl)
    (hfew : ((backTo cpos (starEach [e] X.env)).all (fun x => !x.1) && (backToKw cpos (keywordEach [] X.env)).all (fun x => x.1.isSome)
      && decide (([e] : List Expr).length + ([] : List Keyword).length + (if ([] : List Keyword).isEmpty then 0 else 1) < 30)) = true := by rfl)
    (hline : (apos.endLine == cpos.line) = true := by rfl) (hs : starEach [e] X.env = (false, eval e X.env) :: starEach [] X.env := by rfl) (hplain : (backTo cpos (starEach [] X.env)).any (·.1) = false := by rfl) :
    DE X W (.Call (.Attribute o "update" apos) [e] [] cpos) (methD .dic updV fo (consA f nilA)) :=
  de_meth .dic (.inr (.inl rfl)) PySem.F.plainAttrs_dict PySem.F.slot_dict_update PySem.F.type_dict_update mt_update md_update ho (da_cons he da_nil hs) hbase hfew hline hs hplain
/-! sorted(d) -/
def keyIs_ : List (Key × D) → Option (List Int)
  | [] => some []
  | (.inl i, _) :: r => (keyIs_ r).map (i :: ·)
  | _ => none
theorem keyIs_eq : ∀ {l : List (Key × D)} {ns : List Int}, keyIs_ l = some ns → l.map (·.1) = ns.map Sum.inl
  | [], _, h => by cases h; rfl
  | (.inl i, d) :: r, _, h => by
    obtain ⟨ns, e1, e2⟩ := Option.map_eq_some_iff.mp h
    rw [← e2, List.map_cons, List.map_cons, keyIs_eq e1]
def dsortV (d : D) (st : Store) : Out D := match d with
  | .ref n => (match cellK st n with
    | some kvs => (match keyIs_ kvs with
      | some ns => if ns.length < 64 ∧ ns.Nodup then .ok (.ref st.length) (st ++ [.lst ((srtI ns).map .int)]) else .bad
      | none => .bad)
    | none => .bad)
  | _ => .bad
theorem KVr.keys {K : PySem.W.Frag} {H : Hp} {ρ : List Addr} : ∀ {ws : List (Key × V)} {kvs : List (Key × D)}, KVr K H ρ ws kvs → ws.map (·.1) = kvs.map (·.1)
  | _, _, .nil => rfl
  | _, _, .cons r t => by rw [List.map_cons, List.map_cons, KVr.keys t, r.1]
theorem de_sortD {e : Expr} {f : LS → Store → Out D} {p pos : Pos} (he : DE X W e f) (hm : X.mg "sorted" = none) (hc : X.calm = true := by rfl) (hg : Gl X "sorted" := by rfl)
    (h1 : starEach [e] X.env = (false, eval e X.env) :: starEach [] X.env := by rfl) (h4 : (backTo pos (starEach [] X.env)).any (·.1) = false := by rfl) :
    DE X W (.Call (.Name "sorted" p) [e] [] pos) (fun ls st => (f ls st).bind dsortV) := by
  refine pe_imp (pe_callB (call_sortedDI hc) hg hm PyProof.Rows.boot_sorted (pa_cons he pa_nil h1) (by decide) (by decide) h1 h4) fun σ H Q ⟨ρ, ls, st, A, q⟩ => ?_
  refine tF_bind (R := rV X.K) (R2 := rV X.K) (f := fun _ d st1 => dsortV d st1) A q fun ρ1 v H1 d st1 x1 A1 r1 q1 => ?_
  unfold dsortV at q1
  split at q1
  · rename_i n
    split at q1
    · rename_i kvs e1
      split at q1
      · rename_i ns e2
        split at q1
        · rename_i hc
          cases r1 with
          | @ref a _ hr =>
            obtain ⟨ws, g1, g2⟩ := A1.sto.cell n a _ hr (cellK_eq e1)
            refine ⟨a, ws, ns, rfl, .inl g1, g2.keys.trans (keyIs_eq e2), hc.1, fun ys p0 pm pw hp => ?_⟩
            have em : ys = srtI ns := uniq_srt lin_int ((pw.and (pm.nodup_iff.mpr hc.2)).imp fun {x y} ⟨h1, h2⟩ => by
              have h2 : x ≠ y := h2
              omega) (pw_srt lin_int ns) fun x => by rw [pm.mem_iff, mem_srt lin_int]
            subst em
            exact OO.here q1 (Ext.cell hp) (A1.sto.newL hp (rvs_of_ints _)) (.ref (ref_new A1.sto p0))
        · exact q1.elim
      · exact q1.elim
    · exact q1.elim
  · exact q1.elim
/-! x in d -/
def rInK : R2 := fun y x H Q => ∃ a kvs c, x = .ref a ∧ y = kV c ∧ H a = some (.dK kvs) ∧ Q (.bl (valV kvs c).isSome) H
theorem op_inK (hu : X.A.units + 1 < cLine) : OpR X (compareOp .In) rInK := by
  intro pins s σ H x y v u Q I rx ry h
  obtain ⟨a, kvs, c, rfl, rfl, ea, q⟩ := h
  cases ry
  exact d_in hu I (DGet.k ea) rx fun s' I' => ⟨.bl (valV kvs c).isSome, H, I', rfl, q⟩
def inK (y x : D) (st : Store) : Out D := match x, keyD y with
  | .ref n, some c => (match cellK st n with
    | some kvs => .ok (.bl (valD kvs c).isSome) st
    | none => .bad)
  | _, _ => .bad
theorem od_inK : OpD X W rInK inK := by
  intro σ ρ H st x y dx dy Q s rx ry h
  unfold inK at h
  split at h
  · rename_i n c ek
    split at h
    · rename_i kvs e1
      cases ry with
      | @ref a _ hr =>
        obtain ⟨ws, g1, g2⟩ := s.cell n a _ hr (cellK_eq e1)
        refine ⟨a, ws, c, rfl, keyD_read rx ek, g1, ?_⟩
        rcases g2.val c with ⟨h1, h2⟩ | ⟨v', d', h1, h2, _⟩
        · rw [h1]; rw [h2] at h; exact OO.done h s (.bl _)
        · rw [h1]; rw [h2] at h; exact OO.done h s (.bl _)
    · exact h.elim
  · exact h.elim
theorem cm_inK (C : Ctx X W k) : CmpD X W .In inK := ⟨_, op_inK (by have := C.rm.un; omega), od_inK⟩
/-! d[k] -/
def dixV (o i : D) (st : Store) : Out D := match o, keyD i with
  | .ref n, some c => (match cellK st n with
    | some kvs => (match valD kvs c with
      | some d => .ok d st
      | none => .bad)
    | none => .bad)
  | _, _ => .bad
theorem de_dix {o i : Expr} {fo fi : LS → Store → Out D} {pos : Pos} (C : Ctx X W k) (ho : DE X W o fo) (hi : DE X W i fi) (hs : NoSl i := by exact fun _ _ => rfl) : DE X W (.Subscript o i pos) (bin2 dixV fo fi) :=
  pe_imp (pe_dget (by have := C.rm.un; omega) ho hi hs) fun σ H Q ⟨ρ, ls, st, A, q⟩ => by
  refine tF_bind (R := rV X.K) (R2 := rV X.K) (f := fun ls o st1 => (fi ls st1).bind fun i st2 => dixV o i st2) A q fun ρ1 vo H1 dO st1 x1 A1 r1 q1 => ?_
  refine tF_bind (R := rV X.K) (R2 := rV X.K) (f := fun _ i st2 => dixV dO i st2) A1 q1 fun ρ2 vi H2 di st2 x2 A2 r2 q2 => ?_
  unfold dixV at q2
  split at q2
  · rename_i n c ek
    split at q2
    · rename_i kvs ec
      split at q2
      · rename_i d ed
        cases r1 with
        | @ref a _ hr =>
          obtain ⟨ws, g1, g2⟩ := A2.sto.cell n a _ (x2.at hr) (cellK_eq ec)
          have ey := keyD_read r2 ek
          subst ey
          rcases g2.val c with ⟨h1, h2⟩ | ⟨v', d', h1, h2, h3⟩
          · rw [h2] at ed; cases ed
          · rw [h2] at ed
            cases ed
            exact ⟨a, v', rfl, h1 ▸ DGet.k g1, OO.done q2 A2.sto h3⟩
      · exact q2.elim
    · exact q2.elim
  · exact q2.elim
end
end DD

set_option maxRecDepth 100000
set_option maxHeartbeats 2000000
/-! DD18: dict comprehensions, dict displays. -/
namespace DD
open PySem PySem.Spec PyProof.Rows L2 GS
/-- {k: v for .. in ..} at the cell n -/
noncomputable def dcL (ok : Store → Bool) (n : Nat) (g : D → LS → Store → Out LS) (ft : LS → Store → Out Bool) (fk fv : LS → Store → Out D) (lsw : LS) : List D → Store → Out D
  | [], st => if ok st = true then .ok (.ref n) st else .bad
  | d :: r, st => if ok st = true then (match g d lsw st with
    | .ok ls1 st1 => (match ft ls1 st1 with
      | .ok b st2 => if b = true then (match fk ls1 st2 with
          | .ok y st3 => (match fv ls1 st3 with
            | .ok z st4 => (match keyD y, cellK st4 n with
              | some c, some kvs => if kvs.length < 16777216 then dcL ok n g ft fk fv lsw r (st4.set n (.dic (putD kvs c z))) else .bad
              | _, _ => .bad)
            | _ => .bad)
          | _ => .bad) else dcL ok n g ft fk fv lsw r st2
      | _ => .bad)
    | _ => .bad) else .bad
noncomputable def dcD (fi : LS → Store → Out Its) (g : D → LS → Store → Out LS) (ft : LS → Store → Out Bool) (fk fv : LS → Store → Out D) (vs : List Nat) : LS → Store → Out D := fun ls st =>
  (fi ls st).bind fun its st1 => dcL (okB its) st1.length g ft fk fv (wipeL ls vs) its.l (st1 ++ [.dic []])
theorem dc_read {K : PySem.W.Frag} {mg : Str → Option Value} {W : WX} {fi : LS → Store → Out Its} {g : D → LS → Store → Out LS} {ft : LS → Store → Out Bool} {fk fv : LS → Store → Out D} {vs : List Nat} {σ : SV} {H : Hp} {Q : VK}
    (h : tE K mg W (dcD fi g ft fk fv vs) σ H Q) : tDc (tI K mg W fi) (tGx K vs g) (tT K mg W0 ft) (tE K mg W0 fk) (tE K mg W0 fv) vs σ H Q := by
  obtain ⟨ρ, ls, st, A, p⟩ := h
  refine tF_bind (R := WalkI K) (R2 := rV K) (f := fun ls its st1 => dcL (okB its) st1.length g ft fk fv (wipeL ls vs) its.l (st1 ++ [.dic []])) A p fun ρ1 J H1 its st1 x1 A1 wk p1 => ?_
  intro Dn hD
  have xc := Ext.cell (ρ := ρ1) (o := .dK []) hD
  have s0 := A1.sto.newK hD (ws := []) (kvs := []) .nil
  have hn : (ρ1 ++ [Dn])[st1.length]? = some Dn := ref_new A1.sto Dn
  let go_ (i : Nat) (H : Hp) : Prop := ∃ ρ st, Ext (ρ1 ++ [Dn]) (upd H1 Dn (.dK [])) ρ H ∧ RS K H ρ st ∧ OO K mg W (rV K) σ Q ρ H (dcL (okB its) st1.length g ft fk fv (wipeL ls vs) (its.l.drop i) st)
  refine ⟨fun i m H => m = its.l.length - i ∧ i ≤ its.l.length ∧ go_ i H, ⟨its.l.length, by simp, Nat.zero_le _, ρ1 ++ [Dn], st1 ++ [.dic []], Ext.refl _ _, s0, by simpa using OO.grow p1 xc⟩, ?_⟩
  rintro i m H2 ⟨rfl, hi, ρ2, st2, x2, s2, p2⟩
  have x12 : Ext ρ1 H1 ρ2 H2 := xc.trans x2
  have hn2 : ρ2[st1.length]? = some Dn := x2.at hn
  by_cases hlt : i < its.l.length
  · rw [List.drop_eq_getElem_cons hlt] at p2
    unfold dcL at p2
    split at p2
    · rename_i hok
      obtain ⟨go, yl⟩ := (wk ρ2 H2 st2 x12 s2 hok).1 i its.l[i] (by simp [hlt])
      refine .inr ⟨go, go_ (i + 1), fun H' y => ⟨its.l.length - (i + 1), by omega, rfl, hlt, y⟩, fun x H' y => ?_⟩
      obtain ⟨sm, rv⟩ := yl x H' y
      have x3 : Ext ρ2 H2 ρ2 H' := Ext.same sm
      refine ⟨ρ2, wipeL ls vs, st2, its.l[i], (A1.grow (x12.trans x3) (s2.same sm)).wipe vs, rv, ?_⟩
      split at p2
      · rename_i l3 s3 eg
        rw [eg]
        intro ρ4 σ4 H4 x4 A4 hw _
        have x24 : Ext ρ2 H2 ρ4 H4 := x3.trans x4
        refine ⟨by rw [hw]; exact wipe_idem σ vs, ρ4, l3, s3, A4, ?_⟩
        split at p2
        · rename_i b s5 et
          rw [et]
          rintro ρ5 b' H5 x5 S5 ⟨⟩
          have x25 : Ext ρ2 H2 ρ5 H5 := x24.trans x5
          cases b with
          | false =>
            rw [if_neg Bool.false_ne_true] at p2 ⊢
            exact ⟨ρ5, s5, x2.trans x25, S5, OO.grow p2 x25⟩
          | true =>
            rw [if_pos rfl] at p2 ⊢
            refine ⟨ρ5, l3, s5, A4.grow x5 S5, ?_⟩
            split at p2
            · rename_i y6 s6 ey
              rw [ey]
              intro ρ6 v6 H6 x6 S6 r6
              refine ⟨ρ6, l3, s6, (A4.grow x5 S5).grow x6 S6, ?_⟩
              split at p2
              · rename_i z7 s7 ez
                rw [ez]
                intro ρ7 v7 H7 x7 S7 r7
                have x27 : Ext ρ2 H2 ρ7 H7 := (x25.trans x6).trans x7
                split at p2
                · rename_i c kvs ec ek
                  split at p2
                  · rename_i hl
                    have h7 := x27.at hn2
                    obtain ⟨va, g1, g2⟩ := S7.cell _ _ _ h7 (cellK_eq ek)
                    exact ⟨va, c, keyD_read r6 ec, g1, by rw [g2.length, sizeLine_eq]; exact hl, ρ7, _, (x2.trans x27).trans (Ext.write (List.mem_of_getElem? h7)), S7.writeK h7 (g2.put r7), OO.grow p2 (x27.trans (Ext.write (List.mem_of_getElem? h7)))⟩
                  · exact p2.elim
                · exact p2.elim
              · exact p2.elim
            · exact p2.elim
        · exact p2.elim
      · exact p2.elim
    · exact p2.elim
  · have e : i = its.l.length := by omega
    subst e
    rw [List.drop_length] at p2
    unfold dcL at p2
    split at p2
    · rename_i hok
      exact .inl ⟨(wk ρ2 H2 st2 x12 s2 hok).2 _ (Nat.le_refl _), OO.done p2 s2 (.ref hn2)⟩
    · exact p2.elim
section
variable {X : Cx} {W : WX} {k : Nat} {pos : Pos}
theorem de_dc {kx vx tg iter : Expr} {ifs : List Expr} {scope : Scope} {own : List (Str × Nat)} {vs : List Nat} {fi : LS → Store → Out Its} {g : D → LS → Store → Out LS} {ft : LS → Store → Out Bool} {fk fv : LS → Store → Out D} (C : Ctx X W k) (hc : X.calm = true) (hN : X.N.Nodup)
    (hi : DI X W tg iter fi) (ok : BlkOk X.N X.env.scope scope own) (hvs : own.map (·.2) = vs)
    (h : ∀ (s : Shared) (H : Hp) (C' : Addr) (cl : List (Str × Addr)) (fp : List Addr), Ctx (X.blk s H scope (compEnvC scope cl C' X.env) fp) W0 k →
      DGx (X.blk s H scope (compEnvC scope cl C' X.env) fp) vs tg g ∧ DTs (X.blk s H scope (compEnvC scope cl C' X.env) fp) W0 ifs ft ∧ DE (X.blk s H scope (compEnvC scope cl C' X.env) fp) W0 kx fk ∧ DE (X.blk s H scope (compEnvC scope cl C' X.env) fp) W0 vx fv)
    (hs : ∀ x, foldedSetIterable iter X.env x = pure x := by intro _; rfl) :
    DE X W (.DictComp kx vx [⟨tg, iter, ifs, 0⟩] scope pos) (dcD fi g ft fk fv vs) := by
  subst hvs
  exact pe_imp (pe_dc hc hN hi ok (fun s H C' cl fp => (h s H C' cl fp (C.blk s H scope _ fp)).1) (fun s H C' cl fp => (h s H C' cl fp (C.blk s H scope _ fp)).2.1) (fun s H C' cl fp => (h s H C' cl fp (C.blk s H scope _ fp)).2.2.1) (fun s H C' cl fp => (h s H C' cl fp (C.blk s H scope _ fp)).2.2.2) hs) fun _ _ _ q => dc_read q
/-! displays -/
def pairsD : List ((LS → Store → Out D) × (LS → Store → Out D)) → LS → Store → Out (List (D × D))
  | [], _, st => .ok [] st
  | (fk, fv) :: r, ls, st => (fk ls st).bind fun y st1 => (fv ls st1).bind fun z st2 => (pairsD r ls st2).bind fun ps st3 => .ok ((y, z) :: ps) st3
def keysD : List (D × D) → Option (List (Key × D))
  | [] => some []
  | (y, z) :: r => (keyD y).bind fun c => (keysD r).map ((c, z) :: ·)
def dispD (ps : List ((LS → Store → Out D) × (LS → Store → Out D))) : LS → Store → Out D := fun ls st => (pairsD ps ls (st ++ [.dic []])).bind fun l st1 => match keysD l, cellK st1 st.length with
  | some kvs, some [] => if kvs.length ≤ 15 then .ok (.ref st.length) (st1.set st.length (.dic (mergeD [] kvs))) else .bad
  | _, _ => .bad
structure DPs (X : Cx) (W : WX) (pos : Pos) (keys : List (Option Expr)) (values : List Expr) (fs : List ((LS → Store → Out D) × (LS → Store → Out D))) : Prop where
  run : PPs X pos keys values (fs.map fun p => (tE X.K X.mg W p.1, tE X.K X.mg W p.2))
theorem dps_nil : DPs X W pos [] [] [] := ⟨pps_nil⟩
theorem dps_cons {key v : Expr} {ks : List (Option Expr)} {vs : List Expr} {fk fv : LS → Store → Out D} {fs : List ((LS → Store → Out D) × (LS → Store → Out D))} (hk : DE X W key fk) (hv : DE X W v fv) (hr : DPs X W pos ks vs fs) : DPs X W pos (some key :: ks) (v :: vs) ((fk, fv) :: fs) :=
  ⟨pps_cons hk hv hr.run⟩
def rPs (K : PySem.W.Frag) (H : Hp) (ρ : List Addr) (vs : List (V × V)) (ds : List (D × D)) : Prop := Paired (fun p q => RV K H ρ p.1 q.1 ∧ RV K H ρ p.2 q.2) vs ds
theorem bind_assoc {α β γ : Type} {o : Out α} {f : α → Store → Out β} {g : β → Store → Out γ} : (o.bind f).bind g = o.bind fun a st => (f a st).bind g := by cases o <;> rfl
theorem rPs.ext {K : PySem.W.Frag} {H H' : Hp} {ρ ρ' : List Addr} (x : Ext ρ H ρ' H') {ps : List (V × V)} {ds : List (D × D)} (h : rPs K H ρ ps ds) : rPs K H' ρ' ps ds := paired_imp (fun _ _ r => ⟨r.1.ext x, r.2.ext x⟩) h
theorem pairs_read {σ : SV} : ∀ {fs : List ((LS → Store → Out D) × (LS → Store → Out D))} {ρ : List Addr} {ls : LS} {st : Store} {H : Hp} {f : List (D × D) → Store → Out D} {Q : VK} {R : List (V × V) → Hp → Prop}, At X.K H ρ σ ls st → OO X.K X.mg W (rV X.K) σ Q ρ H ((pairsD fs ls st).bind f) →
    (∀ ρ' ps ds st' H', Ext ρ H ρ' H' → At X.K H' ρ' σ ls st' → rPs X.K H' ρ' ps ds → OO X.K X.mg W (rV X.K) σ Q ρ' H' (f ds st') → R ps H') → tPairs (fs.map fun p => (tE X.K X.mg W p.1, tE X.K X.mg W p.2)) σ H R
  | [], ρ, ls, st, H, f, Q, R, A, q, h => h ρ [] [] st H (Ext.refl _ _) A .nil q
  | (fk, fv) :: r, ρ, ls, st, H, f, Q, R, A, q, h => by
    have q : OO X.K X.mg W (rV X.K) σ Q ρ H ((fk ls st).bind fun y st1 => (fv ls st1).bind fun z st2 => (pairsD r ls st2).bind fun ps st3 => f ((y, z) :: ps) st3) := by
      have e : (pairsD ((fk, fv) :: r) ls st).bind f = (fk ls st).bind fun y st1 => (fv ls st1).bind fun z st2 => (pairsD r ls st2).bind fun ps st3 => f ((y, z) :: ps) st3 := by
        conv => lhs; unfold pairsD
        simp only [bind_assoc, Out.bind_ok]
      rw [← e]
      exact q
    refine tF_bind (R := rV X.K) (R2 := rV X.K) (f := fun ls y st1 => (fv ls st1).bind fun z st2 => (pairsD r ls st2).bind fun ps st3 => f ((y, z) :: ps) st3) A q fun ρ1 y H1 dy st1 x1 A1 r1 q1 => ?_
    refine tF_bind (R := rV X.K) (R2 := rV X.K) (f := fun ls z st2 => (pairsD r ls st2).bind fun ps st3 => f ((dy, z) :: ps) st3) A1 q1 fun ρ2 z H2 dz st2 x2 A2 r2 q2 => ?_
    exact pairs_read A2 q2 fun ρ' ps ds st' H' x3 A3 rp q3 => h ρ' ((y, z) :: ps) ((dy, dz) :: ds) st' H' (x1.trans (x2.trans x3)) A3 (.cons ⟨(RV.ext (x2.trans x3) _ r1), (RV.ext x3 _ r2)⟩ rp) q3
theorem keys_read {K : PySem.W.Frag} {H : Hp} {ρ : List Addr} : ∀ {ps : List (V × V)} {ds : List (D × D)} {kvs : List (Key × D)}, rPs K H ρ ps ds → keysD ds = some kvs → ∃ ws : List (Key × V), ps = ws.map (fun kv => (kV kv.1, kv.2)) ∧ KVr K H ρ ws kvs
  | _, _, _, .nil, h => by cases h; exact ⟨[], rfl, .nil⟩
  | _, _, kvs, .cons (a := p) (b := q) r t, h => by
    have h : ((keyD q.1).bind fun c => (keysD _).map ((c, q.2) :: ·)) = some kvs := h
    obtain ⟨c, e1, h⟩ := Option.bind_eq_some_iff.mp h
    obtain ⟨kvs', e2, e3⟩ := Option.map_eq_some_iff.mp h
    obtain ⟨ws, e4, k⟩ := keys_read t e2
    refine ⟨(c, p.2) :: ws, ?_, ?_⟩
    · rw [e4, List.map_cons, ← keyD_read r.1 e1]
    · rw [← e3]; exact .cons ⟨rfl, r.2⟩ k
theorem de_disp {keys : List (Option Expr)} {values : List Expr} {fs : List ((LS → Store → Out D) × (LS → Store → Out D))} (h : DPs X W pos keys values fs) (hall : keys.all (·.isSome) = true := by rfl) (hl : keys.length = values.length := by rfl) (h0 : keys ≠ [] := by intro h; cases h)
    (h15 : keys.length ≤ 15 := by decide) : DE X W (.Dict keys values pos) (dispD fs) := pe_imp (pe_disp h.run hall hl h0 h15) fun σ H Q ⟨ρ, ls, st, A, q⟩ p hp => by
  have A1 : At X.K (upd H p (.dK [])) (ρ ++ [p]) σ ls (st ++ [.dic []]) := A.grow (Ext.cell hp) (A.sto.newK hp .nil)
  refine pairs_read A1 (OO.grow q (Ext.cell hp)) fun ρ' ps ds st' H' x' A' rp q' => ?_
  split at q'
  · rename_i kvs e1 e2
    split at q'
    · rename_i h15
      obtain ⟨ws, ew, kr⟩ := keys_read rp e1
      have hn := x'.at (ref_new A.sto p)
      obtain ⟨w0, g1, g2⟩ := A'.sto.cell _ _ _ hn (cellK_eq e2)
      cases g2
      have := kr.length
      exact ⟨g1, ws, ew, by omega, OO.here q' (Ext.write (List.mem_of_getElem? hn)) (A'.sto.writeK hn (kr.merge .nil)) (.ref hn)⟩
    · exact q'.elim
  · exact q'.elim
end
end DD

set_option maxRecDepth 100000
set_option maxHeartbeats 2000000
/-! DD19: tuples of ints that a module's name holds. -/
namespace DD
open PySem PySem.Spec PyProof.Rows L2 GS
def TupG (K : PySem.W.Frag) (mg : Str → Option Value) (x : Str) (ns : List Int) : Prop := mg x = some (.ref (He.ga K x)) ∧ He.tupB K x (ns.map .int) = true
theorem TupG.ft {K : PySem.W.Frag} {mg : Str → Option Value} {x : Str} {ns : List Int} (t : TupG K mg x ns) (H : Hp) (ρ : List Addr) : FT K H ρ (He.ga K x) (ns.map V.int) := by
  have h := He.tupB_ok t.2 (fun _ => none)
  rw [show (ns.map He.Dv.int).map (He.Dv.v K) = ns.map V.int by rw [List.map_map]; rfl] at h
  rcases h with h | h
  · rcases h with h | ⟨_, h⟩ <;> cases h
  · exact .inr h
theorem de_globT {X : Cx} {W : WX} {x : Str} {ns : List Int} {pos : Pos} (t : TupG X.K X.mg x ns) (hg : Gl X x := by rfl) (hd : (x == ("__debug__" : Str)) = false := by decide) : DE X W (.Name x pos) (litD (tupI ns)) :=
  de_glob t.1 (v := .ref (He.ga X.K x)) rfl (fun H ρ => .tup (t.ft H ρ) (rvs_of_ints ns)) hg hd
end DD

set_option maxRecDepth 100000
set_option maxHeartbeats 2000000
/-! DD20: xs.pop(i); one def or two that call themselves: a meaning by the number of rounds. -/
namespace DD
open PySem PySem.Spec PyProof.Rows L2 GS
theorem RVs.eraseIdx {K : PySem.W.Frag} {H : Hp} {ρ : List Addr} : ∀ {vs : List V} {l : List D} (k : Nat), RVs K H ρ vs l → RVs K H ρ (vs.eraseIdx k) (l.eraseIdx k)
  | _, _, _, .nil => .nil
  | _, _, 0, .cons _ t => t
  | _, _, k + 1, .cons r t => .cons r (RVs.eraseIdx k t)
def popV (d : D) (ds : List D) (st : Store) : Out D := match d, ds with
  | .ref n, [.int i] => (match cellL st n with
    | some l => if 0 ≤ i ∧ i < l.length ∧ l.length ≤ 16777216 then (match l[i.toNat]? with
      | some x => .ok x (st.set n (.lst (l.eraseIdx i.toNat)))
      | none => .bad) else .bad
    | none => .bad)
  | _, _ => .bad
variable {X : Cx} {W : WX} {fr : LS → Store → Out (List D)} {e : Expr}
theorem md_popAt : MethD X W rPopAt popV := by
  intro σ ρ H st x d xs ds Q s rx rs h
  unfold popV at h
  split at h
  · rename_i n i
    split at h
    · rename_i l el
      split at h
      · rename_i hl
        split at h
        · rename_i y hy
          cases rx with
          | @ref a _ hr =>
            cases rs with
            | @cons v _ _ _ r1 r2 =>
              cases r2
              cases r1
              obtain ⟨vs, g1, g2⟩ := s.cell n a _ hr (cellL_eq el)
              obtain ⟨w, hw, rw'⟩ := g2.get hy
              refine ⟨a, vs, i, i.toNat, w, rfl, rfl, g1, by omega, by omega, ?_, hw, ?_⟩
              · have := g2.length
                unfold seqIndex?
                have n0 : ¬ i < 0 := by omega
                have n1 : i < (vs.length : Int) := by omega
                simp [n0, hl.1, n1]
              · exact OO.here h (Ext.write (List.mem_of_getElem? hr)) (s.writeL hr (g2.eraseIdx _)) (rw'.ext (Ext.write (List.mem_of_getElem? hr)))
        · exact h.elim
      · exact h.elim
    · exact h.elim
  · exact h.elim
theorem de_popAt {o : Expr} {fo : LS → Store → Out D} {apos cpos : Pos} (ho : DE X W o fo) (ha : DA X W [e] fr) (hbase : attributeBase o "pop" X.env (eval o X.env) = eval o X.env := by rfl)
    (hfew : ((backTo cpos (starEach [e] X.env)).all (fun x => !x.1) && (backToKw cpos (keywordEach [] X.env)).all (fun x => x.1.isSome)
      && decide ([e].length + ([] : List Keyword).length + (if ([] : List Keyword).isEmpty then 0 else 1) < 30)) = true := by rfl)
    (hline : (apos.endLine == cpos.line) = true := by rfl) (hs : starEach [e] X.env = (false, eval e X.env) :: starEach [] X.env := by rfl) (hplain : (backTo cpos (starEach [] X.env)).any (·.1) = false := by rfl) :
    DE X W (.Call (.Attribute o "pop" apos) [e] [] cpos) (methD .lst popV fo fr) :=
  de_meth .lst (.inl rfl) PySem.F.plainAttrs_list PySem.F.slot_list_pop PySem.F.type_list_pop mt_popAt md_popAt ho ha hbase hfew hline hs hplain
theorem pop_ref {st : Store} {n : Nat} {l : List D} {i : Int} {x : D} (h : st[n]? = some (.lst l)) (h0 : 0 ≤ i) (hx : l[i.toNat]? = some x) (hl : l.length ≤ 16777216) : popV (.ref n) [.int i] st = .ok x (st.set n (.lst (l.eraseIdx i.toNat))) := by
  have hi := (List.getElem?_eq_some_iff.mp hx).1
  unfold popV cellL
  simp only [h]
  rw [if_pos ⟨h0, by omega, hl⟩, hx]
theorem DFn.bad {P : Program} {w : World} {K : PySem.W.Frag} {mg : Str → Option Value} {base : Heap} {x qual : Str} {st : Stmt} {f : Addr} {fd : FuncData} {ps : List Str} {n k : Nat} (Fn : Fun K x qual st f fd) (gm : mg x = some (.ref f)) (b : Binds K fd ps []) (hn : ps.length = n) : DFn P w K mg base x n k (fun _ _ => .bad) :=
  ⟨f, fd, ps, gm, Fn.kp, b, hn, fun vs H Q E h => (by obtain ⟨_, _, _, _, _, _, h⟩ := h; exact h.elim), fun A outer s H args us vs Q E hr hg e0 hbt r hsp => (by obtain ⟨_, _, _, _, _, _, h⟩ := hsp; exact h.elim)⟩
end DD

set_option maxRecDepth 100000
set_option maxHeartbeats 0
namespace K65
open PySem PySem.Spec PyProof.Rows L2 DD
/-! what each def of the text does (good outcomes) -/
def noConic (st : Store) : Out D := .ex ⟨"NoConic", []⟩ st
def noPlace (st : Store) : Out D := .ex ⟨"NoPlace", []⟩ st
def conE : D → Bool
  | .int i => decide (i ≠ 0) && (decide (-1000 ≤ i) && decide (i ≤ 1000))
  | _ => false
def conicB : D → Bool
  | .tup l => decide (l.length = 3) && l.all conE
  | _ => false
structure Cd (st : Store) (d : D) : Prop where
  ty : ∃ t, tyD st d = some t
  pl : ∀ l, d = .tup l → l.length = 3 → ∀ x ∈ l, ∃ t, tyD st x = some t
def gcdL (ns : List Int) : Int := ns.foldl (fun a b => ((Int.gcd a b : Nat) : Int)) 0
def Good_is_integer (ds : List D) (st : Store) (o : Out D) : Prop := ∃ d t, ds = [d] ∧ tyD st d = some t ∧ o = .ok (.bl (decide (t = .int))) st
def Good_is_conic (ds : List D) (st : Store) (o : Out D) : Prop := ∃ d, ds = [d] ∧ Cd st d ∧ o = .ok (.bl (conicB d)) st
def Good_check_conic (ds : List D) (st : Store) (o : Out D) : Prop := ∃ d, ds = [d] ∧ Cd st d ∧ o = if conicB d = true then .ok .non st else noConic st
def Good_common_divisor (ds : List D) (st : Store) (o : Out D) : Prop := ∃ a b : Int, ds = [.int a, .int b] ∧ o = .ok (.int (Int.gcd a b)) st
def Good_divisor_of (ds : List D) (st : Store) (o : Out D) : Prop := ∃ ns : List Int, ds = [.tup (ns.map .int)] ∧ o = .ok (.int (gcdL ns)) st
def Good_power_of (ds : List D) (st : Store) (o : Out D) : Prop := ∃ n m p : Int, ds = [.int n, .int m, .int p] ∧ 0 ≤ m ∧ 1 ≤ p ∧ p ≤ 1000000000 ∧ o = .ok (.int (n ^ m.toNat % p)) st
/-! a strong pseudo prime test, as the text has it -/
def spl : Nat → Int → Nat → Int × Nat
  | 0, m, t => (m, t)
  | f + 1, m, t => if m % 2 = 0 then spl f (m / 2) (t + 1) else (m, t)
def sqs (n : Int) : Nat → Int → Bool
  | 0, _ => true
  | f + 1, h => if h * h % n = n - 1 then false else sqs n f (h * h % n)
def witB (b n : Int) : Bool :=
  if b ^ (spl (n - 1).toNat (n - 1) 0).1.toNat % n = 1 ∨ b ^ (spl (n - 1).toNat (n - 1) 0).1.toNat % n = n - 1 then false
  else sqs n ((spl (n - 1).toNat (n - 1) 0).2 - 1) (b ^ (spl (n - 1).toNat (n - 1) 0).1.toNat % n)
def bases : List Int := [2, 3, 5, 7, 11, 13, 17, 19, 23, 29, 31, 37, 41]
def isP (n : Int) : Bool := if n < 2 then false else match bases.find? (fun b => decide (n % b = 0)) with
  | some b => decide (n = b)
  | none => !bases.any fun b => witB b n
def Good_is_witness (ds : List D) (st : Store) (o : Out D) : Prop := ∃ b n : Int, ds = [.int b, .int n] ∧ 3 ≤ n ∧ n ≤ 1000000000 ∧ o = .ok (.bl (witB b n)) st
def Good_is_prime_number (ds : List D) (st : Store) (o : Out D) : Prop := ∃ n : Int, ds = [.int n] ∧ n ≤ 1000000000 ∧ o = .ok (.bl (isP n)) st
/-! the power of p in a number, the rest of it -/
def tko (p : Int) : Nat → Int → Nat × Int
  | 0, n => (0, n)
  | f + 1, n => if n % p = 0 then ((tko p f (n / p)).1 + 1, (tko p f (n / p)).2) else (0, n)
def va (p n : Int) : Nat := (tko p n.natAbs n).1
def un (p n : Int) : Int := (tko p n.natAbs n).2
def Good_taken_out (ds : List D) (st : Store) (o : Out D) : Prop := ∃ n p : Int, ds = [.int n, .int p] ∧ n ≠ 0 ∧ n.natAbs ≤ 10000000000 ∧ 2 ≤ p ∧ p ≤ 1000000000 ∧ o = .ok (.tup [.int (va p n), .int (un p n)]) st
def b4 (n : Int) : Int := if n % 4 = 1 then 1 else -1
def b8 (n : Int) : Int := if n % 8 = 1 ∨ n % 8 = 7 then 1 else -1
def bp (n p : Int) : Int := if n ^ ((p - 1) / 2).toNat % p = 1 then 1 else -1
def Good_by_four (ds : List D) (st : Store) (o : Out D) : Prop := ∃ n : Int, ds = [.int n] ∧ o = .ok (.int (b4 n)) st
def Good_by_eight (ds : List D) (st : Store) (o : Out D) : Prop := ∃ n : Int, ds = [.int n] ∧ o = .ok (.int (b8 n)) st
def Good_by_prime (ds : List D) (st : Store) (o : Out D) : Prop := ∃ n p : Int, ds = [.int n, .int p] ∧ 2 ≤ p ∧ p ≤ 1000000000 ∧ o = .ok (.int (bp n p)) st
/-- the sign out of powers and rests -/
def s2 (a : Nat) (u : Int) (b : Nat) (v : Int) : Int := (if b4 u = -1 ∧ b4 v = -1 then -1 else 1) * (if a % 2 = 1 then b8 v else 1) * (if b % 2 = 1 then b8 u else 1)
def sp (p : Int) (a : Nat) (u : Int) (b : Nat) (v : Int) : Int := (if a % 2 = 1 ∧ b % 2 = 1 ∧ p % 4 = 3 then -1 else 1) * (if b % 2 = 1 then bp u p else 1) * (if a % 2 = 1 then bp v p else 1)
def sgp (p : Int) (a : Nat) (u : Int) (b : Nat) (v : Int) : Int := if p = 2 then s2 a u b v else sp p a u b v
def sg (p n m : Int) : Int := if p = 0 then (if n < 0 ∧ m < 0 then -1 else 1) else sgp p (va p n) (un p n) (va p m) (un p m)
structure Nz (n : Int) : Prop where
  nz : n ≠ 0
  sm : n.natAbs ≤ 10000000000
def Good_sign_at_place (ds : List D) (st : Store) (o : Out D) : Prop := ∃ n m p : Int, ds = [.int n, .int m, .int p] ∧ Nz n ∧ Nz m ∧ (p = 0 ∨ 2 ≤ p) ∧ p ≤ 1000000000 ∧ o = .ok (.int (sg p n m)) st
/-- prime numbers -/
structure Pr (p : Int) : Prop where
  two : 2 ≤ p
  div : ∀ d : Int, 2 ≤ d → d ∣ p → d = p
structure PrimesOf (n : Int) (l : List Int) : Prop where
  mem : ∀ p, p ∈ l ↔ Pr p ∧ p ∣ n
  len : l.length ≤ 30
  pw : 2 ^ l.length ≤ n
def Good_prime_divisors (ds : List D) (st : Store) (o : Out D) : Prop := ∃ n : Int, ds = [.int n] ∧ 1 ≤ n ∧ n ≤ 1000000000 ∧ ∃ l, PrimesOf n l ∧ o = .ok (.ref st.length) (st ++ [.lst (l.map .int)])
noncomputable def plc (n m : Int) : List Int := open Classical in ((List.range (n.natAbs + m.natAbs + 3)).map fun i : Nat => (i : Int)).filter fun p => decide (p = 0 ∨ p = 2 ∨ Pr p ∧ (p ∣ n ∨ p ∣ m))
noncomputable def wr (n m : Int) : List Int := (plc n m).filter fun p => decide (sg p n m = -1)
structure N9 (n : Int) : Prop where
  nz : n ≠ 0
  sm : n.natAbs ≤ 1000000000
structure Ck (a b c : Int) : Prop where
  a : a ≠ 0 ∧ -1000 ≤ a ∧ a ≤ 1000
  b : b ≠ 0 ∧ -1000 ≤ b ∧ b ≤ 1000
  c : c ≠ 0 ∧ -1000 ≤ c ∧ c ≤ 1000
def Good_places_for (ds : List D) (st : Store) (o : Out D) : Prop := ∃ a b c : Int, ds = [tupI [a, b, c]] ∧ Ck a b c ∧ o = .ok (.ref st.length) (st ++ [.lst ((plc (-(a * c)) (-(b * c))).map .int)])
def Good_barring_places (ds : List D) (st : Store) (o : Out D) : Prop := ∃ a b c : Int, ds = [tupI [a, b, c]] ∧ Ck a b c ∧ o = .ok (.ref st.length) (st ++ [.lst ((wr (-(a * c)) (-(b * c))).map .int)])
/-- a number as a square times what is without squares -/
structure Fs (n r k : Int) : Prop where
  eq : n = r * (k * k)
  pos : 0 < k
  free : ∀ p : Int, Pr p → ¬ p * p ∣ r
def Good_free_of_squares (ds : List D) (st : Store) (o : Out D) : Prop := ∃ n r k : Int, ds = [.int n] ∧ n ≠ 0 ∧ n.natAbs ≤ 1000000000 ∧ Fs n r k ∧ o = .ok (.tup [.int r, .int k]) st
/-- the least root -/
structure Rt (n m r : Int) : Prop where
  lo : 0 ≤ r
  hi : 2 * r ≤ m
  dv : m ∣ r * r - n
  least : ∀ q : Int, 0 ≤ q → q < r → ¬ m ∣ q * q - n
def Good_square_root (ds : List D) (st : Store) (o : Out D) : Prop := ∃ n m r : Int, ds = [.int n, .int m] ∧ 1 ≤ m ∧ m ≤ 1000000 ∧ 0 ≤ n ∧ n ≤ 1000000 ∧ Rt n m r ∧ o = .ok (.int r) st
/-- odd primes, places -/
def Od (p : Int) : Prop := Pr p ∧ p % 2 = 1
def Pl (p : Int) : Prop := p = 0 ∨ p = 2 ∨ Od p
/-- what the descent goes through -/
inductive Pf : Int → Int → Int → Int → Int → Prop
  | one (m : Int) : Pf 1 m 1 0 1
  | other (n : Int) : n ≠ 1 → Pf n 1 0 1 1
  | opp (n : Int) : n ≠ 1 → n ≠ -1 → Pf n (-n) 1 1 0
  | same (n x y z : Int) : n ≠ 1 → n ≠ 0 → Pf n (-1) x y z → Pf n n z y (n * x)
  | swap (n m x y z : Int) : n ≠ 1 → m ≠ 1 → n ≠ -m → n ≠ m → m.natAbs < n.natAbs → Pf m n x y z → Pf n m y x z
  | desc (n m x y z r s k : Int) : n ≠ 1 → m ≠ 1 → n ≠ -m → n ≠ m → n.natAbs ≤ m.natAbs → Rt (n % m.natAbs) m.natAbs r → m ∣ r * r - n → r * r - n ≠ 0 → Fs ((r * r - n) / m) s k → Pf n s x y z → Pf n m (z + r * x) (s * k * y) (r * z + n * x)
structure Sv (n m : Int) : Prop where
  n0 : n ≠ 0
  m0 : m ≠ 0
  nb : n.natAbs ≤ 1000000
  mb : m.natAbs ≤ 1000000
  nf : ∀ p : Int, Pr p → ¬ p * p ∣ n
  mf : ∀ p : Int, Pr p → ¬ p * p ∣ m
  sol : ∀ p : Int, Pl p → sg p n m = 1
def Good_point_for (ds : List D) (st : Store) (o : Out D) : Prop := ∃ n m x y z : Int, ds = [.int n, .int m] ∧ Sv n m ∧ Pf n m x y z ∧ o = .ok (tupI [x, y, z]) st
def Good_descended (ds : List D) (st : Store) (o : Out D) : Prop := ∃ n m x y z : Int, ds = [.int n, .int m] ∧ Sv n m ∧ n ≠ 1 ∧ m ≠ 1 ∧ n ≠ -m ∧ n ≠ m ∧ n.natAbs ≤ m.natAbs ∧ Pf n m x y z ∧ o = .ok (tupI [x, y, z]) st
/-- the point that is told -/
structure So (a b c X Y Z : Int) : Prop where
  ex : ∃ r k s l x y z, Fs (-(a * c)) r k ∧ Fs (-(b * c)) s l ∧ Pf r s x y z ∧ X = x * l * c / gcdL [x * l * c, y * k * c, z * k * l] ∧ Y = y * k * c / gcdL [x * l * c, y * k * c, z * k * l] ∧ Z = z * k * l / gcdL [x * l * c, y * k * c, z * k * l]
def Good_solved (ds : List D) (st : Store) (o : Out D) : Prop := ∃ a b c X Y Z : Int, ds = [tupI [a, b, c]] ∧ Ck a b c ∧ (∀ p, Pl p → sg p (-(a * c)) (-(b * c)) = 1) ∧ So a b c X Y Z ∧ o = .ok (tupI [X, Y, Z]) st
/-- what conic_point tells -/
inductive Tl (a b c : Int) : D → Prop
  | place (p : Int) (r : List Int) : wr (-(a * c)) (-(b * c)) = p :: r → Tl a b c (.tup [.str "place", .int p])
  | point (X Y Z : Int) : wr (-(a * c)) (-(b * c)) = [] → So a b c X Y Z → Tl a b c (.tup [.str "point", tupI [X, Y, Z]])
def Good_conic_point (ds : List D) (st : Store) (o : Out D) : Prop := ∃ d, ds = [d] ∧ Cd st d ∧ ((conicB d = false ∧ o = noConic st) ∨ ∃ a b c e, d = tupI [a, b, c] ∧ Ck a b c ∧ Tl a b c e ∧ o = .ok e st)
def ptB : D → D → Bool
  | .tup [.int a, .int b, .int c], .tup [.int x, .int y, .int z] => !(decide (x = 0) && (decide (y = 0) && decide (z = 0))) && decide (a * x * x + b * y * y + c * z * z = 0)
  | _, _ => false
noncomputable def plB : D → D → Bool
  | .tup [.int a, .int b, .int c], .int p => decide (p ∈ wr (-(a * c)) (-(b * c)))
  | _, _ => false
noncomputable def papB (d e : D) : Bool := match e with
  | .tup [.str s, y] => if s = "place" then plB d y else if s = "point" then ptB d y else false
  | _ => false
structure Py (st : Store) (y : D) : Prop where
  ty : ∃ t, tyD st y = some t
  pl : ∀ l, y = .tup l → l.length = 3 → ∀ x ∈ l, ∃ t, tyD st x = some t
  sm : ∀ l i, y = .tup l → D.int i ∈ l → i.natAbs < 2 ^ 1000
structure Pp (st : Store) (e : D) : Prop where
  ty : ∃ t, tyD st e = some t
  pr : ∀ l, e = .tup l → l.length = 2 → ∃ x y, l = [x, y] ∧ (∃ t, tyD st x = some t) ∧ Py st y
def Good_is_conic_paper (ds : List D) (st : Store) (o : Out D) : Prop := ∃ d e, ds = [d, e] ∧ Cd st d ∧ Pp st e ∧ o = if conicB d = true then .ok (.bl (papB d e)) st else noConic st
def barO (d e : D) (st : Store) : Out D := if conicB d = true then (match d, e with
    | .tup [.int a, .int b, .int c], .int p => if p = 0 ∨ (2 ≤ p ∧ p < 1000000000 ∧ isP p = true) then .ok (.bl (decide (sg p (-(a * c)) (-(b * c)) = -1))) st else noPlace st
    | _, _ => noPlace st) else noConic st
def Good_barred_at (ds : List D) (st : Store) (o : Out D) : Prop := ∃ d e, ds = [d, e] ∧ Cd st d ∧ (∃ t, tyD st e = some t) ∧ o = barO d e st
/-! the law's own -/
structure Hd where
  cells : List Int
  i : Nat
  b : Int
  s : Int
  c : Int
def Hd.cell (h : Hd) : Cell := .lst [.lst (h.cells.map D.int), .int h.i, .int h.b, .int h.s, .int h.c]
def Good__law_hand (ds : List D) (st : Store) (o : Out D) : Prop := ∃ ns : List Int, ds = [.cst (ns.map D.int)] ∧ ns.length ≤ 63 ∧ ∃ hd : Hd, o = .ok (.ref st.length) (st ++ [hd.cell])
def Good__law_draw (ds : List D) (st : Store) (o : Out D) : Prop := ∃ h hd m, ds = [.ref h, .int m] ∧ st[h]? = some (Hd.cell hd) ∧ 0 < m ∧ m < 1000000 ∧ ∃ v hd', 0 ≤ v ∧ v < m ∧ o = .ok (.int v) (st.set h (Hd.cell hd'))
def Good__law_any (ds : List D) (st : Store) (o : Out D) : Prop := ∃ h hd n l, ds = [.ref h, .ref n] ∧ h ≠ n ∧ st[h]? = some (Hd.cell hd) ∧ st[n]? = some (.lst l) ∧ 0 < l.length ∧ l.length < 1000000 ∧ ∃ x hd', x ∈ l ∧ o = .ok x (st.set h (Hd.cell hd'))
def Good__law_number (ds : List D) (st : Store) (o : Out D) : Prop := ∃ h hd w, ds = [.ref h, .int w] ∧ st[h]? = some (Hd.cell hd) ∧ 1 ≤ w ∧ w ≤ 1000000 ∧ ∃ v hd', v ≠ 0 ∧ -w ≤ v ∧ v ≤ w ∧ o = .ok (.int v) (st.set h (Hd.cell hd'))
def Good__law_primes_of (ds : List D) (st : Store) (o : Out D) : Prop := ∃ n : Int, ds = [.int n] ∧ 1 ≤ n ∧ n ≤ 1000000000 ∧ ∃ l, PrimesOf n l ∧ o = .ok (.ref st.length) (st ++ [.lst (l.map .int)])
/-- what is left when squares are taken out -/
structure Wo (n r : Int) : Prop where
  sq : ∃ k : Int, n = r * (k * k)
  free : ∀ p : Int, Pr p → ¬ p * p ∣ r
def Good__law_without_squares (ds : List D) (st : Store) (o : Out D) : Prop := ∃ n : Int, ds = [.int n] ∧ N9 n ∧ ∃ r, Wo n r ∧ o = .ok (.int r) st
def Good__law_is_square_rest (ds : List D) (st : Store) (o : Out D) : Prop := ∃ n p : Int, ds = [.int n, .int p] ∧ 3 ≤ p ∧ p ≤ 1000000000 ∧ o = .ok (.bl (decide (n ^ ((p - 1) / 2).toNat % p = 1))) st
def Good__law_sign (ds : List D) (st : Store) (o : Out D) : Prop := ∃ n m p : Int, ds = [.int n, .int m, .int p] ∧ N9 n ∧ N9 m ∧ Pl p ∧ p ≤ 1000000000 ∧ o = .ok (.int (sg p n m)) st
def Good__law_wrong (ds : List D) (st : Store) (o : Out D) : Prop := ∃ n m : Int, ds = [.int n, .int m] ∧ N9 n ∧ N9 m ∧ o = .ok (.ref st.length) (st ++ [.lst ((wr n m).map .int)])
def Good__law_barring (ds : List D) (st : Store) (o : Out D) : Prop := ∃ a b c : Int, ds = [tupI [a, b, c]] ∧ Ck a b c ∧ o = .ok (.ref st.length) (st ++ [.lst ((wr (-(a * c)) (-(b * c))).map .int)])
def Good__law_divisor (ds : List D) (st : Store) (o : Out D) : Prop := ∃ ns : List Int, ds = [.tup (ns.map .int)] ∧ o = .ok (.int (gcdL ns)) st
def Good__law_shuffled (ds : List D) (st : Store) (o : Out D) : Prop := ∃ h hd a b c, ds = [.ref h, tupI [a, b, c]] ∧ st[h]? = some (Hd.cell hd) ∧ ∃ l hd', List.Perm l [a, b, c] ∧ o = .ok (.ref (st.length + 1)) (st.set h (Hd.cell hd') ++ [.lst [], .lst (l.map .int)])
def Good__law_is_whole (ds : List D) (st : Store) (o : Out D) : Prop := ∃ d t, ds = [d] ∧ tyD st d = some t ∧ o = .ok (.bl (decide (t = .int))) st
def Good__law_value (ds : List D) (st : Store) (o : Out D) : Prop := ∃ a b c x y z : Int, ds = [tupI [a, b, c], tupI [x, y, z]] ∧ Ck a b c ∧ x.natAbs < 2 ^ 1000 ∧ y.natAbs < 2 ^ 1000 ∧ z.natAbs < 2 ^ 1000 ∧ o = .ok (.int (a * x * x + b * y * y + c * z * z)) st
def Good__law_is_point (ds : List D) (st : Store) (o : Out D) : Prop := ∃ a b c y, ds = [tupI [a, b, c], y] ∧ Ck a b c ∧ Py st y ∧ o = .ok (.bl (ptB (tupI [a, b, c]) y)) st
def Good__law_is_paper (ds : List D) (st : Store) (o : Out D) : Prop := ∃ a b c e, ds = [tupI [a, b, c], e] ∧ Ck a b c ∧ Pp st e ∧ o = .ok (.bl (papB (tupI [a, b, c]) e)) st
structure Wp (a b c x y z : Int) : Prop where
  pa : a ≠ 0 ∧ -60 ≤ a ∧ a ≤ 60
  pb : b ≠ 0 ∧ -60 ≤ b ∧ b ≤ 60
  pc : c ≠ 0 ∧ -1000 ≤ c ∧ c ≤ 1000
  px : -9 ≤ x ∧ x ≤ 9
  py : -9 ≤ y ∧ y ≤ 9
  pz : -9 ≤ z ∧ z ≤ 9
  pn : ¬ (x = 0 ∧ y = 0 ∧ z = 0)
  po : a * x * x + b * y * y + c * z * z = 0
def Good__law_with_point (ds : List D) (st : Store) (o : Out D) : Prop := ∃ h hd, ds = [.ref h] ∧ st[h]? = some (Hd.cell hd) ∧ ∃ a b c x y z hd', Wp a b c x y z ∧ -3 ≤ x ∧ x ≤ 3 ∧ -3 ≤ y ∧ y ≤ 3 ∧ -3 ≤ z ∧ z ≤ 3 ∧ o = .ok (.tup [tupI [a, b, c], tupI [x, y, z]]) (st.set h (Hd.cell hd'))
def Good__law_is_conic (ds : List D) (st : Store) (o : Out D) : Prop := ∃ d, ds = [d] ∧ Cd st d ∧ o = .ok (.bl (conicB d)) st
def Good__law_conic (ds : List D) (st : Store) (o : Out D) : Prop := ∃ h hd, ds = [.ref h] ∧ st[h]? = some (Hd.cell hd) ∧ ∃ a b c hd', Ck a b c ∧ o = .ok (tupI [a, b, c]) (st.set h (Hd.cell hd'))
def Good__law_bent (ds : List D) (st : Store) (o : Out D) : Prop := ∃ h hd a b c e, ds = [.ref h, tupI [a, b, c], e] ∧ st[h]? = some (Hd.cell hd) ∧ Ck a b c ∧ Tl a b c e ∧ ∃ d hd' g, Pp (st.set h (Hd.cell hd') ++ g) d ∧ o = .ok d (st.set h (Hd.cell hd') ++ g)
def Good__law_is_right (ds : List D) (st : Store) (o : Out D) : Prop := ∃ h hd a b c e, ds = [.ref h, tupI [a, b, c], e] ∧ st[h]? = some (Hd.cell hd) ∧ Ck a b c ∧ (e = .non ∨ ∃ x y z, e = tupI [x, y, z] ∧ Wp a b c x y z) ∧ ∃ hd', o = .ok (.bl true) (st.set h (Hd.cell hd'))
def wordS : Out D → Str
  | .ok _ _ => "let"
  | .ex e _ => if e.cls = "NoConic" then "conic" else "place"
  | .bad => "bad"
def Good__law_word (ds : List D) (st : Store) (o : Out D) : Prop := (∃ d e, ds = [.int 0, d, e] ∧ Cd st d ∧ (∃ t, tyD st e = some t) ∧ o = .ok (.str (wordS (barO d e st))) st) ∨
  ∃ i d e, (i = 1 ∨ i = 2) ∧ ds = [.int i, d, e] ∧ Cd st d ∧ o = .ok (.str (if conicB d = true then "let" else "conic")) st
def Good__law_are_refused (ds : List D) (st : Store) (o : Out D) : Prop := ∃ h hd, ds = [.ref h] ∧ st[h]? = some (Hd.cell hd) ∧ ∃ hd', o = .ok (.bl true) (st.set h (Hd.cell hd'))
def Good_law (ds : List D) (st : Store) (o : Out D) : Prop := ∃ st', o = .ok (.bl true) st'
end K65
namespace K65
open PySem PySem.Spec PyProof.Rows L2 DD
end K65

set_option maxRecDepth 100000
set_option maxHeartbeats 0
namespace K65
open PySem PySem.Spec PyProof.Rows L2 DD
def top (i : Nat) : Stmt := PySem.Challenge.pw_wholerays_k65_whole_conics_a_point_or_a.main.body.getD i (.Pass ⟨0, 0, 0, 0⟩)
def excs : List Str := ["NoConic", "NoPlace"]
def kT (y x : Str) : Bool := decide (y = x) || (decide (x = "FieldError") || decide (x = "ValueError"))
def catF (e : Exc) : Option Bool := if e.fs.isEmpty = true ∧ e.cls ∈ excs then some true else none
theorem catF_fs {e : Exc} (h : catF e = some true) : e.fs = [] := by
  unfold catF at h
  split at h
  · rename_i q; exact List.isEmpty_iff.mp q.1
  · cases h
theorem catF_in {e : Exc} {b : Bool} (h : catF e = some b) : e.cls ∈ excs ∧ b = true := by
  unfold catF at h
  split at h
  · rename_i q; exact ⟨q.2, by cases h; rfl⟩
  · cases h
abbrev N__law_hand : List Str := ["script", "cells", "cell"]
noncomputable def le1__law_hand : LS → Store → Out D := (callD absV' (consA (callD intV (consA (varD 2) nilA)) nilA))
noncomputable def g__law_hand : LS → Store → SO := (seqD (asgD (lcD (seqI (slD (varD 0) noP (someP (litD (.int 63))))) (nameG 2) yesT le1__law_hand [2]) (nameG 1))
  (retD (lstD (consA (varD 1) (consA (litD (.int 0)) (consA (litD (.int 0)) (consA (bin2 addV (litD (.int 83)) (bin2 mulV (litD (.int 5)) (callD lenV (consA (varD 1) nilA)))) (consA (litD (.int 0)) nilA))))))))
noncomputable def F__law_hand : List D → Store → Out D := viaF 3 g__law_hand Good__law_hand
abbrev N_is_integer : List Str := ["thing"]
noncomputable def g_is_integer : LS → Store → SO := (retD ((andV (un1 (isiV .int) (varD 0)) (notV (un1 (isiV .bl) (varD 0))))))
noncomputable def F_is_integer : List D → Store → Out D := viaF 1 g_is_integer Good_is_integer
abbrev N_is_conic : List Str := ["thing", "one"]
noncomputable def le1_is_conic : LS → Store → Out D := ((andV (callD F_is_integer (consA (varD 1) nilA)) (andV (bin2 neV (varD 1) (litD (.int 0))) (bin2 leV (callD absV' (consA (varD 1) nilA)) (litD (.int 1000))))))
noncomputable def g_is_conic : LS → Store → SO := (seqD (ifS ((orT (notT (testD (un1 (isiV .tup) (varD 0)))) (boolD (bin2 neV (callD lenV (consA (varD 0) nilA)) (litD (.int 3)))))) (retD (litD (.bl false))) skipD)
  (retD (callD (onL allL) (consA (lcD (seqI (varD 0)) (nameG 1) yesT le1_is_conic [1]) nilA))))
noncomputable def F_is_conic : List D → Store → Out D := viaF 2 g_is_conic Good_is_conic
abbrev N_check_conic : List Str := ["thing"]
noncomputable def g_check_conic : LS → Store → SO := (ifS (notT (testD (callD F_is_conic (consA (varD 0) nilA)))) (raiseD "NoConic") skipD)
noncomputable def F_check_conic : List D → Store → Out D := viaF 1 g_check_conic Good_check_conic
abbrev N_prime_divisors : List Str := ["number", "found", "step"]
noncomputable def wt1_prime_divisors : LS → Store → Out Bool := (boolD (bin2 leV (bin2 mulV (varD 2) (varD 2)) (varD 0)))
noncomputable def wt2_prime_divisors : LS → Store → Out Bool := (boolD (bin2 eqV (bin2 modV (varD 0) (varD 2)) (litD (.int 0))))
noncomputable def wb1_prime_divisors : LS → Store → SO := (asgD (bin2 fdivV (varD 0) (varD 2)) (nameG 0))
noncomputable def wb2_prime_divisors : LS → Store → SO := (seqD (ifS (boolD (bin2 eqV (bin2 modV (varD 0) (varD 2)) (litD (.int 0)))) (seqD (dropD (methD .lst appV (varD 1) (consA (varD 2) nilA)))
  (whileD wt2_prime_divisors wb1_prime_divisors)) skipD)
  (asgD (bin2 addV (varD 2) (ifE (boolD (bin2 eqV (varD 2) (litD (.int 2)))) (litD (.int 1)) (litD (.int 2)))) (nameG 2)))
noncomputable def g_prime_divisors : LS → Store → SO := (seqD (parD 1 2 (consA (lstD nilA) (consA (litD (.int 2)) nilA)))
  (seqD (whileD wt1_prime_divisors wb2_prime_divisors)
  (seqD (ifS (boolD (bin2 gtV (varD 0) (litD (.int 1)))) (dropD (methD .lst appV (varD 1) (consA (varD 0) nilA))) skipD)
  (retD (varD 1)))))
noncomputable def F_prime_divisors : List D → Store → Out D := viaF 3 g_prime_divisors Good_prime_divisors
abbrev N_places_for : List Str := ["numbers", "found", "number", "p"]
noncomputable def dk1_places_for : LS → Store → Out D := (varD 3)
noncomputable def dv1_places_for : LS → Store → Out D := (litD (.bl true))
noncomputable def fb1_places_for : LS → Store → SO := (dropD (methD .dic updV (varD 1) (consA (dcD (seqI (callD F_prime_divisors (consA (callD absV' (consA (varD 2) nilA)) nilA))) (nameG 3) yesT dk1_places_for dv1_places_for [3]) nilA)))
noncomputable def g_places_for : LS → Store → SO := (seqD (asgD (dispD [((litD (.int 0)), (litD (.bl true))), ((litD (.int 2)), (litD (.bl true)))]) (nameG 1))
  (seqD (forD (seqI (varD 0)) (nameG 2) fb1_places_for)
  (retD (fun ls st => ((varD 1) ls st).bind dsortV))))
noncomputable def F_places_for : List D → Store → Out D := viaF 4 g_places_for Good_places_for
abbrev N_taken_out : List Str := ["number", "p", "many"]
noncomputable def wt1_taken_out : LS → Store → Out Bool := (boolD (bin2 eqV (bin2 modV (varD 0) (varD 1)) (litD (.int 0))))
noncomputable def wb1_taken_out : LS → Store → SO := (parD 0 2 (consA (bin2 fdivV (varD 0) (varD 1)) (consA (bin2 addV (varD 2) (litD (.int 1))) nilA)))
noncomputable def g_taken_out : LS → Store → SO := (seqD (asgD (litD (.int 0)) (nameG 2))
  (seqD (whileD wt1_taken_out wb1_taken_out)
  (retD (tupD (consA (varD 2) (consA (varD 0) nilA))))))
noncomputable def F_taken_out : List D → Store → Out D := viaF 3 g_taken_out Good_taken_out
abbrev N_by_four : List Str := ["number"]
noncomputable def g_by_four : LS → Store → SO := (retD (ifE (boolD (bin2 eqV (bin2 modV (varD 0) (litD (.int 4))) (litD (.int 1)))) (litD (.int 1)) (un1 negV (litD (.int 1)))))
noncomputable def F_by_four : List D → Store → Out D := viaF 1 g_by_four Good_by_four
abbrev N_by_eight : List Str := ["number"]
noncomputable def g_by_eight : LS → Store → SO := (retD (ifE (boolD (bin2 (inV false) (bin2 modV (varD 0) (litD (.int 8))) (tupD (consA (litD (.int 1)) (consA (litD (.int 7)) nilA))))) (litD (.int 1)) (un1 negV (litD (.int 1)))))
noncomputable def F_by_eight : List D → Store → Out D := viaF 1 g_by_eight Good_by_eight
abbrev N_power_of : List Str := ["number", "many", "p", "found", "here"]
noncomputable def wt1_power_of : LS → Store → Out Bool := (boolD (bin2 gtV (varD 1) (litD (.int 0))))
noncomputable def wb1_power_of : LS → Store → SO := (seqD (ifS (boolD (bin2 eqV (bin2 modV (varD 1) (litD (.int 2))) (litD (.int 1)))) (asgD (bin2 modV (bin2 mulV (varD 3) (varD 4)) (varD 2)) (nameG 3)) skipD)
  (parD 4 1 (consA (bin2 modV (bin2 mulV (varD 4) (varD 4)) (varD 2)) (consA (bin2 fdivV (varD 1) (litD (.int 2))) nilA))))
noncomputable def g_power_of : LS → Store → SO := (seqD (parD 3 4 (consA (bin2 modV (litD (.int 1)) (varD 2)) (consA (bin2 modV (varD 0) (varD 2)) nilA)))
  (seqD (whileD wt1_power_of wb1_power_of)
  (retD (varD 3))))
noncomputable def F_power_of : List D → Store → Out D := viaF 5 g_power_of Good_power_of
abbrev N_by_prime : List Str := ["number", "p"]
noncomputable def g_by_prime : LS → Store → SO := (retD (ifE (boolD (bin2 eqV (callD F_power_of (consA (varD 0) (consA (bin2 fdivV (bin2 subV (varD 1) (litD (.int 1))) (litD (.int 2))) (consA (varD 1) nilA)))) (litD (.int 1)))) (litD (.int 1)) (un1 negV (litD (.int 1)))))
noncomputable def F_by_prime : List D → Store → Out D := viaF 2 g_by_prime Good_by_prime
abbrev N_sign_at_place : List Str := ["one", "other", "p", "a", "u", "b", "v", "found"]
noncomputable def g_sign_at_place : LS → Store → SO := (seqD (ifS (boolD (bin2 eqV (varD 2) (litD (.int 0)))) (retD (ifE ((andT (boolD (bin2 ltV (varD 0) (litD (.int 0)))) (boolD (bin2 ltV (varD 1) (litD (.int 0)))))) (un1 negV (litD (.int 1))) (litD (.int 1)))) skipD)
  (seqD (asgD (callD F_taken_out (consA (varD 0) (consA (varD 2) nilA))) (tupG 2 (consG (nameG 3) (consG (nameG 4) nilG))))
  (seqD (asgD (callD F_taken_out (consA (varD 1) (consA (varD 2) nilA))) (tupG 2 (consG (nameG 5) (consG (nameG 6) nilG))))
  (seqD (ifS (boolD (bin2 eqV (varD 2) (litD (.int 2)))) (seqD (asgD (ifE ((andT (boolD (bin2 eqV (callD F_by_four (consA (varD 4) nilA)) (un1 negV (litD (.int 1))))) (boolD (bin2 eqV (callD F_by_four (consA (varD 6) nilA)) (un1 negV (litD (.int 1))))))) (un1 negV (litD (.int 1))) (litD (.int 1))) (nameG 7))
  (seqD (asgD (bin2 mulV (varD 7) (ifE (boolD (bin2 eqV (bin2 modV (varD 3) (litD (.int 2))) (litD (.int 1)))) (callD F_by_eight (consA (varD 6) nilA)) (litD (.int 1)))) (nameG 7))
  (retD (bin2 mulV (varD 7) (ifE (boolD (bin2 eqV (bin2 modV (varD 5) (litD (.int 2))) (litD (.int 1)))) (callD F_by_eight (consA (varD 4) nilA)) (litD (.int 1))))))) skipD)
  (seqD (asgD (ifE ((andT (boolD (bin2 eqV (bin2 modV (varD 3) (litD (.int 2))) (litD (.int 1)))) (andT (boolD (bin2 eqV (bin2 modV (varD 5) (litD (.int 2))) (litD (.int 1)))) (boolD (bin2 eqV (bin2 modV (varD 2) (litD (.int 4))) (litD (.int 3))))))) (un1 negV (litD (.int 1))) (litD (.int 1))) (nameG 7))
  (seqD (asgD (bin2 mulV (varD 7) (ifE (boolD (bin2 eqV (bin2 modV (varD 5) (litD (.int 2))) (litD (.int 1)))) (callD F_by_prime (consA (varD 4) (consA (varD 2) nilA))) (litD (.int 1)))) (nameG 7))
  (retD (bin2 mulV (varD 7) (ifE (boolD (bin2 eqV (bin2 modV (varD 3) (litD (.int 2))) (litD (.int 1)))) (callD F_by_prime (consA (varD 6) (consA (varD 2) nilA))) (litD (.int 1)))))))))))
noncomputable def F_sign_at_place : List D → Store → Out D := viaF 8 g_sign_at_place Good_sign_at_place
abbrev N_barring_places : List Str := ["conic", "a", "b", "c", "p"]
noncomputable def le1_barring_places : LS → Store → Out D := (varD 4)
noncomputable def lf1_barring_places : LS → Store → Out Bool := (boolD (bin2 eqV (callD F_sign_at_place (consA (bin2 mulV (un1 negV (varD 1)) (varD 3)) (consA (bin2 mulV (un1 negV (varD 2)) (varD 3)) (consA (varD 4) nilA)))) (un1 negV (litD (.int 1)))))
noncomputable def g_barring_places : LS → Store → SO := (seqD (asgD (varD 0) (tupG 3 (consG (nameG 1) (consG (nameG 2) (consG (nameG 3) nilG)))))
  (retD (lcD (seqI (callD F_places_for (consA (varD 0) nilA))) (nameG 4) lf1_barring_places le1_barring_places [4])))
noncomputable def F_barring_places : List D → Store → Out D := viaF 5 g_barring_places Good_barring_places
abbrev N_free_of_squares : List Str := ["number", "size", "root", "p"]
noncomputable def wt1_free_of_squares : LS → Store → Out Bool := (boolD (bin2 eqV (bin2 modV (varD 1) (bin2 mulV (varD 3) (varD 3))) (litD (.int 0))))
noncomputable def wb1_free_of_squares : LS → Store → SO := (parD 1 2 (consA (bin2 fdivV (varD 1) (bin2 mulV (varD 3) (varD 3))) (consA (bin2 mulV (varD 2) (varD 3)) nilA)))
noncomputable def fb1_free_of_squares : LS → Store → SO := (whileD wt1_free_of_squares wb1_free_of_squares)
noncomputable def g_free_of_squares : LS → Store → SO := (seqD (parD 1 2 (consA (callD absV' (consA (varD 0) nilA)) (consA (litD (.int 1)) nilA)))
  (seqD (forD (seqI (callD F_prime_divisors (consA (varD 1) nilA))) (nameG 3) fb1_free_of_squares)
  (retD (tupD (consA (ifE (boolD (bin2 gtV (varD 0) (litD (.int 0)))) (varD 1) (un1 negV (varD 1))) (consA (varD 2) nilA))))))
noncomputable def F_free_of_squares : List D → Store → Out D := viaF 4 g_free_of_squares Good_free_of_squares
abbrev N_square_root : List Str := ["number", "modulus", "found"]
noncomputable def fb1_square_root : LS → Store → SO := (ifS (boolD (bin2 eqV (bin2 modV (bin2 subV (bin2 mulV (varD 2) (varD 2)) (varD 0)) (varD 1)) (litD (.int 0)))) (retD (varD 2)) skipD)
noncomputable def g_square_root : LS → Store → SO := (seqD (forD (rng1 (consA (bin2 addV (bin2 fdivV (varD 1) (litD (.int 2))) (litD (.int 1))) nilA)) (nameG 2) fb1_square_root)
  (retD (litD .non)))
noncomputable def F_square_root : List D → Store → Out D := viaF 3 g_square_root Good_square_root
abbrev N_descended : List Str := ["one", "other", "root", "rest", "square", "x", "y", "z"]
noncomputable def g_descended (F_descended F_point_for : List D → Store → Out D) : LS → Store → SO := (seqD (asgD (callD F_square_root (consA (bin2 modV (varD 0) (callD absV' (consA (varD 1) nilA))) (consA (callD absV' (consA (varD 1) nilA)) nilA))) (nameG 2))
  (seqD (asgD (callD F_free_of_squares (consA (bin2 fdivV (bin2 subV (bin2 mulV (varD 2) (varD 2)) (varD 0)) (varD 1)) nilA)) (tupG 2 (consG (nameG 3) (consG (nameG 4) nilG))))
  (seqD (asgD (callD F_point_for (consA (varD 0) (consA (varD 3) nilA))) (tupG 3 (consG (nameG 5) (consG (nameG 6) (consG (nameG 7) nilG)))))
  (retD (tupD (consA (bin2 addV (varD 7) (bin2 mulV (varD 2) (varD 5))) (consA (bin2 mulV (bin2 mulV (varD 3) (varD 4)) (varD 6)) (consA (bin2 addV (bin2 mulV (varD 2) (varD 7)) (bin2 mulV (varD 0) (varD 5))) nilA))))))))
noncomputable def R_descended (F : List D → Store → Out D) : List D → Store → Out D := viaF 8 (g_descended (fun _ _ => .bad) F) Good_descended
abbrev N_point_for : List Str := ["one", "other", "x", "y", "z"]
noncomputable def g_point_for (F_descended F_point_for : List D → Store → Out D) : LS → Store → SO := (seqD (ifS (boolD (bin2 eqV (varD 0) (litD (.int 1)))) (retD (tupD (consA (litD (.int 1)) (consA (litD (.int 0)) (consA (litD (.int 1)) nilA))))) skipD)
  (seqD (ifS (boolD (bin2 eqV (varD 1) (litD (.int 1)))) (retD (tupD (consA (litD (.int 0)) (consA (litD (.int 1)) (consA (litD (.int 1)) nilA))))) skipD)
  (seqD (ifS (boolD (bin2 eqV (varD 0) (un1 negV (varD 1)))) (retD (tupD (consA (litD (.int 1)) (consA (litD (.int 1)) (consA (litD (.int 0)) nilA))))) skipD)
  (seqD (ifS (boolD (bin2 eqV (varD 0) (varD 1))) (seqD (asgD (callD F_point_for (consA (varD 0) (consA (un1 negV (litD (.int 1))) nilA))) (tupG 3 (consG (nameG 2) (consG (nameG 3) (consG (nameG 4) nilG)))))
  (retD (tupD (consA (varD 4) (consA (varD 3) (consA (bin2 mulV (varD 0) (varD 2)) nilA)))))) skipD)
  (seqD (ifS (boolD (bin2 gtV (callD absV' (consA (varD 0) nilA)) (callD absV' (consA (varD 1) nilA)))) (seqD (asgD (callD F_point_for (consA (varD 1) (consA (varD 0) nilA))) (tupG 3 (consG (nameG 2) (consG (nameG 3) (consG (nameG 4) nilG)))))
  (retD (tupD (consA (varD 3) (consA (varD 2) (consA (varD 4) nilA)))))) skipD)
  (retD (callD F_descended (consA (varD 0) (consA (varD 1) nilA)))))))))
noncomputable def R_point_for : Nat → List D → Store → Out D
  | 0 => fun _ _ => .bad
  | k + 1 => viaF 5 (g_point_for (R_descended (R_point_for k)) (R_point_for k)) Good_point_for
noncomputable def F_point_for : List D → Store → Out D := R_point_for 100
abbrev N_common_divisor : List Str := ["one", "other"]
noncomputable def wt1_common_divisor : LS → Store → Out Bool := (boolD (bin2 gtV (varD 1) (litD (.int 0))))
noncomputable def wb1_common_divisor : LS → Store → SO := (parD 0 1 (consA (varD 1) (consA (bin2 modV (varD 0) (varD 1)) nilA)))
noncomputable def g_common_divisor : LS → Store → SO := (seqD (parD 0 1 (consA (callD absV' (consA (varD 0) nilA)) (consA (callD absV' (consA (varD 1) nilA)) nilA)))
  (seqD (whileD wt1_common_divisor wb1_common_divisor)
  (retD (varD 0))))
noncomputable def F_common_divisor : List D → Store → Out D := viaF 2 g_common_divisor Good_common_divisor
abbrev N_divisor_of : List Str := ["numbers", "found", "number"]
noncomputable def fb1_divisor_of : LS → Store → SO := (asgD (callD F_common_divisor (consA (varD 1) (consA (varD 2) nilA))) (nameG 1))
noncomputable def g_divisor_of : LS → Store → SO := (seqD (asgD (litD (.int 0)) (nameG 1))
  (seqD (forD (seqI (varD 0)) (nameG 2) fb1_divisor_of)
  (retD (varD 1))))
noncomputable def F_divisor_of : List D → Store → Out D := viaF 3 g_divisor_of Good_divisor_of
abbrev N_solved : List Str := ["conic", "a", "b", "c", "one", "first", "other", "second", "x", "y", "z", "found", "shared", "part"]
noncomputable def le1_solved : LS → Store → Out D := (bin2 fdivV (varD 13) (varD 12))
noncomputable def g_solved : LS → Store → SO := (seqD (asgD (varD 0) (tupG 3 (consG (nameG 1) (consG (nameG 2) (consG (nameG 3) nilG)))))
  (seqD (asgD (callD F_free_of_squares (consA (bin2 mulV (un1 negV (varD 1)) (varD 3)) nilA)) (tupG 2 (consG (nameG 4) (consG (nameG 5) nilG))))
  (seqD (asgD (callD F_free_of_squares (consA (bin2 mulV (un1 negV (varD 2)) (varD 3)) nilA)) (tupG 2 (consG (nameG 6) (consG (nameG 7) nilG))))
  (seqD (asgD (callD F_point_for (consA (varD 4) (consA (varD 6) nilA))) (tupG 3 (consG (nameG 8) (consG (nameG 9) (consG (nameG 10) nilG)))))
  (seqD (asgD (tupD (consA (bin2 mulV (bin2 mulV (varD 8) (varD 7)) (varD 3)) (consA (bin2 mulV (bin2 mulV (varD 9) (varD 5)) (varD 3)) (consA (bin2 mulV (bin2 mulV (varD 10) (varD 5)) (varD 7)) nilA)))) (nameG 11))
  (seqD (asgD (callD F_divisor_of (consA (varD 11) nilA)) (nameG 12))
  (retD (callD tupleV (consA (lcD (seqI (varD 11)) (nameG 13) yesT le1_solved [13]) nilA)))))))))
noncomputable def F_solved : List D → Store → Out D := viaF 14 g_solved Good_solved
abbrev N_conic_point : List Str := ["conic", "places"]
noncomputable def g_conic_point : LS → Store → SO := (seqD (dropD (callD F_check_conic (consA (varD 0) nilA)))
  (seqD (asgD (callD F_barring_places (consA (varD 0) nilA)) (nameG 1))
  (seqD (ifS (boolD (bin2 gtV (callD lenV (consA (varD 1) nilA)) (litD (.int 0)))) (retD (tupD (consA (litD (.str "place")) (consA (bin2 ixD (varD 1) (litD (.int 0))) nilA)))) skipD)
  (retD (tupD (consA (litD (.str "point")) (consA (callD F_solved (consA (varD 0) nilA)) nilA)))))))
noncomputable def F_conic_point : List D → Store → Out D := viaF 2 g_conic_point Good_conic_point
abbrev N__law_draw : List Str := ["hand", "many", "cell", "digit", "number"]
noncomputable def g__law_draw : LS → Store → SO := (seqD (ifS ((andT (boolD (bin2 eqV (bin2 ixD (varD 0) (litD (.int 2))) (litD (.int 0)))) (boolD (bin2 ltV (bin2 ixD (varD 0) (litD (.int 1))) (callD lenV (consA (bin2 ixD (varD 0) (litD (.int 0))) nilA)))))) (seqD (asgD (bin2 ixD (bin2 ixD (varD 0) (litD (.int 0))) (bin2 ixD (varD 0) (litD (.int 1)))) (nameG 2))
  (seqD (asgD (bin2 addV (bin2 ixD (varD 0) (litD (.int 1))) (litD (.int 1))) (subG (varD 0) (litD (.int 1))))
  (seqD (asgD (bin2 modV (callD intV (consA (bin2 addV (bin2 addV (bin2 mulV (bin2 ixD (varD 0) (litD (.int 3))) (litD (.int 69621))) (bin2 mulV (varD 2) (litD (.int 40692)))) (litD (.int 17))) nilA)) (litD (.int 2147483629))) (subG (varD 0) (litD (.int 3))))
  (ifS (boolD (bin2 geV (varD 2) (bin2 powV (litD (.int 10)) (litD (.int 18))))) (asgD (varD 2) (subG (varD 0) (litD (.int 2)))) skipD)))) skipD)
  (seqD (ifS (boolD (bin2 gtV (bin2 ixD (varD 0) (litD (.int 2))) (litD (.int 0)))) (seqD (asgD (bin2 modV (callD intV (consA (bin2 ixD (varD 0) (litD (.int 2))) nilA)) (varD 1)) (nameG 3))
  (seqD (asgD (bin2 fdivV (bin2 ixD (varD 0) (litD (.int 2))) (varD 1)) (subG (varD 0) (litD (.int 2))))
  (retD (varD 3)))) skipD)
  (seqD (asgD (bin2 addV (bin2 ixD (varD 0) (litD (.int 4))) (litD (.int 1))) (subG (varD 0) (litD (.int 4))))
  (seqD (asgD (bin2 modV (callD intV (consA (bin2 mulV (callD intV (consA (bin2 addV (bin2 ixD (varD 0) (litD (.int 3))) (bin2 mulV (litD (.int 7919)) (bin2 ixD (varD 0) (litD (.int 4))))) nilA)) (litD (.int 48271))) nilA)) (litD (.int 2147483647))) (nameG 4))
  (seqD (asgD (bin2 modV (callD intV (consA (bin2 mulV (varD 4) (bin2 addV (bin2 fdivV (varD 4) (litD (.int 1009))) (litD (.int 69621)))) nilA)) (litD (.int 2147483647))) (nameG 4))
  (seqD (asgD (bin2 modV (callD intV (consA (bin2 mulV (varD 4) (bin2 addV (bin2 fdivV (varD 4) (litD (.int 2003))) (litD (.int 40014)))) nilA)) (litD (.int 2147483563))) (nameG 4))
  (retD (bin2 modV (callD intV (consA (bin2 fdivV (varD 4) (litD (.int 16))) nilA)) (varD 1)))))))))
noncomputable def F__law_draw : List D → Store → Out D := viaF 5 g__law_draw Good__law_draw
abbrev N__law_any : List Str := ["hand", "some"]
noncomputable def g__law_any : LS → Store → SO := (retD (bin2 ixD (varD 1) (callD F__law_draw (consA (varD 0) (consA (callD lenV (consA (varD 1) nilA)) nilA)))))
noncomputable def F__law_any : List D → Store → Out D := viaF 2 g__law_any Good__law_any
abbrev N__law_is_whole : List Str := ["thing"]
noncomputable def g__law_is_whole : LS → Store → SO := (retD ((andV (un1 (isiV .int) (varD 0)) (notV (un1 (isiV .bl) (varD 0))))))
noncomputable def F__law_is_whole : List D → Store → Out D := viaF 1 g__law_is_whole Good__law_is_whole
abbrev N__law_is_conic : List Str := ["thing", "one"]
noncomputable def le1__law_is_conic : LS → Store → Out D := ((andV (callD F__law_is_whole (consA (varD 1) nilA)) (andV (bin2 neV (varD 1) (litD (.int 0))) (bin2 leV (callD absV' (consA (varD 1) nilA)) (litD (.int 1000))))))
noncomputable def g__law_is_conic : LS → Store → SO := (seqD (ifS ((orT (notT (testD (un1 (isiV .tup) (varD 0)))) (boolD (bin2 neV (callD lenV (consA (varD 0) nilA)) (litD (.int 3)))))) (retD (litD (.bl false))) skipD)
  (retD (callD (onL allL) (consA (lcD (seqI (varD 0)) (nameG 1) yesT le1__law_is_conic [1]) nilA))))
noncomputable def F__law_is_conic : List D → Store → Out D := viaF 2 g__law_is_conic Good__law_is_conic
abbrev N_is_witness : List Str := ["base", "number", "odd", "times", "here", "turn"]
noncomputable def wt1_is_witness : LS → Store → Out Bool := (boolD (bin2 eqV (bin2 modV (varD 2) (litD (.int 2))) (litD (.int 0))))
noncomputable def wb1_is_witness : LS → Store → SO := (parD 2 3 (consA (bin2 fdivV (varD 2) (litD (.int 2))) (consA (bin2 addV (varD 3) (litD (.int 1))) nilA)))
noncomputable def fb1_is_witness : LS → Store → SO := (seqD (asgD (bin2 modV (bin2 mulV (varD 4) (varD 4)) (varD 1)) (nameG 4))
  (ifS (boolD (bin2 eqV (varD 4) (bin2 subV (varD 1) (litD (.int 1))))) (retD (litD (.bl false))) skipD))
noncomputable def g_is_witness : LS → Store → SO := (seqD (parD 2 3 (consA (bin2 subV (varD 1) (litD (.int 1))) (consA (litD (.int 0)) nilA)))
  (seqD (whileD wt1_is_witness wb1_is_witness)
  (seqD (asgD (callD F_power_of (consA (varD 0) (consA (varD 2) (consA (varD 1) nilA)))) (nameG 4))
  (seqD (ifS (boolD (bin2 (inV false) (varD 4) (tupD (consA (litD (.int 1)) (consA (bin2 subV (varD 1) (litD (.int 1))) nilA))))) (retD (litD (.bl false))) skipD)
  (seqD (forD (rng1 (consA (bin2 subV (varD 3) (litD (.int 1))) nilA)) (nameG 5) fb1_is_witness)
  (retD (litD (.bl true))))))))
noncomputable def F_is_witness : List D → Store → Out D := viaF 6 g_is_witness Good_is_witness
abbrev N_is_prime_number : List Str := ["number", "base"]
noncomputable def fb1_is_prime_number : LS → Store → SO := (ifS (boolD (bin2 eqV (bin2 modV (varD 0) (varD 1)) (litD (.int 0)))) (retD (bin2 eqV (varD 0) (varD 1))) skipD)
noncomputable def le1_is_prime_number : LS → Store → Out D := (callD F_is_witness (consA (varD 1) (consA (varD 0) nilA)))
noncomputable def g_is_prime_number : LS → Store → SO := (seqD (ifS (boolD (bin2 ltV (varD 0) (litD (.int 2)))) (retD (litD (.bl false))) skipD)
  (seqD (forD (seqI (litD (tupI [2, 3, 5, 7, 11, 13, 17, 19, 23, 29, 31, 37, 41]))) (nameG 1) fb1_is_prime_number)
  (retD (notV (callD (onL anyL) (consA (lcD (seqI (litD (tupI [2, 3, 5, 7, 11, 13, 17, 19, 23, 29, 31, 37, 41]))) (nameG 1) yesT le1_is_prime_number [1]) nilA))))))
noncomputable def F_is_prime_number : List D → Store → Out D := viaF 2 g_is_prime_number Good_is_prime_number
abbrev N_barred_at : List Str := ["conic", "place"]
noncomputable def g_barred_at : LS → Store → SO := (seqD (dropD (callD F_check_conic (consA (varD 0) nilA)))
  (seqD (ifS ((orT (notT (testD (callD F_is_integer (consA (varD 1) nilA)))) ((andT (boolD (bin2 neV (varD 1) (litD (.int 0)))) (notT ((andT (boolD (chainD leV ltV (litD (.int 2)) (varD 1) (litD (.int 1000000000)))) (testD (callD F_is_prime_number (consA (varD 1) nilA)))))))))) (raiseD "NoPlace") skipD)
  (retD (bin2 eqV (callD F_sign_at_place (consA (bin2 mulV (un1 negV (bin2 ixD (varD 0) (litD (.int 0)))) (bin2 ixD (varD 0) (litD (.int 2)))) (consA (bin2 mulV (un1 negV (bin2 ixD (varD 0) (litD (.int 1)))) (bin2 ixD (varD 0) (litD (.int 2)))) (consA (varD 1) nilA)))) (un1 negV (litD (.int 1)))))))
noncomputable def F_barred_at : List D → Store → Out D := viaF 2 g_barred_at Good_barred_at
abbrev N_is_conic_paper : List Str := ["conic", "thing", "one", "part"]
noncomputable def le1_is_conic_paper : LS → Store → Out D := (callD F_is_integer (consA (varD 2) nilA))
noncomputable def le2_is_conic_paper : LS → Store → Out D := (bin2 mulV (bin2 mulV (varD 2) (varD 3)) (varD 3))
noncomputable def g_is_conic_paper : LS → Store → SO := (seqD (dropD (callD F_check_conic (consA (varD 0) nilA)))
  (seqD (ifS ((orT (notT (testD (un1 (isiV .tup) (varD 1)))) (orT (boolD (bin2 neV (callD lenV (consA (varD 1) nilA)) (litD (.int 2)))) (notT (testD (un1 (isiV .str) (bin2 ixD (varD 1) (litD (.int 0))))))))) (retD (litD (.bl false))) skipD)
  (seqD (ifS (boolD (bin2 eqV (bin2 ixD (varD 1) (litD (.int 0))) (litD (.str "place")))) (retD ((andV (callD F_is_integer (consA (bin2 ixD (varD 1) (litD (.int 1))) nilA)) (bin2 (inV false) (bin2 ixD (varD 1) (litD (.int 1))) (callD F_barring_places (consA (varD 0) nilA)))))) skipD)
  (seqD (ifS ((orT (boolD (bin2 neV (bin2 ixD (varD 1) (litD (.int 0))) (litD (.str "point")))) (orT (notT (testD (un1 (isiV .tup) (bin2 ixD (varD 1) (litD (.int 1)))))) (boolD (bin2 neV (callD lenV (consA (bin2 ixD (varD 1) (litD (.int 1))) nilA)) (litD (.int 3))))))) (retD (litD (.bl false))) skipD)
  (seqD (ifS ((orT (notT (testD (callD (onL allL) (consA (lcD (seqI (bin2 ixD (varD 1) (litD (.int 1)))) (nameG 2) yesT le1_is_conic_paper [2]) nilA)))) (notT (testD (callD anyTV (consA (bin2 ixD (varD 1) (litD (.int 1))) nilA)))))) (retD (litD (.bl false))) skipD)
  (retD (bin2 eqV (callD (onL sumL) (consA (lcD (zipI (consA (varD 0) (consA (bin2 ixD (varD 1) (litD (.int 1))) nilA))) (tupG 2 (consG (nameG 2) (consG (nameG 3) nilG))) yesT le2_is_conic_paper [2, 3]) nilA)) (litD (.int 0)))))))))
noncomputable def F_is_conic_paper : List D → Store → Out D := viaF 4 g_is_conic_paper Good_is_conic_paper
abbrev N__law_word : List Str := ["which", "conic", "p", "found", "e"]
noncomputable def g__law_word : LS → Store → SO := (seqD (asgD (litD (.str "let")) (nameG 3))
  (seqD (tryD 4 catF (ifS (boolD (bin2 eqV (varD 0) (litD (.int 0)))) (dropD (callD F_barred_at (consA (varD 1) (consA (varD 2) nilA)))) (ifS (boolD (bin2 eqV (varD 0) (litD (.int 1)))) (dropD (callD F_conic_point (consA (varD 1) nilA))) (dropD (callD F_is_conic_paper (consA (varD 1) (consA (litD .non) nilA)))))) (fun x a => (seqD (asgD (litD (.str "other")) (nameG 3))
  (ifS ((andT (boolD (bin2 neV (isED 4 a (kT x.cls "NoConic")) (isED 4 a (kT x.cls "NoPlace")))) (testD (isED 4 a (kT x.cls "ValueError"))))) (asgD (ifE (testD (isED 4 a (kT x.cls "NoConic"))) (litD (.str "conic")) (litD (.str "place"))) (nameG 3)) skipD))))
  (retD (varD 3))))
noncomputable def F__law_word : List D → Store → Out D := viaF 5 g__law_word Good__law_word
abbrev N__law_are_refused : List Str := ["hand", "some", "thing", "due", "none", "words"]
noncomputable def g__law_are_refused : LS → Store → SO := (seqD (asgD (lstD (consA (litD .non) (consA (tupD (consA (litD (.int 1)) (consA (litD (.int 1)) nilA))) (consA (tupD (consA (litD (.int 1)) (consA (litD (.int 1)) (consA (litD (.int 0)) nilA)))) (consA (tupD (consA (litD (.int 1)) (consA (litD (.int 1)) (consA (litD (.int 1001)) nilA)))) (consA (lstD (consA (litD (.int 1)) (consA (litD (.int 1)) (consA (un1 negV (litD (.int 2))) nilA)))) (consA (tupD (consA (litD (.int 1)) (consA (litD (.int 1)) (consA (litD (.bl true)) nilA)))) (consA (tupD (consA (litD (.int 1)) (consA (litD (.int 1)) (consA (un1 negV (litD (.int 2))) (consA (litD (.int 1)) nilA))))) (consA (tupD (consA (litD (.str "1")) (consA (litD (.int 1)) (consA (litD (.int 1)) nilA)))) (consA (dic0D) (consA (litD (.int 0)) nilA))))))))))) (nameG 1))
  (seqD (asgD (callD F__law_any (consA (varD 0) (consA (bin2 addV (varD 1) (lstD (consA (tupD (consA (litD (.int 1)) (consA (litD (.int 1)) (consA (un1 negV (litD (.int 2))) nilA)))) (consA (tupD (consA (litD (.int 9)) (consA (litD (.int 9)) (consA (un1 negV (litD (.int 9))) nilA)))) nilA)))) nilA))) (nameG 2))
  (seqD (asgD (ifE (testD (callD F__law_is_conic (consA (varD 2) nilA))) (litD (.str "let")) (litD (.str "conic"))) (nameG 3))
  (seqD (ifS (boolD (bin2 neV (callD reprV (consA (callD F_is_conic (consA (varD 2) nilA)) nilA)) (callD reprV (consA (callD F__law_is_conic (consA (varD 2) nilA)) nilA)))) (retD (litD (.bl false))) skipD)
  (seqD (asgD (callD F__law_any (consA (varD 0) (consA (lstD (consA (litD (.int 1)) (consA (litD (.int 4)) (consA (un1 negV (litD (.int 2))) (consA (litD .non) (consA (litD (.bl true)) (consA (litD (.str "2")) (consA (tupD (consA (litD (.int 2)) nilA)) (consA (litD (.int 91)) (consA (bin2 addV (bin2 powV (litD (.int 10)) (litD (.int 9))) (litD (.int 7))) (consA (dic0D) nilA))))))))))) nilA))) (nameG 4))
  (seqD (asgD (lstD (consA (callD F__law_word (consA (litD (.int 0)) (consA (varD 2) (consA (litD (.int 2)) nilA)))) (consA (callD F__law_word (consA (litD (.int 1)) (consA (varD 2) (consA (litD (.int 0)) nilA)))) (consA (callD F__law_word (consA (litD (.int 2)) (consA (varD 2) (consA (litD (.int 0)) nilA)))) (consA (callD F__law_word (consA (litD (.int 0)) (consA (tupD (consA (litD (.int 1)) (consA (litD (.int 1)) (consA (un1 negV (litD (.int 2))) nilA)))) (consA (varD 4) nilA)))) nilA))))) (nameG 5))
  (retD ((andV (bin2 eqV (varD 5) (bin2 addV (bin2 mulV (lstD (consA (varD 3) nilA)) (litD (.int 3))) (lstD (consA (litD (.str "place")) nilA)))) (bin2 eqV (callD F__law_word (consA (litD (.int 0)) (consA (litD .non) (consA (varD 4) nilA)))) (litD (.str "conic"))))))))))))
noncomputable def F__law_are_refused : List D → Store → Out D := viaF 6 g__law_are_refused Good__law_are_refused
abbrev N__law_number : List Str := ["hand", "wide", "found", "lap", "p"]
noncomputable def fb1__law_number : LS → Store → SO := (seqD (asgD (callD F__law_any (consA (varD 0) (consA (lstD (consA (litD (.int 2)) (consA (litD (.int 2)) (consA (litD (.int 3)) (consA (litD (.int 3)) (consA (litD (.int 5)) (consA (litD (.int 7)) (consA (litD (.int 11)) (consA (litD (.int 13)) (consA (litD (.int 17)) (consA (litD (.int 29)) (consA (litD (.int 101)) nilA)))))))))))) nilA))) (nameG 4))
  (asgD (ifE (boolD (bin2 leV (bin2 mulV (varD 2) (varD 4)) (varD 1))) (bin2 mulV (varD 2) (varD 4)) (varD 2)) (nameG 2)))
noncomputable def g__law_number : LS → Store → SO := (seqD (asgD (litD (.int 1)) (nameG 2))
  (seqD (forD (rng1 (consA (callD F__law_draw (consA (varD 0) (consA (litD (.int 5)) nilA))) nilA)) (nameG 3) fb1__law_number)
  (retD (ifE (boolD (bin2 eqV (callD F__law_draw (consA (varD 0) (consA (litD (.int 2)) nilA))) (litD (.int 0)))) (varD 2) (bin2 subV (litD (.int 0)) (varD 2))))))
noncomputable def F__law_number : List D → Store → Out D := viaF 5 g__law_number Good__law_number
abbrev N__law_with_point : List Str := ["hand", "lap", "a", "b", "x", "y", "z", "whole"]
noncomputable def fb1__law_with_point : LS → Store → SO := (seqD (parD 2 3 (consA (callD F__law_number (consA (varD 0) (consA (litD (.int 60)) nilA))) (consA (callD F__law_number (consA (varD 0) (consA (litD (.int 60)) nilA))) nilA)))
  (seqD (parD3 4 5 6 (consA (callD F__law_draw (consA (varD 0) (consA (litD (.int 4)) nilA))) (consA (bin2 addV (litD (.int 1)) (callD F__law_draw (consA (varD 0) (consA (litD (.int 3)) nilA)))) (consA (bin2 addV (litD (.int 1)) (callD F__law_draw (consA (varD 0) (consA (litD (.int 2)) nilA)))) nilA))))
  (seqD (asgD (bin2 subV (litD (.int 0)) (bin2 addV (bin2 mulV (bin2 mulV (varD 2) (varD 4)) (varD 4)) (bin2 mulV (bin2 mulV (varD 3) (varD 5)) (varD 5)))) (nameG 7))
  (ifS ((andT (boolD (bin2 neV (varD 7) (litD (.int 0)))) (andT (boolD (bin2 eqV (bin2 modV (callD intV (consA (varD 7) nilA)) (bin2 mulV (varD 6) (varD 6))) (litD (.int 0)))) (boolD (bin2 leV (bin2 fdivV (callD absV' (consA (varD 7) nilA)) (bin2 mulV (varD 6) (varD 6))) (litD (.int 1000))))))) (retD (tupD (consA (tupD (consA (varD 2) (consA (varD 3) (consA (bin2 fdivV (varD 7) (bin2 mulV (varD 6) (varD 6))) nilA)))) (consA (tupD (consA (varD 4) (consA (varD 5) (consA (varD 6) nilA)))) nilA)))) skipD))))
noncomputable def g__law_with_point : LS → Store → SO := (seqD (forD (rng1 (consA (litD (.int 40)) nilA)) (nameG 1) fb1__law_with_point)
  (retD (tupD (consA (tupD (consA (litD (.int 1)) (consA (litD (.int 1)) (consA (un1 negV (litD (.int 2))) nilA)))) (consA (tupD (consA (litD (.int 1)) (consA (litD (.int 1)) (consA (litD (.int 1)) nilA)))) nilA)))))
noncomputable def F__law_with_point : List D → Store → Out D := viaF 8 g__law_with_point Good__law_with_point
abbrev N__law_primes_of : List Str := ["number", "found", "p"]
noncomputable def wt1__law_primes_of : LS → Store → Out Bool := (boolD (bin2 leV (bin2 mulV (varD 2) (varD 2)) (varD 0)))
noncomputable def wt2__law_primes_of : LS → Store → Out Bool := (boolD (bin2 eqV (bin2 modV (callD intV (consA (varD 0) nilA)) (varD 2)) (litD (.int 0))))
noncomputable def wb1__law_primes_of : LS → Store → SO := (asgD (bin2 fdivV (varD 0) (varD 2)) (nameG 0))
noncomputable def wb2__law_primes_of : LS → Store → SO := (seqD (ifS (boolD (bin2 eqV (bin2 modV (callD intV (consA (varD 0) nilA)) (varD 2)) (litD (.int 0)))) (seqD (dropD (methD .lst appV (varD 1) (consA (varD 2) nilA)))
  (whileD wt2__law_primes_of wb1__law_primes_of)) skipD)
  (asgD (bin2 addV (varD 2) (litD (.int 1))) (nameG 2)))
noncomputable def g__law_primes_of : LS → Store → SO := (seqD (parD 1 2 (consA (lstD nilA) (consA (litD (.int 2)) nilA)))
  (seqD (whileD wt1__law_primes_of wb2__law_primes_of)
  (retD (ifE (boolD (bin2 gtV (varD 0) (litD (.int 1)))) (bin2 addV (varD 1) (lstD (consA (varD 0) nilA))) (varD 1)))))
noncomputable def F__law_primes_of : List D → Store → Out D := viaF 3 g__law_primes_of Good__law_primes_of
abbrev N__law_without_squares : List Str := ["number", "size", "p"]
noncomputable def wt1__law_without_squares : LS → Store → Out Bool := (boolD (bin2 eqV (bin2 modV (callD intV (consA (varD 1) nilA)) (bin2 mulV (varD 2) (varD 2))) (litD (.int 0))))
noncomputable def wb1__law_without_squares : LS → Store → SO := (asgD (bin2 fdivV (varD 1) (bin2 mulV (varD 2) (varD 2))) (nameG 1))
noncomputable def fb1__law_without_squares : LS → Store → SO := (whileD wt1__law_without_squares wb1__law_without_squares)
noncomputable def g__law_without_squares : LS → Store → SO := (seqD (asgD (callD absV' (consA (varD 0) nilA)) (nameG 1))
  (seqD (forD (seqI (callD F__law_primes_of (consA (varD 1) nilA))) (nameG 2) fb1__law_without_squares)
  (retD (ifE (boolD (bin2 gtV (varD 0) (litD (.int 0)))) (varD 1) (bin2 subV (litD (.int 0)) (varD 1))))))
noncomputable def F__law_without_squares : List D → Store → Out D := viaF 3 g__law_without_squares Good__law_without_squares
abbrev N__law_is_square_rest : List Str := ["number", "p", "found", "base", "many"]
noncomputable def wt1__law_is_square_rest : LS → Store → Out Bool := (boolD (bin2 gtV (varD 4) (litD (.int 0))))
noncomputable def wb1__law_is_square_rest : LS → Store → SO := (seqD (asgD (ifE (boolD (bin2 eqV (bin2 modV (callD intV (consA (varD 4) nilA)) (litD (.int 2))) (litD (.int 1)))) (bin2 modV (callD intV (consA (bin2 mulV (varD 2) (varD 3)) nilA)) (varD 1)) (varD 2)) (nameG 2))
  (parD 3 4 (consA (bin2 modV (callD intV (consA (bin2 mulV (varD 3) (varD 3)) nilA)) (varD 1)) (consA (bin2 fdivV (varD 4) (litD (.int 2))) nilA))))
noncomputable def g__law_is_square_rest : LS → Store → SO := (seqD (parD3 2 3 4 (consA (litD (.int 1)) (consA (bin2 modV (callD intV (consA (varD 0) nilA)) (varD 1)) (consA (bin2 fdivV (bin2 subV (varD 1) (litD (.int 1))) (litD (.int 2))) nilA))))
  (seqD (whileD wt1__law_is_square_rest wb1__law_is_square_rest)
  (retD (bin2 eqV (varD 2) (litD (.int 1))))))
noncomputable def F__law_is_square_rest : List D → Store → Out D := viaF 5 g__law_is_square_rest Good__law_is_square_rest
abbrev N__law_sign : List Str := ["one", "other", "p", "u", "v", "has_one", "has_other", "found"]
noncomputable def g__law_sign : LS → Store → SO := (seqD (ifS (boolD (bin2 eqV (varD 2) (litD (.int 0)))) (retD (ifE ((andT (boolD (bin2 ltV (varD 0) (litD (.int 0)))) (boolD (bin2 ltV (varD 1) (litD (.int 0)))))) (un1 negV (litD (.int 1))) (litD (.int 1)))) skipD)
  (seqD (parD 0 1 (consA (callD F__law_without_squares (consA (varD 0) nilA)) (consA (callD F__law_without_squares (consA (varD 1) nilA)) nilA)))
  (seqD (asgD (ifE (boolD (bin2 eqV (bin2 modV (callD intV (consA (varD 0) nilA)) (varD 2)) (litD (.int 0)))) (bin2 fdivV (varD 0) (varD 2)) (varD 0)) (nameG 3))
  (seqD (asgD (ifE (boolD (bin2 eqV (bin2 modV (callD intV (consA (varD 1) nilA)) (varD 2)) (litD (.int 0)))) (bin2 fdivV (varD 1) (varD 2)) (varD 1)) (nameG 4))
  (seqD (parD 5 6 (consA (bin2 neV (varD 3) (varD 0)) (consA (bin2 neV (varD 4) (varD 1)) nilA)))
  (seqD (ifS (boolD (bin2 eqV (varD 2) (litD (.int 2)))) (seqD (asgD (ifE ((andT (boolD (bin2 eqV (bin2 modV (callD intV (consA (varD 3) nilA)) (litD (.int 4))) (litD (.int 3)))) (boolD (bin2 eqV (bin2 modV (callD intV (consA (varD 4) nilA)) (litD (.int 4))) (litD (.int 3)))))) (un1 negV (litD (.int 1))) (litD (.int 1))) (nameG 7))
  (seqD (asgD (ifE ((andT (testD (varD 5)) (boolD (bin2 (inV false) (bin2 modV (callD intV (consA (varD 4) nilA)) (litD (.int 8))) (tupD (consA (litD (.int 3)) (consA (litD (.int 5)) nilA))))))) (bin2 subV (litD (.int 0)) (varD 7)) (varD 7)) (nameG 7))
  (retD (ifE ((andT (testD (varD 6)) (boolD (bin2 (inV false) (bin2 modV (callD intV (consA (varD 3) nilA)) (litD (.int 8))) (tupD (consA (litD (.int 3)) (consA (litD (.int 5)) nilA))))))) (bin2 subV (litD (.int 0)) (varD 7)) (varD 7))))) skipD)
  (seqD (asgD (ifE ((andT (testD (varD 5)) (andT (testD (varD 6)) (boolD (bin2 eqV (bin2 modV (callD intV (consA (varD 2) nilA)) (litD (.int 4))) (litD (.int 3))))))) (un1 negV (litD (.int 1))) (litD (.int 1))) (nameG 7))
  (seqD (asgD (ifE ((andT (testD (varD 5)) (notT (testD (callD F__law_is_square_rest (consA (varD 4) (consA (varD 2) nilA))))))) (bin2 subV (litD (.int 0)) (varD 7)) (varD 7)) (nameG 7))
  (retD (ifE ((andT (testD (varD 6)) (notT (testD (callD F__law_is_square_rest (consA (varD 3) (consA (varD 2) nilA))))))) (bin2 subV (litD (.int 0)) (varD 7)) (varD 7)))))))))))
noncomputable def F__law_sign : List D → Store → Out D := viaF 8 g__law_sign Good__law_sign
abbrev N__law_wrong : List Str := ["one", "other", "some", "p"]
noncomputable def le1__law_wrong : LS → Store → Out D := (varD 3)
noncomputable def lf1__law_wrong : LS → Store → Out Bool := (boolD (bin2 eqV (callD F__law_sign (consA (varD 0) (consA (varD 1) (consA (varD 3) nilA)))) (un1 negV (litD (.int 1)))))
noncomputable def g__law_wrong : LS → Store → SO := (seqD (asgD (fun ls st => ((bin2 addV (bin2 addV (lstD (consA (litD (.int 0)) (consA (litD (.int 2)) nilA))) (callD F__law_primes_of (consA (callD absV' (consA (varD 0) nilA)) nilA))) (callD F__law_primes_of (consA (callD absV' (consA (varD 1) nilA)) nilA))) ls st).bind setSortI) (nameG 2))
  (retD (lcD (seqI (varD 2)) (nameG 3) lf1__law_wrong le1__law_wrong [3])))
noncomputable def F__law_wrong : List D → Store → Out D := viaF 4 g__law_wrong Good__law_wrong
abbrev N__law_barring : List Str := ["conic"]
noncomputable def g__law_barring : LS → Store → SO := (retD (callD F__law_wrong (consA (bin2 subV (litD (.int 0)) (bin2 mulV (bin2 ixD (varD 0) (litD (.int 0))) (bin2 ixD (varD 0) (litD (.int 2))))) (consA (bin2 subV (litD (.int 0)) (bin2 mulV (bin2 ixD (varD 0) (litD (.int 1))) (bin2 ixD (varD 0) (litD (.int 2))))) nilA))))
noncomputable def F__law_barring : List D → Store → Out D := viaF 1 g__law_barring Good__law_barring
abbrev N__law_value : List Str := ["conic", "point", "one", "part"]
noncomputable def le1__law_value : LS → Store → Out D := (bin2 mulV (bin2 mulV (varD 2) (varD 3)) (varD 3))
noncomputable def g__law_value : LS → Store → SO := (retD (callD (onL sumL) (consA (lcD (zipI (consA (varD 0) (consA (varD 1) nilA))) (tupG 2 (consG (nameG 2) (consG (nameG 3) nilG))) yesT le1__law_value [2, 3]) nilA)))
noncomputable def F__law_value : List D → Store → Out D := viaF 4 g__law_value Good__law_value
abbrev N__law_is_point : List Str := ["conic", "thing", "one"]
noncomputable def le1__law_is_point : LS → Store → Out D := (callD F__law_is_whole (consA (varD 2) nilA))
noncomputable def le2__law_is_point : LS → Store → Out D := (bin2 neV (varD 2) (litD (.int 0)))
noncomputable def g__law_is_point : LS → Store → SO := (seqD (ifS ((orT (notT (testD (un1 (isiV .tup) (varD 1)))) (orT (boolD (bin2 neV (callD lenV (consA (varD 1) nilA)) (litD (.int 3)))) (notT (testD (callD (onL allL) (consA (lcD (seqI (varD 1)) (nameG 2) yesT le1__law_is_point [2]) nilA))))))) (retD (litD (.bl false))) skipD)
  (retD ((andV (callD (onL anyL) (consA (lcD (seqI (varD 1)) (nameG 2) yesT le2__law_is_point [2]) nilA)) (bin2 eqV (callD F__law_value (consA (varD 0) (consA (varD 1) nilA))) (litD (.int 0)))))))
noncomputable def F__law_is_point : List D → Store → Out D := viaF 3 g__law_is_point Good__law_is_point
abbrev N__law_is_paper : List Str := ["conic", "thing"]
noncomputable def g__law_is_paper : LS → Store → SO := (seqD (ifS ((orT (notT (testD (un1 (isiV .tup) (varD 1)))) (orT (boolD (bin2 neV (callD lenV (consA (varD 1) nilA)) (litD (.int 2)))) (notT (testD (un1 (isiV .str) (bin2 ixD (varD 1) (litD (.int 0))))))))) (retD (litD (.bl false))) skipD)
  (seqD (ifS (boolD (bin2 eqV (bin2 ixD (varD 1) (litD (.int 0))) (litD (.str "place")))) (retD ((andV (callD F__law_is_whole (consA (bin2 ixD (varD 1) (litD (.int 1))) nilA)) (bin2 (inV false) (bin2 ixD (varD 1) (litD (.int 1))) (callD F__law_barring (consA (varD 0) nilA)))))) skipD)
  (retD ((andV (bin2 eqV (bin2 ixD (varD 1) (litD (.int 0))) (litD (.str "point"))) (callD F__law_is_point (consA (varD 0) (consA (bin2 ixD (varD 1) (litD (.int 1))) nilA))))))))
noncomputable def F__law_is_paper : List D → Store → Out D := viaF 2 g__law_is_paper Good__law_is_paper
abbrev N__law_divisor : List Str := ["some", "found", "one", "a", "b"]
noncomputable def wt1__law_divisor : LS → Store → Out Bool := (boolD (bin2 gtV (varD 4) (litD (.int 0))))
noncomputable def wb1__law_divisor : LS → Store → SO := (parD 3 4 (consA (varD 4) (consA (bin2 modV (callD intV (consA (varD 3) nilA)) (varD 4)) nilA)))
noncomputable def fb1__law_divisor : LS → Store → SO := (seqD (parD 3 4 (consA (varD 1) (consA (callD absV' (consA (varD 2) nilA)) nilA)))
  (seqD (whileD wt1__law_divisor wb1__law_divisor)
  (asgD (varD 3) (nameG 1))))
noncomputable def g__law_divisor : LS → Store → SO := (seqD (asgD (litD (.int 0)) (nameG 1))
  (seqD (forD (seqI (varD 0)) (nameG 2) fb1__law_divisor)
  (retD (varD 1))))
noncomputable def F__law_divisor : List D → Store → Out D := viaF 5 g__law_divisor Good__law_divisor
abbrev N__law_bent : List Str := ["hand", "conic", "thing", "odd", "some", "x", "y", "z", "rows", "one"]
noncomputable def le1__law_bent : LS → Store → Out D := (tupD (consA (litD (.str "point")) (consA (varD 9) nilA)))
noncomputable def g__law_bent : LS → Store → SO := (seqD (asgD (lstD (consA (litD .non) (consA (litD (.bl true)) (consA (litD (.int 0)) (consA (un1 negV (litD (.int 1))) (consA (litD (.int 4)) (consA (litD (.str "2")) (consA (tupD (consA (litD (.int 2)) nilA)) (consA (bin2 addV (bin2 powV (litD (.int 10)) (litD (.int 9))) (litD (.int 7))) (consA (lstD (consA (litD (.int 0)) (consA (litD (.int 0)) (consA (litD (.int 0)) nilA)))) (consA (tupD (consA (litD (.int 0)) (consA (litD (.int 0)) (consA (litD (.int 0)) nilA)))) (consA (tupD (consA (litD (.int 1)) (consA (litD (.int 1)) nilA))) (consA (dic0D) (consA (lstD (consA (lstD (consA (lstD (consA (litD (.str "x")) nilA)) (consA (litD .non) nilA))) nilA)) nilA)))))))))))))) (nameG 3))
  (seqD (asgD (callD F__law_any (consA (varD 0) (consA (varD 3) nilA))) (nameG 3))
  (seqD (asgD (lstD (consA (tupD (consA (litD (.str "place")) (consA (varD 3) nilA))) (consA (tupD (consA (litD (.str "point")) (consA (varD 3) nilA))) (consA (tupD (consA (litD (.str "place")) (consA (callD F__law_any (consA (varD 0) (consA (lstD (consA (litD (.int 0)) (consA (litD (.int 2)) (consA (litD (.int 3)) (consA (litD (.int 5)) (consA (litD (.int 7)) nilA)))))) nilA))) nilA))) (consA (tupD (consA (bin2 ixD (varD 2) (litD (.int 0))) nilA)) (consA (callD listV (consA (varD 2) nilA)) nilA)))))) (nameG 4))
  (seqD (asgD (bin2 addV (varD 4) (lstD (consA (litD .non) (consA (tupD nilA) nilA)))) (nameG 4))
  (seqD (asgD (bin2 addV (varD 4) (lstD (consA (tupD (consA (litD (.str "Point")) (consA (bin2 ixD (varD 2) (litD (.int 1))) nilA))) (consA (tupD (consA (litD (.int 0)) (consA (bin2 ixD (varD 2) (litD (.int 1))) nilA))) (consA (bin2 addV (varD 2) (tupD (consA (litD (.int 0)) nilA))) (consA (tupD (consA (litD (.str "point")) (consA (tupD (consA (litD (.int 1)) (consA (litD (.int 1)) (consA (litD (.int 1)) nilA)))) nilA))) (consA (tupD (consA (litD (.str "point")) (consA (tupD (consA (litD (.int 0)) (consA (litD (.int 1)) (consA (litD (.int 1)) nilA)))) nilA))) nilA))))))) (nameG 4))
  (seqD (ifS (boolD (bin2 eqV (bin2 ixD (varD 2) (litD (.int 0))) (litD (.str "point")))) (seqD (asgD (bin2 ixD (varD 2) (litD (.int 1))) (tupG 3 (consG (nameG 5) (consG (nameG 6) (consG (nameG 7) nilG)))))
  (seqD (asgD (lstD (consA (tupD (consA (bin2 subV (litD (.int 0)) (varD 5)) (consA (varD 6) (consA (varD 7) nilA)))) (consA (tupD (consA (bin2 mulV (litD (.int 3)) (varD 5)) (consA (bin2 mulV (litD (.int 3)) (varD 6)) (consA (bin2 mulV (litD (.int 3)) (varD 7)) nilA)))) (consA (tupD (consA (varD 6) (consA (varD 5) (consA (varD 7) nilA)))) (consA (tupD (consA (varD 5) (consA (varD 6) (consA (bin2 addV (varD 7) (litD (.int 1))) nilA)))) (consA (lstD (consA (varD 5) (consA (varD 6) (consA (varD 7) nilA)))) nilA)))))) (nameG 8))
  (seqD (asgD (bin2 addV (varD 4) (bin2 mulV (lcD (seqI (varD 8)) (nameG 9) yesT le1__law_bent [9]) (litD (.int 2)))) (nameG 4))
  (asgD (bin2 addV (varD 4) (lstD (consA (tupD (consA (litD (.str "place")) (consA (bin2 ixD (varD 2) (litD (.int 1))) nilA))) (consA (tupD (consA (litD (.str "point")) (consA (tupD (consA (varD 5) (consA (varD 6) nilA))) nilA))) (consA (tupD (consA (litD (.str "point")) (consA (tupD (consA (varD 5) (consA (varD 6) (consA (litD (.bl true)) nilA)))) nilA))) nilA))))) (nameG 4))))) skipD)
  (retD (callD F__law_any (consA (varD 0) (consA (varD 4) nilA))))))))))
noncomputable def F__law_bent : List D → Store → Out D := viaF 10 g__law_bent Good__law_bent
abbrev N__law_shuffled : List Str := ["hand", "some", "others", "found"]
noncomputable def wt1__law_shuffled : LS → Store → Out Bool := (boolD (bin2 gtV (callD lenV (consA (varD 2) nilA)) (litD (.int 0))))
noncomputable def wb1__law_shuffled : LS → Store → SO := (dropD (methD .lst appV (varD 3) (consA (methD .lst popV (varD 2) (consA (callD F__law_draw (consA (varD 0) (consA (callD lenV (consA (varD 2) nilA)) nilA))) nilA)) nilA)))
noncomputable def g__law_shuffled : LS → Store → SO := (seqD (parD 2 3 (consA (callD listV (consA (varD 1) nilA)) (consA (lstD nilA) nilA)))
  (seqD (whileD wt1__law_shuffled wb1__law_shuffled)
  (retD (varD 3))))
noncomputable def F__law_shuffled : List D → Store → Out D := viaF 4 g__law_shuffled Good__law_shuffled
abbrev N__law_is_right : List Str := ["hand", "conic", "point", "told", "barring", "p", "things", "thing", "other", "few", "less", "lap", "one"]
noncomputable def fb1__law_is_right : LS → Store → SO := (ifS (boolD (bin2 neV (callD reprV (consA (callD F_barred_at (consA (varD 1) (consA (varD 5) nilA))) nilA)) (callD reprV (consA (bin2 (inV false) (varD 5) (varD 4)) nilA)))) (retD (litD (.bl false))) skipD)
noncomputable def le1__law_is_right : LS → Store → Out D := (tupD (consA (litD (.str "place")) (consA (varD 5) nilA)))
noncomputable def le2__law_is_right : LS → Store → Out D := (callD F__law_bent (consA (varD 0) (consA (varD 1) (consA (varD 3) nilA))))
noncomputable def fb2__law_is_right : LS → Store → SO := (ifS (boolD (bin2 neV (callD reprV (consA (callD F_is_conic_paper (consA (varD 1) (consA (varD 7) nilA))) nilA)) (callD reprV (consA (callD F__law_is_paper (consA (varD 1) (consA (varD 7) nilA))) nilA)))) (retD (litD (.bl false))) skipD)
noncomputable def le3__law_is_right : LS → Store → Out D := (callD F__law_without_squares (consA (varD 12) nilA))
noncomputable def le4__law_is_right : LS → Store → Out D := (bin2 subV (litD (.int 0)) (varD 12))
noncomputable def le5__law_is_right : LS → Store → Out D := (bin2 ixD (callD F_conic_point (consA (varD 12) nilA)) (litD (.int 0)))
noncomputable def g__law_is_right : LS → Store → SO := (seqD (asgD (tupD (consA (callD F_conic_point (consA (varD 1) nilA)) (consA (callD F__law_barring (consA (varD 1) nilA)) nilA))) (tupG 2 (consG (nameG 3) (consG (nameG 4) nilG))))
  (seqD (ifS ((orT (notT (testD (callD F__law_is_paper (consA (varD 1) (consA (varD 3) nilA))))) (boolD (bin2 neV (bin2 eqV (bin2 ixD (varD 3) (litD (.int 0))) (litD (.str "point"))) (bin2 eqV (callD lenV (consA (varD 4) nilA)) (litD (.int 0))))))) (retD (litD (.bl false))) skipD)
  (seqD (ifS ((orT ((andT (boolD (bin2 eqV (bin2 ixD (varD 3) (litD (.int 0))) (litD (.str "point")))) (boolD (bin2 neV (callD F__law_divisor (consA (bin2 ixD (varD 3) (litD (.int 1))) nilA)) (litD (.int 1)))))) ((andT (boolD (bin2 eqV (bin2 ixD (varD 3) (litD (.int 0))) (litD (.str "place")))) (boolD (bin2 neV (bin2 ixD (varD 3) (litD (.int 1))) (bin2 ixD (varD 4) (litD (.int 0))))))))) (retD (litD (.bl false))) skipD)
  (seqD (ifS ((orT ((andT (boolD (bin2 (isNonF true) (varD 2) (litD .non))) (boolD (bin2 neV (bin2 ixD (varD 3) (litD (.int 0))) (litD (.str "point")))))) (boolD (bin2 neV (callD reprV (consA (callD F_conic_point (consA (varD 1) nilA)) nilA)) (callD reprV (consA (varD 3) nilA)))))) (retD (litD (.bl false))) skipD)
  (seqD (forD (seqI (bin2 addV (lstD (consA (litD (.int 0)) (consA (litD (.int 2)) (consA (litD (.int 3)) (consA (litD (.int 5)) (consA (callD F__law_any (consA (varD 0) (consA (lstD (consA (litD (.int 7)) (consA (litD (.int 11)) (consA (litD (.int 13)) (consA (litD (.int 101)) nilA))))) nilA))) nilA)))))) (callD F__law_primes_of (consA (callD absV' (consA (bin2 mulV (bin2 ixD (varD 1) (litD (.int 0))) (bin2 ixD (varD 1) (litD (.int 2)))) nilA)) nilA)))) (nameG 5) fb1__law_is_right)
  (seqD (asgD (bin2 addV (lstD (consA (varD 3) nilA)) (lcD (seqI (varD 4)) (nameG 5) yesT le1__law_is_right [5])) (nameG 6))
  (seqD (asgD (bin2 addV (varD 6) (ifE (boolD (bin2 (isNonF false) (varD 2) (litD .non))) (lstD nilA) (lstD (consA (tupD (consA (litD (.str "point")) (consA (varD 2) nilA))) nilA)))) (nameG 6))
  (seqD (forD (seqI (bin2 addV (varD 6) (lcD (rng1 (consA (litD (.int 7)) nilA)) (nameG 11) yesT le2__law_is_right [11]))) (nameG 7) fb2__law_is_right)
  (seqD (asgD (callD tupleV (consA (callD F__law_shuffled (consA (varD 0) (consA (varD 1) nilA))) nilA)) (nameG 8))
  (seqD (asgD (callD tupleV (consA (lcD (seqI (varD 1)) (nameG 12) yesT le3__law_is_right [12]) nilA)) (nameG 9))
  (seqD (asgD (callD tupleV (consA (lcD (seqI (varD 1)) (nameG 12) yesT le4__law_is_right [12]) nilA)) (nameG 10))
  (retD (bin2 eqV (lcD (seqI (tupD (consA (varD 8) (consA (varD 9) (consA (varD 10) nilA))))) (nameG 12) yesT le5__law_is_right [12]) (bin2 mulV (lstD (consA (bin2 ixD (varD 3) (litD (.int 0))) nilA)) (litD (.int 3))))))))))))))))
noncomputable def F__law_is_right : List D → Store → Out D := viaF 13 g__law_is_right Good__law_is_right
abbrev N__law_conic : List Str := ["hand", "wide", "part"]
noncomputable def le1__law_conic : LS → Store → Out D := (callD F__law_number (consA (varD 0) (consA (varD 1) nilA)))
noncomputable def g__law_conic : LS → Store → SO := (seqD (asgD (callD F__law_any (consA (varD 0) (consA (lstD (consA (litD (.int 30)) (consA (litD (.int 200)) (consA (litD (.int 200)) (consA (litD (.int 1000)) nilA))))) nilA))) (nameG 1))
  (retD (callD tupleV (consA (lcD (rng1 (consA (litD (.int 3)) nilA)) (nameG 2) yesT le1__law_conic [2]) nilA))))
noncomputable def F__law_conic : List D → Store → Out D := viaF 3 g__law_conic Good__law_conic
abbrev N_law : List Str := ["script", "hand", "lap", "conic", "point"]
noncomputable def fb1_law : LS → Store → SO := (seqD (asgD (callD F__law_with_point (consA (varD 1) nilA)) (tupG 2 (consG (nameG 3) (consG (nameG 4) nilG))))
  (ifS ((orT (notT (testD (callD F__law_is_right (consA (varD 1) (consA (varD 3) (consA (varD 4) nilA)))))) (notT (testD (callD F__law_is_right (consA (varD 1) (consA (callD F__law_conic (consA (varD 1) nilA)) (consA (litD .non) nilA)))))))) (retD (litD (.bl false))) skipD))
noncomputable def g_law : LS → Store → SO := (seqD (asgD (callD F__law_hand (consA (varD 0) nilA)) (nameG 1))
  (seqD (ifS ((orT (boolD (bin2 neV (callD F_conic_point (consA (tupD (consA (litD (.int 1)) (consA (litD (.int 1)) (consA (un1 negV (litD (.int 3))) nilA)))) nilA)) (tupD (consA (litD (.str "place")) (consA (litD (.int 2)) nilA))))) (boolD (bin2 neV (callD F_conic_point (consA (tupD (consA (litD (.int 1)) (consA (litD (.int 1)) (consA (litD (.int 1)) nilA)))) nilA)) (tupD (consA (litD (.str "place")) (consA (litD (.int 0)) nilA))))))) (retD (litD (.bl false))) skipD)
  (seqD (ifS (boolD (bin2 neV (bin2 ixD (callD F_conic_point (consA (tupD (consA (litD (.int 1)) (consA (litD (.int 1)) (consA (un1 negV (litD (.int 2))) nilA)))) nilA)) (litD (.int 0))) (litD (.str "point")))) (retD (litD (.bl false))) skipD)
  (seqD (ifS (notT (testD (callD F__law_are_refused (consA (varD 1) nilA)))) (retD (litD (.bl false))) skipD)
  (seqD (forD (rng1 (consA (litD (.int 4)) nilA)) (nameG 2) fb1_law)
  (retD (litD (.bl true))))))))
noncomputable def F_law : List D → Store → Out D := viaF 5 g_law Good_law
end K65

set_option maxRecDepth 100000
set_option maxHeartbeats 400000
namespace K65
open PySem PySem.Spec PyProof.Rows L2 DD
theorem sp_is_integer {st : Store} {d : D} {t : Ty} (h : tyD st d = some t) : F_is_integer [d] st = .ok (.bl (decide (t = .int))) st := by
  refine viaF_eq (o := .ok (.bl (decide (t = .int))) st) ⟨d, t, rfl, h, rfl⟩ (fun o' ⟨d', t', e, h', eo⟩ => ?_) fun _ _ => Pk.of_eq ?_
  · cases e
    rw [h] at h'
    cases h'
    exact eo
  · simp [g_is_integer, h]
    cases t <;> simp [Ty.isA]
theorem ty_int {st : Store} {d : D} (h : tyD st d = some .int) : ∃ i, d = .int i := by
  cases d with
  | int i => exact ⟨i, rfl⟩
  | ref n =>
    unfold tyD at h
    cases q : st[n]? with
    | none => simp [q] at h
    | some c => cases c <;> simp [q] at h
  | _ => cases h
theorem emod_bd {x p : Int} (h : 1 ≤ p) : 0 ≤ x % p ∧ x % p < p := ⟨Int.emod_nonneg _ (by omega), Int.emod_lt_of_pos _ (by omega)⟩
theorem pow_bin (h p : Int) (m : Nat) : h ^ m % p = (if m % 2 = 1 then h else 1) * ((h * h % p) ^ (m / 2)) % p := by
  have e : h ^ m = (if m % 2 = 1 then h else 1) * (h * h) ^ (m / 2) := by
    have h1 : m = 2 * (m / 2) + m % 2 := by omega
    conv => lhs; rw [h1]
    rw [Int.pow_add, Int.pow_mul]
    have : h ^ 2 = h * h := by rw [Int.pow_succ, Int.pow_succ, Int.pow_zero, Int.one_mul]
    rw [this]
    rcases (by omega : m % 2 = 0 ∨ m % 2 = 1) with c | c
    · simp [c]
    · simp [c, Int.mul_comm, Int.pow_succ]
  have key : ∀ k : Nat, (h * h) ^ k % p = (h * h % p) ^ k % p := fun k => by
    induction k with
    | zero => rw [Int.pow_zero, Int.pow_zero]
    | succ k ih => rw [Int.pow_succ, Int.pow_succ, Int.mul_emod, ih, Int.mul_emod ((h * h % p) ^ k) (h * h % p), Int.emod_emod]
  rw [e, Int.mul_emod, key, ← Int.mul_emod]
theorem sp_power_of {n m p : Int} (st : Store) (hm : 0 ≤ m) (h1 : 1 ≤ p) (h2 : p ≤ 1000000000) : F_power_of [.int n, .int m, .int p] st = .ok (.int (n ^ m.toNat % p)) st := by
  refine viaF_eq ⟨n, m, p, rfl, hm, h1, h2, rfl⟩ (fun o' ⟨n', m', p', e, _, _, _, eo⟩ => ?_) fun _ _ => Pk.of_eq ?_
  · cases e; exact eo
  · have dp : divOk p = true := divOk_small (by omega) (by omega) (by omega)
    have d2 : divOk 2 = true := divOk_small (by omega) (by omega) (by omega)
    have p0 : ¬ p = 0 := by omega
    have pp : (0 : Int) ≤ p := by omega
    have key := while_run (t := wt1_power_of) (b := wb1_power_of)
      (fun (k : Nat) ls s => st = s ∧ ∃ f h : Int, ls = [some (.int n), some (.int k), some (.int p), some (.int f), some (.int h)] ∧ (0 ≤ f ∧ f < p) ∧ (0 ≤ h ∧ h < p) ∧ f * h ^ k % p = n ^ m.toNat % p) (fun k => k)
      (fun ls s => st = s ∧ ∃ k h, ls = [some (.int n), k, some (.int p), some (.int (n ^ m.toNat % p)), h]) (fun k ls s ⟨e1, f, h, e2, bf, bh, e3⟩ => ?_) m.toNat [some (.int n), some (.int m), some (.int p), some (.int (1 % p)), some (.int (n % p))] st ⟨rfl, 1 % p, n % p, by rw [Int.toNat_of_nonneg hm], emod_bd h1, emod_bd h1, ?_⟩
    · obtain ⟨ls', st', k1, rfl, k, h, rfl⟩ := key
      simp [g_power_of, dp, d2, p0, pp, k1]
    · subst e1 e2
      by_cases hk : k = 0
      · subst hk
        refine .inl ⟨_, by simp [wt1_power_of], rfl, some (.int 0), some (.int h), ?_⟩
        rw [← e3, Int.pow_zero, Int.mul_one, Int.emod_eq_of_lt bf.1 bf.2]
        rfl
      · have hk' : (0 : Int) < k := by omega
        have m1 : ∀ y, mulOk f y = true := fun y => mulOk_l (by omega) (by omega)
        have m2 : ∀ y, mulOk h y = true := fun y => mulOk_l (by omega) (by omega)
        have ek : (((k / 2 : Nat) : Int)) = (k : Int) / 2 := by omega
        refine .inr ⟨_, _, _, k / 2, by simp [wt1_power_of]; exact ⟨Nat.pos_of_ne_zero hk, rfl⟩, ?_, ⟨rfl, (if k % 2 = 1 then f * h % p else f), h * h % p, rfl, ?_, emod_bd h1, ?_⟩, by omega⟩
        · by_cases c : k % 2 = 1
          · have c' : (k : Int) % 2 = 1 := by omega
            simp [wb1_power_of, dp, d2, p0, pp, m1, m2, c, c', ek]
          · have c' : ¬ (k : Int) % 2 = 1 := by omega
            simp [wb1_power_of, dp, d2, p0, pp, m1, m2, c, c', ek]
        · split
          · exact emod_bd h1
          · exact bf
        · rw [← e3, Int.mul_emod f (h ^ k), pow_bin h p k, ← Int.mul_emod]
          split
          · rw [← Int.mul_assoc, Int.mul_emod, Int.emod_emod, ← Int.mul_emod]
          · rw [Int.one_mul]
    · rw [Int.mul_emod, Int.emod_emod]
      have : ∀ k : Nat, (n % p) ^ k % p = n ^ k % p := fun k => by
        induction k with
        | zero => rw [Int.pow_zero, Int.pow_zero]
        | succ k ih => rw [Int.pow_succ, Int.pow_succ, Int.mul_emod, ih, Int.emod_emod, ← Int.mul_emod]
      rw [this, ← Int.mul_emod, Int.one_mul]
theorem spl_ok : ∀ (f : Nat) (m : Int) (t : Nat), 0 < m → m.toNat ≤ f → 0 < (spl f m t).1 ∧ (spl f m t).1 ≤ m ∧ (spl f m t).2 ≤ t + f
  | 0, m, t, h0, h => by omega
  | f + 1, m, t, h0, h => by
    unfold spl
    split
    · have := spl_ok f (m / 2) (t + 1) (by omega) (by omega)
      omega
    · exact ⟨h0, Int.le_refl _, by show t ≤ _; omega⟩
theorem forL_nil {ok : Store → Bool} {g : D → LS → Store → Out LS} {b : LS → Store → SO} {ls : LS} {st : Store} (h : ok st = true) : forL ok g b [] ls st = .nx ls st := by unfold forL; rw [if_pos h]
theorem forL_next {ok : Store → Bool} {g : D → LS → Store → Out LS} {b : LS → Store → SO} {ls ls1 ls2 : LS} {st st1 st2 : Store} {d : D} {r : List D} (h : ok st = true) (h1 : g d ls st = .ok ls1 st1) (h2 : b ls1 st1 = .nx ls2 st2) : forL ok g b (d :: r) ls st = forL ok g b r ls2 st2 := by
  conv => lhs; unfold forL
  rw [if_pos h, h1]
  simp only [h2]
theorem forL_ret {ok : Store → Bool} {g : D → LS → Store → Out LS} {b : LS → Store → SO} {ls ls1 : LS} {st st1 st2 : Store} {d v : D} {r : List D} (h : ok st = true) (h1 : g d ls st = .ok ls1 st1) (h2 : b ls1 st1 = .rt v st2) : forL ok g b (d :: r) ls st = .rt v st2 := by
  conv => lhs; unfold forL
  rw [if_pos h, h1]
  simp only [h2]
theorem wit_loop {b n odd : Int} {t : D} {st : Store} (h1 : 3 ≤ n) (h2 : n ≤ 1000000000) : ∀ (l : List D) (h : Int) (tr : Option D), 0 ≤ h ∧ h < n →
    (sqs n l.length h = true → ∃ ls', forL (fun _ => true) (nameG 5) fb1_is_witness l [some (.int b), some (.int n), some (.int odd), some t, some (.int h), tr] st = .nx ls' st) ∧
    (sqs n l.length h = false → forL (fun _ => true) (nameG 5) fb1_is_witness l [some (.int b), some (.int n), some (.int odd), some t, some (.int h), tr] st = .rt (.bl false) st)
  | [], h, tr, bh => ⟨fun _ => ⟨_, forL_nil rfl⟩, fun q => (by cases q)⟩
  | d :: l, h, tr, bh => by
    have dn : divOk n = true := divOk_small (by omega) (by omega) (by omega)
    have n0 : ¬ n = 0 := by omega
    have nn : (0 : Int) ≤ n := by omega
    have mh : mulOk h h = true := mulOk_l (by omega) (by omega)
    have ih := wit_loop (b := b) (odd := odd) (t := t) (st := st) h1 h2 l (h * h % n) (some d) (emod_bd (by omega))
    show (sqs n (l.length + 1) h = true → _) ∧ (sqs n (l.length + 1) h = false → _)
    unfold sqs
    by_cases c : h * h % n = n - 1
    · rw [if_pos c]
      refine ⟨fun q => (by cases q), fun _ => forL_ret rfl rfl ?_⟩
      simp [fb1_is_witness, dn, n0, nn, mh, c]
    · rw [if_neg c]
      have e : forL (fun _ => true) (nameG 5) fb1_is_witness (d :: l) [some (.int b), some (.int n), some (.int odd), some t, some (.int h), tr] st = forL (fun _ => true) (nameG 5) fb1_is_witness l [some (.int b), some (.int n), some (.int odd), some t, some (.int (h * h % n)), some d] st :=
        forL_next rfl rfl (by simp [fb1_is_witness, dn, n0, nn, mh, c])
      rw [e]
      exact ih
theorem rng1_big {fr : LS → Store → Out (List D)} {ls : LS} {st st1 : Store} {j : Int} (h : fr ls st = .ok [.int j] st1) (h0 : -10000000000 ≤ j) (h1 : j ≤ 10000000000) : rng1 fr ls st = .ok ⟨rangeL 0 j.toNat, []⟩ st1 := by
  unfold rng1
  rw [h]
  show (if okP _ = true then _ else _) = _
  rw [if_pos (okP_of (by omega))]
theorem inI_two {st : Store} (x a b : Int) : DD.inV false (.int x) (.tup [.int a, .int b]) st = .ok (.bl (decide (a = x) || decide (b = x))) st := by
  unfold DD.inV
  rw [if_pos isTup_tup]
  unfold inTF
  have e : toP st 60 (.tup [.int a, .int b]) = some (.tuple [.int a, .int b]) := rfl
  have e2 : toP st 60 (.int x) = some (.int x) := rfl
  simp only [e, e2]
  rw [if_pos ⟨by simp [SeqAt.shaped, PyData.canLay0, PyData.depth], by simp [SeqAt.shaped, PyData.canLay0, PyData.canLayAll0, PyData.depth, PyData.depthAll]⟩]
  simp only [PyData.eqv, List.any_cons, List.any_nil]
  simp
  rw [Bool.eq_iff_iff]
  simp
theorem sp_is_witness {b n : Int} (st : Store) (h1 : 3 ≤ n) (h2 : n ≤ 1000000000) : F_is_witness [.int b, .int n] st = .ok (.bl (witB b n)) st := by
  refine viaF_eq ⟨b, n, rfl, h1, h2, rfl⟩ (fun o' ⟨b', n', e, _, _, eo⟩ => ?_) fun _ _ => Pk.of_eq ?_
  · cases e; exact eo
  · have d2 : divOk 2 = true := divOk_small (by omega) (by omega) (by omega)
    obtain ⟨s1, s2, s3⟩ := spl_ok (n - 1).toNat (n - 1) 0 (by omega) (Nat.le_refl _)
    have key := while_run (t := wt1_is_witness) (b := wb1_is_witness)
      (fun (f : Nat) ls s => st = s ∧ ∃ (m : Int) (t : Nat), ls = [some (.int b), some (.int n), some (.int m), some (.int t), none, none] ∧ 0 < m ∧ m.toNat ≤ f ∧ spl f m t = spl (n - 1).toNat (n - 1) 0) (fun f => f)
      (fun ls s => st = s ∧ ls = [some (.int b), some (.int n), some (.int (spl (n - 1).toNat (n - 1) 0).1), some (.int (spl (n - 1).toNat (n - 1) 0).2), none, none]) (fun f ls s ⟨e1, m, t, e2, hm, hf, e3⟩ => ?_) (n - 1).toNat [some (.int b), some (.int n), some (.int (n - 1)), some (.int 0), none, none] st ⟨rfl, n - 1, 0, rfl, by omega, Nat.le_refl _, rfl⟩
    · obtain ⟨ls', st', k1, rfl, rfl⟩ := key
      generalize hs : spl (n - 1).toNat (n - 1) 0 = s at *
      obtain ⟨odd, t⟩ := s
      simp only at s1 s2 s3 k1
      have hw : witB b n = (if b ^ odd.toNat % n = 1 ∨ b ^ odd.toNat % n = n - 1 then false else sqs n (t - 1) (b ^ odd.toNat % n)) := by unfold witB; rw [hs]
      have pw := sp_power_of (n := b) (m := odd) (p := n) st (by omega) (by omega) (by omega)
      have hr := fun ls => rng1_big (fr := consA (bin2 subV (varD 3) (litD (.int 1))) nilA) (ls := ls) (st := st) (st1 := st) (j := (t : Int) - 1)
      have bh := emod_bd (x := b ^ odd.toNat) (p := n) (by omega)
      generalize b ^ odd.toNat % n = h at *
      have wl := wit_loop (b := b) (odd := odd) (t := .int t) (st := st) h1 h2 (rangeL 0 ((t : Int) - 1).toNat) h none bh
      rw [rangeL_len, show ((t : Int) - 1).toNat = t - 1 by omega] at wl
      by_cases c1 : h = 1
      · rw [if_pos (.inl c1)] at hw
        simp [g_is_witness, k1, pw, c1, hw, inI_two]
      · by_cases c2 : h = n - 1
        · rw [if_pos (.inr c2)] at hw
          simp [g_is_witness, k1, pw, c2, hw, inI_two]
        · rw [if_neg (by omega)] at hw
          have hr := hr [some (.int b), some (.int n), some (.int odd), some (.int t), some (.int h), none] (by simp) (by omega) (by omega)
          have c1 : ¬ 1 = h := fun z => c1 z.symm
          have c2 : ¬ n - 1 = h := fun z => c2 z.symm
          cases hq : sqs n (t - 1) h with
          | true =>
            obtain ⟨ls', e⟩ := wl.1 hq
            simp [g_is_witness, k1, pw, c1, c2, hw, hq, inI_two, hr, e]
          | false =>
            have e := wl.2 hq
            simp [g_is_witness, k1, pw, c1, c2, hw, hq, inI_two, hr, e]
    · subst e1 e2
      by_cases c : m % 2 = 0
      · have c2 : (0 : Int) < m / 2 := by omega
        match f, hf with
        | 0, hf => omega
        | f + 1, hf =>
          refine .inr ⟨_, _, _, f, by simp [wt1_is_witness, d2]; exact ⟨c, rfl⟩, by simp [wb1_is_witness, d2]; exact rfl, ⟨rfl, m / 2, t + 1, by simp, c2, by omega, ?_⟩, by omega⟩
          rw [← e3]
          conv => rhs; unfold spl
          rw [if_pos c]
      · refine .inl ⟨_, by simp [wt1_is_witness, d2, c], rfl, ?_⟩
        rw [← e3]
        cases f with
        | zero => rfl
        | succ f => unfold spl; rw [if_neg c]
theorem boolsOf_map {α : Type} (f : α → Bool) : ∀ l : List α, boolsOf (l.map fun x => .bl (f x)) = some (l.map f)
  | [] => rfl
  | x :: l => by
    show (boolsOf (l.map fun x => .bl (f x))).map (f x :: ·) = _
    rw [boolsOf_map f l]; rfl
theorem base_loop {n : Int} {st : Store} : ∀ (l : List Int) (b : Option D), (∀ x ∈ l, 2 ≤ x ∧ x ≤ 41) →
    (∀ y, l.find? (fun b => decide (n % b = 0)) = some y → forL (fun _ => true) (nameG 1) fb1_is_prime_number (l.map .int) [some (.int n), b] st = .rt (.bl (decide (n = y))) st) ∧
    (l.find? (fun b => decide (n % b = 0)) = none → ∃ b', forL (fun _ => true) (nameG 1) fb1_is_prime_number (l.map .int) [some (.int n), b] st = .nx [some (.int n), b'] st)
  | [], b, _ => ⟨fun y h => (by cases h), fun _ => ⟨b, forL_nil rfl⟩⟩
  | x :: l, b, h => by
    obtain ⟨h1, h2⟩ := h x List.mem_cons_self
    have dx : divOk x = true := divOk_small (by omega) (by omega) (by omega)
    have x0 : ¬ x = 0 := by omega
    have xx : (0 : Int) ≤ x := by omega
    rw [List.find?_cons]
    by_cases c : n % x = 0
    · rw [decide_eq_true c]
      refine ⟨fun y hy => ?_, fun hy => by cases hy⟩
      cases hy
      refine forL_ret rfl rfl ?_
      simp [fb1_is_prime_number, dx, x0, xx, c]
    · rw [decide_eq_false c]
      have e : forL (fun _ => true) (nameG 1) fb1_is_prime_number ((x :: l).map .int) [some (.int n), b] st = forL (fun _ => true) (nameG 1) fb1_is_prime_number (l.map .int) [some (.int n), some (.int x)] st :=
        forL_next rfl rfl (by simp [fb1_is_prime_number, dx, x0, xx, c])
      rw [e]
      exact base_loop l (some (.int x)) fun y hy => h y (List.mem_cons_of_mem _ hy)
theorem bases_ok : ∀ x ∈ bases, 2 ≤ x ∧ x ≤ 41 := by decide
theorem sp_is_prime_number {n : Int} (st : Store) (h : n ≤ 1000000000) : F_is_prime_number [.int n] st = .ok (.bl (isP n)) st := by
  refine viaF_eq ⟨n, rfl, h, rfl⟩ (fun o' ⟨n', e, _, eo⟩ => ?_) fun l1 _ => ?_
  · cases e; exact eo
  · by_cases c : n < 2
    · refine Pk.of_eq ?_
      have : isP n = false := by unfold isP; rw [if_pos c]
      simp [g_is_prime_number, c, this]
    · have bl := base_loop (n := n) (st := st) bases none bases_ok
      have tb : tupI bases = .tup (bases.map .int) := rfl
      have c' : ¬ n < 2 := c
      cases hf : bases.find? (fun b => decide (n % b = 0)) with
      | some y =>
        refine Pk.of_eq ?_
        have e := bl.1 y hf
        have : isP n = decide (n = y) := by unfold isP; rw [if_neg c, hf]
        unfold bases at e
        simp [g_is_prime_number, c, this, tupI] at e ⊢
        simp [e]
      | none =>
        obtain ⟨b', e⟩ := bl.2 hf
        have : isP n = !bases.any fun b => witB b n := by unfold isP; rw [if_neg c, hf]
        have n2 : ¬ n % 2 = 0 := fun z => by
          have := List.find?_eq_none.mp hf 2 (by decide)
          simp [z] at this
        have lc := lc_map (its := ⟨bases.map D.int, []⟩) (st0 := st) (g := nameG 1) (ft := yesT) (fe := le1_is_prime_number) (lsw := [some (.int n), none]) (fun d => match d with | .int b => .bl (witB b n) | _ => .non) (fun _ => rfl) (by decide) fun d hd acc => by
          obtain ⟨b, _, rfl⟩ := List.mem_map.mp hd
          exact ⟨_, rfl, rfl, by simp [le1_is_prime_number, sp_is_witness (b := b) (n := n) _ (by omega) h]⟩
        have em : (bases.map D.int).map (fun d => match d with | .int b => D.bl (witB b n) | _ => .non) = bases.map fun b => .bl (witB b n) := by rw [List.map_map]; rfl
        simp only at lc
        rw [em] at lc
        have ea : anyL (bases.map fun b => .bl (witB b n)) (st ++ [.lst (bases.map fun b => .bl (witB b n))]) = .ok (.bl (bases.any fun b => witB b n)) (st ++ [.lst (bases.map fun b => .bl (witB b n))]) := by
          unfold anyL
          rw [boolsOf_map]
          simp only [List.any_map]
          rfl
        unfold bases at e lc ea
        simp only [okB_nil] at lc
        rw [this]
        unfold bases
        simp [g_is_prime_number, c, tupI, wipeL] at e lc ea ⊢
        simp [e, lc, ea]
        exact Pk.dropG _ l1 rfl
end K65

set_option maxRecDepth 100000
set_option maxHeartbeats 400000
namespace K65
open PySem PySem.Spec PyProof.Rows L2 DD
theorem div_less {p n : Int} (hp : 2 ≤ p) (h0 : n ≠ 0) (h : n % p = 0) : n / p ≠ 0 ∧ (n / p).natAbs < n.natAbs ∧ n = p * (n / p) := by
  have e : n = p * (n / p) := by have := Int.mul_ediv_add_emod n p; omega
  generalize n / p = q at *
  have q0 : q ≠ 0 := fun z => h0 (by rw [e, z, Int.mul_zero])
  refine ⟨q0, ?_, e⟩
  rw [e, Int.natAbs_mul]
  have : 2 * q.natAbs ≤ p.natAbs * q.natAbs := Nat.mul_le_mul_right _ (by omega)
  omega
theorem tko_spec {p : Int} (hp : 2 ≤ p) : ∀ (f : Nat) (n : Int), n ≠ 0 → n.natAbs ≤ f → n = p ^ (tko p f n).1 * (tko p f n).2 ∧ ¬ p ∣ (tko p f n).2
  | 0, n, h0, h => by omega
  | f + 1, n, h0, h => by
    unfold tko
    by_cases c : n % p = 0
    · obtain ⟨q0, ql, e⟩ := div_less hp h0 c
      obtain ⟨e1, e2⟩ := tko_spec hp f (n / p) q0 (by omega)
      rw [if_pos c]
      refine ⟨?_, e2⟩
      show n = p ^ ((tko p f (n / p)).1 + 1) * (tko p f (n / p)).2
      rw [Int.pow_succ, Int.mul_comm (p ^ _) p, Int.mul_assoc, ← e1]
      exact e
    · rw [if_neg c]
      exact ⟨by simp, fun z => c (Int.emod_eq_zero_of_dvd z)⟩
theorem va_un {p n : Int} (hp : 2 ≤ p) (h0 : n ≠ 0) : n = p ^ va p n * un p n ∧ ¬ p ∣ un p n := tko_spec hp _ n h0 (Nat.le_refl _)
theorem va_le {p n : Int} (hp : 2 ≤ p) (h0 : n ≠ 0) : va p n ≤ n.natAbs ∧ (un p n).natAbs ≤ n.natAbs := by
  obtain ⟨e, h⟩ := va_un hp h0
  have u0 : un p n ≠ 0 := fun z => h (by rw [z]; exact Int.dvd_zero p)
  have e2 : n.natAbs = p.natAbs ^ va p n * (un p n).natAbs := by
    conv => lhs; rw [e]
    rw [Int.natAbs_mul, Int.natAbs_pow]
  have h1 : va p n < p.natAbs ^ va p n := Nat.lt_pow_self (by omega)
  have h2 : p.natAbs ^ va p n * 1 ≤ p.natAbs ^ va p n * (un p n).natAbs := Nat.mul_le_mul_left _ (by omega)
  have h3 : 1 * (un p n).natAbs ≤ p.natAbs ^ va p n * (un p n).natAbs := Nat.mul_le_mul_right _ (by omega)
  omega
theorem sp_taken_out {n p : Int} (st : Store) (h0 : n ≠ 0) (hb : n.natAbs ≤ 10000000000) (h1 : 2 ≤ p) (h2 : p ≤ 1000000000) : F_taken_out [.int n, .int p] st = .ok (.tup [.int (va p n), .int (un p n)]) st := by
  refine viaF_eq ⟨n, p, rfl, h0, hb, h1, h2, rfl⟩ (fun o' ⟨n', p', e, _, _, _, _, eo⟩ => ?_) fun _ _ => Pk.of_eq ?_
  · cases e; exact eo
  · have dp : divOk p = true := divOk_small (by omega) (by omega) (by omega)
    have p0 : ¬ p = 0 := by omega
    have pp : (0 : Int) ≤ p := by omega
    have key := while_run (t := wt1_taken_out) (b := wb1_taken_out)
      (fun (f : Nat) ls s => st = s ∧ ∃ (m : Int) (t : Nat), ls = [some (.int m), some (.int p), some (.int t)] ∧ m ≠ 0 ∧ m.natAbs ≤ f ∧ t + (tko p f m).1 = va p n ∧ (tko p f m).2 = un p n) (fun f => f)
      (fun ls s => st = s ∧ ls = [some (.int (un p n)), some (.int p), some (.int (va p n))]) (fun f ls s ⟨e1, m, t, e2, m0, hf, e3, e4⟩ => ?_) n.natAbs [some (.int n), some (.int p), some (.int 0)] st ⟨rfl, n, 0, rfl, h0, Nat.le_refl _, Nat.zero_add _, rfl⟩
    · obtain ⟨ls', st', k1, rfl, rfl⟩ := key
      simp [g_taken_out, k1]
    · subst e1 e2
      match f, hf with
      | 0, hf => omega
      | f + 1, hf =>
        unfold tko at e3 e4
        by_cases c : m % p = 0
        · obtain ⟨q0, ql, e⟩ := div_less h1 m0 c
          rw [if_pos c] at e3 e4
          simp only at e3 e4
          refine .inr ⟨_, _, _, f, by simp [wt1_taken_out, dp, p0, pp]; exact ⟨c, rfl⟩, by simp [wb1_taken_out, dp, p0, pp]; exact rfl, ⟨rfl, m / p, t + 1, by simp, q0, by omega, by omega, e4⟩, by omega⟩
        · rw [if_neg c] at e3 e4
          simp only at e3 e4
          refine .inl ⟨_, by simp [wt1_taken_out, dp, p0, pp, c], rfl, ?_⟩
          rw [e4, ← e3]
          rfl
theorem sp_by_four (n : Int) (st : Store) : F_by_four [.int n] st = .ok (.int (b4 n)) st := by
  refine viaF_eq ⟨n, rfl, rfl⟩ (fun o' ⟨n', e, eo⟩ => ?_) fun _ _ => Pk.of_eq ?_
  · cases e; exact eo
  · have d : divOk 4 = true := divOk_small (by omega) (by omega) (by omega)
    by_cases c : n % 4 = 1 <;> simp [g_by_four, d, c, b4]
theorem sp_by_eight (n : Int) (st : Store) : F_by_eight [.int n] st = .ok (.int (b8 n)) st := by
  refine viaF_eq ⟨n, rfl, rfl⟩ (fun o' ⟨n', e, eo⟩ => ?_) fun _ _ => Pk.of_eq ?_
  · cases e; exact eo
  · have d : divOk 8 = true := divOk_small (by omega) (by omega) (by omega)
    unfold b8
    by_cases c : n % 8 = 1
    · simp [g_by_eight, d, c, inI_two]
    · have c' : ¬ 1 = n % 8 := fun z => c z.symm
      by_cases c2 : n % 8 = 7
      · simp [g_by_eight, d, c2, inI_two]
      · have c2' : ¬ 7 = n % 8 := fun z => c2 z.symm
        simp [g_by_eight, d, c, c', c2, c2', inI_two]
theorem sp_by_prime {n p : Int} (st : Store) (h1 : 2 ≤ p) (h2 : p ≤ 1000000000) : F_by_prime [.int n, .int p] st = .ok (.int (bp n p)) st := by
  refine viaF_eq ⟨n, p, rfl, h1, h2, rfl⟩ (fun o' ⟨n', p', e, _, _, eo⟩ => ?_) fun _ _ => Pk.of_eq ?_
  · cases e; exact eo
  · have d : divOk 2 = true := divOk_small (by omega) (by omega) (by omega)
    have pw := sp_power_of (n := n) (m := (p - 1) / 2) (p := p) st (by omega) (by omega) h2
    by_cases c : n ^ ((p - 1) / 2).toNat % p = 1 <;> simp [g_by_prime, d, pw, c, bp]
theorem pm_b4 (n : Int) : b4 n = 1 ∨ b4 n = -1 := by unfold b4; split <;> simp
theorem pm_b8 (n : Int) : b8 n = 1 ∨ b8 n = -1 := by unfold b8; split <;> simp
theorem pm_bp (n p : Int) : bp n p = 1 ∨ bp n p = -1 := by unfold bp; split <;> simp
theorem pm_ok {x y : Int} (hx : x = 1 ∨ x = -1) : mulOk x y = true := mulOk_l (by omega) (by omega)
theorem sp_sign_at_place {n m p : Int} (st : Store) (hn : Nz n) (hm : Nz m) (h1 : p = 0 ∨ 2 ≤ p) (h2 : p ≤ 1000000000) : F_sign_at_place [.int n, .int m, .int p] st = .ok (.int (sg p n m)) st := by
  refine viaF_eq ⟨n, m, p, rfl, hn, hm, h1, h2, rfl⟩ (fun o' ⟨n', m', p', e, _, _, _, _, eo⟩ => ?_) fun _ _ => Pk.of_eq ?_
  · cases e; exact eo
  · by_cases p0 : p = 0
    · subst p0
      unfold sg
      rw [if_pos rfl]
      by_cases c1 : n < 0 <;> by_cases c2 : m < 0 <;> simp [g_sign_at_place, c1, c2]
    · have h1 : 2 ≤ p := by omega
      have t1 := sp_taken_out st hn.nz hn.sm h1 h2
      have t2 := sp_taken_out st hm.nz hm.sm h1 h2
      unfold sg
      rw [if_neg p0]
      generalize va p n = a at *
      generalize va p m = b at *
      generalize un p n = u at *
      generalize un p m = v at *
      have d2 : divOk 2 = true := divOk_small (by omega) (by omega) (by omega)
      have d4 : divOk 4 = true := divOk_small (by omega) (by omega) (by omega)
      have ka : ((a : Int) % 2 = 1) ↔ a % 2 = 1 := by omega
      have kb : ((b : Int) % 2 = 1) ↔ b % 2 = 1 := by omega
      have m1 : ∀ y, mulOk 1 y = true := fun y => pm_ok (.inl rfl)
      have m2 : ∀ y, mulOk (-1) y = true := fun y => pm_ok (.inr rfl)
      unfold sgp
      by_cases p2 : p = 2
      · subst p2
        rw [if_pos rfl]
        unfold s2
        rcases pm_b4 u with q1 | q1 <;> rcases pm_b4 v with q2 | q2 <;> rcases pm_b8 u with q3 | q3 <;> rcases pm_b8 v with q4 | q4 <;> by_cases ca : a % 2 = 1 <;> by_cases cb : b % 2 = 1 <;>
          simp [g_sign_at_place, t1, t2, sp_by_four, sp_by_eight, q1, q2, q3, q4, d2, ka, kb, ca, cb, m1, m2]
      · rw [if_neg p2]
        unfold sp
        have bp1 := fun x => sp_by_prime (n := x) st h1 h2
        rcases pm_bp u p with q1 | q1 <;> rcases pm_bp v p with q2 | q2 <;> by_cases ca : a % 2 = 1 <;> by_cases cb : b % 2 = 1 <;> by_cases cp : p % 4 = 3 <;>
          simp [g_sign_at_place, p0, p2, t1, t2, bp1, q1, q2, d2, d4, ka, kb, ca, cb, cp, m1, m2]
end K65

set_option maxRecDepth 100000
set_option maxHeartbeats 400000
namespace K65
open PySem PySem.Spec PyProof.Rows L2 DD
theorem ltC_hd (k : Nat) (h : Hd) : ltC k h.cell = true := by
  show (ltDs k (h.cells.map D.int) && true) = true
  rw [ltDs_ints]; rfl
theorem cut63 {l : List D} (h : l.length ≤ 63) : cutD l none (some 63) = l := by
  refine cut_whole ⟨rfl, ?_⟩
  simp [HT.sIx]
  omega
theorem sp_law_hand {ns : List Int} {st : Store} (hl : ns.length ≤ 63) : ∃ hd : Hd, F__law_hand [.cst (ns.map D.int)] st = .ok (.ref st.length) (st ++ [hd.cell]) := by
  have key : Good__law_hand [.cst (ns.map D.int)] st (F__law_hand [.cst (ns.map D.int)] st) := by
    refine viaF_good (o := .ok (.ref st.length) (st ++ [Hd.cell ⟨ns.map (fun i => if i < 0 then -i else i), 0, 0, 83 + 5 * (ns.length : Int), 0⟩])) ⟨ns, rfl, hl, _, rfl⟩ fun h1 h2 => ?_
    have hle := lc_map (its := ⟨ns.map D.int, [(st.length, ns.map D.int)]⟩) (st0 := st ++ [.lst (ns.map D.int)]) (g := nameG 2) (ft := yesT) (fe := le1__law_hand) (lsw := [some (.cst (ns.map D.int)), none, none]) (fun d => match d with | .int i => .int (if i < 0 then -i else i) | _ => .non)
      (fun acc => okB_app1 get_new) (by simp; omega) fun d hd acc => by
        obtain ⟨i, _, rfl⟩ := List.mem_map.mp hd
        exact ⟨_, rfl, rfl, by simp [le1__law_hand]⟩
    have hcut := cut63 (l := ns.map D.int) (by simpa using hl)
    have m1 : mulOk 5 (ns.length : Int) = true := mulOk_l (by omega) (by omega)
    have e1 : List.map (fun d => match d with | D.int i => D.int (if i < 0 then -i else i) | _ => D.non) (ns.map D.int) = (ns.map (fun i => if i < 0 then -i else i)).map D.int := by
      simp
    rw [e1] at hle
    simp only at hle
    have hlen := len_ref (st := st ++ [.lst (ns.map D.int)] ++ [.lst ((ns.map (fun i => if i < 0 then -i else i)).map D.int)]) (n := (st ++ [Cell.lst (ns.map D.int)]).length) get_new
    have hlen2 : ((ns.map (fun i => if i < 0 then -i else i)).map D.int).length = ns.length := by simp
    rw [hlen2] at hlen
    generalize hcells : (ns.map (fun i => if i < 0 then -i else i)).map D.int = cs at *
    simp [g__law_hand, slV, hcut, wipeL, hle, hlen, m1, -List.append_assoc, -List.length_append, -List.map_map]
    refine .ok (Pack.fresh (n := st.length) (st0 := st) (c := .lst [.ref (st ++ [Cell.lst (ns.map D.int)]).length, .int 0, .int 0, .int (83 + 5 * (ns.length : Int)), .int 0]) rfl ?_ ?_ ?_ h1 ?_)
    · rw [List.append_assoc, List.append_assoc, List.take_left]
    · simp
    · simp
    · show Fzs _ _ _ [.lst ((ns.map (fun i => if i < 0 then -i else i)).map D.int), .int ((0 : Nat) : Int), .int 0, .int (83 + 5 * (ns.length : Int)), .int 0]
      refine .cons (.froz ?_ (l := cs) ?_ ?_) (.cons (.int _) (.cons (.int _) (.cons (.int _) (.cons (.int _) .nil))))
      · simp
      · simp [List.getElem?_append]
      · rw [hcells]
        exact fzs0 (by rw [← hcells]; exact ltDs_ints _ _)
  obtain ⟨ns', e, _, hd, eo⟩ := key
  exact ⟨hd, eo⟩
/-- the hand after its cell h was read or written: garbage behind -/
structure HS (st : Store) (h : Nat) (hd : Hd) (st' : Store) : Prop where
  ex : ∃ g, st' = st.set h hd.cell ++ g
  lt : h < st.length
theorem HS.get {st st' : Store} {h : Nat} {hd : Hd} (x : HS st h hd st') : st'[h]? = some hd.cell := by
  obtain ⟨g, rfl⟩ := x.ex
  rw [List.getElem?_append_left (by rw [List.length_set]; exact x.lt), List.getElem?_set_self x.lt]
theorem HS.set {st st' : Store} {h : Nat} {hd hd' : Hd} (x : HS st h hd st') : HS st h hd' (st'.set h hd'.cell) := by
  obtain ⟨g, rfl⟩ := x.ex
  refine ⟨⟨g, ?_⟩, x.lt⟩
  rw [List.set_append_left _ _ (by rw [List.length_set]; exact x.lt), List.set_set]
theorem HS.app {st st' g : Store} {h : Nat} {hd : Hd} (x : HS st h hd st') : HS st h hd (st' ++ g) := by
  obtain ⟨g', rfl⟩ := x.ex
  exact ⟨⟨g' ++ g, by rw [List.append_assoc]⟩, x.lt⟩
theorem set_same {st : Store} {h : Nat} {c : Cell} (e : st[h]? = some c) : st.set h c = st := by
  obtain ⟨hl, q⟩ := List.getElem?_eq_some_iff.mp e
  refine List.ext_getElem? fun i => ?_
  by_cases hi : h = i
  · subst hi; rw [List.getElem?_set_self hl, e]
  · rw [List.getElem?_set_ne hi]
theorem HS.refl {st : Store} {h : Nat} {hd : Hd} (e : st[h]? = some hd.cell) : HS st h hd st := ⟨⟨[], by rw [set_same e, List.append_nil]⟩, (List.getElem?_eq_some_iff.mp e).1⟩
theorem HS.pk {st st' : Store} {h : Nat} {hd : Hd} {d : D} (x : HS st h hd st') (h1 : ltS st.length st = true) (h2 : ltD st.length d = true) : Pk st.length (.ok d st') (.ok d (st.set h hd.cell)) := by
  obtain ⟨g, rfl⟩ := x.ex
  exact Pk.dropS g h1 (ltC_hd _ _) h2
theorem hd_ix {st : Store} {h : Nat} {hd : Hd} (e : st[h]? = some hd.cell) : ixD (.ref h) (.int 0) st = .ok (.lst (hd.cells.map D.int)) st ∧ ixD (.ref h) (.int 1) st = .ok (.int hd.i) st ∧ ixD (.ref h) (.int 2) st = .ok (.int hd.b) st ∧ ixD (.ref h) (.int 3) st = .ok (.int hd.s) st ∧ ixD (.ref h) (.int 4) st = .ok (.int hd.c) st := by
  refine ⟨?_, ?_, ?_, ?_, ?_⟩ <;> · rw [ix_ref (by exact e)]; rfl
theorem hd_set1 {st : Store} {h : Nat} {hd : Hd} (e : st[h]? = some hd.cell) (i : Nat) : setIx (.ref h) (.int 1) (.int (i : Int)) st = .ok () (st.set h (Hd.cell { hd with i := i })) := setIx_ref (by exact e) (j := 1) rfl
theorem hd_set2 {st : Store} {h : Nat} {hd : Hd} (e : st[h]? = some hd.cell) (i : Int) : setIx (.ref h) (.int 2) (.int i) st = .ok () (st.set h (Hd.cell { hd with b := i })) := setIx_ref (by exact e) (j := 2) rfl
theorem hd_set3 {st : Store} {h : Nat} {hd : Hd} (e : st[h]? = some hd.cell) (i : Int) : setIx (.ref h) (.int 3) (.int i) st = .ok () (st.set h (Hd.cell { hd with s := i })) := setIx_ref (by exact e) (j := 3) rfl
theorem hd_set4 {st : Store} {h : Nat} {hd : Hd} (e : st[h]? = some hd.cell) (i : Int) : setIx (.ref h) (.int 4) (.int i) st = .ok () (st.set h (Hd.cell { hd with c := i })) := setIx_ref (by exact e) (j := 4) rfl
end K65

set_option maxRecDepth 100000
set_option maxHeartbeats 1000000
namespace K65
open PySem PySem.Spec PyProof.Rows L2 DD
theorem sp_law_draw {st : Store} {h : Nat} {hd : Hd} {m : Int} (e : st[h]? = some hd.cell) (h0 : 0 < m) (h1 : m < 1000000) : ∃ v hd', 0 ≤ v ∧ v < m ∧ F__law_draw [.ref h, .int m] st = .ok (.int v) (st.set h (Hd.cell hd')) := by
  have hlt := (List.getElem?_eq_some_iff.mp e).1
  have es : ∀ X : Hd, (st.set h X.cell)[h]? = some X.cell := fun X => List.getElem?_set_self hlt
  obtain ⟨k0, k1, k2, k3, k4⟩ := hd_ix e
  have j0 := fun X => (hd_ix (es X)).1
  have j1 := fun X => (hd_ix (es X)).2.1
  have j2 := fun X => (hd_ix (es X)).2.2.1
  have j3 := fun X => (hd_ix (es X)).2.2.2.1
  have j4 := fun X => (hd_ix (es X)).2.2.2.2
  have s1 : setIx (.ref h) (.int 1) (.int ((hd.i : Int) + 1)) st = .ok () (st.set h (Hd.cell { hd with i := hd.i + 1 })) := by
    have := hd_set1 e (hd.i + 1)
    rwa [Int.natCast_add, Int.natCast_one] at this
  have s4 := hd_set4 e
  have s2 := hd_set2 e
  have t2 : ∀ X i, setIx (.ref h) (.int 2) (.int i) (st.set h (Hd.cell X)) = .ok () (st.set h (Hd.cell { X with b := i })) := fun X i => by
    have := hd_set2 (es X) i
    rwa [List.set_set] at this
  have t3 : ∀ X i, setIx (.ref h) (.int 3) (.int i) (st.set h (Hd.cell X)) = .ok () (st.set h (Hd.cell { X with s := i })) := fun X i => by
    have := hd_set3 (es X) i
    rwa [List.set_set] at this
  have t4 : ∀ X i, setIx (.ref h) (.int 4) (.int i) (st.set h (Hd.cell X)) = .ok () (st.set h (Hd.cell { X with c := i })) := fun X i => by
    have := hd_set4 (es X) i
    rwa [List.set_set] at this
  have dm : divOk m = true := divOk_small (by omega) (by omega) (by omega)
  have mm : (0 : Int) ≤ m := by omega
  have mn : ¬ m = 0 := by omega
  have d1 : divOk 1009 = true := divOk_small (by omega) (by omega) (by omega)
  have d2 : divOk 2003 = true := divOk_small (by omega) (by omega) (by omega)
  have d3 : divOk 16 = true := divOk_small (by omega) (by omega) (by omega)
  have lit : ∀ (x y : Int), -18446744073709551616 < y → y < 18446744073709551616 → mulOk x y = true := fun x y a b => mulOk_r a b
  have q1 : ∀ x, mulOk x 69621 = true := fun x => mulOk_r (by omega) (by omega)
  have q2 : ∀ x, mulOk x 40692 = true := fun x => mulOk_r (by omega) (by omega)
  have q3 : ∀ x, mulOk 7919 x = true := fun x => mulOk_l (by omega) (by omega)
  have q4 : ∀ x, mulOk x 48271 = true := fun x => mulOk_r (by omega) (by omega)
  have q5 : ∀ x y : Int, mulOk (x % 2147483647) y = true := fun x y => mulOk_l (by omega) (by omega)
  have pw : okP (0 ≤ (18 : Int) ∧ (18 : Int) ≤ 1000 ∧ -18446744073709551616 < (10 : Int) ∧ (10 : Int) < 18446744073709551616) = true := okP_of (by omega)
  have key : Good__law_draw [.ref h, .int m] st (F__law_draw [.ref h, .int m] st) := by
    have bd : ∀ x : Int, 0 ≤ x % m ∧ x % m < m := fun x => ⟨Int.emod_nonneg _ mn, Int.emod_lt_of_pos _ h0⟩
    have fin : ∀ (X : Hd) (x : Int), endO (g__law_draw (startD 5 [.ref h, .int m]) st) = .ok (.int (x % m)) (st.set h X.cell) → Good__law_draw [.ref h, .int m] st (F__law_draw [.ref h, .int m] st) := fun X x eq =>
      viaF_good (o := .ok (.int (x % m)) (st.set h X.cell)) ⟨h, hd, m, rfl, e, h0, h1, x % m, X, (bd x).1, (bd x).2, rfl⟩ fun _ _ => Pk.of_eq eq
    by_cases hA : hd.b = 0 ∧ hd.i < hd.cells.length
    · obtain ⟨hb, hi⟩ := hA
      have hi' : (hd.i : Int) < hd.cells.length := by omega
      have hc : atI (hd.cells.map D.int) (hd.i : Int) = some (.int hd.cells[hd.i]) := DD.atI_nat (by simp [hi])
      generalize hd.cells[hd.i] = c at hc
      by_cases hbig : (1000000000000000000 : Int) ≤ c
      · have hc0 : 0 < c := by omega
        apply fin
        simp [g__law_draw, k0, k1, k2, k3, k4, j0, j1, j2, j3, j4, s1, t2, t3, t4, hb, hi, hc, hbig, hc0, dm, mm, mn, q1, q2, pw]
        exact ⟨rfl, rfl⟩
      · apply fin
        simp [g__law_draw, k0, k1, k2, k3, k4, j0, j1, j2, j3, j4, s1, t2, t3, t4, hb, hi, hc, hbig, dm, mm, mn, q1, q2, q3, q4, q5, d1, d2, d3, pw]
        exact ⟨rfl, rfl⟩
    · by_cases hb : 0 < hd.b
      · have hb0 : ¬ hd.b = 0 := by omega
        apply fin
        simp [g__law_draw, k0, k1, k2, k3, k4, s2, hb, hb0, dm, mm, mn]
        exact ⟨rfl, rfl⟩
      · by_cases hb0 : hd.b = 0
        · have hi : ¬ hd.i < hd.cells.length := fun z => hA ⟨hb0, z⟩
          apply fin
          simp [g__law_draw, k0, k1, k2, k3, k4, j0, j1, j2, j3, j4, s4, hb0, hi, dm, mm, mn, q3, q4, q5, d1, d2, d3]
          exact ⟨rfl, rfl⟩
        · apply fin
          simp [g__law_draw, k0, k1, k2, k3, k4, j0, j1, j2, j3, j4, s4, hb, hb0, dm, mm, mn, q3, q4, q5, d1, d2, d3]
          exact ⟨rfl, rfl⟩
  obtain ⟨h', hd', m', q, _, _, _, v, hd2, a, b, eo⟩ := key
  cases q
  exact ⟨v, hd2, a, b, eo⟩
end K65

set_option maxRecDepth 100000
set_option maxHeartbeats 1000000
namespace K65
open PySem PySem.Spec PyProof.Rows L2 DD
theorem sp_law_any {st : Store} {h n : Nat} {hd : Hd} {l : List D} (hn : h ≠ n) (e : st[h]? = some hd.cell) (el : st[n]? = some (.lst l)) (h0 : 0 < l.length) (h1 : l.length < 1000000) : ∃ x hd', x ∈ l ∧ F__law_any [.ref h, .ref n] st = .ok x (st.set h (Hd.cell hd')) := by
  have key : Good__law_any [.ref h, .ref n] st (F__law_any [.ref h, .ref n] st) := by
    obtain ⟨v, hd', v0, v1, ev⟩ := sp_law_draw (m := (l.length : Int)) e (by omega) (by omega)
    have hx : v.toNat < l.length := by omega
    have el' : (st.set h hd'.cell)[n]? = some (.lst l) := by rw [List.getElem?_set_ne hn]; exact el
    have ea : atI l v = some l[v.toNat] := atI_int v0 (by simp [hx])
    refine viaF_good (o := .ok l[v.toNat] (st.set h hd'.cell)) ⟨h, hd, n, l, rfl, hn, e, el, h0, h1, _, hd', List.getElem_mem hx, rfl⟩ fun _ _ => Pk.of_eq ?_
    have hle := len_ref el
    have hix := ix_ref (i := v) el'
    simp [g__law_any, hle, ev, hix, ea]
  obtain ⟨h', hd', n', l', q, _, _, el', _, _, x, hd2, hx, eo⟩ := key
  cases q
  rw [el] at el'
  cases el'
  exact ⟨x, hd2, hx, eo⟩
theorem HS.ne {st s : Store} {h : Nat} {hd : Hd} (x : HS st h hd s) : h ≠ s.length := by
  obtain ⟨g, rfl⟩ := x.ex
  have := x.lt
  simp
  omega
/-- a new list, then _law_any of it -/
theorem any_new {st s : Store} {h : Nat} {hd : Hd} {l : List D} (x : HS st h hd s) (h0 : 0 < l.length) (h1 : l.length < 1000000) : ∃ y hd' s', y ∈ l ∧ F__law_any [.ref h, .ref s.length] (s ++ [.lst l]) = .ok y s' ∧ HS st h hd' s' := by
  obtain ⟨y, hd', hy, e⟩ := sp_law_any (st := s ++ [.lst l]) (n := s.length) (l := l) x.ne (x.app (g := [.lst l])).get get_new h0 h1
  exact ⟨y, hd', _, hy, e, (x.app (g := [.lst l])).set⟩
theorem draw_hs {st s : Store} {h : Nat} {hd : Hd} {m : Int} (x : HS st h hd s) (h0 : 0 < m) (h1 : m < 1000000) : ∃ v hd' s', 0 ≤ v ∧ v < m ∧ F__law_draw [.ref h, .int m] s = .ok (.int v) s' ∧ HS st h hd' s' := by
  obtain ⟨v, hd', a, b, e⟩ := sp_law_draw (m := m) x.get h0 h1
  exact ⟨v, hd', _, a, b, e, x.set⟩
theorem sp_law_number {st : Store} {h : Nat} {hd : Hd} {w : Int} (e : st[h]? = some hd.cell) (h0 : 1 ≤ w) (h1 : w ≤ 1000000) : ∃ v hd', v ≠ 0 ∧ -w ≤ v ∧ v ≤ w ∧ F__law_number [.ref h, .int w] st = .ok (.int v) (st.set h (Hd.cell hd')) := by
  have key : Good__law_number [.ref h, .int w] st (F__law_number [.ref h, .int w] st) := by
    obtain ⟨m, hd1, s1, m0, m1, em, x1⟩ := draw_hs (m := 5) (HS.refl e) (by omega) (by omega)
    have hr := rng1_eq (fr := consA (callD F__law_draw (consA (varD 0) (consA (litD (.int 5)) nilA))) nilA) (ls := [some (.ref h), some (.int w), some (.int 1), none, none]) (st := st) (st1 := s1) (j := m) (by simp [em]) (by omega) (by omega)
    obtain ⟨ls', s2, k1, f, hd2, lap, p, rfl, x2, f1, f2⟩ := for_inv (ok := fun _ => true) (g := nameG 3) (b := fb1__law_number) (fun ls s => ∃ f hd' lap p, ls = [some (.ref h), some (.int w), some (.int f), lap, p] ∧ HS st h hd' s ∧ 1 ≤ f ∧ f ≤ w)
      (fun _ _ _ => rfl) (rangeL 0 m.toNat) [some (.ref h), some (.int w), some (.int 1), none, none] s1 ⟨1, hd1, none, none, rfl, x1, by omega, h0⟩ (fun d hdm ls s ⟨f, hd', lap, p, e1, x, f1, f2⟩ => by
        subst e1
        obtain ⟨y, hd2, s', hy, ea, x'⟩ := any_new (l := [.int 2, .int 2, .int 3, .int 3, .int 5, .int 7, .int 11, .int 13, .int 17, .int 29, .int 101]) x (by simp) (by simp)
        obtain ⟨q, rfl, q1, q2⟩ : ∃ q : Int, y = .int q ∧ 2 ≤ q ∧ q ≤ 101 := by
          simp only [List.mem_cons, List.not_mem_nil, or_false] at hy
          rcases hy with rfl | rfl | rfl | rfl | rfl | rfl | rfl | rfl | rfl | rfl | rfl <;> exact ⟨_, rfl, by omega, by omega⟩
        have mk : mulOk f q = true := mulOk_l (by omega) (by omega)
        have hpos : 1 ≤ f * q := by
          have := Int.mul_le_mul f1 (by omega : (1 : Int) ≤ q) (by omega) (by omega)
          omega
        by_cases hc : f * q ≤ w
        · refine ⟨_, _, [some (.ref h), some (.int w), some (.int (f * q)), some d, some (.int q)], s', rfl, .inl ?_, f * q, hd2, _, _, rfl, x', hpos, hc⟩
          simp [fb1__law_number, ea, mk, hc]
        · refine ⟨_, _, [some (.ref h), some (.int w), some (.int f), some d, some (.int q)], s', rfl, .inl ?_, f, hd2, _, _, rfl, x', f1, f2⟩
          simp [fb1__law_number, ea, mk, hc])
    obtain ⟨b, hd3, s3, b0, b1, eb, x3⟩ := draw_hs (m := 2) x2 (by omega) (by omega)
    by_cases hb : b = 0
    · refine viaF_good (o := .ok (.int f) (st.set h hd3.cell)) ⟨h, hd, w, rfl, e, h0, h1, f, hd3, by omega, by omega, by omega, rfl⟩ fun l1 _ => ?_
      simp [g__law_number, hr, k1, eb, hb]
      exact x3.pk l1 rfl
    · refine viaF_good (o := .ok (.int (0 - f)) (st.set h hd3.cell)) ⟨h, hd, w, rfl, e, h0, h1, 0 - f, hd3, by omega, by omega, by omega, rfl⟩ fun l1 _ => ?_
      simp [g__law_number, hr, k1, eb, hb]
      exact x3.pk l1 rfl
  obtain ⟨h', hd', w', q, _, _, _, v, hd2, a, b, c, eo⟩ := key
  cases q
  exact ⟨v, hd2, a, b, c, eo⟩
theorem number_hs {st s : Store} {h : Nat} {hd : Hd} {w : Int} (x : HS st h hd s) (h0 : 1 ≤ w) (h1 : w ≤ 1000000) : ∃ v hd' s', v ≠ 0 ∧ -w ≤ v ∧ v ≤ w ∧ F__law_number [.ref h, .int w] s = .ok (.int v) s' ∧ HS st h hd' s' := by
  obtain ⟨v, hd', a, b, c, e⟩ := sp_law_number (w := w) x.get h0 h1
  exact ⟨v, hd', _, a, b, c, e, x.set⟩
theorem sp_law_divisor (ns : List Int) (st : Store) : F__law_divisor [.tup (ns.map .int)] st = .ok (.int (gcdL ns)) st := by
  refine viaF_eq ⟨ns, rfl, rfl⟩ (fun o' ⟨ns', e, eo⟩ => ?_) fun h1 h2 => ?_
  · have e : ns.map D.int = ns'.map D.int := by simpa using e
    have := congrArg intsOf e
    rw [intsOf_map, intsOf_map] at this
    cases this
    exact eo
  · refine Pk.of_eq ?_
    obtain ⟨ls', st', k1, rfl, _, y, u, v, rfl⟩ := for_fold (ok := fun _ => true) (g := nameG 2) (b := fb1__law_divisor) (fun (x : Int) ls s => st = s ∧ 0 ≤ x ∧ ∃ y u v, ls = [some (.tup (ns.map .int)), some (.int x), y, u, v])
      (fun x d => match d with | .int i => (Int.gcd x i : Int) | _ => x) (fun _ _ _ _ => rfl) (ns.map .int) 0 [some (.tup (ns.map .int)), some (.int 0), none, none, none] st ⟨rfl, by omega, none, none, none, rfl⟩ (fun d hd x ls s ⟨e1, x0, y, u, v, e2⟩ => by
        obtain ⟨i, _, rfl⟩ := List.mem_map.mp hd
        subst e1 e2
        obtain ⟨x, rfl⟩ : ∃ n : Nat, x = n := ⟨x.toNat, by omega⟩
        obtain ⟨ls2, s2, k2, rfl, w, rfl⟩ := while_run (t := wt1__law_divisor) (b := wb1__law_divisor)
          (fun (p : Nat × Nat) ls s => st = s ∧ ls = [some (.tup (ns.map .int)), some (.int x), some (.int i), some (.int p.1), some (.int p.2)] ∧ Nat.gcd p.1 p.2 = Int.gcd x i) (fun p => p.2)
          (fun ls s => st = s ∧ ∃ w, ls = [some (.tup (ns.map .int)), some (.int x), some (.int i), some (.int (Int.gcd x i)), w]) (fun p ls s ⟨e1, e2, e3⟩ => by
            subst e1 e2
            by_cases hp : p.2 = 0
            · refine .inl ⟨st, by simp [wt1__law_divisor, hp], rfl, some (.int p.2), ?_⟩
              rw [hp, Nat.gcd_zero_right] at e3
              rw [← e3]
            · refine .inr ⟨st, _, st, (p.2, p.1 % p.2), by simp [wt1__law_divisor]; exact Nat.pos_of_ne_zero hp, ?_, ⟨rfl, rfl, ?_⟩, Nat.mod_lt _ (Nat.pos_of_ne_zero hp)⟩
              · simp [wb1__law_divisor, hp]
              · rw [← e3, Nat.gcd_comm p.1 p.2, Nat.gcd_rec p.2 p.1, Nat.gcd_comm]) (x, i.natAbs) [some (.tup (ns.map .int)), some (.int x), some (.int i), some (.int x), some (.int i.natAbs)] st ⟨rfl, rfl, by simp [Int.gcd]⟩
        have ei : (if i < 0 then -i else i) = (i.natAbs : Int) := by omega
        exact ⟨_, _, [some (.tup (ns.map .int)), some (.int (Int.gcd x i)), some (.int i), some (.int (Int.gcd x i)), w], st, rfl, .inl (by simp [fb1__law_divisor, ei, k2]), rfl, by show (0 : Int) ≤ ((Int.gcd x i : Nat) : Int); omega, _, _, _, rfl⟩)
    simp [g__law_divisor, k1, gcdL, List.foldl_map]
end K65

set_option maxRecDepth 100000
set_option maxHeartbeats 1000000
namespace K65
open PySem PySem.Spec PyProof.Rows L2 DD
/-! prime numbers -/
theorem Pr.or {p a b : Int} (h : Pr p) (d : p ∣ a * b) : p ∣ a ∨ p ∣ b := by
  have h2 := h.two
  by_cases c : p ∣ a
  · exact .inl c
  · right
    have g1 : ((Int.gcd p a : Nat) : Int) ∣ p := Int.gcd_dvd_left ..
    have g2 : ((Int.gcd p a : Nat) : Int) ∣ a := Int.gcd_dvd_right ..
    have g0 : Int.gcd p a ≠ 0 := fun z => by
      have := (Int.gcd_eq_zero_iff.mp z).1
      omega
    have g3 : Int.gcd p a = 1 := by
      by_cases e : 2 ≤ ((Int.gcd p a : Nat) : Int)
      · exact absurd (h.div _ e g1 ▸ g2) c
      · omega
    have d2 : p.natAbs ∣ a.natAbs * b.natAbs := by rw [← Int.natAbs_mul]; exact Int.natAbs_dvd_natAbs.mpr d
    exact Int.natAbs_dvd_natAbs.mp (Nat.Coprime.dvd_of_dvd_mul_left (show Nat.gcd p.natAbs a.natAbs = 1 from g3) d2)
theorem Pr.pow {p a : Int} (h : Pr p) : ∀ {n : Nat}, p ∣ a ^ n → p ∣ a
  | 0, d => by
    rw [Int.pow_zero] at d
    have := Int.le_of_dvd (by omega) d
    have := h.two
    omega
  | n + 1, d => by
    rw [Int.pow_succ] at d
    rcases h.or d with d | d
    · exact h.pow d
    · exact d
theorem Pr.eq {p q : Int} (hp : Pr p) (hq : Pr q) (d : p ∣ q) : p = q := hq.div p hp.two d
/-- the least divisor -/
theorem pr_of_least {m s : Int} (h2 : 2 ≤ s) (d : s ∣ m) (l : ∀ e : Int, 2 ≤ e → e ∣ m → s ≤ e) : Pr s :=
  ⟨h2, fun e he de => by
    have h1 := l e he (Int.dvd_trans de d)
    have h3 := Int.le_of_dvd (by omega) de
    omega⟩
theorem pr_of_big {m s : Int} (h2 : 2 ≤ m) (hs : 0 < s) (l : ∀ e : Int, 2 ≤ e → e ∣ m → s ≤ e) (b : m < s * s) : Pr m :=
  ⟨h2, fun e he ⟨q, de⟩ => by
    have q0 : 0 < q := by
      rcases Int.lt_trichotomy q 0 with c | c | c
      · have := Int.mul_neg_of_pos_of_neg (by omega : 0 < e) c
        omega
      · rw [c, Int.mul_zero] at de; omega
      · exact c
    by_cases hq : 2 ≤ q
    · have a1 := l e he ⟨q, de⟩
      have a2 := l q hq ⟨e, by rw [de, Int.mul_comm]⟩
      have : s * s ≤ e * q := Int.mul_le_mul a1 a2 (by omega) (by omega)
      omega
    · have : q = 1 := by omega
      rw [de, this, Int.mul_one]⟩
/-- a trial division under way: m is left of n, f found, s the next trial -/
structure Td (n m s : Int) (f : List Int) : Prop where
  m1 : 1 ≤ m
  dv : m ∣ n
  lo : ∀ e : Int, 2 ≤ e → e ∣ m → s ≤ e
  pr : ∀ p ∈ f, Pr p ∧ p ∣ n
  al : ∀ p, Pr p → p ∣ n → p ∈ f ∨ p ∣ m
  ln : 2 ^ f.length * m ≤ n
theorem Td.start {n : Int} (h : 1 ≤ n) : Td n n 2 [] := ⟨h, Int.dvd_refl n, fun e h _ => h, fun p h => (by cases h), fun p _ d => .inr d, by simp⟩
theorem div_of {s m : Int} (d : m % s = 0) : m = s * (m / s) := by have := Int.mul_ediv_add_emod m s; omega
/-- dividing out -/
theorem Td.half {n m s : Int} {f : List Int} (t : Td n m s f) (hs : 2 ≤ s) (hp : s ∈ f) (d : m % s = 0) : Td n (m / s) s f ∧ m / s < m := by
  have e := div_of d
  have m1 := t.m1
  generalize hq : m / s = q at *
  have q1 : 1 ≤ q := by
    by_cases c : 1 ≤ q
    · exact c
    · have : s * q ≤ 0 := Int.mul_nonpos_of_nonneg_of_nonpos (by omega) (by omega)
      omega
  have ql : q < m := by
    have : 2 * q ≤ s * q := Int.mul_le_mul_of_nonneg_right hs (by omega)
    omega
  have qm : q ∣ m := ⟨s, by rw [e, Int.mul_comm]⟩
  refine ⟨⟨q1, Int.dvd_trans qm t.dv, fun x hx dx => t.lo x hx (Int.dvd_trans dx qm), t.pr, fun p pp dp => ?_, ?_⟩, ql⟩
  · rcases t.al p pp dp with c | c
    · exact .inl c
    · rw [e] at c
      rcases pp.or c with c | c
      · have := pp.eq (t.pr s hp).1 c
        exact .inl (this ▸ hp)
      · exact .inr c
  · have l := t.ln
    have pos : (0 : Int) ≤ 2 ^ f.length := Int.le_of_lt (Int.pow_pos (by omega))
    have := Int.mul_le_mul_of_nonneg_left (Int.le_of_lt ql) pos
    omega
/-- a prime met -/
theorem Td.meet {n m s : Int} {f : List Int} (t : Td n m s f) (hs : 2 ≤ s) (d : m % s = 0) : Td n (m / s) s (f ++ [s]) ∧ m / s < m := by
  have e := div_of d
  have dm : s ∣ m := ⟨_, e⟩
  have ps := pr_of_least hs dm t.lo
  have m1 := t.m1
  generalize hq : m / s = q at *
  have q1 : 1 ≤ q := by
    by_cases c : 1 ≤ q
    · exact c
    · have : s * q ≤ 0 := Int.mul_nonpos_of_nonneg_of_nonpos (by omega) (by omega)
      omega
  have q2 : 2 * q ≤ m := by
    have : 2 * q ≤ s * q := Int.mul_le_mul_of_nonneg_right hs (by omega)
    omega
  have qm : q ∣ m := ⟨s, by rw [e, Int.mul_comm]⟩
  refine ⟨⟨q1, Int.dvd_trans qm t.dv, fun x hx dx => t.lo x hx (Int.dvd_trans dx qm), fun p hp => ?_, fun p pp dp => ?_, ?_⟩, by omega⟩
  · rcases List.mem_append.mp hp with c | c
    · exact t.pr p c
    · rw [List.mem_singleton.mp c]; exact ⟨ps, Int.dvd_trans dm t.dv⟩
  · rcases t.al p pp dp with c | c
    · exact .inl (List.mem_append_left _ c)
    · rw [e] at c
      rcases pp.or c with c | c
      · have := pp.eq ps c
        exact .inl (List.mem_append_right _ (List.mem_singleton.mpr this))
      · exact .inr c
  · have l := t.ln
    have pos : (0 : Int) ≤ 2 ^ f.length := Int.le_of_lt (Int.pow_pos (by omega))
    rw [List.length_append, List.length_singleton, Int.pow_succ, Int.mul_assoc]
    have := Int.mul_le_mul_of_nonneg_left q2 pos
    omega
/-- the next trial -/
theorem Td.step {n m s s' : Int} {f : List Int} (t : Td n m s f) (h : ∀ e : Int, 2 ≤ e → e ∣ m → e ≠ s → s ≤ e → s' ≤ e) (d : ¬ m % s = 0) : Td n m s' f :=
  { t with lo := fun e he de => h e he de (fun z => d (Int.emod_eq_zero_of_dvd (z ▸ de))) (t.lo e he de) }
theorem len_le {f : List Int} {m n : Int} (h : 2 ^ f.length * m ≤ n) (m1 : 1 ≤ m) (hn : n ≤ 1000000000) : f.length ≤ 29 := by
  by_cases c : f.length ≤ 29
  · exact c
  · exfalso
    have : (2 : Int) ^ 30 ≤ 2 ^ f.length := by
      have := Nat.pow_le_pow_right (n := 2) (by omega) (show 30 ≤ f.length by omega)
      exact_mod_cast this
    have h3 : (2 : Int) ^ f.length * 1 ≤ 2 ^ f.length * m := Int.mul_le_mul_of_nonneg_left m1 (Int.le_of_lt (Int.pow_pos (by omega)))
    have h4 : (2 : Int) ^ 30 = 1073741824 := by decide
    omega
/-- the end of it -/
theorem Td.done {n m s : Int} {f : List Int} (t : Td n m s f) (hs : 2 ≤ s) (b : m < s * s) (hn : n ≤ 1000000000) : PrimesOf n (if 1 < m then f ++ [m] else f) := by
  have l := len_le t.ln t.m1 hn
  by_cases c : 1 < m
  · rw [if_pos c]
    have pm := pr_of_big (by omega) (by omega) t.lo b
    refine ⟨fun p => ⟨fun h => ?_, fun ⟨pp, dp⟩ => ?_⟩, by simp; omega, by
      have l2 := t.ln
      rw [List.length_append, List.length_singleton, Int.pow_succ]
      have pos : (0 : Int) ≤ 2 ^ f.length := Int.le_of_lt (Int.pow_pos (by omega))
      have := Int.mul_le_mul_of_nonneg_left (show (2 : Int) ≤ m by omega) pos
      omega⟩
    · rcases List.mem_append.mp h with h | h
      · exact t.pr p h
      · rw [List.mem_singleton.mp h]; exact ⟨pm, t.dv⟩
    · rcases t.al p pp dp with h | h
      · exact List.mem_append_left _ h
      · exact List.mem_append_right _ (List.mem_singleton.mpr (pp.eq pm h))
  · rw [if_neg c]
    refine ⟨fun p => ⟨t.pr p, fun ⟨pp, dp⟩ => ?_⟩, by omega, by
      have l2 := t.ln
      have e1 : m = 1 := by have := t.m1; omega
      rw [e1, Int.mul_one] at l2
      exact l2⟩
    rcases t.al p pp dp with h | h
    · exact h
    · have := Int.le_of_dvd (by have := t.m1; omega) h
      have := pp.two
      omega
end K65

set_option maxRecDepth 100000
set_option maxHeartbeats 1000000
namespace K65
open PySem PySem.Spec PyProof.Rows L2 DD
theorem Td.le {n m s : Int} {f : List Int} (t : Td n m s f) : m ≤ n := by
  have l := t.ln
  have pos : (1 : Int) ≤ 2 ^ f.length := Int.pow_pos (by omega)
  have := Int.mul_le_mul_of_nonneg_right pos (Int.le_trans (by omega) t.m1)
  omega
theorem sq_small {s m : Int} (h0 : 0 ≤ s) (h : s * s ≤ m) (hm : m ≤ 1000000000) : s < 40000 := by
  by_cases c : s < 40000
  · exact c
  · have : (40000 : Int) * 40000 ≤ s * s := Int.mul_le_mul (by omega) (by omega) (by omega) (by omega)
    omega
theorem app_fresh {st : Store} {f : List Int} {x : Int} (h : f.length < 16777216) : appV (.ref st.length) [.int x] (st ++ [.lst (f.map .int)]) = .ok .non (st ++ [.lst ((f ++ [x]).map .int)]) := by
  rw [app_ref (l := f.map .int) get_new (by simpa using h)]
  rw [List.set_append_right _ _ (Nat.le_refl _)]
  simp
theorem ty_fresh {st : Store} {l : List D} : tyD (st ++ [.lst l]) (.ref st.length) = some .lst := by simp [tyD]
abbrev isL (st : Store) (p : Int × Int × List Int) (ls : LS) (z : Store) : Prop := ls = [some (.int p.1), some (.ref st.length), some (.int p.2.1)] ∧ z = st ++ [.lst (p.2.2.map .int)]
/-- the inner loop of prime_divisors -/
theorem inner1 {n m s : Int} {f : List Int} (st : Store) (t : Td n m s f) (hs : 2 ≤ s) (hb : s ≤ 50000) (d : m % s = 0) :
    ∃ ls' st', whileD wt2_prime_divisors wb1_prime_divisors [some (.int m), some (.ref st.length), some (.int s)] (st ++ [.lst ((f ++ [s]).map .int)]) = .nx ls' st' ∧ ∃ m', isL st (m', s, f ++ [s]) ls' st' ∧ Td n m' s (f ++ [s]) ∧ m' ∣ m ∧ ¬ m' % s = 0 := by
  have ds : divOk s = true := divOk_small (by omega) (by omega) (by omega)
  have s0 : ¬ s = 0 := by omega
  have ss : (0 : Int) ≤ s := by omega
  refine while_run (α := Int) (t := wt2_prime_divisors) (b := wb1_prime_divisors) (fun m' ls z => isL st (m', s, f ++ [s]) ls z ∧ 1 ≤ m' ∧ m' ∣ m ∧ (m' = m ∨ Td n m' s (f ++ [s]))) (fun m' => m'.toNat)
    (fun ls z => ∃ m', isL st (m', s, f ++ [s]) ls z ∧ Td n m' s (f ++ [s]) ∧ m' ∣ m ∧ ¬ m' % s = 0) (fun m' ls z ⟨⟨e1, e2⟩, m1, dm, c⟩ => ?_) m _ _ ⟨⟨rfl, rfl⟩, t.m1, Int.dvd_refl m, .inl rfl⟩
  subst e1 e2
  by_cases q : m' % s = 0
  · obtain ⟨t2, l2⟩ : Td n (m' / s) s (f ++ [s]) ∧ m' / s < m' := by
      rcases c with c | c
      · subst c; exact t.meet hs d
      · exact c.half hs (by simp) q
    have e := div_of q
    refine .inr ⟨_, _, _, m' / s, by simp [wt2_prime_divisors, ds, s0, ss]; exact ⟨q, rfl⟩, by simp [wb1_prime_divisors, ds, s0, ss]; exact rfl, ⟨⟨rfl, by simp⟩, t2.m1, Int.dvd_trans ⟨s, by rw [Int.mul_comm]; exact e⟩ dm, .inr t2⟩, by have := t2.m1; omega⟩
  · refine .inl ⟨_, by simp [wt2_prime_divisors, ds, s0, ss, q], m', ⟨rfl, rfl⟩, ?_, dm, q⟩
    rcases c with c | c
    · subst c; exact absurd d q
    · exact c
theorem outer1 {n : Int} (st : Store) (h1 : 1 ≤ n) (h2 : n ≤ 1000000000) : ∃ ls' st', whileD wt1_prime_divisors wb2_prime_divisors [some (.int n), some (.ref st.length), some (.int 2)] (st ++ [.lst []]) = .nx ls' st' ∧
    ∃ m s f, isL st (m, s, f) ls' st' ∧ Td n m s f ∧ 2 ≤ s ∧ m < s * s := by
  refine while_run (α := Int × Int × List Int) (t := wt1_prime_divisors) (b := wb2_prime_divisors)
      (fun p ls z => isL st p ls z ∧ Td n p.1 p.2.1 p.2.2 ∧ 2 ≤ p.2.1 ∧ p.2.1 ≤ 40001 ∧ (p.2.1 = 2 ∨ p.2.1 % 2 = 1 ∧ ¬ 2 ∣ p.1)) (fun p => (50000 - p.2.1).toNat)
      (fun ls z => ∃ m s f, isL st (m, s, f) ls z ∧ Td n m s f ∧ 2 ≤ s ∧ m < s * s) (fun ⟨m, s, f⟩ ls z ⟨⟨e1, e2⟩, t, s2, sb, par⟩ => ?_) (n, 2, []) [some (.int n), some (.ref st.length), some (.int 2)] (st ++ [.lst []]) ⟨⟨rfl, rfl⟩, Td.start h1, Int.le_refl 2, (by show (2 : Int) ≤ 40001; omega), .inl rfl⟩
  subst e1 e2
  simp only at t s2 sb par
  have ml := t.le
  have mk : mulOk s s = true := mulOk_l (by omega) (by omega)
  by_cases c : s * s ≤ m
  · have sl := sq_small (by omega) c (by omega)
    have ds : divOk s = true := divOk_small (by omega) (by omega) (by omega)
    have s0 : ¬ s = 0 := by omega
    have ss : (0 : Int) ≤ s := by omega
    obtain ⟨s', hs', es', sb'⟩ : ∃ s' : Int, s' = s + (if s = 2 then 1 else 2) ∧ s < s' ∧ s' ≤ 40001 := ⟨_, rfl, by split <;> omega, by split <;> omega⟩
    have stp : ∀ {m' : Int} {f' : List Int}, m' ∣ m → Td n m' s f' → ¬ m' % s = 0 → Td n m' s' f' ∧ 2 ≤ s' ∧ s' ≤ 40001 ∧ (s' = 2 ∨ s' % 2 = 1 ∧ ¬ 2 ∣ m') := fun {m' f'} dm t' nd => by
      have odd : ¬ 2 ∣ m' := by
        rcases par with q | ⟨_, q⟩
        · subst q; exact fun z => nd (Int.emod_eq_zero_of_dvd z)
        · exact fun z => q (Int.dvd_trans z dm)
      refine ⟨t'.step (fun e he de ne le => ?_) nd, by omega, sb', .inr ⟨?_, odd⟩⟩
      · rw [hs']
        split
        · omega
        · rename_i q
          have : s % 2 = 1 := by rcases par with z | z; exact absurd z q; exact z.1
          have : ¬ e = s + 1 := fun z => odd (Int.dvd_trans (by omega) de)
          omega
      · rw [hs']
        split
        · omega
        · rename_i q
          rcases par with z | z
          · exact absurd z q
          · omega
    have fin : (s = 2 ∧ s' = 3) ∨ (¬ s = 2 ∧ s' = s + 2) := by
      by_cases q : s = 2
      · exact .inl ⟨q, by rw [hs', if_pos q]; omega⟩
      · exact .inr ⟨q, by rw [hs', if_neg q]⟩
    by_cases d : m % s = 0
    · obtain ⟨ls1, st1, w1, m', ⟨e1, e2⟩, t1, dm, nd⟩ := inner1 st t s2 (by omega) d
      obtain ⟨t2, s3, b3, p3⟩ := stp dm t1 nd
      have fl := len_le t.ln t.m1 h2
      have ap := app_fresh (st := st) (f := f) (x := s) (by omega)
      subst e1 e2
      refine .inr ⟨_, _, _, (m', s', f ++ [s]), by simp [wt1_prime_divisors, mk]; exact ⟨c, rfl⟩, ?_, ⟨⟨rfl, rfl⟩, t2, s3, b3, p3⟩, by simp only; omega⟩
      simp at w1 ap
      rcases fin with ⟨q, q'⟩ | ⟨q, q'⟩
      · subst q q'
        simp [wb2_prime_divisors, ds, d, ty_fresh, ap, w1]
      · subst q'
        simp [wb2_prime_divisors, ds, d, s0, ss, q, ty_fresh, ap, w1]
    · obtain ⟨t2, s3, b3, p3⟩ := stp (Int.dvd_refl m) t d
      refine .inr ⟨_, _, _, (m, s', f), by simp [wt1_prime_divisors, mk]; exact ⟨c, rfl⟩, ?_, ⟨⟨rfl, rfl⟩, t2, s3, b3, p3⟩, by simp only; omega⟩
      rcases fin with ⟨q, q'⟩ | ⟨q, q'⟩
      · subst q q'
        simp [wb2_prime_divisors, ds, d]
      · subst q'
        simp [wb2_prime_divisors, ds, d, s0, ss, q]
  · exact .inl ⟨_, by simp [wt1_prime_divisors, mk, c], m, s, f, ⟨rfl, rfl⟩, t, s2, by omega⟩
theorem sp_prime_divisors {n : Int} (st : Store) (h1 : 1 ≤ n) (h2 : n ≤ 1000000000) : ∃ l, PrimesOf n l ∧ F_prime_divisors [.int n] st = .ok (.ref st.length) (st ++ [.lst (l.map .int)]) := by
  have key : Good_prime_divisors [.int n] st (F_prime_divisors [.int n] st) := by
    obtain ⟨ls', st', k1, m, s, f, ⟨e1, e2⟩, t, s2, sb⟩ := outer1 st h1 h2
    subst e1 e2
    have dn := t.done s2 sb h2
    have fl := len_le t.ln t.m1 h2
    have ap := app_fresh (st := st) (f := f) (x := m) (by omega)
    by_cases c : 1 < m
    · rw [if_pos c] at dn
      refine viaF_good ⟨n, rfl, h1, h2, _, dn, rfl⟩ fun _ _ => Pk.of_eq ?_
      simp at k1 ap
      simp [g_prime_divisors, k1, c, ty_fresh, ap]
    · rw [if_neg c] at dn
      refine viaF_good ⟨n, rfl, h1, h2, _, dn, rfl⟩ fun _ _ => Pk.of_eq ?_
      simp at k1
      simp [g_prime_divisors, k1, c]
  obtain ⟨n', e, _, _, l, p, eo⟩ := key
  cases e
  exact ⟨l, p, eo⟩
end K65

set_option maxRecDepth 100000
set_option maxHeartbeats 1000000
namespace K65
open PySem PySem.Spec PyProof.Rows L2 DD
theorem cat_ref {st : Store} {n m : Nat} {l k : List D} (h : st[n]? = some (.lst l)) (h' : st[m]? = some (.lst k)) (hl : l.length + k.length ≤ 16777216) : addV (.ref n) (.ref m) st = .ok (.ref st.length) (st ++ [.lst (l ++ k)]) := by
  show catL (.ref n) (.ref m) st = _
  unfold catL
  rw [show lstOf st (.ref n) = some l by simp [lstOf, h], show lstOf st (.ref m) = some k by simp [lstOf, h']]
  simp only [if_pos hl]
theorem inner2 {n m s : Int} {f : List Int} (st : Store) (t : Td n m s f) (hs : 2 ≤ s) (hb : s ≤ 50000) (d : m % s = 0) :
    ∃ ls' st', whileD wt2__law_primes_of wb1__law_primes_of [some (.int m), some (.ref st.length), some (.int s)] (st ++ [.lst ((f ++ [s]).map .int)]) = .nx ls' st' ∧ ∃ m', isL st (m', s, f ++ [s]) ls' st' ∧ Td n m' s (f ++ [s]) ∧ m' ∣ m ∧ ¬ m' % s = 0 := by
  have ds : divOk s = true := divOk_small (by omega) (by omega) (by omega)
  have s0 : ¬ s = 0 := by omega
  have ss : (0 : Int) ≤ s := by omega
  refine while_run (α := Int) (t := wt2__law_primes_of) (b := wb1__law_primes_of) (fun m' ls z => isL st (m', s, f ++ [s]) ls z ∧ 1 ≤ m' ∧ m' ∣ m ∧ (m' = m ∨ Td n m' s (f ++ [s]))) (fun m' => m'.toNat)
    (fun ls z => ∃ m', isL st (m', s, f ++ [s]) ls z ∧ Td n m' s (f ++ [s]) ∧ m' ∣ m ∧ ¬ m' % s = 0) (fun m' ls z ⟨⟨e1, e2⟩, m1, dm, c⟩ => ?_) m _ _ ⟨⟨rfl, rfl⟩, t.m1, Int.dvd_refl m, .inl rfl⟩
  subst e1 e2
  by_cases q : m' % s = 0
  · obtain ⟨t2, l2⟩ : Td n (m' / s) s (f ++ [s]) ∧ m' / s < m' := by
      rcases c with c | c
      · subst c; exact t.meet hs d
      · exact c.half hs (by simp) q
    have e := div_of q
    refine .inr ⟨_, _, _, m' / s, by simp [wt2__law_primes_of, ds, s0, ss]; exact ⟨q, rfl⟩, by simp [wb1__law_primes_of, ds, s0, ss]; exact rfl, ⟨⟨rfl, by simp⟩, t2.m1, Int.dvd_trans ⟨s, by rw [Int.mul_comm]; exact e⟩ dm, .inr t2⟩, by have := t2.m1; omega⟩
  · refine .inl ⟨_, by simp [wt2__law_primes_of, ds, s0, ss, q], m', ⟨rfl, rfl⟩, ?_, dm, q⟩
    rcases c with c | c
    · subst c; exact absurd d q
    · exact c
theorem outer2 {n : Int} (st : Store) (h1 : 1 ≤ n) (h2 : n ≤ 1000000000) : ∃ ls' st', whileD wt1__law_primes_of wb2__law_primes_of [some (.int n), some (.ref st.length), some (.int 2)] (st ++ [.lst []]) = .nx ls' st' ∧
    ∃ m s f, isL st (m, s, f) ls' st' ∧ Td n m s f ∧ 2 ≤ s ∧ m < s * s := by
  refine while_run (α := Int × Int × List Int) (t := wt1__law_primes_of) (b := wb2__law_primes_of)
      (fun p ls z => isL st p ls z ∧ Td n p.1 p.2.1 p.2.2 ∧ 2 ≤ p.2.1 ∧ p.2.1 ≤ 40001) (fun p => (50000 - p.2.1).toNat)
      (fun ls z => ∃ m s f, isL st (m, s, f) ls z ∧ Td n m s f ∧ 2 ≤ s ∧ m < s * s) (fun ⟨m, s, f⟩ ls z ⟨⟨e1, e2⟩, t, s2, sb⟩ => ?_) (n, 2, []) [some (.int n), some (.ref st.length), some (.int 2)] (st ++ [.lst []]) ⟨⟨rfl, rfl⟩, Td.start h1, Int.le_refl 2, (by show (2 : Int) ≤ 40001; omega)⟩
  subst e1 e2
  simp only at t s2 sb
  have ml := t.le
  have mk : mulOk s s = true := mulOk_l (by omega) (by omega)
  by_cases c : s * s ≤ m
  · have sl := sq_small (by omega) c (by omega)
    have ds : divOk s = true := divOk_small (by omega) (by omega) (by omega)
    have s0 : ¬ s = 0 := by omega
    have ss : (0 : Int) ≤ s := by omega
    have stp : ∀ {m' : Int} {f' : List Int}, Td n m' s f' → ¬ m' % s = 0 → Td n m' (s + 1) f' := fun {m' f'} t' nd => t'.step (fun e he de ne le => by omega) nd
    by_cases d : m % s = 0
    · obtain ⟨ls1, st1, w1, m', ⟨e1, e2⟩, t1, dm, nd⟩ := inner2 st t s2 (by omega) d
      have fl := len_le t.ln t.m1 h2
      have ap := app_fresh (st := st) (f := f) (x := s) (by omega)
      subst e1 e2
      refine .inr ⟨_, _, _, (m', s + 1, f ++ [s]), by simp [wt1__law_primes_of, mk]; exact ⟨c, rfl⟩, ?_, ⟨⟨rfl, rfl⟩, stp t1 nd, by show 2 ≤ s + 1; omega, by show s + 1 ≤ 40001; omega⟩, by simp only; omega⟩
      simp at w1 ap
      simp [wb2__law_primes_of, ds, d, s0, ss, ty_fresh, ap, w1]
    · refine .inr ⟨_, _, _, (m, s + 1, f), by simp [wt1__law_primes_of, mk]; exact ⟨c, rfl⟩, ?_, ⟨⟨rfl, rfl⟩, stp t d, by show 2 ≤ s + 1; omega, by show s + 1 ≤ 40001; omega⟩, by simp only; omega⟩
      simp [wb2__law_primes_of, ds, d, s0, ss]
  · exact .inl ⟨_, by simp [wt1__law_primes_of, mk, c], m, s, f, ⟨rfl, rfl⟩, t, s2, by omega⟩
theorem sp_law_primes_of {n : Int} (st : Store) (h1 : 1 ≤ n) (h2 : n ≤ 1000000000) : ∃ l, PrimesOf n l ∧ F__law_primes_of [.int n] st = .ok (.ref st.length) (st ++ [.lst (l.map .int)]) := by
  have key : Good__law_primes_of [.int n] st (F__law_primes_of [.int n] st) := by
    obtain ⟨ls', st', k1, m, s, f, ⟨e1, e2⟩, t, s2, sb⟩ := outer2 st h1 h2
    subst e1 e2
    have dn := t.done s2 sb h2
    have fl := len_le t.ln t.m1 h2
    by_cases c : 1 < m
    · rw [if_pos c] at dn
      refine viaF_good ⟨n, rfl, h1, h2, _, dn, rfl⟩ fun l1 _ => ?_
      have ca := cat_ref (st := st ++ [.lst (f.map .int)] ++ [.lst [.int m]]) (n := st.length) (m := st.length + 1) (l := f.map .int) (k := [.int m]) (by simp) (by simp) (by simp; omega)
      simp at k1 ca
      simp [g__law_primes_of, k1, c, ca]
      have hp := Pk.fresh1 (st := st) (g1 := [.lst (f.map .int), .lst [.int m]]) (g2 := []) (l := (f ++ [m]).map .int) (k := st.length + 2) l1 (ltDs_ints _ _) rfl
      simpa using hp
    · rw [if_neg c] at dn
      refine viaF_good ⟨n, rfl, h1, h2, _, dn, rfl⟩ fun _ _ => Pk.of_eq ?_
      simp at k1
      simp [g__law_primes_of, k1, c]
  obtain ⟨n', e, _, _, l, p, eo⟩ := key
  cases e
  exact ⟨l, p, eo⟩
end K65

set_option maxRecDepth 100000
set_option maxHeartbeats 1000000
namespace K65
open PySem PySem.Spec PyProof.Rows L2 DD
theorem sq_loop {z p : Int} {x : D} (st : Store) (hz : 1 ≤ z) (h1 : 2 ≤ p) (h2 : p ≤ 1000000000) : ∃ ls' st', whileD wt1__law_without_squares wb1__law_without_squares [some x, some (.int z), some (.int p)] st = .nx ls' st' ∧
    st = st' ∧ ∃ z' k, ls' = [some x, some (.int z'), some (.int p)] ∧ 1 ≤ z' ∧ z = z' * (k * k) ∧ ¬ p * p ∣ z' := by
  have mk : mulOk p p = true := mulOk_l (by omega) (by omega)
  have b1 : 2 * 2 ≤ p * p := Int.mul_le_mul h1 h1 (by omega) (by omega)
  have b2 : p * p ≤ 1000000000 * 1000000000 := Int.mul_le_mul h2 h2 (by omega) (by omega)
  generalize hP : p * p = P at *
  have dp : divOk P = true := divOk_small (by omega) (by omega) (by omega)
  have p0 : ¬ P = 0 := by omega
  have pp : (0 : Int) ≤ P := by omega
  refine while_run (α := Int) (t := wt1__law_without_squares) (b := wb1__law_without_squares) (fun m ls s => st = s ∧ ls = [some x, some (.int m), some (.int p)] ∧ 1 ≤ m ∧ ∃ k, z = m * (k * k)) (fun m => m.toNat)
    (fun ls s => st = s ∧ ∃ z' k, ls = [some x, some (.int z'), some (.int p)] ∧ 1 ≤ z' ∧ z = z' * (k * k) ∧ ¬ P ∣ z') (fun m ls s ⟨e1, e2, m1, k, e3⟩ => ?_) z _ st ⟨rfl, rfl, hz, 1, by simp⟩
  subst e1 e2
  by_cases c : m % P = 0
  · have e := div_of c
    generalize hq : m / P = q at *
    have q1 : 1 ≤ q := by
      by_cases c : 1 ≤ q
      · exact c
      · have : P * q ≤ 0 := Int.mul_nonpos_of_nonneg_of_nonpos (by omega) (by omega)
        omega
    have ql : 2 * q ≤ P * q := Int.mul_le_mul_of_nonneg_right (by omega) (by omega)
    refine .inr ⟨_, _, _, q, by simp [wt1__law_without_squares, mk, hP, dp, p0, pp]; exact ⟨c, rfl⟩, by simp [wb1__law_without_squares, mk, hP, dp, p0, pp, hq], ⟨rfl, rfl, q1, p * k, ?_⟩, by omega⟩
    rw [e3, e, ← hP]
    grind
  · exact .inl ⟨_, by simp [wt1__law_without_squares, mk, hP, dp, p0, pp, c], rfl, m, k, rfl, m1, e3, fun z => c (Int.emod_eq_zero_of_dvd z)⟩
theorem sp_law_without_squares {n : Int} (st : Store) (h : N9 n) : ∃ r, Wo n r ∧ F__law_without_squares [.int n] st = .ok (.int r) st := by
  have key : Good__law_without_squares [.int n] st (F__law_without_squares [.int n] st) := by
    have h0 := h.nz
    have hs := h.sm
    obtain ⟨N, hN⟩ : ∃ N : Int, N = n.natAbs := ⟨_, rfl⟩
    have ea : (if n < 0 then -n else n) = N := by omega
    obtain ⟨l, pl, e1⟩ := sp_law_primes_of (n := N) st (by omega) (by omega)
    obtain ⟨ls', st', k1, z, p, e2, e3, z1, ⟨k, ek⟩, fr⟩ := for_pre (ok := okB ⟨l.map D.int, [(st.length, l.map D.int)]⟩) (g := nameG 2) (b := fb1__law_without_squares)
      (fun pre ls s => ∃ z p, ls = [some (.int n), some (.int z), p] ∧ s = st ++ [.lst (l.map .int)] ∧ 1 ≤ z ∧ (∃ k, N = z * (k * k)) ∧ ∀ q : Int, D.int q ∈ pre → ¬ q * q ∣ z)
      (fun pre ls s ⟨_, _, _, e, _⟩ => by rw [e]; exact okB_iff.mpr fun p hp => by rw [List.mem_singleton.mp hp]; exact get_new) (l.map .int) [some (.int n), some (.int N), none] (st ++ [.lst (l.map .int)]) ⟨N, none, rfl, rfl, by omega, ⟨1, by simp⟩, fun q hq => (by cases hq)⟩ (fun pre d suf e ls s ⟨z, p, e2, e3, z1, ⟨k, ek⟩, fr⟩ => by
        subst e2 e3
        have dm : d ∈ l.map D.int := by rw [e]; simp
        obtain ⟨q, hq, rfl⟩ := List.mem_map.mp dm
        obtain ⟨pq, dq⟩ := (pl.mem q).mp hq
        have q2 := pq.two
        have qb := Int.le_of_dvd (by omega) dq
        obtain ⟨ls1, st1, w1, e4, z', k', rfl, z1', ez, nd⟩ := sq_loop (z := z) (p := q) (x := .int n) (st ++ [.lst (l.map .int)]) z1 q2 (by omega)
        subst e4
        refine ⟨_, _, _, _, rfl, .inl w1, z', _, rfl, rfl, z1', ⟨k' * k, by rw [ek, ez]; grind⟩, fun q' hq' => ?_⟩
        rcases List.mem_append.mp hq' with m | m
        · exact fun dd => fr q' m (Int.dvd_trans dd ⟨k' * k', ez⟩)
        · cases List.mem_singleton.mp m
          exact nd)
    subst e2 e3
    have wo : ∀ r : Int, (r = z ∨ r = -z) → n = r * (k * k) → Wo n r := fun r hr en => ⟨⟨k, en⟩, fun p pp dd => by
      have dz : p * p ∣ z := by
        rcases hr with q | q
        · exact q ▸ dd
        · rw [q] at dd; exact Int.dvd_neg.mp dd
      have dn : p ∣ N := Int.dvd_trans (Int.dvd_trans ⟨p, rfl⟩ dz) ⟨k * k, ek⟩
      exact fr p (List.mem_map.mpr ⟨p, (pl.mem p).mpr ⟨pp, dn⟩, rfl⟩) dz⟩
    by_cases c : 0 < n
    · refine viaF_good ⟨n, rfl, h, z, wo z (.inl rfl) (by omega), rfl⟩ fun l1 _ => ?_
      simp [g__law_without_squares, ea, e1, k1, c]
      exact Pk.dropG _ l1 rfl
    · refine viaF_good ⟨n, rfl, h, 0 - z, wo (0 - z) (.inr (by omega)) ?_, rfl⟩ fun l1 _ => ?_
      · have : n = -N := by omega
        rw [this, ek]
        grind
      · simp [g__law_without_squares, ea, e1, k1, c]
        exact Pk.dropG _ l1 rfl
  obtain ⟨n', e, _, r, w, eo⟩ := key
  cases e
  exact ⟨r, w, eo⟩
theorem sp_is_square_rest {n p : Int} (st : Store) (h1 : 3 ≤ p) (h2 : p ≤ 1000000000) : F__law_is_square_rest [.int n, .int p] st = .ok (.bl (decide (n ^ ((p - 1) / 2).toNat % p = 1))) st := by
  refine viaF_eq ⟨n, p, rfl, h1, h2, rfl⟩ (fun o' ⟨n', p', e, _, _, eo⟩ => ?_) fun _ _ => Pk.of_eq ?_
  · cases e; exact eo
  · have dp : divOk p = true := divOk_small (by omega) (by omega) (by omega)
    have d2 : divOk 2 = true := divOk_small (by omega) (by omega) (by omega)
    have p0 : ¬ p = 0 := by omega
    have pp : (0 : Int) ≤ p := by omega
    obtain ⟨m, hm⟩ : ∃ m : Nat, m = ((p - 1) / 2).toNat := ⟨_, rfl⟩
    have hm2 : (p - 1) / 2 = (m : Int) := by omega
    rw [← hm]
    have key := while_run (t := wt1__law_is_square_rest) (b := wb1__law_is_square_rest)
      (fun (k : Nat) ls s => st = s ∧ ∃ f h : Int, ls = [some (.int n), some (.int p), some (.int f), some (.int h), some (.int k)] ∧ (0 ≤ f ∧ f < p) ∧ (0 ≤ h ∧ h < p) ∧ f * h ^ k % p = n ^ m % p) (fun k => k)
      (fun ls s => st = s ∧ ∃ k h, ls = [some (.int n), some (.int p), some (.int (n ^ m % p)), h, k]) (fun k ls s ⟨e1, f, h, e2, bf, bh, e3⟩ => ?_) m [some (.int n), some (.int p), some (.int 1), some (.int (n % p)), some (.int m)] st ⟨rfl, 1, n % p, rfl, by omega, emod_bd (by omega), ?_⟩
    · obtain ⟨ls', st', k1, rfl, k, h, rfl⟩ := key
      simp [g__law_is_square_rest, dp, d2, p0, pp, hm2, k1]
    · subst e1 e2
      by_cases hk : k = 0
      · subst hk
        refine .inl ⟨_, by simp [wt1__law_is_square_rest], rfl, some (.int 0), some (.int h), ?_⟩
        rw [← e3, Int.pow_zero, Int.mul_one, Int.emod_eq_of_lt bf.1 bf.2]
        rfl
      · have hk' : (0 : Int) < k := by omega
        have m1 : ∀ y, mulOk f y = true := fun y => mulOk_l (by omega) (by omega)
        have m2 : ∀ y, mulOk h y = true := fun y => mulOk_l (by omega) (by omega)
        have ek : (((k / 2 : Nat) : Int)) = (k : Int) / 2 := by omega
        refine .inr ⟨_, _, _, k / 2, by simp [wt1__law_is_square_rest]; exact ⟨Nat.pos_of_ne_zero hk, rfl⟩, ?_, ⟨rfl, (if k % 2 = 1 then f * h % p else f), h * h % p, rfl, ?_, emod_bd (by omega), ?_⟩, by omega⟩
        · by_cases c : k % 2 = 1
          · have c' : (k : Int) % 2 = 1 := by omega
            simp [wb1__law_is_square_rest, dp, d2, p0, pp, m1, m2, c, c', ek]
          · have c' : ¬ (k : Int) % 2 = 1 := by omega
            simp [wb1__law_is_square_rest, dp, d2, p0, pp, m1, m2, c, c', ek]
        · split
          · exact emod_bd (by omega)
          · exact bf
        · rw [← e3, Int.mul_emod f (h ^ k), pow_bin h p k, ← Int.mul_emod]
          split
          · rw [← Int.mul_assoc, Int.mul_emod, Int.emod_emod, ← Int.mul_emod]
          · rw [Int.one_mul]
    · rw [Int.one_mul]
      have : ∀ k : Nat, (n % p) ^ k % p = n ^ k % p := fun k => by
        induction k with
        | zero => rw [Int.pow_zero, Int.pow_zero]
        | succ k ih => rw [Int.pow_succ, Int.pow_succ, Int.mul_emod, ih, Int.emod_emod, ← Int.mul_emod]
      rw [this]
end K65

set_option maxRecDepth 100000
set_option maxHeartbeats 1000000
namespace K65
open PySem PySem.Spec PyProof.Rows L2 DD
/-! Euler's test, for every odd prime number -/
def U (p : Int) : List Int := (List.range (p - 1).toNat).map fun i : Nat => ((i : Int) + 1)
theorem mem_U {p x : Int} : x ∈ U p ↔ 1 ≤ x ∧ x < p := by
  unfold U
  rw [List.mem_map]
  constructor
  · rintro ⟨i, hi, rfl⟩
    have := List.mem_range.mp hi
    omega
  · rintro ⟨h1, h2⟩
    exact ⟨(x - 1).toNat, List.mem_range.mpr (by omega), by omega⟩
theorem U_nodup (p : Int) : (U p).Nodup := by
  unfold U
  refine List.pairwise_map.mpr (List.Pairwise.imp (fun {a b} h e => ?_) (List.nodup_range (n := (p - 1).toNat)))
  omega
theorem U_len (p : Int) : (U p).length = (p - 1).toNat := by simp [U]
theorem Pr.not_dvd {p x : Int} (h1 : 1 ≤ x) (h2 : x < p) : ¬ p ∣ x := fun d => by
  have := Int.le_of_dvd (by omega) d
  omega
/-- quotients modulo a prime number -/
theorem quot_ex {p i a : Int} (hp : Pr p) (hi : ¬ p ∣ i) (ha : ¬ p ∣ a) : ∃ j, j ∈ U p ∧ p ∣ i * j - a := by
  have h2 := hp.two
  let f : Int → Int := fun j => i * j % p
  have sub : ∀ x ∈ (U p).map f, x ∈ U p := fun x hx => by
    obtain ⟨j, hj, rfl⟩ := List.mem_map.mp hx
    have hj := mem_U.mp hj
    have b := emod_bd (x := i * j) (p := p) (by omega)
    have : i * j % p ≠ 0 := fun z => by
      rcases hp.or (Int.dvd_of_emod_eq_zero z) with d | d
      · exact hi d
      · exact Pr.not_dvd hj.1 hj.2 d
    exact mem_U.mpr ⟨by show 1 ≤ i * j % p; omega, b.2⟩
  have nd : ((U p).map f).Nodup := by
    have := U_nodup p
    refine List.pairwise_map.mpr (List.Pairwise.imp_of_mem (fun {x y} hx hy hne => ?_) this)
    intro e
    have hx := mem_U.mp hx
    have hy := mem_U.mp hy
    have : p ∣ i * (x - y) := by
      rw [Int.mul_sub]
      exact Int.dvd_of_emod_eq_zero (Int.emod_eq_emod_iff_emod_sub_eq_zero.mp e)
    rcases hp.or this with d | d
    · exact hi d
    · obtain ⟨q, hq⟩ := d
      rcases (by omega : q ≤ -1 ∨ q = 0 ∨ 1 ≤ q) with c | c | c
      · have : p * q ≤ p * -1 := Int.mul_le_mul_of_nonneg_left c (by omega)
        omega
      · rw [c] at hq; omega
      · have : p * 1 ≤ p * q := Int.mul_le_mul_of_nonneg_left c (by omega)
        omega
  have b := emod_bd (x := a) (p := p) (by omega)
  have a0 : a % p ≠ 0 := fun z => ha (Int.dvd_of_emod_eq_zero z)
  by_cases c : a % p ∈ (U p).map f
  · obtain ⟨j, hj, e⟩ := List.mem_map.mp c
    exact ⟨j, hj, Int.dvd_of_emod_eq_zero (Int.emod_eq_emod_iff_emod_sub_eq_zero.mp e)⟩
  · exfalso
    have := GS.nodup_le (l := a % p :: (U p).map f) (D := U p) (List.nodup_cons.mpr ⟨c, nd⟩) fun x hx => by
      rcases List.mem_cons.mp hx with h | h
      · rw [h]; exact mem_U.mpr ⟨by omega, b.2⟩
      · exact sub x h
    simp at this
    omega
theorem quot_un {p i j k a : Int} (hp : Pr p) (hi : ¬ p ∣ i) (hj : j ∈ U p) (hk : k ∈ U p) (d : p ∣ i * j - a) (e : p ∣ i * k - a) : j = k := by
  have hj := mem_U.mp hj
  have hk := mem_U.mp hk
  have : p ∣ i * (j - k) := by
    have := Int.dvd_sub d e
    rwa [show i * j - a - (i * k - a) = i * (j - k) by grind] at this
  rcases hp.or this with c | ⟨q, hq⟩
  · exact absurd c hi
  · have h2 := hp.two
    rcases (by omega : q ≤ -1 ∨ q = 0 ∨ 1 ≤ q) with c | c | c
    · have : p * q ≤ p * -1 := Int.mul_le_mul_of_nonneg_left c (by omega)
      omega
    · rw [c] at hq; omega
    · have : p * 1 ≤ p * q := Int.mul_le_mul_of_nonneg_left c (by omega)
      omega
def prodL (l : List Int) : Int := l.foldr (· * ·) 1
theorem prodL_cons (x : Int) (l : List Int) : prodL (x :: l) = x * prodL l := rfl
theorem prodL_perm {l m : List Int} (h : l.Perm m) : prodL l = prodL m := by
  induction h with
  | nil => rfl
  | cons x _ ih => rw [prodL_cons, prodL_cons, ih]
  | swap x y l => simp only [prodL_cons]; grind
  | trans _ _ h1 h2 => rw [h1, h2]
/-- numbers that go by pairs -/
theorem pair_prod {p a : Int} (f : Int → Int) : ∀ (n : Nat) (L : List Int), L.length ≤ n → L.Nodup → (∀ x ∈ L, f x ∈ L ∧ f x ≠ x ∧ f (f x) = x ∧ p ∣ x * f x - a) → L.length % 2 = 0 ∧ p ∣ prodL L - a ^ (L.length / 2)
  | _, [], _, _, _ => ⟨rfl, by
    show p ∣ 1 - a ^ 0
    rw [Int.pow_zero]
    exact ⟨0, by omega⟩⟩
  | n + 1, x :: t, hn, nd, h => by
    obtain ⟨fm, fne, ff, fd⟩ := h x List.mem_cons_self
    have fmt : f x ∈ t := by
      rcases List.mem_cons.mp fm with c | c
      · exact absurd c fne
      · exact c
    have pm := List.perm_cons_erase fmt
    have ndt := (List.nodup_cons.mp nd).2
    have xt := (List.nodup_cons.mp nd).1
    have hl : t.length = (t.erase (f x)).length + 1 := by rw [pm.length_eq, List.length_cons]
    simp only [List.length_cons] at hn
    have ih := pair_prod f n (t.erase (f x)) (by omega) (ndt.erase _) fun y hy => by
      have hy' := (List.Nodup.mem_erase_iff ndt).mp hy
      obtain ⟨g1, g2, g3, g4⟩ := h y (List.mem_cons_of_mem _ hy'.2)
      refine ⟨?_, g2, g3, g4⟩
      refine (List.Nodup.mem_erase_iff ndt).mpr ⟨fun e => ?_, ?_⟩
      · have : y = x := by rw [← g3, e, ff]
        exact xt (this ▸ hy'.2)
      · rcases List.mem_cons.mp g1 with c | c
        · exact absurd (by rw [← g3, c]) hy'.1
        · exact c
    refine ⟨by rw [List.length_cons]; omega, ?_⟩
    have e1 : prodL (x :: t) = x * f x * prodL (t.erase (f x)) := by rw [prodL_cons, prodL_perm pm, prodL_cons]; grind
    have e2 : (x :: t).length / 2 = (t.erase (f x)).length / 2 + 1 := by rw [List.length_cons]; omega
    rw [e1, e2, Int.pow_succ]
    obtain ⟨u, hu⟩ := fd
    obtain ⟨v, hv⟩ := ih.2
    generalize a ^ ((t.erase (f x)).length / 2) = A at *
    generalize prodL (t.erase (f x)) = B at *
    generalize x * f x = C at *
    refine ⟨u * B + a * v, ?_⟩
    have : C = a + p * u := by omega
    have : B = A + p * v := by omega
    grind
/-- the quotient, as a function -/
noncomputable def qf (p a x : Int) : Int := open Classical in if h : ∃ j, j ∈ U p ∧ p ∣ x * j - a then Classical.choose h else 0
theorem qf_ok {p a x : Int} (hp : Pr p) (ha : ¬ p ∣ a) (hx : x ∈ U p) : qf p a x ∈ U p ∧ p ∣ x * qf p a x - a ∧ qf p a (qf p a x) = x := by
  have nd : ∀ {y}, y ∈ U p → ¬ p ∣ y := fun hy => Pr.not_dvd (mem_U.mp hy).1 (mem_U.mp hy).2
  have s : ∀ {y}, y ∈ U p → qf p a y ∈ U p ∧ p ∣ y * qf p a y - a := fun {y} hy => by
    have ex := quot_ex hp (nd hy) ha
    unfold qf
    rw [dif_pos ex]
    exact Classical.choose_spec ex
  obtain ⟨h1, h2⟩ := s hx
  obtain ⟨h3, h4⟩ := s h1
  refine ⟨h1, h2, quot_un hp (nd h1) h3 hx h4 (by rw [Int.mul_comm]; exact h2)⟩
theorem prod_no {p a : Int} (hp : Pr p) (ha : ¬ p ∣ a) (no : ¬ ∃ r, p ∣ r * r - a) : p ∣ prodL (U p) - a ^ ((p - 1) / 2).toNat := by
  have h := pair_prod (p := p) (a := a) (qf p a) _ (U p) (Nat.le_refl _) (U_nodup p) fun x hx => by
    obtain ⟨h1, h2, h3⟩ := qf_ok hp ha hx
    exact ⟨h1, fun e => no ⟨x, by rw [e] at h2; exact h2⟩, h3, h2⟩
  rw [U_len] at h
  rw [show ((p - 1) / 2).toNat = (p - 1).toNat / 2 by omega]
  exact h.2
theorem prod_yes {p a : Int} (hp : Od p) (ha : ¬ p ∣ a) (yes : ∃ r, p ∣ r * r - a) : p ∣ prodL (U p) + a ^ ((p - 1) / 2).toNat := by
  obtain ⟨hp, odd⟩ := hp
  have h2 := hp.two
  obtain ⟨r0, hr⟩ := yes
  obtain ⟨r, hr, rp⟩ : ∃ r, p ∣ r * r - a ∧ 1 ≤ r ∧ r < p := by
    have b := emod_bd (x := r0) (p := p) (by omega)
    have e : r0 = p * (r0 / p) + r0 % p := by have := Int.mul_ediv_add_emod r0 p; omega
    generalize r0 / p = q at e
    generalize r0 % p = s at *
    have hs : p ∣ s * s - a := by
      obtain ⟨w, hw⟩ := hr
      exact ⟨w - p * q * q - 2 * q * s, by rw [e] at hw; grind⟩
    refine ⟨s, hs, ?_, b.2⟩
    have : s ≠ 0 := fun z => ha (by
      rw [z] at hs
      have := Int.dvd_neg.mpr hs
      rwa [show -(0 * 0 - a) = a by omega] at this)
    omega
  have hru : r ∈ U p := mem_U.mpr rp
  have hsu : p - r ∈ U p := mem_U.mpr (by omega)
  have hne : p - r ≠ r := by omega
  have nd := U_nodup p
  have hs1 : p - r ∈ (U p).erase r := (List.Nodup.mem_erase_iff nd).mpr ⟨hne, hsu⟩
  have p1 := List.perm_cons_erase hru
  have p2 := List.perm_cons_erase hs1
  have nd1 := nd.erase r
  have e1 : prodL (U p) = r * ((p - r) * prodL (((U p).erase r).erase (p - r))) := by rw [prodL_perm p1, prodL_cons, prodL_perm p2, prodL_cons]
  have l1 : (U p).length = (((U p).erase r).erase (p - r)).length + 2 := by rw [p1.length_eq, List.length_cons, p2.length_eq, List.length_cons]
  have mem : ∀ y, y ∈ ((U p).erase r).erase (p - r) ↔ y ∈ U p ∧ y ≠ r ∧ y ≠ p - r := fun y => by
    rw [List.Nodup.mem_erase_iff nd1, List.Nodup.mem_erase_iff nd]
    constructor
    · rintro ⟨h1, h2, h3⟩; exact ⟨h3, h2, h1⟩
    · rintro ⟨h1, h2, h3⟩; exact ⟨h3, h2, h1⟩
  have nr : ∀ {y}, y ∈ U p → ¬ p ∣ y := fun hy => Pr.not_dvd (mem_U.mp hy).1 (mem_U.mp hy).2
  -- who is his own quotient is r or p - r
  have fix : ∀ y ∈ U p, p ∣ y * y - a → y = r ∨ y = p - r := fun y hy d => by
    have : p ∣ (y - r) * (y + r) := by
      have := Int.dvd_sub d hr
      rwa [show y * y - a - (r * r - a) = (y - r) * (y + r) by grind] at this
    have hy := mem_U.mp hy
    rcases hp.or this with ⟨q, hq⟩ | ⟨q, hq⟩
    · left
      rcases (by omega : q ≤ -1 ∨ q = 0 ∨ 1 ≤ q) with c | c | c
      · have : p * q ≤ p * -1 := Int.mul_le_mul_of_nonneg_left c (by omega)
        omega
      · rw [c] at hq; omega
      · have : p * 1 ≤ p * q := Int.mul_le_mul_of_nonneg_left c (by omega)
        omega
    · right
      rcases (by omega : q ≤ 0 ∨ q = 1 ∨ 2 ≤ q) with c | c | c
      · have : p * q ≤ p * 0 := Int.mul_le_mul_of_nonneg_left c (by omega)
        omega
      · rw [c] at hq; omega
      · have : p * 2 ≤ p * q := Int.mul_le_mul_of_nonneg_left c (by omega)
        omega
  have qr : qf p a r = r := by
    obtain ⟨h1, h3, _⟩ := qf_ok hp ha hru
    exact quot_un hp (nr hru) h1 hru h3 hr
  have qs : qf p a (p - r) = p - r := by
    obtain ⟨h1, h3, _⟩ := qf_ok hp ha hsu
    refine quot_un hp (nr hsu) h1 hsu h3 ?_
    obtain ⟨w, hw⟩ := hr
    exact ⟨p - 2 * r + w, by grind⟩
  have h := pair_prod (p := p) (a := a) (qf p a) _ (((U p).erase r).erase (p - r)) (Nat.le_refl _) (nd1.erase _) fun y hy => by
    obtain ⟨hu, y1, y2⟩ := (mem y).mp hy
    obtain ⟨h1, h3, h4⟩ := qf_ok hp ha hu
    refine ⟨(mem _).mpr ⟨h1, fun e => ?_, fun e => ?_⟩, fun e => ?_, h4, h3⟩
    · apply y1; rw [← h4, e, qr]
    · apply y2; rw [← h4, e, qs]
    · rw [e] at h3
      rcases fix y hu h3 with c | c
      · exact y1 c
      · exact y2 c
  obtain ⟨_, v, hv⟩ := h
  rw [U_len] at l1
  rw [show ((p - 1) / 2).toNat = (((U p).erase r).erase (p - r)).length / 2 + 1 by omega, e1, Int.pow_succ]
  obtain ⟨w, hw⟩ := hr
  generalize a ^ ((((U p).erase r).erase (p - r)).length / 2) = A at *
  generalize prodL (((U p).erase r).erase (p - r)) = B at *
  refine ⟨r * B - r * r * v - w * A, ?_⟩
  have e3 : B = A + p * v := by omega
  have e4 : r * r = a + p * w := by omega
  subst e3
  grind
theorem wilson {p : Int} (hp : Od p) : p ∣ prodL (U p) + 1 := by
  have h2 := hp.1.two
  have := prod_yes (a := 1) hp (Pr.not_dvd (by omega) (by have := hp.2; omega)) ⟨1, ⟨0, by omega⟩⟩
  rwa [Int.one_pow] at this
theorem eul_yes {p a : Int} (hp : Od p) (ha : ¬ p ∣ a) (yes : ∃ r, p ∣ r * r - a) : a ^ ((p - 1) / 2).toNat % p = 1 := by
  have h2 := hp.1.two
  have d := Int.dvd_sub (prod_yes hp ha yes) (wilson hp)
  generalize a ^ ((p - 1) / 2).toNat = A at *
  have : A % p = 1 % p := Int.emod_eq_emod_iff_emod_sub_eq_zero.mpr (Int.emod_eq_zero_of_dvd (by rwa [show prodL (U p) + A - (prodL (U p) + 1) = A - 1 by omega] at d))
  rw [this, Int.emod_eq_of_lt (by omega) (by have := hp.2; omega)]
theorem eul_no {p a : Int} (hp : Od p) (ha : ¬ p ∣ a) (no : ¬ ∃ r, p ∣ r * r - a) : a ^ ((p - 1) / 2).toNat % p = p - 1 := by
  have h2 := hp.1.two
  have d := Int.dvd_sub (wilson hp) (prod_no hp.1 ha no)
  generalize a ^ ((p - 1) / 2).toNat = A at *
  have : A % p = (p - 1) % p := Int.emod_eq_emod_iff_emod_sub_eq_zero.mpr (Int.emod_eq_zero_of_dvd (by
    obtain ⟨q, hq⟩ := d
    exact ⟨q - 1, by rw [Int.mul_sub]; omega⟩))
  rw [this, Int.emod_eq_of_lt (by omega) (by omega)]
theorem eul {p x : Int} (h : Od p) (hx : ¬ p ∣ x) : x ^ ((p - 1) / 2).toNat % p = 1 ∨ x ^ ((p - 1) / 2).toNat % p = p - 1 := by
  by_cases c : ∃ r, p ∣ r * r - x
  · exact .inl (eul_yes h hx c)
  · exact .inr (eul_no h hx c)
/-- what Euler's test tells is a square modulo p -/
theorem bp_ex {p x : Int} (h : Od p) (hx : ¬ p ∣ x) (e : bp x p = 1) : ∃ r, p ∣ r * r - x := by
  by_cases c : ∃ r, p ∣ r * r - x
  · exact c
  · have h2 := h.1.two
    have := eul_no h hx c
    unfold bp at e
    rw [this, if_neg (by have := h.2; omega)] at e
    cases e
theorem bp_sq {p x r : Int} (h : Od p) (hx : ¬ p ∣ x) (d : p ∣ r * r - x) : bp x p = 1 := by
  unfold bp
  rw [eul_yes h hx ⟨r, d⟩, if_pos rfl]
theorem bp_m1 {p : Int} (h : Od p) : bp (-1) p = if p % 4 = 3 then -1 else 1 := by
  have h2 := h.1.two
  have ho := h.2
  have e : ∀ k : Nat, (-1 : Int) ^ k = if k % 2 = 1 then -1 else 1 := fun k => by
    induction k with
    | zero => rfl
    | succ k ih =>
      rw [Int.pow_succ, ih]
      rcases (by omega : k % 2 = 0 ∨ k % 2 = 1) with c | c
      · rw [if_neg (by omega), if_pos (by omega)]; rfl
      · rw [if_pos (by omega), if_neg (by omega)]; rfl
  unfold bp
  rw [e]
  by_cases c : p % 4 = 3
  · rw [if_pos (show ((p - 1) / 2).toNat % 2 = 1 by omega), if_pos c, if_neg]
    have : (-1 : Int) % p = p - 1 := by
      have : (-1 : Int) = (p - 1) + p * (-1) := by omega
      rw [this, Int.add_mul_emod_self_left, Int.emod_eq_of_lt (by omega) (by omega)]
    omega
  · rw [if_neg (show ¬ ((p - 1) / 2).toNat % 2 = 1 by omega), if_neg c, if_pos (Int.emod_eq_of_lt (by omega) (by omega))]
end K65

set_option maxRecDepth 100000
set_option maxHeartbeats 1000000
namespace K65
open PySem PySem.Spec PyProof.Rows L2 DD
/-! powers and rests -/
theorem dec_uniq {p : Int} (hp : 2 ≤ p) : ∀ {a b : Nat} {u v : Int}, p ^ a * u = p ^ b * v → ¬ p ∣ u → ¬ p ∣ v → a = b ∧ u = v
  | 0, 0, u, v, e, _, _ => by
    rw [Int.pow_zero, Int.one_mul, Int.one_mul] at e
    exact ⟨rfl, e⟩
  | 0, b + 1, u, v, e, hu, _ => by
    rw [Int.pow_zero, Int.one_mul, Int.pow_succ, Int.mul_comm (p ^ b) p, Int.mul_assoc] at e
    exact absurd ⟨_, e⟩ hu
  | a + 1, 0, u, v, e, _, hv => by
    rw [Int.pow_zero, Int.one_mul, Int.pow_succ, Int.mul_comm (p ^ a) p, Int.mul_assoc] at e
    exact absurd ⟨_, e.symm⟩ hv
  | a + 1, b + 1, u, v, e, hu, hv => by
    rw [Int.pow_succ, Int.pow_succ, Int.mul_comm (p ^ a) p, Int.mul_comm (p ^ b) p, Int.mul_assoc, Int.mul_assoc] at e
    have := dec_uniq hp (Int.eq_of_mul_eq_mul_left (by omega) e) hu hv
    exact ⟨by rw [this.1], this.2⟩
theorem va_eq {p n u : Int} {a : Nat} (hp : 2 ≤ p) (h0 : n ≠ 0) (e : n = p ^ a * u) (hu : ¬ p ∣ u) : va p n = a ∧ un p n = u := by
  obtain ⟨e2, h2⟩ := va_un hp h0
  exact dec_uniq hp (e2.symm.trans e) h2 hu
theorem va_mul {p n m : Int} (hp : Pr p) (hn : n ≠ 0) (hm : m ≠ 0) : va p (n * m) = va p n + va p m ∧ un p (n * m) = un p n * un p m := by
  obtain ⟨e1, h1⟩ := va_un hp.two hn
  obtain ⟨e2, h2⟩ := va_un hp.two hm
  refine va_eq hp.two (Int.mul_ne_zero hn hm) ?_ fun d => (hp.or d).elim h1 h2
  conv => lhs; rw [e1, e2]
  rw [Int.pow_add]
  grind
theorem va_neg {p n : Int} (hp : Pr p) (hn : n ≠ 0) : va p (-n) = va p n ∧ un p (-n) = - un p n := by
  obtain ⟨e1, h1⟩ := va_un hp.two hn
  refine va_eq hp.two (by omega) ?_ fun d => h1 (Int.dvd_neg.mp d)
  conv => lhs; rw [e1]
  rw [Int.mul_neg]
theorem va_off {p n : Int} (hp : 2 ≤ p) (hn : n ≠ 0) (h : ¬ p ∣ n) : va p n = 0 ∧ un p n = n := va_eq hp hn (by simp) h
/-! the marks are multiplicative -/
theorem pr2 : Pr 2 := ⟨by omega, fun d h ⟨q, e⟩ => by
  have q1 : 0 < q := by
    rcases Int.lt_trichotomy q 0 with c | c | c
    · have := Int.mul_neg_of_pos_of_neg (by omega : 0 < d) c; omega
    · rw [c] at e; omega
    · exact c
  have : 2 * q ≤ d * q := Int.mul_le_mul_of_nonneg_right h (by omega)
  have : q = 1 := by omega
  rw [this] at e; omega⟩
theorem pow_mod (x p : Int) : ∀ k : Nat, (x % p) ^ k % p = x ^ k % p
  | 0 => by rw [Int.pow_zero, Int.pow_zero]
  | k + 1 => by rw [Int.pow_succ, Int.pow_succ, Int.mul_emod, pow_mod x p k, Int.emod_emod, ← Int.mul_emod]
theorem bp_mul {p x y : Int} (h : Od p) (hx : ¬ p ∣ x) (hy : ¬ p ∣ y) : bp (x * y) p = bp x p * bp y p := by
  have h2 := h.1.two
  have ho := h.2
  have e : (x * y) ^ ((p - 1) / 2).toNat % p = (x ^ ((p - 1) / 2).toNat % p) * (y ^ ((p - 1) / 2).toNat % p) % p := by rw [Int.mul_pow, Int.mul_emod]
  unfold bp
  rw [e]
  have p1 : ¬ p - 1 = 1 := by omega
  have q1 : (p - 1) * (p - 1) % p = 1 := by
    have : (p - 1) * (p - 1) = 1 + p * (p - 2) := by grind
    rw [this, Int.add_mul_emod_self_left, Int.emod_eq_of_lt (by omega) (by omega)]
  have q2 : (p - 1) % p = p - 1 := Int.emod_eq_of_lt (by omega) (by omega)
  have q3 : 1 % p = 1 := Int.emod_eq_of_lt (by omega) (by omega)
  rcases eul h hx with a | a <;> rcases eul h hy with b | b <;> rw [a, b] <;> simp [p1, q1, q2, q3]
theorem bp_one {p x : Int} (h : 3 ≤ p) (e : x % p = 1) : bp x p = 1 := by
  unfold bp
  rw [if_pos]
  rw [← pow_mod, e, Int.one_pow, Int.emod_eq_of_lt (by omega) (by omega)]
theorem odd8 {u : Int} (h : ¬ 2 ∣ u) : u % 8 = 1 ∨ u % 8 = 3 ∨ u % 8 = 5 ∨ u % 8 = 7 := by omega
theorem b48 {u : Int} (h : ¬ 2 ∣ u) : (u % 8 = 1 ∧ b4 u = 1 ∧ b8 u = 1) ∨ (u % 8 = 3 ∧ b4 u = -1 ∧ b8 u = -1) ∨ (u % 8 = 5 ∧ b4 u = 1 ∧ b8 u = -1) ∨ (u % 8 = 7 ∧ b4 u = -1 ∧ b8 u = 1) := by
  unfold b4 b8
  rcases odd8 h with c | c | c | c
  · exact .inl ⟨c, if_pos (by omega), if_pos (by omega)⟩
  · exact .inr (.inl ⟨c, if_neg (by omega), if_neg (by omega)⟩)
  · exact .inr (.inr (.inl ⟨c, if_pos (by omega), if_neg (by omega)⟩))
  · exact .inr (.inr (.inr ⟨c, if_neg (by omega), if_pos (by omega)⟩))
theorem odd_mul {u v : Int} (hu : ¬ 2 ∣ u) (hv : ¬ 2 ∣ v) : ¬ 2 ∣ u * v := fun d => (pr2.or d).elim hu hv
theorem b48_mul {u v : Int} (hu : ¬ 2 ∣ u) (hv : ¬ 2 ∣ v) : b4 (u * v) = b4 u * b4 v ∧ b8 (u * v) = b8 u * b8 v := by
  have e : (u * v) % 8 = (u % 8) * (v % 8) % 8 := Int.mul_emod u v 8
  rcases b48 hu with ⟨a, a1, a2⟩ | ⟨a, a1, a2⟩ | ⟨a, a1, a2⟩ | ⟨a, a1, a2⟩ <;> rcases b48 hv with ⟨b, c1, c2⟩ | ⟨b, c1, c2⟩ | ⟨b, c1, c2⟩ | ⟨b, c1, c2⟩ <;> rw [a, b] at e <;> rw [a1, a2, c1, c2] <;>
    rcases b48 (odd_mul hu hv) with ⟨d, d1, d2⟩ | ⟨d, d1, d2⟩ | ⟨d, d1, d2⟩ | ⟨d, d1, d2⟩ <;> rw [d] at e <;> first | (exfalso; revert e; decide) | (rw [d1, d2]; decide)
theorem pm_mul {x y : Int} (hx : x = 1 ∨ x = -1) (hy : y = 1 ∨ y = -1) : x * y = 1 ∨ x * y = -1 := by rcases hx with rfl | rfl <;> rcases hy with rfl | rfl <;> decide
theorem pm_sq {x : Int} (hx : x = 1 ∨ x = -1) : x * x = 1 := by rcases hx with rfl | rfl <;> decide
end K65

set_option maxRecDepth 100000
set_option maxHeartbeats 2000000
namespace K65
open PySem PySem.Spec PyProof.Rows L2 DD
theorem Pl.cases {p : Int} (h : Pl p) : p = 0 ∨ p = 2 ∨ (Od p ∧ ¬ p = 0 ∧ ¬ p = 2) := by
  rcases h with h | h | h
  · exact .inl h
  · exact .inr (.inl h)
  · have := h.1.two
    have := h.2
    exact .inr (.inr ⟨h, by omega, by omega⟩)
def et (x y : Int) : Int := if x = -1 ∧ y = -1 then -1 else 1
def pw (a : Nat) (x : Int) : Int := if a % 2 = 1 then x else 1
theorem et_mul {x y z : Int} (hx : x = 1 ∨ x = -1) (hy : y = 1 ∨ y = -1) (hz : z = 1 ∨ z = -1) : et x (y * z) = et x y * et x z := by
  rcases hx with rfl | rfl <;> rcases hy with rfl | rfl <;> rcases hz with rfl | rfl <;> decide
theorem et_comm (x y : Int) : et x y = et y x := by unfold et; simp [and_comm]
theorem pw_add {x : Int} (hx : x = 1 ∨ x = -1) (a b : Nat) : pw (a + b) x = pw a x * pw b x := by
  unfold pw
  rcases (by omega : (a % 2 = 0 ∧ b % 2 = 0 ∧ (a + b) % 2 = 0) ∨ (a % 2 = 0 ∧ b % 2 = 1 ∧ (a + b) % 2 = 1) ∨ (a % 2 = 1 ∧ b % 2 = 0 ∧ (a + b) % 2 = 1) ∨ (a % 2 = 1 ∧ b % 2 = 1 ∧ (a + b) % 2 = 0)) with ⟨h1, h2, h3⟩ | ⟨h1, h2, h3⟩ | ⟨h1, h2, h3⟩ | ⟨h1, h2, h3⟩ <;> simp [h1, h2, h3, pm_sq hx]
theorem pw_mul (a : Nat) (x y : Int) : pw a (x * y) = pw a x * pw a y := by unfold pw; split <;> simp
theorem pm_pw {x : Int} (hx : x = 1 ∨ x = -1) (a : Nat) : pw a x = 1 ∨ pw a x = -1 := by unfold pw; split <;> simp [hx]
theorem pm_et (x y : Int) : et x y = 1 ∨ et x y = -1 := by unfold et; split <;> simp
theorem s2_eq (a : Nat) (u : Int) (b : Nat) (v : Int) : s2 a u b v = et (b4 u) (b4 v) * pw a (b8 v) * pw b (b8 u) := rfl
/-- the part of p % 4 = 3 -/
def tt (p : Int) (a b : Nat) : Int := if a % 2 = 1 ∧ b % 2 = 1 ∧ p % 4 = 3 then -1 else 1
theorem sp_eq (p : Int) (a : Nat) (u : Int) (b : Nat) (v : Int) : sp p a u b v = tt p a b * pw b (bp u p) * pw a (bp v p) := rfl
theorem tt_comm (p : Int) (a b : Nat) : tt p a b = tt p b a := by unfold tt; congr 1; exact propext (by constructor <;> rintro ⟨x, y, z⟩ <;> exact ⟨y, x, z⟩)
theorem pm_tt (p : Int) (a b : Nat) : tt p a b = 1 ∨ tt p a b = -1 := by unfold tt; split <;> simp
theorem tt_add (p : Int) (a b c : Nat) : tt p a (b + c) = tt p a b * tt p a c := by
  unfold tt
  by_cases ha : a % 2 = 1
  · by_cases hp : p % 4 = 3
    · rcases (by omega : (b % 2 = 0 ∧ c % 2 = 0 ∧ (b + c) % 2 = 0) ∨ (b % 2 = 0 ∧ c % 2 = 1 ∧ (b + c) % 2 = 1) ∨ (b % 2 = 1 ∧ c % 2 = 0 ∧ (b + c) % 2 = 1) ∨ (b % 2 = 1 ∧ c % 2 = 1 ∧ (b + c) % 2 = 0)) with ⟨h1, h2, h3⟩ | ⟨h1, h2, h3⟩ | ⟨h1, h2, h3⟩ | ⟨h1, h2, h3⟩ <;> simp [h1, h2, h3, ha, hp]
    · simp [hp]
  · simp [ha]
theorem sgp2 (a : Nat) (u : Int) (b : Nat) (v : Int) : sgp 2 a u b v = s2 a u b v := rfl
theorem sgpo {p : Int} (h : ¬ p = 2) (a : Nat) (u : Int) (b : Nat) (v : Int) : sgp p a u b v = sp p a u b v := if_neg h
theorem sg_pm (p n m : Int) : sg p n m = 1 ∨ sg p n m = -1 := by
  unfold sg
  split
  · split <;> simp
  · unfold sgp
    split
    · rw [s2_eq]; exact pm_mul (pm_mul (pm_et _ _) (pm_pw (pm_b8 _) _)) (pm_pw (pm_b8 _) _)
    · rw [sp_eq]; exact pm_mul (pm_mul (pm_tt _ _ _) (pm_pw (pm_bp _ _) _)) (pm_pw (pm_bp _ _) _)
theorem sg_sym (p n m : Int) : sg p n m = sg p m n := by
  unfold sg
  split
  · simp [and_comm]
  · unfold sgp
    split
    · rw [s2_eq, s2_eq, et_comm, Int.mul_assoc, Int.mul_assoc, Int.mul_comm (pw _ _)]
    · rw [sp_eq, sp_eq, tt_comm, Int.mul_assoc, Int.mul_assoc, Int.mul_comm (pw _ _)]
theorem sg_mul {p n m t : Int} (hp : Pl p) (hn : n ≠ 0) (hm : m ≠ 0) (ht : t ≠ 0) : sg p n (m * t) = sg p n m * sg p n t := by
  rcases hp.cases with rfl | rfl | ⟨ho, p0, p2⟩
  · unfold sg
    simp only [if_true]
    by_cases c : n < 0
    · rcases Int.lt_or_gt_of_ne hm with a | a <;> rcases Int.lt_or_gt_of_ne ht with b | b
      · have := Int.mul_pos_of_neg_of_neg a b
        simp [c, a, b, show ¬ m * t < 0 by omega]
      · have := Int.mul_neg_of_neg_of_pos a b
        simp [c, a, this, show ¬ t < 0 by omega]
      · have := Int.mul_neg_of_pos_of_neg a b
        simp [c, b, this, show ¬ m < 0 by omega]
      · have := Int.mul_pos a b
        simp [c, show ¬ m * t < 0 by omega, show ¬ t < 0 by omega, show ¬ m < 0 by omega]
    · simp [c]
  · obtain ⟨e1, e2⟩ := va_mul pr2 hm ht
    obtain ⟨_, hu⟩ := va_un pr2.two hn
    obtain ⟨_, hv⟩ := va_un pr2.two hm
    obtain ⟨_, hw⟩ := va_un pr2.two ht
    obtain ⟨q1, q2⟩ := b48_mul hv hw
    unfold sg
    rw [if_neg (by decide), if_neg (by decide), if_neg (by decide), sgp2, sgp2, sgp2, s2_eq, s2_eq, s2_eq, e1, e2, q1, q2, et_mul (pm_b4 _) (pm_b4 _) (pm_b4 _), pw_mul, pw_add (pm_b8 _)]
    generalize et _ _ = x1
    generalize et _ _ = x2
    generalize pw _ _ = x3
    generalize pw _ _ = x4
    generalize pw _ _ = x5
    generalize pw _ _ = x6
    grind
  · have pp := ho.1
    obtain ⟨e1, e2⟩ := va_mul pp hm ht
    obtain ⟨_, hv⟩ := va_un pp.two hm
    obtain ⟨_, hw⟩ := va_un pp.two ht
    unfold sg
    rw [if_neg p0, if_neg p0, if_neg p0, sgpo p2, sgpo p2, sgpo p2, sp_eq, sp_eq, sp_eq, e1, e2, bp_mul ho hv hw, tt_add, pw_mul, pw_add (pm_bp _ _)]
    generalize tt _ _ _ = x1
    generalize tt _ _ _ = x2
    generalize pw _ _ = x3
    generalize pw _ _ = x4
    generalize pw _ _ = x5
    generalize pw _ _ = x6
    grind
theorem sg_sq {p n m k : Int} (hp : Pl p) (hn : n ≠ 0) (hm : m ≠ 0) (hk : k ≠ 0) : sg p n (m * (k * k)) = sg p n m := by
  rw [sg_mul hp hn hm (Int.mul_ne_zero hk hk), sg_mul hp hn hk hk, pm_sq (sg_pm _ _ _), Int.mul_one]
theorem sg_one (p n : Int) (hp : Pl p) (hn : n ≠ 0) : sg p n 1 = 1 := by
  have := sg_sq (k := 1) hp hn (m := 1) (by omega) (by omega)
  have h := sg_mul (m := 1) (t := 1) hp hn (by omega) (by omega)
  rw [Int.mul_one] at h
  rcases sg_pm p n 1 with c | c
  · exact c
  · rw [c] at h; omega
end K65

set_option maxRecDepth 100000
set_option maxHeartbeats 2000000
namespace K65
open PySem PySem.Spec PyProof.Rows L2 DD
theorem neg8 {u : Int} (h : ¬ 2 ∣ u) : ¬ 2 ∣ -u := fun d => h (Int.dvd_neg.mp d)
theorem sg_neg {p n : Int} (hp : Pl p) (hn : n ≠ 0) : sg p n (-n) = 1 := by
  rcases hp.cases with rfl | rfl | ⟨ho, p0, p2⟩
  · unfold sg
    rw [if_pos rfl, if_neg (by omega)]
  · obtain ⟨e1, e2⟩ := va_neg pr2 hn
    obtain ⟨_, hu⟩ := va_un pr2.two hn
    unfold sg
    rw [if_neg (by decide), sgp2, s2_eq, e1, e2]
    generalize un 2 n = u at *
    generalize va 2 n = a at *
    have key : et (b4 u) (b4 (-u)) = 1 ∧ b8 (-u) = b8 u := by
      rcases b48 hu with ⟨a, a1, a2⟩ | ⟨a, a1, a2⟩ | ⟨a, a1, a2⟩ | ⟨a, a1, a2⟩ <;> rcases b48 (neg8 hu) with ⟨b, c1, c2⟩ | ⟨b, c1, c2⟩ | ⟨b, c1, c2⟩ | ⟨b, c1, c2⟩ <;> first | (exfalso; omega) | (rw [a1, a2, c1, c2]; exact ⟨by decide, rfl⟩)
    rw [key.1, key.2, Int.one_mul, pm_sq (pm_pw (pm_b8 _) _)]
  · have pp := ho.1
    have h2 := pp.two
    obtain ⟨e1, e2⟩ := va_neg pp hn
    obtain ⟨_, hu⟩ := va_un pp.two hn
    unfold sg
    rw [if_neg p0, sgpo p2, sp_eq, e1, e2]
    generalize un p n = u at *
    generalize va p n = a at *
    have hm : ¬ p ∣ -1 := fun d => by
      have := Int.le_of_dvd (by omega) (Int.dvd_neg.mp d)
      omega
    have e3 : bp (-u) p = bp (-1) p * bp u p := by
      rw [← bp_mul ho hm hu]
      congr 1
      omega
    rw [e3, pw_mul, bp_m1 ho]
    have key : tt p a a * pw a (if p % 4 = 3 then -1 else 1) = 1 := by
      unfold tt pw
      by_cases c1 : a % 2 = 1 <;> by_cases c2 : p % 4 = 3 <;> simp [c1, c2]
    have sq := pm_sq (pm_pw (pm_bp u p) a)
    generalize pw a (bp u p) = x at *
    generalize pw a (if p % 4 = 3 then -1 else 1) = y at *
    generalize tt p a a = z at *
    have : z * x * (y * x) = (z * y) * (x * x) := by grind
    rw [this, key, sq]; rfl
theorem sg_off {p n m : Int} (hp : Pl p) (p0 : p ≠ 0) (p2 : p ≠ 2) (hn : n ≠ 0) (hm : m ≠ 0) (h1 : ¬ p ∣ n) (h2 : ¬ p ∣ m) : sg p n m = 1 := by
  rcases hp with h | h | h
  · exact absurd h p0
  · exact absurd h p2
  · have := h.1.two
    obtain ⟨e1, e2⟩ := va_off (p := p) this hn h1
    obtain ⟨e3, e4⟩ := va_off (p := p) this hm h2
    unfold sg
    rw [if_neg p0, sgpo p2, sp_eq, e1, e3]
    unfold tt pw
    simp
theorem wo_ne {n r : Int} (h : Wo n r) (h0 : n ≠ 0) : r ≠ 0 ∧ ∃ k : Int, k ≠ 0 ∧ n = r * (k * k) := by
  obtain ⟨k, e⟩ := h.sq
  refine ⟨fun z => h0 (by rw [e, z, Int.zero_mul]), k, fun z => h0 (by rw [e, z]; simp), e⟩
theorem wo_le {n r : Int} (h : Wo n r) (h0 : n ≠ 0) : r.natAbs ≤ n.natAbs := by
  obtain ⟨r0, k, k0, e⟩ := wo_ne h h0
  rw [e, Int.natAbs_mul]
  have : 1 ≤ (k * k).natAbs := by
    have := Int.mul_ne_zero k0 k0
    omega
  exact Nat.le_mul_of_pos_right _ this
/-- a number without squares: its rest at p -/
theorem wo_va {p n r : Int} (hp : Pr p) (h : Wo n r) (h0 : n ≠ 0) : (p ∣ r ∧ va p r = 1 ∧ un p r = r / p) ∨ (¬ p ∣ r ∧ va p r = 0 ∧ un p r = r) := by
  have r0 := (wo_ne h h0).1
  have p2 := hp.two
  by_cases d : p ∣ r
  · left
    refine ⟨d, ?_⟩
    obtain ⟨q, rfl⟩ := d
    have e : p * q / p = q := Int.mul_ediv_cancel_left q (by omega)
    rw [e]
    refine va_eq p2 r0 (by rw [Int.pow_succ, Int.pow_zero, Int.one_mul]) fun ⟨t, e⟩ => ?_
    exact h.free p hp ⟨t, by rw [e, Int.mul_assoc]⟩
  · right
    exact ⟨d, va_off p2 r0 d⟩
theorem sg_wo {p n m r s : Int} (hp : Pl p) (hn : Wo n r) (hm : Wo m s) (n0 : n ≠ 0) (m0 : m ≠ 0) : sg p n m = sg p r s := by
  obtain ⟨r0, k, k0, e⟩ := wo_ne hn n0
  obtain ⟨s0, j, j0, e'⟩ := wo_ne hm m0
  rw [e', sg_sq hp n0 s0 j0, sg_sym, e, sg_sq hp s0 r0 k0, sg_sym]
end K65

set_option maxRecDepth 100000
set_option maxHeartbeats 2000000
namespace K65
open PySem PySem.Spec PyProof.Rows L2 DD
theorem sg_even {n m : Int} (hn : n ≠ 0) (hm0 : m ≠ 0) (h2 : 2 ∣ n) (h8 : 8 ∣ m + n - 1) : sg 2 n m = 1 := by
  obtain ⟨e, hu⟩ := va_un (p := 2) (by omega) hn
  have hm : ¬ 2 ∣ m := by omega
  obtain ⟨e1, e2⟩ := va_off (p := 2) (n := m) (by omega) hm0 hm
  unfold sg
  rw [if_neg (by decide), sgp2, s2_eq, e1, e2]
  generalize un 2 n = u at *
  generalize va 2 n = a at *
  have pz : pw 0 (b8 u) = 1 := rfl
  rw [pz, Int.mul_one]
  match a, e with
  | 0, e =>
    rw [Int.pow_zero, Int.one_mul] at e
    exact absurd (e ▸ h2) hu
  | 1, e =>
    have pz : pw 1 (b8 m) = b8 m := rfl
    rw [pz]
    have e : n = 2 * u := by rw [e]; rfl
    rcases b48 hu with ⟨a, a1, a2⟩ | ⟨a, a1, a2⟩ | ⟨a, a1, a2⟩ | ⟨a, a1, a2⟩ <;> rcases b48 hm with ⟨b, c1, c2⟩ | ⟨b, c1, c2⟩ | ⟨b, c1, c2⟩ | ⟨b, c1, c2⟩ <;> first | (exfalso; omega) | (rw [a1, c1, c2]; decide)
  | 2, e =>
    have e : n = 4 * u := by rw [e]; rfl
    have pz : pw 2 (b8 m) = 1 := rfl
    rw [pz, Int.mul_one]
    rcases b48 hm with ⟨b, c1, c2⟩ | ⟨b, c1, c2⟩ | ⟨b, c1, c2⟩ | ⟨b, c1, c2⟩ <;> first | (exfalso; omega) | (rw [c1]; unfold et; simp)
  | a + 3, e =>
    have e : n = 8 * (2 ^ a * u) := by rw [e, Int.pow_add]; grind
    generalize 2 ^ a * u = q at e
    rcases b48 hm with ⟨b, c1, c2⟩ | ⟨b, c1, c2⟩ | ⟨b, c1, c2⟩ | ⟨b, c1, c2⟩ <;> first | (exfalso; omega) | skip
    rw [c1, c2]
    have : pw (a + 3) 1 = 1 := by unfold pw; split <;> rfl
    rw [this]
    unfold et
    simp
theorem sg_unit {p n m s : Int} (hp : Od p) (hn : n ≠ 0) (hm : m ≠ 0) (h : ¬ p ∣ m) (d : p ∣ s * s - m) : sg p n m = 1 := by
  have h2 := hp.1.two
  have ho := hp.2
  obtain ⟨e1, e2⟩ := va_off (p := p) (n := m) h2 hm h
  unfold sg
  rw [if_neg (by omega), sgpo (by omega), sp_eq, e1, e2, bp_sq hp h d]
  unfold tt pw
  simp
theorem odd_sq8 {t : Int} (h : ¬ 2 ∣ t) : 8 ∣ t * t - 1 := by
  obtain ⟨q, r, e⟩ : ∃ q r : Int, t = 8 * q + r ∧ (r = 1 ∨ r = 3 ∨ r = 5 ∨ r = 7) := ⟨t / 8, t % 8, by omega, by omega⟩
  obtain ⟨e, hr⟩ := e
  have : t * t = 8 * (8 * q * q + 2 * q * r) + r * r := by rw [e]; grind
  rw [this]
  rcases hr with rfl | rfl | rfl | rfl <;> omega
/-- who make a sum -/
theorem sg_sum {p : Int} (hp : Pl p) : ∀ (n : Nat) {u v t : Int}, t.natAbs ≤ n → u ≠ 0 → v ≠ 0 → t ≠ 0 → u + v = t → sg p (u * t) (v * t) = 1
  | 0, u, v, t, hn, _, _, h, _ => by omega
  | n + 1, u, v, t, hn, hu, hv, ht, e => by
    have ut := Int.mul_ne_zero hu ht
    have vt := Int.mul_ne_zero hv ht
    rcases hp.cases with rfl | rfl | ⟨ho, p0, p2⟩
    · unfold sg
      rw [if_pos rfl, if_neg]
      rintro ⟨h1, h2⟩
      have e1 : u * t + v * t = t * t := by rw [← Int.add_mul, e]
      have : 0 ≤ t * t := by
        rcases Int.le_total 0 t with h | h
        · exact Int.mul_nonneg h h
        · exact Int.mul_nonneg_of_nonpos_of_nonpos h h
      omega
    · by_cases c : 2 ∣ u ∧ 2 ∣ v
      · obtain ⟨⟨u', rfl⟩, ⟨v', rfl⟩⟩ := c
        have et : t = 2 * (u' + v') := by omega
        have ih := sg_sum hp n (u := u') (v := v') (t := u' + v') (by omega) (by omega) (by omega) (by omega) rfl
        have k1 : 2 * u' * t = u' * (u' + v') * (2 * 2) := by rw [et]; grind
        have k2 : 2 * v' * t = v' * (u' + v') * (2 * 2) := by rw [et]; grind
        have n1 : u' * (u' + v') ≠ 0 := Int.mul_ne_zero (by omega) (by omega)
        have n2 : v' * (u' + v') ≠ 0 := Int.mul_ne_zero (by omega) (by omega)
        rw [k2, sg_sq hp ut n2 (by omega), sg_sym, k1, sg_sq hp n2 n1 (by omega), sg_sym]
        exact ih
      · by_cases c1 : 2 ∣ u
        · refine sg_even ut vt (Int.dvd_trans c1 (Int.dvd_mul_right u t)) ?_
          have := odd_sq8 (t := t) (by omega)
          rwa [show v * t + u * t - 1 = t * t - 1 by rw [← e]; grind]
        · by_cases c2 : 2 ∣ v
          · rw [sg_sym]
            refine sg_even vt ut (Int.dvd_trans c2 (Int.dvd_mul_right v t)) ?_
            have := odd_sq8 (t := t) (by omega)
            rwa [show u * t + v * t - 1 = t * t - 1 by rw [← e]; grind]
          · have c3 : 2 ∣ t := by omega
            have uv : -(u * v) ≠ 0 := by have := Int.mul_ne_zero hu hv; omega
            have k := sg_mul (m := v * t) (t := -(u * t)) hp ut vt (by omega)
            rw [sg_neg hp ut, Int.mul_one, show v * t * -(u * t) = -(u * v) * (t * t) by grind, sg_sq hp ut uv ht] at k
            rw [← k]
            refine sg_even ut uv (Int.dvd_trans c3 (Int.dvd_mul_left u t)) ?_
            have := odd_sq8 c1
            rwa [show -(u * v) + u * t - 1 = u * u - 1 by rw [← e]; grind]
    · have pp := ho.1
      by_cases c : p ∣ u ∧ p ∣ v
      · obtain ⟨⟨u', rfl⟩, ⟨v', rfl⟩⟩ := c
        have h2 := pp.two
        have et : t = p * (u' + v') := by rw [← e]; grind
        have u0 : u' ≠ 0 := fun z => hu (by rw [z, Int.mul_zero])
        have v0 : v' ≠ 0 := fun z => hv (by rw [z, Int.mul_zero])
        have t0 : u' + v' ≠ 0 := fun z => ht (by rw [et, z, Int.mul_zero])
        have lt : (u' + v').natAbs ≤ n := by
          have : t.natAbs = p.natAbs * (u' + v').natAbs := by rw [et, Int.natAbs_mul]
          have : 2 * (u' + v').natAbs ≤ p.natAbs * (u' + v').natAbs := Nat.mul_le_mul_right _ (by omega)
          omega
        have ih := sg_sum hp n (u := u') (v := v') (t := u' + v') lt u0 v0 t0 rfl
        have k1 : p * u' * t = u' * (u' + v') * (p * p) := by rw [et]; grind
        have k2 : p * v' * t = v' * (u' + v') * (p * p) := by rw [et]; grind
        have n1 : u' * (u' + v') ≠ 0 := Int.mul_ne_zero u0 t0
        have n2 : v' * (u' + v') ≠ 0 := Int.mul_ne_zero v0 t0
        rw [k2, sg_sq hp ut n2 (by omega), sg_sym, k1, sg_sq hp n2 n1 (by omega), sg_sym]
        exact ih
      · by_cases c1 : p ∣ u
        · have cv : ¬ p ∣ v := fun d => c ⟨c1, d⟩
          have ct : ¬ p ∣ t := fun d => cv (by
            have := Int.dvd_sub d c1
            rwa [show t - u = v by omega] at this)
          refine sg_unit (s := t) ho ut vt (fun d => (pp.or d).elim cv ct) ?_
          rw [show t * t - v * t = u * t by rw [← e]; grind]
          exact Int.dvd_trans c1 (Int.dvd_mul_right u t)
        · by_cases c2 : p ∣ v
          · have ct : ¬ p ∣ t := fun d => c1 (by
              have := Int.dvd_sub d c2
              rwa [show t - v = u by omega] at this)
            rw [sg_sym]
            refine sg_unit (s := t) ho vt ut (fun d => (pp.or d).elim c1 ct) ?_
            rw [show t * t - u * t = v * t by rw [← e]; grind]
            exact Int.dvd_trans c2 (Int.dvd_mul_right v t)
          · by_cases c3 : p ∣ t
            · have uv : -(u * v) ≠ 0 := by have := Int.mul_ne_zero hu hv; omega
              have k := sg_mul (m := v * t) (t := -(u * t)) hp ut vt (by omega)
              rw [sg_neg hp ut, Int.mul_one, show v * t * -(u * t) = -(u * v) * (t * t) by grind, sg_sq hp ut uv ht] at k
              rw [← k]
              refine sg_unit (s := u) ho ut uv (fun d => (pp.or (Int.dvd_neg.mp d)).elim c1 c2) ?_
              rw [show u * u - -(u * v) = u * t by rw [← e]; grind]
              exact Int.dvd_trans c3 (Int.dvd_mul_left u t)
            · exact sg_off hp p0 p2 ut vt (fun d => (pp.or d).elim c1 c3) (fun d => (pp.or d).elim c2 c3)
theorem sg_unit1 {p n : Int} (hp : Pl p) (hn : n ≠ 0) : sg p n 1 = 1 := sg_one p n hp hn
/-- where there is a solution the sign is 1 -/
theorem sg_norm {p A B x y w : Int} (hp : Pl p) (hA : A ≠ 0) (hB : B ≠ 0) (e : A * (x * x) + B * (y * y) = w * w) (nz : ¬ (x = 0 ∧ y = 0)) : sg p A B = 1 := by
  by_cases hx : x = 0
  · have hy : y ≠ 0 := fun h => nz ⟨hx, h⟩
    have yy := Int.mul_ne_zero hy hy
    have e : B * (y * y) = w * w := by rw [← e, hx]; omega
    have hw : w ≠ 0 := fun h => Int.mul_ne_zero hB yy (by rw [e, h]; rfl)
    rw [← sg_sq (k := y) hp hA hB hy, e, ← Int.one_mul (w * w), sg_sq hp hA (by omega) hw]
    exact sg_one p A hp hA
  · by_cases hy : y = 0
    · have xx := Int.mul_ne_zero hx hx
      have e : A * (x * x) = w * w := by rw [← e, hy]; omega
      have hw : w ≠ 0 := fun h => Int.mul_ne_zero hA xx (by rw [e, h]; rfl)
      rw [sg_sym, ← sg_sq (k := x) hp hB hA hx, e, ← Int.one_mul (w * w), sg_sq hp hB (by omega) hw]
      exact sg_one p B hp hB
    · have ax := Int.mul_ne_zero hA (Int.mul_ne_zero hx hx)
      have by' := Int.mul_ne_zero hB (Int.mul_ne_zero hy hy)
      have g : sg p A B = sg p (A * (x * x)) (B * (y * y)) := by
        rw [sg_sq hp ax hB hy, sg_sym p (A * (x * x)), sg_sq hp hB hA hx, sg_sym]
      by_cases hw : w = 0
      · have : B * (y * y) = -(A * (x * x)) := by rw [hw] at e; omega
        rw [g, this]
        exact sg_neg hp ax
      · have ww := Int.mul_ne_zero hw hw
        have k := sg_sum hp _ (Nat.le_refl _) ax by' ww e
        rw [sg_sq hp (Int.mul_ne_zero ax ww) by' hw, sg_sym, sg_sq hp by' ax hw, sg_sym] at k
        rw [g]; exact k
/-! the same conic, told otherwise -/
def Sl (a b c : Int) : Prop := ∀ p, Pl p → sg p (-(a * c)) (-(b * c)) = 1
theorem nm {a b : Int} (ha : a ≠ 0) (hb : b ≠ 0) : -(a * b) ≠ 0 := by have := Int.mul_ne_zero ha hb; omega
theorem Sl.s12 {a b c : Int} (h : Sl a b c) : Sl b a c := fun p hp => by rw [sg_sym]; exact h p hp
theorem Sl.s13 {a b c : Int} (ha : a ≠ 0) (hb : b ≠ 0) (hc : c ≠ 0) (h : Sl a b c) : Sl c b a := fun p hp => by
  have n1 := nm ha hc
  have n2 := nm hb hc
  have n3 := nm hb ha
  have k := sg_mul (m := -(b * c)) (t := -(b * a)) hp n1 n2 n3
  rw [h p hp, Int.one_mul, show -(b * c) * -(b * a) = a * c * (b * b) by grind, sg_sq hp n1 (Int.mul_ne_zero ha hc) hb] at k
  have j := sg_neg hp n1
  rw [Int.neg_neg] at j
  rw [j] at k
  rw [Int.mul_comm c a]
  exact k.symm
theorem Sl.perm {a b c : Int} (ha : a ≠ 0) (hb : b ≠ 0) (hc : c ≠ 0) (h : Sl a b c) {l : List Int} (p : List.Perm l [a, b, c]) : ∃ x y z, l = [x, y, z] ∧ Sl x y z := by
  have s12 := @Sl.s12
  have s13 := @Sl.s13
  have len := p.length_eq
  match l, len with
  | [x, y, z], _ =>
    refine ⟨x, y, z, rfl, ?_⟩
    have mx : x ∈ [a, b, c] := p.subset List.mem_cons_self
    have h1 : Sl a b c := h
    have h2 : Sl b a c := h.s12
    have h3 : Sl c b a := h.s13 ha hb hc
    have h4 : Sl b c a := h3.s12
    have h5 : Sl c a b := h2.s13 hb ha hc
    have h6 : Sl a c b := h5.s12
    have q : ∀ {u v : Int} {m : List Int}, List.Perm (x :: [y, z]) m → List.Perm m (x :: [u, v]) → (y = u ∧ z = v) ∨ (y = v ∧ z = u) := fun {u v m} p1 p2 => by
      have p3 : List.Perm [y, z] [u, v] := List.Perm.cons_inv (p1.trans p2)
      have my : y ∈ [u, v] := p3.subset List.mem_cons_self
      simp only [List.mem_cons, List.not_mem_nil, or_false] at my
      rcases my with e | e
      · subst e
        have := List.Perm.cons_inv p3
        exact .inl ⟨rfl, by simpa using this⟩
      · subst e
        have := List.Perm.cons_inv (p3.trans (List.Perm.swap y u []))
        exact .inr ⟨rfl, by simpa using this⟩
    simp only [List.mem_cons, List.not_mem_nil, or_false] at mx
    rcases mx with e | e | e
    · subst e
      rcases q p (List.Perm.refl _) with ⟨rfl, rfl⟩ | ⟨rfl, rfl⟩
      · exact h1
      · exact h6
    · subst e
      rcases q p (List.Perm.swap x a [c]) with ⟨rfl, rfl⟩ | ⟨rfl, rfl⟩
      · exact h2
      · exact h4
    · subst e
      rcases q p ((List.Perm.cons a (List.Perm.swap x b [])).trans (List.Perm.swap x a [b])) with ⟨rfl, rfl⟩ | ⟨rfl, rfl⟩
      · exact h5
      · exact h3
theorem Sl.wo {a b c a' b' c' : Int} (ha : a ≠ 0) (hb : b ≠ 0) (hc : c ≠ 0) (wa : Wo a a') (wb : Wo b b') (wc : Wo c c') : Sl a b c ↔ Sl a' b' c' := by
  obtain ⟨a0, k, k0, ea⟩ := wo_ne wa ha
  obtain ⟨b0, l, l0, eb⟩ := wo_ne wb hb
  obtain ⟨c0, m, m0, ec⟩ := wo_ne wc hc
  have key : ∀ p, Pl p → sg p (-(a * c)) (-(b * c)) = sg p (-(a' * c')) (-(b' * c')) := fun p hp => by
    have e1 : -(a * c) = -(a' * c') * ((k * m) * (k * m)) := by rw [ea, ec]; grind
    have e2 : -(b * c) = -(b' * c') * ((l * m) * (l * m)) := by rw [eb, ec]; grind
    rw [e2, sg_sq hp (nm ha hc) (nm b0 c0) (Int.mul_ne_zero l0 m0), sg_sym, e1, sg_sq hp (nm b0 c0) (nm a0 c0) (Int.mul_ne_zero k0 m0), sg_sym]
  exact ⟨fun h p hp => (key p hp).symm.trans (h p hp), fun h p hp => (key p hp).trans (h p hp)⟩
theorem Sl.neg {a b c : Int} : Sl a b c ↔ Sl (-a) (-b) (-c) := by
  unfold Sl
  rw [show -(-a * -c) = -(a * c) by grind, show -(-b * -c) = -(b * c) by grind]
/-- a conic with a point -/
theorem Sl.point {a b c x y z : Int} (ha : a ≠ 0) (hb : b ≠ 0) (hc : c ≠ 0) (nz : ¬ (x = 0 ∧ y = 0 ∧ z = 0)) (e : a * x * x + b * y * y + c * z * z = 0) : Sl a b c := fun p hp => by
  refine sg_norm (x := x) (y := y) (w := c * z) hp (nm ha hc) (nm hb hc) ?_ fun ⟨hx, hy⟩ => ?_
  · have : -(a * c) * (x * x) + -(b * c) * (y * y) = -(c * (a * x * x + b * y * y)) := by grind
    rw [this, show a * x * x + b * y * y = -(c * z * z) by omega]
    grind
  · rw [hx, hy] at e
    have : c * z * z = 0 := by omega
    have hz : z ≠ 0 := fun h => nz ⟨hx, hy, h⟩
    exact Int.mul_ne_zero (Int.mul_ne_zero hc hz) hz this
end K65

set_option maxRecDepth 100000
set_option maxHeartbeats 1000000
namespace K65
open PySem PySem.Spec PyProof.Rows L2 DD
/-! dicts as sets of ints -/
structure Ks (kvs : List (Key × D)) (P : Int → Prop) (ns : List Int) : Prop where
  ks : kvs.map (·.1) = ns.map Sum.inl
  nd : ns.Nodup
  mem : ∀ x, x ∈ ns ↔ P x
theorem Ks.put {kvs : List (Key × D)} {P : Int → Prop} {ns : List Int} {p : Int} {v : D} (k : Ks kvs P ns) : ∃ ns', Ks (putD kvs (.inl p) v) (fun x => P x ∨ x = p) ns' ∧ ns'.length ≤ ns.length + 1 := by
  have e : (kvs.any fun kv => decide (kv.1 = .inl p)) = decide (p ∈ ns) := by
    have : (kvs.any fun kv => decide (kv.1 = Sum.inl p)) = (kvs.map (·.1)).any fun c => decide (c = Sum.inl p) := by rw [List.any_map]; rfl
    rw [this, k.ks, List.any_map]
    rw [Bool.eq_iff_iff]
    simp
  unfold putD
  rw [e]
  by_cases c : p ∈ ns
  · rw [if_pos (decide_eq_true c)]
    refine ⟨ns, ⟨?_, k.nd, fun x => ?_⟩, Nat.le_succ _⟩
    · rw [← k.ks, List.map_map]
      refine List.map_congr_left fun kv _ => ?_
      simp only [Function.comp_apply]
      split <;> rfl
    · rw [k.mem]
      refine ⟨.inl, fun h => ?_⟩
      rcases h with h | h
      · exact h
      · rw [h]; exact (k.mem p).mp c
  · rw [if_neg (by simp [c])]
    refine ⟨ns ++ [p], ⟨?_, ?_, fun x => ?_⟩, by simp⟩
    · rw [List.map_append, k.ks, List.map_append]; rfl
    · rw [List.nodup_append]
      refine ⟨k.nd, by simp, fun a ha b hb => ?_⟩
      rw [List.mem_singleton.mp hb]
      exact fun z => c (z ▸ ha)
    · rw [List.mem_append, List.mem_singleton, k.mem]
theorem ks_len {kvs : List (Key × D)} {P : Int → Prop} {ns : List Int} (k : Ks kvs P ns) : kvs.length = ns.length := by
  have := congrArg List.length k.ks
  rwa [List.length_map, List.length_map] at this
theorem ks_keyIs : ∀ {kvs : List (Key × D)} {ns : List Int}, kvs.map (·.1) = ns.map Sum.inl → keyIs_ kvs = some ns
  | [], [], _ => rfl
  | [], _ :: _, h => by cases h
  | (c, d) :: kvs, [], h => by cases h
  | (c, d) :: kvs, n :: ns, h => by
    simp only [List.map_cons, List.cons.injEq] at h
    obtain ⟨rfl, h⟩ := h
    show (keyIs_ kvs).map (n :: ·) = _
    rw [ks_keyIs h]; rfl
theorem Ks.merge : ∀ {more kvs : List (Key × D)} {P Q : Int → Prop} {ms ns : List Int}, Ks kvs P ns → more.map (·.1) = ms.map Sum.inl → (∀ x, x ∈ ms ↔ Q x) → ∃ ns', Ks (mergeD kvs more) (fun x => P x ∨ Q x) ns' ∧ ns'.length ≤ ns.length + ms.length
  | [], kvs, P, Q, ms, ns, k, h, q => by
    have : ms = [] := by cases ms with | nil => rfl | cons a b => cases h
    subst this
    refine ⟨ns, ⟨k.ks, k.nd, fun x => ?_⟩, by simp⟩
    rw [k.mem]
    exact ⟨.inl, fun z => z.elim id fun z => by simpa using (q x).mpr z⟩
  | (c, d) :: more, kvs, P, Q, [], ns, k, h, q => by cases h
  | (c, d) :: more, kvs, P, Q, m :: ms, ns, k, h, q => by
    simp only [List.map_cons, List.cons.injEq] at h
    obtain ⟨rfl, h⟩ := h
    obtain ⟨n1, k1, l1⟩ := k.put (p := m) (v := d)
    obtain ⟨n2, k2, l2⟩ := k1.merge h (Q := fun x => x ∈ ms) fun x => Iff.rfl
    refine ⟨n2, ⟨k2.ks, k2.nd, fun x => ?_⟩, by simp only [List.length_cons]; omega⟩
    rw [k2.mem, ← q x, List.mem_cons, or_assoc]
theorem dc_run {S : Store} {its : Its} {lsw : LS} (hw : ∀ d : D, getL (setL lsw 3 d) 3 = some d) : ∀ (l : List Int) (acc : List (Key × D)) (P : Int → Prop) (ns : List Int), (∀ acc', okB its (S ++ [.dic acc']) = true) → Ks acc P ns → ns.length + l.length < 1000 →
    ∃ acc' ns', dcL (okB its) S.length (nameG 3) yesT dk1_places_for dv1_places_for lsw (l.map .int) (S ++ [.dic acc]) = .ok (.ref S.length) (S ++ [.dic acc']) ∧ Ks acc' (fun x => P x ∨ x ∈ l) ns' ∧ ns'.length ≤ ns.length + l.length
  | [], acc, P, ns, ok, k, hl => ⟨acc, ns, by unfold dcL; rw [List.map_nil]; simp only; rw [if_pos (ok _)], ⟨k.ks, k.nd, fun x => by rw [k.mem]; simp⟩, by simp⟩
  | p :: l, acc, P, ns, ok, k, hl => by
    simp only [List.length_cons] at hl
    obtain ⟨n1, k1, l1⟩ := k.put (p := p) (v := .bl true)
    obtain ⟨acc', n2, e, k2, l2⟩ := dc_run hw l _ _ n1 ok k1 (by omega)
    refine ⟨acc', n2, ?_, ⟨k2.ks, k2.nd, fun x => by rw [k2.mem, List.mem_cons, or_assoc]⟩, by simp only [List.length_cons]; omega⟩
    rw [← e, List.map_cons]
    conv => lhs; unfold dcL
    rw [if_pos (ok _)]
    have g1 : nameG 3 (.int p) lsw (S ++ [.dic acc]) = .ok (setL lsw 3 (.int p)) (S ++ [.dic acc]) := rfl
    have f1 : dk1_places_for (setL lsw 3 (.int p)) (S ++ [.dic acc]) = .ok (.int p) (S ++ [.dic acc]) := by simp [dk1_places_for, hw]
    have f2 : dv1_places_for (setL lsw 3 (.int p)) (S ++ [.dic acc]) = .ok (.bl true) (S ++ [.dic acc]) := rfl
    have ck : cellK (S ++ [.dic acc]) S.length = some acc := by simp [cellK]
    have hacc := ks_len k
    simp only [g1, yesT, f1, f2, if_true, keyD, ck]
    rw [if_pos (by omega)]
    rw [List.set_append_right _ _ (Nat.le_refl _)]
    simp
theorem places_body {st g : Store} {kvs : List (Key × D)} {P : Int → Prop} {ns : List Int} {x : Int} {t z : Option D} (hx : N9 x) (hx2 : x.natAbs ≤ 1000) (k : Ks kvs P ns) (hl : ns.length < 100) :
    ∃ kvs' ns' g', fb1_places_for [t, some (.ref st.length), some (.int x), z] (st ++ [.dic kvs] ++ g) = .nx [t, some (.ref st.length), some (.int x), z] (st ++ [.dic kvs'] ++ g') ∧ Ks kvs' (fun y => P y ∨ Pr y ∧ y ∣ x) ns' ∧ ns'.length ≤ ns.length + 9 := by
  have h0 := hx.nz
  have hs := hx.sm
  obtain ⟨N, hN⟩ : ∃ N : Int, N = x.natAbs := ⟨_, rfl⟩
  have ea : (if x < 0 then -x else x) = N := by omega
  obtain ⟨S, hS⟩ : ∃ S, S = st ++ [.dic kvs] ++ g := ⟨_, rfl⟩
  obtain ⟨l, pl, e1⟩ := sp_prime_divisors (n := N) S (by omega) (by omega)
  have ll : l.length ≤ 9 := by
    have h := pl.pw
    rcases Nat.lt_or_ge l.length 10 with c | c
    · omega
    · have : (2 : Int) ^ 10 ≤ 2 ^ l.length := by exact_mod_cast Nat.pow_le_pow_right (by decide : 0 < 2) c
      omega
  obtain ⟨more, ms, e2, k2, l2⟩ := dc_run (S := S ++ [.lst (l.map .int)]) (its := ⟨l.map .int, [(S.length, l.map .int)]⟩) (lsw := [t, some (.ref st.length), some (.int x), none]) (fun d => rfl) l [] (fun _ => False) [] (fun acc' => okB_app1 get_new) ⟨rfl, .nil, fun x => by simp⟩ (by simp; omega)
  have k3 : ∀ y, y ∈ ms ↔ Pr y ∧ y ∣ x := fun y => by
    rw [k2.mem]
    simp only [false_or]
    rw [pl.mem, hN, Int.dvd_natAbs]
  obtain ⟨n3, k4, l4⟩ := k.merge k2.ks k3
  have lk := ks_len k
  have lm := ks_len k2
  simp only [List.length_nil, Nat.zero_add] at l2
  refine ⟨mergeD kvs more, n3, g ++ [.lst (l.map .int)] ++ [.dic more], ?_, k4, by omega⟩
  rw [← hS]
  have ty : tyD S (.ref st.length) = some .dic := by rw [hS]; simp [tyD]
  have lS : S.length = st.length + 1 + g.length := by rw [hS]; simp; omega
  have c1 : cellK (S ++ [.lst (l.map .int)] ++ [.dic more]) st.length = some kvs := by rw [hS]; simp [cellK]
  have c2 : cellK (S ++ [.lst (l.map .int)] ++ [.dic more]) (S.length + 1) = some more := by simp [cellK]
  have up : updV (.ref st.length) [.ref (S.length + 1)] (S ++ [Cell.lst (l.map D.int)] ++ [Cell.dic more]) = .ok .non ((S ++ [Cell.lst (l.map D.int)] ++ [Cell.dic more]).set st.length (Cell.dic (mergeD kvs more))) := by
    unfold updV
    simp only [c1, c2]
    rw [if_pos ⟨by omega, by omega⟩]
  have st_ : (S ++ [Cell.lst (l.map D.int)] ++ [Cell.dic more]).set st.length (Cell.dic (mergeD kvs more)) = st ++ [Cell.dic (mergeD kvs more)] ++ (g ++ [Cell.lst (l.map D.int)] ++ [Cell.dic more]) := by
    rw [hS]
    simp
  rw [st_] at up
  simp at e2 up
  simp [fb1_places_for, methD, ty, ea, e1, dcD, wipeL, e2, up]
end K65

set_option maxRecDepth 100000
set_option maxHeartbeats 1000000
namespace K65
open PySem PySem.Spec PyProof.Rows L2 DD
theorem mem_plc {n m x : Int} (hn : n ≠ 0) (hm : m ≠ 0) : x ∈ plc n m ↔ x = 0 ∨ x = 2 ∨ Pr x ∧ (x ∣ n ∨ x ∣ m) := by
  unfold plc
  rw [List.mem_filter, @decide_eq_true_eq _ (_), List.mem_map]
  refine ⟨fun h => h.2, fun h => ⟨⟨x.toNat, ?_, ?_⟩, h⟩⟩
  · rw [List.mem_range]
    rcases h with h | h | ⟨h, d | d⟩
    · omega
    · omega
    · have := Int.le_of_dvd (a := x) (b := (n.natAbs : Int)) (by omega) (Int.dvd_natAbs.mpr d)
      omega
    · have := Int.le_of_dvd (a := x) (b := (m.natAbs : Int)) (by omega) (Int.dvd_natAbs.mpr d)
      omega
  · rcases h with h | h | ⟨h, _⟩
    · omega
    · omega
    · have := h.two
      omega
theorem pw_plc (n m : Int) : (plc n m).Pairwise (· < ·) := by
  unfold plc
  refine List.Pairwise.filter _ (List.pairwise_map.mpr ?_)
  exact List.pairwise_lt_range.imp fun h => by exact_mod_cast h
theorem plc_eq {n m : Int} (hn : n ≠ 0) (hm : m ≠ 0) {ns : List Int} (h : ∀ x, x ∈ ns ↔ x = 0 ∨ x = 2 ∨ Pr x ∧ (x ∣ n ∨ x ∣ m)) : srtI ns = plc n m :=
  uniq_srt lin_int (pw_srt lin_int ns) (pw_plc n m) fun x => by rw [mem_srt lin_int, h, mem_plc hn hm]
theorem Pr.two_or {p : Int} (h : Pr p) : p = 2 ∨ Od p := by
  by_cases c : p % 2 = 1
  · exact .inr ⟨h, c⟩
  · exact .inl (h.div 2 (by omega) (by omega)).symm
theorem Ck.A {a b c : Int} (h : Ck a b c) : N9 (-(a * c)) ∧ (-(a * c)).natAbs ≤ 1000000 := by
  have h1 := h.a
  have h2 := h.c
  have e : (-(a * c)).natAbs = a.natAbs * c.natAbs := by rw [Int.natAbs_neg, Int.natAbs_mul]
  have : a.natAbs * c.natAbs ≤ 1000 * 1000 := Nat.mul_le_mul (by omega) (by omega)
  exact ⟨⟨nm h1.1 h2.1, by omega⟩, by omega⟩
theorem Ck.s12 {a b c : Int} (h : Ck a b c) : Ck b a c := ⟨h.b, h.a, h.c⟩
theorem Ck.B {a b c : Int} (h : Ck a b c) : N9 (-(b * c)) ∧ (-(b * c)).natAbs ≤ 1000000 := h.s12.A
theorem Ck.div {a b c x : Int} (h : Ck a b c) (p : Pr x) : (x ∣ -(a * c) ∨ x ∣ -(b * c)) ↔ x ∣ a ∨ x ∣ b ∨ x ∣ c := by
  rw [Int.dvd_neg, Int.dvd_neg]
  constructor
  · rintro (d | d)
    · rcases p.or d with d | d
      · exact .inl d
      · exact .inr (.inr d)
    · rcases p.or d with d | d
      · exact .inr (.inl d)
      · exact .inr (.inr d)
  · rintro (d | d | d)
    · exact .inl (Int.dvd_trans d (Int.dvd_mul_right a c))
    · exact .inr (Int.dvd_trans d (Int.dvd_mul_right b c))
    · exact .inl (Int.dvd_trans d (Int.dvd_mul_left a c))
theorem sp_places_for {a b c : Int} (st : Store) (h : Ck a b c) : F_places_for [tupI [a, b, c]] st = .ok (.ref st.length) (st ++ [.lst ((plc (-(a * c)) (-(b * c))).map .int)]) := by
  refine viaF_eq ⟨a, b, c, rfl, h, rfl⟩ (fun o' ⟨a', b', c', e, _, eo⟩ => ?_) fun l1 _ => ?_
  · simp [tupI] at e
    obtain ⟨rfl, rfl, rfl⟩ := e
    exact eo
  · have na : N9 a := ⟨h.a.1, by have := h.a; omega⟩
    have nb : N9 b := ⟨h.b.1, by have := h.b; omega⟩
    have nc : N9 c := ⟨h.c.1, by have := h.c; omega⟩
    obtain ⟨t, ht⟩ : ∃ t : D, t = .tup [.int a, .int b, .int c] := ⟨_, rfl⟩
    have k0 : Ks [(.inl 0, .bl true), (.inl 2, .bl true)] (fun x => x = 0 ∨ x = 2) [0, 2] := ⟨rfl, by decide, fun x => by simp⟩
    obtain ⟨kv1, n1, g1, e1, k1, b1⟩ := places_body (st := st) (g := []) (t := some t) (z := none) na (by have := h.a; omega) k0 (by decide)
    simp only [List.length_cons, List.length_nil] at b1
    obtain ⟨kv2, n2, g2, e2, k2, b2⟩ := places_body (st := st) (g := g1) (t := some t) (z := none) nb (by have := h.b; omega) k1 (by omega)
    obtain ⟨kv3, n3, g3, e3, k3, b3⟩ := places_body (st := st) (g := g2) (t := some t) (z := none) nc (by have := h.c; omega) k2 (by omega)
    have lo : forL (fun _ => true) (nameG 2) fb1_places_for [.int a, .int b, .int c] [some t, some (.ref st.length), none, none] (st ++ [.dic [(.inl 0, .bl true), (.inl 2, .bl true)]]) = .nx [some t, some (.ref st.length), some (.int c), none] (st ++ [.dic kv3] ++ g3) := by
      rw [List.append_nil] at e1
      rw [forL_next rfl rfl e1, forL_next rfl rfl e2, forL_next rfl rfl e3, forL_nil rfl]
    have ds : dispD [(litD (.int 0), litD (.bl true)), (litD (.int 2), litD (.bl true))] [some t, none, none, none] st = .ok (.ref st.length) (st ++ [.dic [(.inl 0, .bl true), (.inl 2, .bl true)]]) := by
      simp [dispD, pairsD, keysD, keyD, cellK, mergeD, putD, litD]
    have sr : dsortV (.ref st.length) (st ++ [Cell.dic kv3] ++ g3) = .ok (.ref (st ++ [Cell.dic kv3] ++ g3).length) (st ++ [.dic kv3] ++ g3 ++ [.lst ((srtI n3).map .int)]) := by
      have ck : cellK (st ++ [.dic kv3] ++ g3) st.length = some kv3 := by simp [cellK]
      unfold dsortV
      simp only [ck, ks_keyIs k3.ks]
      rw [if_pos ⟨by omega, k3.nd⟩]
    rw [plc_eq h.A.1.nz h.B.1.nz fun x => by
      rw [k3.mem]
      constructor
      · rintro (((q | q) | q) | q)
        · rcases q with q | q
          · exact .inl q
          · exact .inr (.inl q)
        · exact .inr (.inr ⟨q.1, (h.div q.1).mpr (.inl q.2)⟩)
        · exact .inr (.inr ⟨q.1, (h.div q.1).mpr (.inr (.inl q.2))⟩)
        · exact .inr (.inr ⟨q.1, (h.div q.1).mpr (.inr (.inr q.2))⟩)
      · rintro (q | q | ⟨q, d⟩)
        · exact .inl (.inl (.inl (.inl q)))
        · exact .inl (.inl (.inl (.inr q)))
        · rcases (h.div q).mp d with d | d | d
          · exact .inl (.inl (.inr ⟨q, d⟩))
          · exact .inl (.inr ⟨q, d⟩)
          · exact .inr ⟨q, d⟩] at sr
    have hp := Pk.fresh1 (st := st) (g1 := [.dic kv3] ++ g3) (g2 := []) (l := (plc (-(a * c)) (-(b * c))).map .int) (k := st.length + (g3.length + 1)) l1 (ltDs_ints _ _) (by simp)
    simp [ht] at lo sr hp ds
    simp [g_places_for, tupI, ds, lo, sr]
    exact hp
theorem Nz.of {n : Int} (h : N9 n) : Nz n := ⟨h.nz, by have := h.sm; omega⟩
theorem plc_ok {n m p : Int} (hn : N9 n) (hm : N9 m) (h : p ∈ plc n m) : (p = 0 ∨ 2 ≤ p) ∧ p ≤ 1000000000 := by
  have a1 := hn.sm
  have a2 := hm.sm
  have a3 := hn.nz
  have a4 := hm.nz
  rcases (mem_plc hn.nz hm.nz).mp h with h | h | ⟨h, d | d⟩
  · omega
  · omega
  · have := h.two
    have := Int.le_of_dvd (a := p) (b := (n.natAbs : Int)) (by omega) (Int.dvd_natAbs.mpr d)
    omega
  · have := h.two
    have := Int.le_of_dvd (a := p) (b := (m.natAbs : Int)) (by omega) (Int.dvd_natAbs.mpr d)
    omega
def negP (n m : Int) : D → Bool
  | .int p => decide (sg p n m = -1)
  | _ => false
theorem filter_ints (f : D → Bool) (g : Int → Bool) (h : ∀ i, f (.int i) = g i) : ∀ l : List Int, ((l.map D.int).filter f).map (fun d => d) = (l.filter g).map .int
  | [] => rfl
  | i :: l => by
    rw [List.map_cons, List.filter_cons, List.filter_cons, h]
    split
    · rw [List.map_cons, List.map_cons, filter_ints f g h l]
    · exact filter_ints f g h l
theorem plc_len {n m : Int} (hn : N9 n) (hm : N9 m) : (plc n m).length ≤ 16777216 := by
  have e := plc_eq hn.nz hm.nz (ns := plc n m) fun x => mem_plc hn.nz hm.nz
  obtain ⟨l1, p1, _⟩ := sp_prime_divisors (n := (n.natAbs : Int)) [] (by have := hn.nz; omega) (by have := hn.sm; omega)
  obtain ⟨l2, p2, _⟩ := sp_prime_divisors (n := (m.natAbs : Int)) [] (by have := hm.nz; omega) (by have := hm.sm; omega)
  have nd : (plc n m).Nodup := (pw_plc n m).imp fun {a b} h (z : a = b) => by omega
  have sub := GS.nodup_le (l := plc n m) (D := [0, 2] ++ l1 ++ l2) nd fun x hx => by
    rw [List.mem_append, List.mem_append]
    rcases (mem_plc hn.nz hm.nz).mp hx with h | h | ⟨h, d | d⟩
    · left; left; simp [h]
    · left; left; simp [h]
    · left; right; exact (p1.mem x).mpr ⟨h, Int.dvd_natAbs.mpr d⟩
    · right; exact (p2.mem x).mpr ⟨h, Int.dvd_natAbs.mpr d⟩
  have := p1.len
  have := p2.len
  simp at sub
  omega
end K65

set_option maxRecDepth 100000
set_option maxHeartbeats 2000000
namespace K65
open PySem PySem.Spec PyProof.Rows L2 DD
theorem N9.wo {n r : Int} (h : N9 n) (w : Wo n r) : N9 r := ⟨(wo_ne w h.nz).1, by have := wo_le w h.nz; have := h.sm; omega⟩
/-- r at the place p as the law reads it -/
def At (p r U : Int) (a : Nat) : Prop := (r % p = 0 ∧ r / p = U ∧ ¬ U = r ∧ a = 1) ∨ (¬ r % p = 0 ∧ r = U ∧ a = 0)
theorem at_wo {p n r : Int} (hp : Pr p) (h : Wo n r) (h0 : n ≠ 0) : At p r (un p r) (va p r) ∧ ¬ p ∣ un p r := by
  have r0 := (wo_ne h h0).1
  have p2 := hp.two
  refine ⟨?_, (va_un p2 r0).2⟩
  rcases wo_va hp h h0 with ⟨d, e1, e2⟩ | ⟨d, e1, e2⟩
  · refine .inl ⟨Int.emod_eq_zero_of_dvd d, e2.symm, ?_, e1⟩
    have := div_less p2 r0 (Int.emod_eq_zero_of_dvd d)
    rw [e2]
    intro z
    rw [z] at this
    omega
  · exact .inr ⟨fun z => d (Int.dvd_of_emod_eq_zero z), e2.symm, e1⟩
theorem sp_law_sign {n m p : Int} (st : Store) (hn : N9 n) (hm : N9 m) (hp : Pl p) (hb : p ≤ 1000000000) : F__law_sign [.int n, .int m, .int p] st = .ok (.int (sg p n m)) st := by
  refine viaF_eq ⟨n, m, p, rfl, hn, hm, hp, hb, rfl⟩ (fun o' ⟨n', m', p', e, _, _, _, _, eo⟩ => ?_) fun _ _ => Pk.of_eq ?_
  · cases e; exact eo
  · obtain ⟨r, w1, e1⟩ := sp_law_without_squares st hn
    obtain ⟨s, w2, e2⟩ := sp_law_without_squares st hm
    rcases hp.cases with rfl | rfl | ⟨ho, p0, p2⟩
    · unfold sg
      rw [if_pos rfl]
      by_cases c1 : n < 0 <;> by_cases c2 : m < 0 <;> simp [g__law_sign, c1, c2]
    · rw [sg_wo hp w1 w2 hn.nz hm.nz]
      obtain ⟨a1, h1⟩ := at_wo pr2 w1 hn.nz
      obtain ⟨a2, h2⟩ := at_wo pr2 w2 hm.nz
      unfold sg
      rw [if_neg (by decide), sgp2, s2_eq]
      generalize un 2 r = U at *
      generalize un 2 s = V at *
      generalize va 2 r = a at *
      generalize va 2 s = b at *
      have d2 : divOk 2 = true := divOk_small (by omega) (by omega) (by omega)
      have d4 : divOk 4 = true := divOk_small (by omega) (by omega) (by omega)
      have d8 : divOk 8 = true := divOk_small (by omega) (by omega) (by omega)
      have q4 : ∀ x : Int, ¬ 2 ∣ x → (x % 8 = 1 ∧ x % 4 = 1 ∧ b4 x = 1 ∧ b8 x = 1) ∨ (x % 8 = 3 ∧ x % 4 = 3 ∧ b4 x = -1 ∧ b8 x = -1) ∨ (x % 8 = 5 ∧ x % 4 = 1 ∧ b4 x = 1 ∧ b8 x = -1) ∨ (x % 8 = 7 ∧ x % 4 = 3 ∧ b4 x = -1 ∧ b8 x = 1) := fun x hx => by
        rcases b48 hx with ⟨a, b, c⟩ | ⟨a, b, c⟩ | ⟨a, b, c⟩ | ⟨a, b, c⟩
        · exact .inl ⟨a, by omega, b, c⟩
        · exact .inr (.inl ⟨a, by omega, b, c⟩)
        · exact .inr (.inr (.inl ⟨a, by omega, b, c⟩))
        · exact .inr (.inr (.inr ⟨a, by omega, b, c⟩))
      have k1 := q4 U h1
      have k2 := q4 V h2
      clear q4 h1 h2 w1 w2 hn hm hp
      rcases a1 with ⟨x1, x2, x3, rfl⟩ | ⟨x1, x2, rfl⟩ <;> rcases a2 with ⟨y1, y2, y3, rfl⟩ | ⟨y1, y2, rfl⟩ <;> try subst x2 <;> try subst y2
      all_goals rcases k1 with ⟨z1, z2, z3, z4⟩ | ⟨z1, z2, z3, z4⟩ | ⟨z1, z2, z3, z4⟩ | ⟨z1, z2, z3, z4⟩ <;> rcases k2 with ⟨t1, t2, t3, t4⟩ | ⟨t1, t2, t3, t4⟩ | ⟨t1, t2, t3, t4⟩ | ⟨t1, t2, t3, t4⟩ <;>
        simp_all [g__law_sign, inI_two, et, pw]
    · rw [sg_wo hp w1 w2 hn.nz hm.nz]
      have pp := ho.1
      have p1 := pp.two
      have ob := ho.2
      obtain ⟨a1, h1⟩ := at_wo pp w1 hn.nz
      obtain ⟨a2, h2⟩ := at_wo pp w2 hm.nz
      unfold sg
      rw [if_neg p0, sgpo p2, sp_eq]
      have rs := fun x => sp_is_square_rest (n := x) (p := p) st (by omega) (by omega)
      unfold bp
      generalize un p r = U at *
      generalize un p s = V at *
      generalize va p r = a at *
      generalize va p s = b at *
      have dp : divOk p = true := divOk_small (by omega) (by omega) (by omega)
      have d4 : divOk 4 = true := divOk_small (by omega) (by omega) (by omega)
      have pp0 : (0 : Int) ≤ p := by omega
      clear h1 h2 w1 w2 hn hm hp
      by_cases c4 : p % 4 = 3 <;> by_cases cU : U ^ ((p - 1) / 2).toNat % p = 1 <;> by_cases cV : V ^ ((p - 1) / 2).toNat % p = 1 <;>
      rcases a1 with ⟨x1, x2, x3, rfl⟩ | ⟨x1, x2, rfl⟩ <;> rcases a2 with ⟨y1, y2, y3, rfl⟩ | ⟨y1, y2, rfl⟩ <;> try subst x2 <;> try subst y2
      all_goals simp_all [g__law_sign, tt, pw]
end K65

set_option maxRecDepth 100000
set_option maxHeartbeats 2000000
namespace K65
open PySem PySem.Spec PyProof.Rows L2 DD
theorem plc_pl {n m p : Int} (hn : N9 n) (hm : N9 m) (h : p ∈ plc n m) : Pl p := by
  rcases (mem_plc hn.nz hm.nz).mp h with h | h | ⟨h, _⟩
  · exact .inl h
  · exact .inr (.inl h)
  · rcases h.two_or with c | c
    · exact .inr (.inl c)
    · exact .inr (.inr c)
theorem wr_nil {n m : Int} (hn : N9 n) (hm : N9 m) : wr n m = [] ↔ ∀ p, Pl p → sg p n m = 1 := by
  unfold wr
  rw [List.filter_eq_nil_iff]
  constructor
  · intro h p hp
    by_cases c : p ∈ plc n m
    · rcases sg_pm p n m with e | e
      · exact e
      · exact absurd (decide_eq_true e) (h p c)
    · rcases hp.cases with e | e | ⟨ho, p0, p2⟩
      · exact absurd ((mem_plc hn.nz hm.nz).mpr (.inl e)) c
      · exact absurd ((mem_plc hn.nz hm.nz).mpr (.inr (.inl e))) c
      · exact sg_off hp p0 p2 hn.nz hm.nz (fun d => c ((mem_plc hn.nz hm.nz).mpr (.inr (.inr ⟨ho.1, .inl d⟩)))) (fun d => c ((mem_plc hn.nz hm.nz).mpr (.inr (.inr ⟨ho.1, .inr d⟩))))
  · intro h p hp
    rw [h p (plc_pl hn hm hp)]
    decide
theorem mem_wr {n m p : Int} (hn : N9 n) (hm : N9 m) (hp : Pl p) : p ∈ wr n m ↔ sg p n m = -1 := by
  unfold wr
  rw [List.mem_filter, decide_eq_true_eq]
  refine ⟨fun h => h.2, fun h => ⟨?_, h⟩⟩
  rcases hp.cases with e | e | ⟨ho, p0, p2⟩
  · exact (mem_plc hn.nz hm.nz).mpr (.inl e)
  · exact (mem_plc hn.nz hm.nz).mpr (.inr (.inl e))
  · by_cases c1 : p ∣ n
    · exact (mem_plc hn.nz hm.nz).mpr (.inr (.inr ⟨ho.1, .inl c1⟩))
    · by_cases c2 : p ∣ m
      · exact (mem_plc hn.nz hm.nz).mpr (.inr (.inr ⟨ho.1, .inr c2⟩))
      · rw [sg_off hp p0 p2 hn.nz hm.nz c1 c2] at h
        cases h
theorem wr_pl {n m p : Int} (hn : N9 n) (hm : N9 m) (h : p ∈ wr n m) : Pl p ∧ p ≤ 1000000000 ∧ (p = 0 ∨ 2 ≤ p) := by
  have h := (List.mem_filter.mp h).1
  have := plc_ok hn hm h
  exact ⟨plc_pl hn hm h, this.2, this.1⟩
theorem wr_len {n m : Int} (hn : N9 n) (hm : N9 m) : (wr n m).length ≤ 16777216 := Nat.le_trans (List.length_filter_le _ _) (plc_len hn hm)
theorem sp_barring_places {a b c : Int} (st : Store) (h : Ck a b c) : F_barring_places [tupI [a, b, c]] st = .ok (.ref st.length) (st ++ [.lst ((wr (-(a * c)) (-(b * c))).map .int)]) := by
  refine viaF_eq ⟨a, b, c, rfl, h, rfl⟩ (fun o' ⟨a', b', c', e, _, eo⟩ => ?_) fun l1 _ => ?_
  · simp [tupI] at e
    obtain ⟨rfl, rfl, rfl⟩ := e
    exact eo
  · have pf := sp_places_for st h
    have hn := h.A.1
    have hm := h.B.1
    have ha := h.a
    have hb := h.b
    have hc := h.c
    have k1 : mulOk (-a) c = true := mulOk_l (by omega) (by omega)
    have k2 : mulOk (-b) c = true := mulOk_l (by omega) (by omega)
    have q1 : -a * c = -(a * c) := Int.neg_mul a c
    have q2 : -b * c = -(b * c) := Int.neg_mul b c
    obtain ⟨t, ht⟩ : ∃ t : D, t = .tup [.int a, .int b, .int c] := ⟨_, rfl⟩
    generalize -(a * c) = n at *
    generalize -(b * c) = m at *
    have lr := lc_run (ok := okB ⟨(plc n m).map .int, [(st.length, (plc n m).map .int)]⟩) (g := nameG 4) (ft := lf1_barring_places) (fe := le1_barring_places) (lsw := [some t, some (.int a), some (.int b), some (.int c), none]) (st0 := st ++ [.lst ((plc n m).map .int)]) (negP n m) (fun d => d) ((plc n m).map .int) []
      (fun acc' => okB_app1 get_new) (by simpa using plc_len hn hm) fun d hdm acc' => by
        obtain ⟨p, hp, rfl⟩ := List.mem_map.mp hdm
        obtain ⟨z1, z2⟩ := plc_ok hn hm hp
        have sa := sp_sign_at_place (n := n) (m := m) (p := p) (st ++ [.lst ((plc n m).map .int)] ++ [.lst acc']) (Nz.of hn) (Nz.of hm) z1 z2
        refine ⟨_, rfl, ?_, fun _ => by simp [le1_barring_places]⟩
        simp at sa
        simp [lf1_barring_places, k1, k2, q1, q2, sa, negP, -Int.neg_mul]
    rw [filter_ints (negP n m) (fun p => decide (sg p n m = -1)) (fun i => rfl)] at lr
    have hp := Pk.fresh1 (st := st) (g1 := [.lst ((plc n m).map .int)]) (g2 := []) (l := (wr n m).map .int) (k := st.length + 1) l1 (ltDs_ints _ _) rfl
    unfold wr at hp ⊢
    simp [tupI] at pf
    simp [ht] at lr hp
    simp [g_barring_places, tupI, pf, wipeL, lr]
    exact hp
theorem sp_law_wrong {n m : Int} (st : Store) (hn : N9 n) (hm : N9 m) : F__law_wrong [.int n, .int m] st = .ok (.ref st.length) (st ++ [.lst ((wr n m).map .int)]) := by
  refine viaF_eq ⟨n, m, rfl, hn, hm, rfl⟩ (fun o' ⟨n', m', e, _, _, eo⟩ => ?_) fun l1 _ => ?_
  · cases e; exact eo
  · have n0 := hn.nz
    have m0 := hm.nz
    have n9 := hn.sm
    have m9 := hm.sm
    obtain ⟨N, hN⟩ : ∃ N : Int, N = n.natAbs := ⟨_, rfl⟩
    obtain ⟨M, hM⟩ : ∃ M : Int, M = m.natAbs := ⟨_, rfl⟩
    have ea : (if n < 0 then -n else n) = N := by omega
    have eb : (if m < 0 then -m else m) = M := by omega
    obtain ⟨a, pa, e1⟩ := sp_law_primes_of (n := N) (st ++ [.lst [.int 0, .int 2]]) (by omega) (by omega)
    have la := pa.len
    obtain ⟨S1, hS1⟩ : ∃ S1 : Store, S1 = st ++ [.lst [.int 0, .int 2]] ++ [.lst (a.map .int)] ++ [.lst ([.int 0, .int 2] ++ a.map .int)] := ⟨_, rfl⟩
    obtain ⟨b, pb, e2⟩ := sp_law_primes_of (n := M) S1 (by omega) (by omega)
    have lb := pb.len
    have c1 := cat_ref (st := st ++ [.lst [.int 0, .int 2]] ++ [.lst (a.map .int)]) (n := st.length) (m := st.length + 1) (l := [.int 0, .int 2]) (k := a.map .int) (by simp) (by simp) (by simp; omega)
    have c2 := cat_ref (st := S1 ++ [.lst (b.map .int)]) (n := st.length + 2) (m := st.length + 3) (l := [.int 0, .int 2] ++ a.map .int) (k := b.map .int) (by rw [hS1]; simp) (by rw [hS1]; simp) (by simp; omega)
    have eall : [.int 0, .int 2] ++ a.map D.int ++ b.map .int = ([0, 2] ++ a ++ b).map D.int := by simp
    rw [eall] at c2
    have so : setSortI (.ref (S1 ++ [Cell.lst (b.map .int)]).length) (S1 ++ [Cell.lst (b.map .int)] ++ [Cell.lst (([0, 2] ++ a ++ b).map .int)]) = .ok (.ref (S1 ++ [Cell.lst (b.map .int)] ++ [Cell.lst (([0, 2] ++ a ++ b).map .int)]).length) (S1 ++ [Cell.lst (b.map .int)] ++ [Cell.lst (([0, 2] ++ a ++ b).map .int)] ++ [Cell.lst ((plc n m).map .int)]) := by
      unfold setSortI
      simp only [get_new, intsOf_map]
      rw [if_pos (by simp; omega), plc_eq n0 m0]
      intro x
      rw [List.mem_append, List.mem_append, pa.mem, pb.mem, hN, hM, Int.dvd_natAbs, Int.dvd_natAbs]
      simp only [List.mem_cons, List.not_mem_nil, or_false]
      constructor
      · rintro (((h | h) | h) | h)
        · exact .inl h
        · exact .inr (.inl h)
        · exact .inr (.inr ⟨h.1, .inl h.2⟩)
        · exact .inr (.inr ⟨h.1, .inr h.2⟩)
      · rintro (h | h | ⟨h, d | d⟩)
        · exact .inl (.inl (.inl h))
        · exact .inl (.inl (.inr h))
        · exact .inl (.inr ⟨h, d⟩)
        · exact .inr ⟨h, d⟩
    obtain ⟨S, hS⟩ : ∃ S : Store, S = S1 ++ [.lst (b.map .int)] ++ [.lst (([0, 2] ++ a ++ b).map .int)] := ⟨_, rfl⟩
    have lr := lc_run (ok := okB ⟨(plc n m).map .int, [(S.length, (plc n m).map .int)]⟩) (g := nameG 3) (ft := lf1__law_wrong) (fe := le1__law_wrong) (lsw := [some (.int n), some (.int m), some (.ref S.length), none]) (st0 := S ++ [.lst ((plc n m).map .int)]) (negP n m) (fun d => d) ((plc n m).map .int) []
      (fun acc' => okB_app1 get_new) (by simpa using plc_len hn hm) fun d hdm acc' => by
        obtain ⟨p, hp, rfl⟩ := List.mem_map.mp hdm
        have sa := sp_law_sign (n := n) (m := m) (p := p) (S ++ [.lst ((plc n m).map .int)] ++ [.lst acc']) hn hm (plc_pl hn hm hp) (plc_ok hn hm hp).2
        refine ⟨_, rfl, ?_, fun _ => by simp [le1__law_wrong]⟩
        simp at sa
        simp [lf1__law_wrong, sa, negP]
    rw [filter_ints (negP n m) (fun p => decide (sg p n m = -1)) (fun i => rfl)] at lr
    have hp := Pk.fresh1 (st := st) (g1 := [.lst [.int 0, .int 2], .lst (a.map .int), .lst ([.int 0, .int 2] ++ a.map .int), .lst (b.map .int), .lst (([0, 2] ++ a ++ b).map .int), .lst ((plc n m).map .int)]) (g2 := []) (l := (wr n m).map .int) (k := st.length + 6) l1 (ltDs_ints _ _) (by simp)
    unfold wr at hp ⊢
    rw [hS] at lr
    rw [hS1] at e2 c2 so lr
    simp at e1 e2 c1 c2 so lr hp
    have it : itsOf (.ref (st.length + 5)) (st ++ [.lst [.int 0, .int 2], .lst (a.map .int), .lst (.int 0 :: .int 2 :: a.map .int), .lst (b.map .int), .lst (.int 0 :: .int 2 :: (a.map .int ++ b.map .int)), .lst ((plc n m).map .int)]) = some ⟨(plc n m).map .int, [(st.length + 5, (plc n m).map .int)]⟩ := by simp [itsOf]
    simp [g__law_wrong, it, ea, eb, e1, e2, c1, c2, so, wipeL, lr]
    exact hp
theorem sp_law_barring {a b c : Int} (st : Store) (h : Ck a b c) : F__law_barring [tupI [a, b, c]] st = .ok (.ref st.length) (st ++ [.lst ((wr (-(a * c)) (-(b * c))).map .int)]) := by
  refine viaF_eq ⟨a, b, c, rfl, h, rfl⟩ (fun o' ⟨a', b', c', e, _, eo⟩ => ?_) fun l1 _ => Pk.of_eq ?_
  · simp [tupI] at e
    obtain ⟨rfl, rfl, rfl⟩ := e
    exact eo
  · have ha := h.a
    have hb := h.b
    have k1 : mulOk a c = true := mulOk_l (by omega) (by omega)
    have k2 : mulOk b c = true := mulOk_l (by omega) (by omega)
    have e := sp_law_wrong st h.A.1 h.B.1
    simp [g__law_barring, tupI, k1, k2, e]
end K65

set_option maxRecDepth 100000
set_option maxHeartbeats 2000000
namespace K65
open PySem PySem.Spec PyProof.Rows L2 DD
/-- every number above 1 has a prime divisor -/
theorem pr_ex : ∀ (f : Nat) {n : Int}, n.toNat ≤ f → 2 ≤ n → ∃ p, Pr p ∧ p ∣ n
  | 0, n, hf, h => by omega
  | f + 1, n, hf, h => by
    by_cases c : ∃ d : Int, 2 ≤ d ∧ d ∣ n ∧ d ≠ n
    · obtain ⟨d, d2, dn, ne⟩ := c
      have := Int.le_of_dvd (by omega) dn
      obtain ⟨p, hp, hd⟩ := pr_ex f (n := d) (by omega) d2
      exact ⟨p, hp, Int.dvd_trans hd dn⟩
    · refine ⟨n, ⟨h, fun d d2 dn => ?_⟩, Int.dvd_refl n⟩
      by_cases e : d = n
      · exact e
      · exact absurd ⟨d, d2, dn, e⟩ c
/-- a square within what is without squares -/
theorem free_one {r : Int} {u : Nat} (h : ∀ p : Int, Pr p → ¬ p * p ∣ r) (d : u * u ∣ r.natAbs) (u0 : 0 < u) : u = 1 := by
  by_cases c : u = 1
  · exact c
  · exfalso
    obtain ⟨p, hp, ⟨q, hq⟩⟩ := pr_ex _ (Nat.le_refl _) (n := (u : Int)) (by omega)
    apply h p hp
    have : ((u * u : Nat) : Int) ∣ r := Int.dvd_natAbs.mp (by exact_mod_cast d)
    refine Int.dvd_trans ⟨q * q, ?_⟩ this
    rw [Int.natCast_mul, hq]
    grind
theorem Fs.uniq {n r k s l : Int} (h0 : n ≠ 0) (a : Fs n r k) (b : Fs n s l) : r = s ∧ k = l := by
  obtain ⟨e1, k0, f1⟩ := a
  obtain ⟨e2, l0, f2⟩ := b
  obtain ⟨K, rfl⟩ : ∃ K : Nat, k = K := ⟨k.toNat, by omega⟩
  obtain ⟨L, rfl⟩ : ∃ L : Nat, l = L := ⟨l.toNat, by omega⟩
  have K0 : 0 < K := by omega
  have L0 : 0 < L := by omega
  have e : r.natAbs * (K * K) = s.natAbs * (L * L) := by
    have := congrArg Int.natAbs (e1.symm.trans e2)
    rwa [Int.natAbs_mul, Int.natAbs_mul, Int.natAbs_mul, Int.natAbs_mul, Int.natAbs_natCast, Int.natAbs_natCast] at this
  have g0 : 0 < Nat.gcd K L := Nat.gcd_pos_of_pos_left _ K0
  obtain ⟨u, hu⟩ := Nat.gcd_dvd_left K L
  obtain ⟨v, hv⟩ := Nat.gcd_dvd_right K L
  have cop : Nat.Coprime u v := by
    have h := Nat.coprime_div_gcd_div_gcd g0
    have h1 : K / Nat.gcd K L = u := Nat.div_eq_of_eq_mul_right g0 hu
    have h2 : L / Nat.gcd K L = v := Nat.div_eq_of_eq_mul_right g0 hv
    rwa [h1, h2] at h
  generalize Nat.gcd K L = g at *
  subst hu hv
  have u0 : 0 < u := Nat.pos_of_ne_zero fun z => by rw [z] at K0; simp at K0
  have v0 : 0 < v := Nat.pos_of_ne_zero fun z => by rw [z] at L0; simp at L0
  have e' : r.natAbs * (u * u) = s.natAbs * (v * v) := by
    have gg : 0 < g * g := Nat.mul_pos g0 g0
    refine Nat.eq_of_mul_eq_mul_left gg ?_
    calc g * g * (r.natAbs * (u * u)) = r.natAbs * (g * u * (g * u)) := by ac_rfl
      _ = s.natAbs * (g * v * (g * v)) := e
      _ = g * g * (s.natAbs * (v * v)) := by ac_rfl
  have c2 : Nat.Coprime (u * u) (v * v) := Nat.Coprime.mul_left (Nat.Coprime.mul_right cop cop) (Nat.Coprime.mul_right cop cop)
  have d1 : u * u ∣ s.natAbs := Nat.Coprime.dvd_of_dvd_mul_right c2 ⟨r.natAbs, by rw [← e']; ac_rfl⟩
  have d2 : v * v ∣ r.natAbs := Nat.Coprime.dvd_of_dvd_mul_right c2.symm ⟨s.natAbs, by rw [e']; ac_rfl⟩
  have hu := free_one f2 d1 u0
  have hv := free_one f1 d2 v0
  subst hu hv
  refine ⟨?_, rfl⟩
  have ne : (((g * 1 : Nat) : Int) * ((g * 1 : Nat) : Int)) ≠ 0 := by
    have : ((g * 1 : Nat) : Int) ≠ 0 := by omega
    exact Int.mul_ne_zero this this
  exact Int.eq_of_mul_eq_mul_right ne (e1.symm.trans e2)
theorem Fs.bd {n r k : Int} (h0 : n ≠ 0) (a : Fs n r k) : r ≠ 0 ∧ r.natAbs ≤ n.natAbs ∧ k ≤ n.natAbs ∧ k * k ≤ n.natAbs := by
  obtain ⟨e, k0, _⟩ := a
  have r0 : r ≠ 0 := fun z => h0 (by rw [e, z, Int.zero_mul])
  have kk : k ≤ k * k := by
    have := Int.mul_le_mul_of_nonneg_left (show (1 : Int) ≤ k by omega) (by omega : 0 ≤ k)
    omega
  have en : (n.natAbs : Int) = r.natAbs * (k * k) := by
    have := congrArg Int.natAbs e
    rw [Int.natAbs_mul] at this
    have e2 : ((k * k).natAbs : Int) = k * k := by omega
    rw [this, Int.natCast_mul, e2]
  have h1 : (1 : Int) * (k * k) ≤ r.natAbs * (k * k) := Int.mul_le_mul_of_nonneg_right (by omega) (by omega)
  have h2 : (r.natAbs : Int) * 1 ≤ r.natAbs * (k * k) := Int.mul_le_mul_of_nonneg_left (by omega) (by omega)
  refine ⟨r0, by omega, by omega, by omega⟩
theorem fsq_loop {x : D} {N z r p : Int} (st : Store) (hN : N ≤ 1000000000) (hz : 1 ≤ z) (hr : 1 ≤ r) (hk : N = z * (r * r)) (h1 : 2 ≤ p) (h2 : p ≤ 1000000000) : ∃ ls' st', whileD wt1_free_of_squares wb1_free_of_squares [some x, some (.int z), some (.int r), some (.int p)] st = .nx ls' st' ∧
    st = st' ∧ ∃ z' r', ls' = [some x, some (.int z'), some (.int r'), some (.int p)] ∧ 1 ≤ z' ∧ 1 ≤ r' ∧ N = z' * (r' * r') ∧ (∃ k, z = z' * k) ∧ ¬ p * p ∣ z' := by
  have mk : mulOk p p = true := mulOk_l (by omega) (by omega)
  have mr : ∀ y, mulOk y p = true := fun y => mulOk_r (by omega) (by omega)
  have b1 : 2 * 2 ≤ p * p := Int.mul_le_mul h1 h1 (by omega) (by omega)
  have b2 : p * p ≤ 1000000000 * 1000000000 := Int.mul_le_mul h2 h2 (by omega) (by omega)
  generalize hP : p * p = P at *
  have dp : divOk P = true := divOk_small (by omega) (by omega) (by omega)
  have p0 : ¬ P = 0 := by omega
  have pp : (0 : Int) ≤ P := by omega
  refine while_run (α := Int × Int) (t := wt1_free_of_squares) (b := wb1_free_of_squares) (fun m ls s => st = s ∧ ls = [some x, some (.int m.1), some (.int m.2), some (.int p)] ∧ 1 ≤ m.1 ∧ 1 ≤ m.2 ∧ N = m.1 * (m.2 * m.2) ∧ ∃ k, z = m.1 * k) (fun m => m.1.toNat)
    (fun ls s => st = s ∧ ∃ z' r', ls = [some x, some (.int z'), some (.int r'), some (.int p)] ∧ 1 ≤ z' ∧ 1 ≤ r' ∧ N = z' * (r' * r') ∧ (∃ k, z = z' * k) ∧ ¬ P ∣ z') (fun m ls s ⟨e1, e2, m1, r1, e3, k, e4⟩ => ?_) (z, r) _ st ⟨rfl, rfl, hz, hr, hk, 1, by simp⟩
  obtain ⟨m, w⟩ := m
  simp only at e2 m1 r1 e3 e4
  subst e1 e2
  by_cases c : m % P = 0
  · have e := div_of c
    generalize hq : m / P = q at *
    have q1 : 1 ≤ q := by
      by_cases c : 1 ≤ q
      · exact c
      · have : P * q ≤ 0 := Int.mul_nonpos_of_nonneg_of_nonpos (by omega) (by omega)
        omega
    have ql : 2 * q ≤ P * q := Int.mul_le_mul_of_nonneg_right (by omega) (by omega)
    have wp : 1 ≤ w * p := by
      have := Int.mul_le_mul r1 (show (1 : Int) ≤ p by omega) (by omega) (by omega)
      omega
    refine .inr ⟨_, _, _, (q, w * p), by simp [wt1_free_of_squares, mk, hP, dp, p0, pp]; exact ⟨c, rfl⟩, by simp [wb1_free_of_squares, mk, mr, hP, dp, p0, pp, hq], ⟨rfl, rfl, q1, wp, ?_, P * k, ?_⟩, by simp only; omega⟩
    · simp only
      rw [e3, e, ← hP]
      grind
    · simp only
      rw [e4, e]
      grind
  · exact .inl ⟨_, by simp [wt1_free_of_squares, mk, hP, dp, p0, pp, c], rfl, m, w, rfl, m1, r1, e3, ⟨k, e4⟩, fun z => c (Int.emod_eq_zero_of_dvd z)⟩
theorem sp_free_of_squares {n : Int} (st : Store) (h0 : n ≠ 0) (hs : n.natAbs ≤ 1000000000) : ∃ r k, Fs n r k ∧ F_free_of_squares [.int n] st = .ok (.tup [.int r, .int k]) st := by
  have key : Good_free_of_squares [.int n] st (F_free_of_squares [.int n] st) := by
    obtain ⟨N, hN⟩ : ∃ N : Int, N = n.natAbs := ⟨_, rfl⟩
    have ea : (if n < 0 then -n else n) = N := by omega
    obtain ⟨l, pl, e1⟩ := sp_prime_divisors (n := N) st (by omega) (by omega)
    obtain ⟨ls', st', k1, z, r, p, e2, e3, z1, r1, ek, fr⟩ := for_pre (ok := okB ⟨l.map D.int, [(st.length, l.map D.int)]⟩) (g := nameG 3) (b := fb1_free_of_squares)
      (fun pre ls s => ∃ z r p, ls = [some (.int n), some (.int z), some (.int r), p] ∧ s = st ++ [.lst (l.map .int)] ∧ 1 ≤ z ∧ 1 ≤ r ∧ N = z * (r * r) ∧ ∀ q : Int, D.int q ∈ pre → ¬ q * q ∣ z)
      (fun pre ls s ⟨_, _, _, _, e, _⟩ => by rw [e]; exact okB_iff.mpr fun p hp => by rw [List.mem_singleton.mp hp]; exact get_new) (l.map .int) [some (.int n), some (.int N), some (.int 1), none] (st ++ [.lst (l.map .int)]) ⟨N, 1, none, rfl, rfl, by omega, by omega, by simp, fun q hq => (by cases hq)⟩ (fun pre d suf e ls s ⟨z, r, p, e2, e3, z1, r1, ek, fr⟩ => by
        subst e2 e3
        have dm : d ∈ l.map D.int := by rw [e]; simp
        obtain ⟨q, hq, rfl⟩ := List.mem_map.mp dm
        obtain ⟨pq, dq⟩ := (pl.mem q).mp hq
        have q2 := pq.two
        have qb := Int.le_of_dvd (by omega) dq
        obtain ⟨ls1, st1, w1, e4, z', r', rfl, z1', r1', ez, ⟨k', ek'⟩, nd⟩ := fsq_loop (N := N) (z := z) (r := r) (p := q) (x := .int n) (st ++ [.lst (l.map .int)]) (by omega) z1 r1 ek q2 (by omega)
        subst e4
        refine ⟨_, _, _, _, rfl, .inl w1, z', r', _, rfl, rfl, z1', r1', ez, fun q' hq' => ?_⟩
        rcases List.mem_append.mp hq' with m | m
        · exact fun dd => fr q' m (Int.dvd_trans dd ⟨k', ek'⟩)
        · cases List.mem_singleton.mp m
          exact nd)
    subst e2 e3
    have fs : ∀ s : Int, (s = z ∨ s = -z) → n = s * (r * r) → Fs n s r := fun s hr en => ⟨en, by omega, fun p pp dd => by
      have dz : p * p ∣ z := by
        rcases hr with q | q
        · exact q ▸ dd
        · rw [q] at dd; exact Int.dvd_neg.mp dd
      have dn : p ∣ N := Int.dvd_trans (Int.dvd_trans ⟨p, rfl⟩ dz) ⟨r * r, ek⟩
      exact fr p (List.mem_map.mpr ⟨p, (pl.mem p).mpr ⟨pp, dn⟩, rfl⟩) dz⟩
    by_cases c : 0 < n
    · refine viaF_good ⟨n, z, r, rfl, h0, hs, fs z (.inl rfl) (by omega), rfl⟩ fun l1 _ => ?_
      simp [g_free_of_squares, ea, e1, k1, c]
      exact Pk.dropG _ l1 rfl
    · refine viaF_good ⟨n, -z, r, rfl, h0, hs, fs (-z) (.inr rfl) ?_, rfl⟩ fun l1 _ => ?_
      · have : n = -N := by omega
        rw [this, ek]
        grind
      · simp [g_free_of_squares, ea, e1, k1, c]
        exact Pk.dropG _ l1 rfl
  obtain ⟨n', r, k, e, _, _, w, eo⟩ := key
  cases e
  exact ⟨r, k, w, eo⟩
/-- the value, wherever it is known -/
theorem fsq_at {n r k : Int} (st : Store) (h0 : n ≠ 0) (hs : n.natAbs ≤ 1000000000) (w : Fs n r k) : F_free_of_squares [.int n] st = .ok (.tup [.int r, .int k]) st := by
  obtain ⟨r', k', w', e⟩ := sp_free_of_squares st h0 hs
  obtain ⟨rfl, rfl⟩ := Fs.uniq h0 w w'
  exact e
/-! the least root -/
theorem Rt.uniq {n m r s : Int} (a : Rt n m r) (b : Rt n m s) : r = s := by
  rcases Int.lt_trichotomy r s with c | c | c
  · exact absurd a.dv (b.least r a.lo c)
  · exact c
  · exact absurd b.dv (a.least s b.lo c)
theorem rt_ex {n m q : Int} (h1 : 1 ≤ m) (d : m ∣ q * q - n) : ∃ r, Rt n m r := by
  -- some root below m / 2
  have b := emod_bd (x := q) (p := m) h1
  have dq : m ∣ (q % m) * (q % m) - n := by
    have e : q = m * (q / m) + q % m := by have := Int.mul_ediv_add_emod q m; omega
    generalize q % m = s at *
    generalize q / m = t at *
    obtain ⟨w, hw⟩ := d
    exact ⟨w - m * t * t - 2 * t * s, by rw [e] at hw; grind⟩
  have ex : ∃ s : Nat, 2 * (s : Int) ≤ m ∧ m ∣ (s : Int) * s - n := by
    by_cases c : 2 * (q % m) ≤ m
    · refine ⟨(q % m).toNat, ?_, ?_⟩ <;> rw [Int.toNat_of_nonneg b.1]
      · exact c
      · exact dq
    · refine ⟨(m - q % m).toNat, ?_, ?_⟩ <;> rw [Int.toNat_of_nonneg (by omega)]
      · omega
      · generalize q % m = s at *
        obtain ⟨w, hw⟩ := dq
        exact ⟨m - 2 * s + w, by grind⟩
  -- the least one
  have least : ∀ (k : Nat) (s : Nat), s ≤ k → 2 * (s : Int) ≤ m → m ∣ (s : Int) * s - n → ∃ r, Rt n m r := by
    intro k
    induction k with
    | zero =>
      intro s hs h2 hd
      have : s = 0 := by omega
      subst this
      exact ⟨0, by omega, by omega, by simpa using hd, fun q h1 h2 => by omega⟩
    | succ k ih =>
      intro s hs h2 hd
      by_cases c : ∃ t : Nat, t < s ∧ m ∣ (t : Int) * t - n
      · obtain ⟨t, h3, h4⟩ := c
        exact ih t (by omega) (by omega) h4
      · refine ⟨s, by omega, h2, hd, fun q h3 h4 h5 => c ⟨q.toNat, by omega, ?_⟩⟩
        rwa [Int.toNat_of_nonneg h3]
  obtain ⟨s, h2, h3⟩ := ex
  exact least s s (Nat.le_refl _) h2 h3
theorem for_find {g : D → LS → Store → Out LS} {b : LS → Store → SO} {st : Store} {x v : D} {suf : List D} (R : LS → Prop) : ∀ (pre : List D) (ls : LS), R ls →
    (∀ d ∈ pre, ∀ ls, R ls → ∃ ls1 ls2, g d ls st = .ok ls1 st ∧ b ls1 st = .nx ls2 st ∧ R ls2) → (∀ ls, R ls → ∃ ls1, g x ls st = .ok ls1 st ∧ b ls1 st = .rt v st) → forL (fun _ => true) g b (pre ++ x :: suf) ls st = .rt v st
  | [], ls, h, _, f => by
    obtain ⟨ls1, e1, e2⟩ := f ls h
    rw [List.nil_append, forL_ret rfl e1 e2]
  | d :: pre, ls, h, s, f => by
    obtain ⟨ls1, ls2, e1, e2, h2⟩ := s d List.mem_cons_self ls h
    rw [List.cons_append, forL_next rfl e1 e2]
    exact for_find R pre ls2 h2 (fun y hy => s y (List.mem_cons_of_mem _ hy)) f
theorem rangeL_split {r : Int} {k : Nat} (h0 : 0 ≤ r) (h : r < k) : ∃ suf, rangeL 0 k = rangeL 0 r.toNat ++ .int r :: suf := by
  obtain ⟨j, rfl⟩ : ∃ j, k = r.toNat + (1 + j) := ⟨k - r.toNat - 1, by omega⟩
  unfold rangeL
  rw [List.range_add, List.map_append, List.range_add, List.map_append, List.map_append]
  have e : (r.toNat : Int) = r := Int.toNat_of_nonneg h0
  refine ⟨((List.range j).map (fun x => 1 + x)).map (fun x => r.toNat + x) |>.map fun i : Nat => D.int (0 + (i : Int)), ?_⟩
  rw [show List.range 1 = [0] from rfl, List.map_cons, List.map_nil, List.map_cons, List.map_nil, List.singleton_append, show (0 : Int) + ((r.toNat + 0 : Nat) : Int) = r by omega]
theorem sp_square_root {n m r : Int} (st : Store) (h1 : 1 ≤ m) (h2 : m ≤ 1000000) (n0 : 0 ≤ n) (n1 : n ≤ 1000000) (w : Rt n m r) : F_square_root [.int n, .int m] st = .ok (.int r) st := by
  refine viaF_eq ⟨n, m, r, rfl, h1, h2, n0, n1, w, rfl⟩ (fun o' ⟨n', m', r', e, _, _, _, _, w', eo⟩ => ?_) fun _ _ => Pk.of_eq ?_
  · cases e
    rw [w.uniq w']
    exact eo
  · have d2 : divOk 2 = true := divOk_small (by omega) (by omega) (by omega)
    have hr := fun ls => rng1_big (fr := consA (bin2 addV (bin2 fdivV (varD 1) (litD (.int 2))) (litD (.int 1))) nilA) (ls := some (.int n) :: some (.int m) :: ls) (st := st) (st1 := st) (j := m / 2 + 1) (by simp [d2]) (by omega) (by omega)
    have lo := w.lo
    have hi := w.hi
    obtain ⟨suf, es⟩ := rangeL_split (r := r) (k := (m / 2 + 1).toNat) lo (by omega)
    have dm : divOk m = true := divOk_small (by omega) (by omega) (by omega)
    have m0 : ¬ m = 0 := by omega
    have mm : (0 : Int) ≤ m := by omega
    have fl := for_find (g := nameG 2) (b := fb1_square_root) (st := st) (x := .int r) (v := .int r) (suf := suf) (fun ls => ∃ x, ls = [some (.int n), some (.int m), x]) (rangeL 0 r.toNat) [some (.int n), some (.int m), none] ⟨none, rfl⟩
      (fun d hd ls ⟨x, e⟩ => by
        subst e
        obtain ⟨i, hi, rfl⟩ := mem_rangeL hd
        have nd := w.least (0 + i) (by omega) (by omega)
        have mo : mulOk (0 + (i : Int)) (0 + i) = true := mulOk_l (by omega) (by omega)
        have nd' : ¬ ((0 + (i : Int)) * (0 + i) - n) % m = 0 := fun z => nd (Int.dvd_of_emod_eq_zero z)
        generalize (0 + (i : Int)) = q at *
        exact ⟨[some (.int n), some (.int m), some (.int q)], [some (.int n), some (.int m), some (.int q)], rfl, by simp [fb1_square_root, mo, dm, m0, mm, nd'], _, rfl⟩)
      (fun ls ⟨x, e⟩ => by
        subst e
        have mo : mulOk r r = true := mulOk_l (by omega) (by omega)
        have dv : (r * r - n) % m = 0 := Int.emod_eq_zero_of_dvd w.dv
        exact ⟨[some (.int n), some (.int m), some (.int r)], rfl, by simp [fb1_square_root, mo, dm, m0, mm, dv]⟩)
    rw [← es] at fl
    simp [g_square_root, hr, fl]
end K65

set_option maxRecDepth 100000
set_option maxHeartbeats 2000000
namespace K65
open PySem PySem.Spec PyProof.Rows L2 DD
/-! roots modulo a number without squares -/
theorem sqrt_ex {n : Int} : ∀ (f : Nat) {m : Int}, m.toNat ≤ f → 1 ≤ m → (∀ p : Int, Pr p → ¬ p * p ∣ m) → (∀ p : Int, Pr p → p ∣ m → ∃ r, p ∣ r * r - n) → ∃ r, m ∣ r * r - n
  | 0, m, hf, h, _, _ => by omega
  | f + 1, m, hf, h, fr, lc => by
    by_cases c : m = 1
    · exact ⟨0, by rw [c]; exact Int.one_dvd _⟩
    · obtain ⟨p, hp, ⟨q, rfl⟩⟩ := pr_ex _ (Nat.le_refl _) (n := m) (by omega)
      have p2 := hp.two
      have q1 : 1 ≤ q := by
        by_cases c : 1 ≤ q
        · exact c
        · have : p * q ≤ 0 := Int.mul_nonpos_of_nonneg_of_nonpos (by omega) (by omega)
          omega
      have ql : 2 * q ≤ p * q := Int.mul_le_mul_of_nonneg_right p2 (by omega)
      have hpq : ¬ p ∣ q := fun ⟨t, ht⟩ => fr p hp ⟨t, by rw [ht, Int.mul_assoc]⟩
      obtain ⟨s, hs⟩ := sqrt_ex f (m := q) (by omega) q1 (fun x hx d => fr x hx (Int.dvd_trans d (Int.dvd_mul_left p q))) (fun x hx d => lc x hx (Int.dvd_trans d (Int.dvd_mul_left p q)))
      obtain ⟨r, hr⟩ := lc p hp (Int.dvd_mul_right p q)
      obtain ⟨t, ht⟩ : ∃ t, p ∣ q * t - (r - s) := by
        by_cases c : p ∣ r - s
        · exact ⟨0, by rw [Int.mul_zero, Int.zero_sub]; exact Int.dvd_neg.mpr c⟩
        · obtain ⟨j, _, hj⟩ := quot_ex hp hpq c
          exact ⟨j, hj⟩
      obtain ⟨w, hw⟩ := hs
      have e : (s + q * t) * (s + q * t) - n = q * (w + 2 * s * t + q * t * t) := by grind
      refine ⟨s + q * t, ?_⟩
      have dp : p ∣ q * (w + 2 * s * t + q * t * t) := by
        rw [← e]
        obtain ⟨u, hu⟩ := ht
        obtain ⟨v, hv⟩ := hr
        have e2 : s + q * t = r + p * u := by omega
        rw [e2]
        exact ⟨2 * r * u + p * u * u + v, by grind⟩
      rw [e]
      rcases hp.or dp with d | ⟨z, hz⟩
      · exact absurd d hpq
      · exact ⟨z, by rw [hz]; grind⟩
theorem Sv.swap {n m : Int} (s : Sv n m) : Sv m n := ⟨s.m0, s.n0, s.mb, s.nb, s.mf, s.nf, fun p hp => by rw [sg_sym]; exact s.sol p hp⟩
theorem Sv.neg1 {n : Int} (s : Sv n n) : Sv n (-1) := ⟨s.n0, by omega, s.nb, by decide, s.nf, fun p hp d => by
    have := Int.le_of_dvd (by omega) (Int.dvd_neg.mp d)
    have h2 := hp.two
    have : 2 * 2 ≤ p * p := Int.mul_le_mul h2 h2 (by omega) (by omega)
    omega, fun p hp => by
    have k := sg_mul (m := n) (t := -1) hp s.n0 s.n0 (by omega)
    rw [s.sol p hp, Int.one_mul, show n * -1 = -n by omega, sg_neg hp s.n0] at k
    exact k.symm⟩
theorem Sv.not_m1 {n m : Int} (s : Sv n m) : ¬ (n < 0 ∧ m < 0) := fun h => by
  have := s.sol 0 (.inl rfl)
  unfold sg at this
  rw [if_pos rfl, if_pos h] at this
  cases this
theorem Sv.root {n m : Int} (s : Sv n m) : ∃ r, (m.natAbs : Int) ∣ r * r - n := by
  have m0 := s.m0
  refine sqrt_ex _ (Nat.le_refl _) (by omega) (fun p hp d => s.mf p hp (Int.dvd_natAbs.mp d)) fun p hp d => ?_
  have d : p ∣ m := Int.dvd_natAbs.mp d
  rcases hp.two_or with rfl | ho
  · refine ⟨n, ?_⟩
    have : n * n - n = n * (n - 1) := by grind
    rw [this]
    rcases (by omega : 2 ∣ n ∨ 2 ∣ n - 1) with c | c
    · exact Int.dvd_trans c (Int.dvd_mul_right ..)
    · exact Int.dvd_trans c (Int.dvd_mul_left ..)
  · by_cases c : p ∣ n
    · exact ⟨0, by rw [Int.zero_mul, Int.zero_sub]; exact Int.dvd_neg.mpr c⟩
    · have p2 := hp.two
      have po := ho.2
      obtain ⟨q, rfl⟩ := d
      have hq : ¬ p ∣ q := fun ⟨t, ht⟩ => s.mf p hp ⟨t, by rw [ht, Int.mul_assoc]⟩
      obtain ⟨e1, e2⟩ := va_eq (a := 1) p2 s.m0 (by rw [Int.pow_succ, Int.pow_zero, Int.one_mul]) hq
      obtain ⟨e3, e4⟩ := va_off p2 s.n0 c
      have k := s.sol p (.inr (.inr ho))
      unfold sg at k
      rw [if_neg (by omega), sgpo (by omega), sp_eq, e1, e2, e3, e4] at k
      have t1 : tt p 0 1 = 1 := by unfold tt; simp
      have t2 : pw 1 (bp n p) = bp n p := rfl
      have t3 : pw 0 (bp q p) = 1 := rfl
      rw [t1, t2, t3, Int.one_mul, Int.mul_one] at k
      exact bp_ex ho c k
theorem sq_free1 {n r : Int} (fr : ∀ p : Int, Pr p → ¬ p * p ∣ n) (h0 : n ≠ 0) (e : r * r = n) : n = 1 := by
  have : r.natAbs = 1 := free_one fr (by rw [← e, Int.natAbs_mul]; exact Nat.dvd_refl _) (by
    have : r ≠ 0 := fun z => h0 (by rw [← e, z]; rfl)
    omega)
  rw [← e]
  rcases (by omega : r = 1 ∨ r = -1) with h | h <;> rw [h] <;> rfl
/-- one step of the descent -/
structure Step (n m r s k : Int) : Prop where
  rt : Rt (n % m.natAbs) m.natAbs r
  dv : m ∣ r * r - n
  nz : r * r - n ≠ 0
  fs : Fs ((r * r - n) / m) s k
  sv : Sv n s
  q0 : (r * r - n) / m ≠ 0
  qb : ((r * r - n) / m).natAbs ≤ 1000000
  lt : 2 * s.natAbs ≤ m.natAbs
  sk : (s * k).natAbs ≤ 1000000
theorem Sv.step {n m : Int} (v : Sv n m) (n1 : n ≠ 1) (m1 : m ≠ 1) (no : n ≠ -m) (ns : n ≠ m) (le : n.natAbs ≤ m.natAbs) : ∃ r s k, Step n m r s k := by
  have m0 := v.m0
  have n0 := v.n0
  have nb := v.nb
  have mb := v.mb
  obtain ⟨M, hM⟩ : ∃ M : Int, M = m.natAbs := ⟨_, rfl⟩
  have M2 : 2 ≤ M := by omega
  obtain ⟨q0, hq0⟩ := v.root
  rw [← hM] at hq0
  have en : n = M * (n / M) + n % M := by have := Int.mul_ediv_add_emod n M; omega
  obtain ⟨r, hr⟩ : ∃ r, Rt (n % M) M r := by
    refine rt_ex (q := q0) (by omega) ?_
    obtain ⟨w, hw⟩ := hq0
    generalize n % M = t at *
    generalize n / M = u at *
    exact ⟨w + u, by rw [Int.mul_add]; omega⟩
  have dM : M ∣ r * r - n := by
    obtain ⟨w, hw⟩ := hr.dv
    generalize n % M = t at *
    generalize n / M = u at *
    exact ⟨w - u, by rw [Int.mul_sub]; omega⟩
  have dm : m ∣ r * r - n := by
    rw [hM] at dM
    exact Int.natAbs_dvd.mp dM
  have nz : r * r - n ≠ 0 := fun z => n1 (sq_free1 (r := r) v.nf n0 (by omega))
  obtain ⟨q, hq⟩ := dm
  have eq : (r * r - n) / m = q := by rw [hq]; exact Int.mul_ediv_cancel_left q m0
  have qn : q ≠ 0 := fun z => nz (by rw [hq, z, Int.mul_zero])
  have lo := hr.lo
  have hi := hr.hi
  have rr : (2 * r) * (2 * r) ≤ M * M := Int.mul_le_mul hi hi (by omega) (by omega)
  have rr0 : 0 ≤ r * r := Int.mul_nonneg lo lo
  have e4 : (2 * r) * (2 * r) = 4 * (r * r) := by grind
  have ab : 4 * ((q.natAbs : Int) * M) ≤ M * M + 4 * M := by
    have : (q.natAbs : Int) * M = ((r * r - n).natAbs : Int) := by rw [hq, hM, Int.natAbs_mul, Int.natCast_mul, Int.mul_comm]
    rw [this]
    omega
  have qb : 4 * (q.natAbs : Int) ≤ M + 4 := by
    have e5 : 4 * ((q.natAbs : Int) * M) = (4 * (q.natAbs : Int)) * M := by grind
    have e6 : M * M + 4 * M = (M + 4) * M := by grind
    rw [e5, e6] at ab
    exact Int.le_of_mul_le_mul_right ab (by omega)
  obtain ⟨s, k, fs, _⟩ := sp_free_of_squares [] qn (by omega)
  obtain ⟨s0, sb, kb, kk⟩ := fs.bd qn
  have k0 := fs.pos
  refine ⟨r, s, k, by rw [← hM]; exact hr, ⟨q, hq⟩, nz, by rw [eq]; exact fs, ⟨n0, s0, nb, by omega, v.nf, fs.free, fun p hp => ?_⟩, by rw [eq]; exact qn, by rw [eq]; omega, by omega, ?_⟩
  · have ms := Int.mul_ne_zero m0 s0
    have g := sg_norm (A := n) (B := m * s) (x := 1) (y := k) (w := r) hp n0 ms (by
      have : m * s * (k * k) = m * q := by rw [fs.eq]; grind
      rw [this, ← hq]
      omega) (fun h => by omega)
    rw [sg_mul hp n0 m0 s0, v.sol p hp, Int.one_mul] at g
    exact g
  · have : (s * k).natAbs ≤ q.natAbs := by
      have e7 : q = s * k * k := by rw [Int.mul_assoc]; exact fs.eq
      rw [e7, Int.natAbs_mul (s * k)]
      exact Nat.le_mul_of_pos_right _ (by omega)
    omega
theorem Pf.inv {n m x y z : Int} (h : Pf n m x y z) : (n = 1 ∧ x = 1 ∧ y = 0 ∧ z = 1) ∨ (n ≠ 1 ∧ m = 1 ∧ x = 0 ∧ y = 1 ∧ z = 1) ∨ (n ≠ 1 ∧ m ≠ 1 ∧ n = -m ∧ x = 1 ∧ y = 1 ∧ z = 0) ∨
    (n ≠ 1 ∧ m ≠ 1 ∧ n ≠ -m ∧ n = m ∧ ∃ x' y' z', Pf n (-1) x' y' z' ∧ x = z' ∧ y = y' ∧ z = n * x') ∨
    (n ≠ 1 ∧ m ≠ 1 ∧ n ≠ -m ∧ n ≠ m ∧ m.natAbs < n.natAbs ∧ Pf m n y x z) ∨
    (n ≠ 1 ∧ m ≠ 1 ∧ n ≠ -m ∧ n ≠ m ∧ n.natAbs ≤ m.natAbs ∧ ∃ x' y' z' r s k, Rt (n % m.natAbs) m.natAbs r ∧ r * r - n ≠ 0 ∧ m ∣ r * r - n ∧ Fs ((r * r - n) / m) s k ∧ Pf n s x' y' z' ∧ x = z' + r * x' ∧ y = s * k * y' ∧ z = r * z' + n * x') := by
  cases h with
  | one m => exact .inl ⟨rfl, rfl, rfl, rfl⟩
  | other n h => exact .inr (.inl ⟨h, rfl, rfl, rfl, rfl⟩)
  | opp n h1 h2 => exact .inr (.inr (.inl ⟨h1, by omega, by omega, rfl, rfl, rfl⟩))
  | same n x y z h1 h2 h3 => exact .inr (.inr (.inr (.inl ⟨h1, h1, by omega, rfl, _, _, _, h3, rfl, rfl, rfl⟩)))
  | swap n m x y z h1 h2 h3 h4 h5 h6 => exact .inr (.inr (.inr (.inr (.inl ⟨h1, h2, h3, h4, h5, h6⟩))))
  | desc n m x y z r s k h1 h2 h3 h4 h5 h6 h7 h8 h9 h10 => exact .inr (.inr (.inr (.inr (.inr ⟨h1, h2, h3, h4, h5, _, _, _, r, s, k, h6, h8, h7, h9, h10, rfl, rfl, rfl⟩))))
theorem Pf.uniq {n m x y z : Int} (h : Pf n m x y z) : ∀ {x' y' z' : Int}, Pf n m x' y' z' → x = x' ∧ y = y' ∧ z = z' := by
  induction h with
  | one m =>
    intro x' y' z' h
    rcases h.inv with ⟨_, rfl, rfl, rfl⟩ | ⟨h, _⟩ | ⟨h, _⟩ | ⟨h, _⟩ | ⟨h, _⟩ | ⟨h, _⟩ <;> first | exact ⟨rfl, rfl, rfl⟩ | exact absurd rfl h
  | other n h1 =>
    intro x' y' z' h
    rcases h.inv with ⟨h, _⟩ | ⟨_, _, rfl, rfl, rfl⟩ | ⟨_, h, _⟩ | ⟨_, h, _⟩ | ⟨_, h, _⟩ | ⟨_, h, _⟩ <;> first | exact ⟨rfl, rfl, rfl⟩ | exact absurd rfl h | exact absurd h h1
  | opp n h1 h2 =>
    intro x' y' z' h
    rcases h.inv with ⟨h, _⟩ | ⟨_, h, _⟩ | ⟨_, _, _, rfl, rfl, rfl⟩ | ⟨_, _, h, _⟩ | ⟨_, _, h, _⟩ | ⟨_, _, h, _⟩ <;> first | exact ⟨rfl, rfl, rfl⟩ | (exfalso; omega)
  | same n x y z h1 h2 h3 ih =>
    intro x' y' z' h
    rcases h.inv with ⟨h, _⟩ | ⟨_, h, _⟩ | ⟨_, _, h, _⟩ | ⟨_, _, _, _, x2, y2, z2, g, rfl, rfl, rfl⟩ | ⟨_, _, _, h, _⟩ | ⟨_, _, _, h, _⟩
    · exact absurd h h1
    · exact absurd h h1
    · exfalso; omega
    · obtain ⟨rfl, rfl, rfl⟩ := ih g
      exact ⟨rfl, rfl, rfl⟩
    · exact absurd rfl h
    · exact absurd rfl h
  | swap n m x y z h1 h2 h3 h4 h5 h6 ih =>
    intro x' y' z' h
    rcases h.inv with ⟨h, _⟩ | ⟨_, h, _⟩ | ⟨_, _, h, _⟩ | ⟨_, _, _, h, _⟩ | ⟨_, _, _, _, _, h⟩ | ⟨_, _, _, _, h, _⟩
    · exact absurd h h1
    · exact absurd h h2
    · exact absurd h h3
    · exact absurd h h4
    · obtain ⟨rfl, rfl, rfl⟩ := ih h
      exact ⟨rfl, rfl, rfl⟩
    · exfalso; omega
  | desc n m x y z r s k h1 h2 h3 h4 h5 h6 h7 h8 h9 h10 ih =>
    intro x' y' z' h
    rcases h.inv with ⟨h, _⟩ | ⟨_, h, _⟩ | ⟨_, _, h, _⟩ | ⟨_, _, _, h, _⟩ | ⟨_, _, _, _, h, _⟩ | ⟨_, _, _, _, _, x2, y2, z2, r2, s2, k2, g1, g2, g3, g4, g5, rfl, rfl, rfl⟩
    · exact absurd h h1
    · exact absurd h h2
    · exact absurd h h3
    · exact absurd h h4
    · exfalso; omega
    · have := h6.uniq g1
      subst this
      have q0 : (r * r - n) / m ≠ 0 := fun z => h8 (by
        have := Int.mul_ediv_cancel' h7
        rw [z, Int.mul_zero] at this
        exact this.symm)
      obtain ⟨rfl, rfl⟩ := h9.uniq q0 g4
      obtain ⟨rfl, rfl, rfl⟩ := ih g5
      exact ⟨rfl, rfl, rfl⟩
/-- it is a point -/
theorem Pf.pt {n m x y z : Int} (h : Pf n m x y z) : n * (x * x) + m * (y * y) = z * z ∧ ¬ (x = 0 ∧ y = 0 ∧ z = 0) := by
  induction h with
  | one m => exact ⟨by omega, by omega⟩
  | other n h1 => exact ⟨by omega, by omega⟩
  | opp n h1 h2 => exact ⟨by omega, by omega⟩
  | same n x y z h1 h2 h3 ih =>
    obtain ⟨e, nz⟩ := ih
    refine ⟨?_, fun ⟨hz, hy, hx⟩ => ?_⟩
    · have : z * z + y * y = n * (x * x) := by omega
      have e2 : n * (z * z) + n * (y * y) = n * (z * z + y * y) := by grind
      rw [e2, this]
      grind
    · exact nz ⟨(Int.mul_eq_zero.mp hx).resolve_left h2, hy, hz⟩
  | swap n m x y z h1 h2 h3 h4 h5 h6 ih =>
    obtain ⟨e, nz⟩ := ih
    exact ⟨by omega, fun ⟨a, b, c⟩ => nz ⟨b, a, c⟩⟩
  | desc n m x y z r s k h1 h2 h3 h4 h5 h6 h7 h8 h9 h10 ih =>
    obtain ⟨e, nz⟩ := ih
    have eq := Int.mul_ediv_cancel' h7
    rw [h9.eq] at eq
    have k0 := h9.pos
    have s0 : s ≠ 0 := fun hz => h8 (by rw [← eq, hz]; simp)
    refine ⟨?_, fun ⟨hx, hy, hz⟩ => ?_⟩
    · have e1 : m * (s * k * y * (s * k * y)) = (m * (s * (k * k))) * (s * (y * y)) := by grind
      have e2 : s * (y * y) = z * z - n * (x * x) := by omega
      rw [e1, eq, e2]
      grind
    · have y0 : y = 0 := (Int.mul_eq_zero.mp hy).resolve_left (Int.mul_ne_zero s0 (by omega))
      have z1 : z = -(r * x) := by omega
      rw [z1] at hz
      have x0 : (r * r - n) * x = 0 := by
        have : r * -(r * x) + n * x = -((r * r - n) * x) := by grind
        omega
      have x0 : x = 0 := (Int.mul_eq_zero.mp x0).resolve_left h8
      exact nz ⟨x0, y0, by rw [z1, x0]; simp⟩
theorem log_half {a b c : Nat} (ha : 0 < a) (hb : 0 < b) (h : 2 * b ≤ c) : (a * b).log2 + 1 ≤ (a * c).log2 := by
  have h0 : a * b ≠ 0 := Nat.mul_ne_zero (by omega) (by omega)
  have h1 : 2 * (a * b) ≤ a * c := by
    have := Nat.mul_le_mul_left a h
    have e : a * (2 * b) = 2 * (a * b) := by ac_rfl
    omega
  have h2 := Nat.log2_self_le h0
  exact (Nat.le_log2 (by omega)).mpr (by rw [Nat.pow_succ]; omega)
/-- how great the numbers of a point are -/
theorem Pf.bd {n m x y z : Int} (h : Pf n m x y z) : Sv n m → x.natAbs < 2 ^ (22 * (n.natAbs * m.natAbs).log2 + 1) ∧ y.natAbs < 2 ^ (22 * (n.natAbs * m.natAbs).log2 + 1) ∧ z.natAbs < 2 ^ (22 * (n.natAbs * m.natAbs).log2 + 1) := by
  have up : ∀ {L L' : Nat} {a b d c : Int}, L + 1 ≤ L' → a.natAbs < 2 ^ (22 * L + 1) → b.natAbs < 2 ^ (22 * L + 1) → d.natAbs ≤ 1000000 → c.natAbs ≤ 1000000 → (d * a + c * b).natAbs < 2 ^ (22 * L' + 1) := fun {L L' a b d c} hL ha hb hd hc => by
    have e : 2 ^ (22 * L + 1) * 2 ^ 22 ≤ 2 ^ (22 * L' + 1) := by
      rw [← Nat.pow_add]
      exact Nat.pow_le_pow_right (by decide) (by omega)
    have t := Int.natAbs_add_le (d * a) (c * b)
    rw [Int.natAbs_mul, Int.natAbs_mul] at t
    generalize 2 ^ (22 * L + 1) = P at *
    have t1 : d.natAbs * a.natAbs ≤ 1000000 * P := Nat.mul_le_mul hd (by omega)
    have t2 : c.natAbs * b.natAbs ≤ 1000000 * P := Nat.mul_le_mul hc (by omega)
    have e22 : (2 : Nat) ^ 22 = 4194304 := by decide
    rw [e22] at e
    omega
  have one : ∀ L : Nat, 1 < 2 ^ (22 * L + 1) := fun L => Nat.one_lt_pow (by omega) (by decide)
  induction h with
  | one m => intro v; exact ⟨one _, Nat.lt_trans (by decide) (one _), one _⟩
  | other n h1 => intro v; exact ⟨Nat.lt_trans (by decide) (one _), one _, one _⟩
  | opp n h1 h2 => intro v; exact ⟨one _, one _, Nat.lt_trans (by decide) (one _)⟩
  | same n x y z h1 h2 h3 ih =>
    intro v
    obtain ⟨a, b, c⟩ := ih v.neg1
    have nm1 : n ≠ -1 := fun h => v.not_m1 ⟨by omega, by omega⟩
    have l := log_half (a := n.natAbs) (b := 1) (c := n.natAbs) (by omega) (by omega) (by omega)
    rw [show (-1 : Int).natAbs = 1 from rfl] at a b c
    have nb := v.nb
    have k1 := up (d := 1) (c := 0) l c c (by decide) (by decide)
    have k2 := up (d := 1) (c := 0) l b b (by decide) (by decide)
    have k3 := up (d := n) (c := 0) l a a nb (by decide)
    simp only [Int.one_mul, Int.zero_mul, Int.add_zero] at k1 k2 k3
    exact ⟨k1, k2, k3⟩
  | swap n m x y z h1 h2 h3 h4 h5 h6 ih =>
    intro v
    obtain ⟨a, b, c⟩ := ih v.swap
    rw [Nat.mul_comm m.natAbs] at a b c
    exact ⟨b, a, c⟩
  | desc n m x y z r s k h1 h2 h3 h4 h5 h6 h7 h8 h9 h10 ih =>
    intro v
    obtain ⟨r', s', k', sp⟩ := v.step h1 h2 h3 h4 h5
    have := sp.rt.uniq h6
    subst this
    obtain ⟨rfl, rfl⟩ := sp.fs.uniq sp.q0 h9
    obtain ⟨a, b, c⟩ := ih sp.sv
    have l := log_half (a := n.natAbs) (b := s'.natAbs) (c := m.natAbs) (by have := v.n0; omega) (by have := sp.sv.m0; omega) sp.lt
    have nb := v.nb
    have mb := v.mb
    have rb : r'.natAbs ≤ 1000000 := by
      have := h6.lo
      have := h6.hi
      omega
    have k1 := up (d := 1) (c := r') l c a (by decide) rb
    have k2 := up (d := s' * k') (c := 0) l b b sp.sk (by decide)
    have k3 := up (d := r') (c := n) l c a rb nb
    simp only [Int.one_mul, Int.zero_mul, Int.add_zero] at k1 k2
    exact ⟨k1, k2, k3⟩
end K65

set_option maxRecDepth 100000
set_option maxHeartbeats 2000000
namespace K65
open PySem PySem.Spec PyProof.Rows L2 DD
theorem sp_law_is_whole {st : Store} {d : D} {t : Ty} (h : tyD st d = some t) : F__law_is_whole [d] st = .ok (.bl (decide (t = .int))) st := by
  refine viaF_eq (o := .ok (.bl (decide (t = .int))) st) ⟨d, t, rfl, h, rfl⟩ (fun o' ⟨d', t', e, h', eo⟩ => ?_) fun _ _ => Pk.of_eq ?_
  · cases e
    rw [h] at h'
    cases h'
    exact eo
  · simp [g__law_is_whole, h]
    cases t <;> simp [Ty.isA]
theorem conE_no {st : Store} {x : D} {t : Ty} (h : tyD st x = some t) (ht : t ≠ .int) : conE x = false := by
  cases x <;> first | rfl | (cases h; exact absurd rfl ht)
theorem con_elem {isI : List D → Store → Out D} {st : Store} {x : D} (hI : ∀ t, tyD st x = some t → isI [x] st = .ok (.bl (decide (t = .int))) st) (hx : ∃ t, tyD st x = some t) {l0 : Option D} {r : LS} :
    andV (callD isI (consA (varD 1) nilA)) (andV (bin2 neV (varD 1) (litD (.int 0))) (bin2 leV (callD absV' (consA (varD 1) nilA)) (litD (.int 1000)))) (l0 :: some x :: r) st = .ok (.bl (conE x)) st := by
  obtain ⟨t, ht⟩ := hx
  have hi := hI t ht
  by_cases c : t = .int
  · subst c
    obtain ⟨i, rfl⟩ := ty_int ht
    simp [hi, conE]
    by_cases h0 : i = 0
    · simp [h0]
    · simp [h0]
      refine Bool.eq_iff_iff.mpr ?_
      by_cases hi : i < 0
      · simp [hi]; omega
      · simp [hi]; omega
  · rw [conE_no ht c]
    simp [hi, c]
theorem conic_e {l : List D} (hl : l.length = 3) : conicB (.tup l) = l.all conE := by simp [conicB, hl]
theorem sp_is_conic {st : Store} {d : D} (h : Cd st d) : F_is_conic [d] st = .ok (.bl (conicB d)) st := by
  refine viaF_eq (o := .ok (.bl (conicB d)) st) ⟨d, rfl, h, rfl⟩ (fun o' ⟨d', e, h', eo⟩ => ?_) fun h1 h2 => ?_
  · cases e; exact eo
  · obtain ⟨t, ht⟩ := h.ty
    by_cases hd : ∃ l, d = .tup l
    · obtain ⟨l, rfl⟩ := hd
      by_cases hl : l.length = 3
      · have fl := h.pl l rfl hl
        have key : lcL (okB ⟨l, []⟩) st.length (nameG 1) yesT le1_is_conic (wipeL [some (.tup l), none] [1]) l (st ++ [.lst []]) =
            .ok (.ref st.length) (st ++ [.lst (l.map fun x => .bl (conE x))]) := by
          refine lc_map (its := ⟨l, []⟩) (fun x => .bl (conE x)) (fun _ => rfl) (by rw [hl]; decide) fun x hx acc => ⟨_, rfl, rfl, ?_⟩
          obtain ⟨t, ht⟩ := fl x hx
          exact con_elem (fun t ht => sp_is_integer ht) ⟨t, tyD_app ht⟩
        simp only [okB_nil] at key
        simp [g_is_conic, hl, key, allL]
        rw [conic_e hl]
        exact Pk.dropG _ h1 rfl
      · refine Pk.of_eq ?_
        have hl' : ¬ ((l.length : Int) = 3) := by omega
        simp [g_is_conic, hl, hl', conicB]
    · refine Pk.of_eq ?_
      have hne : t ≠ .tup := fun e => hd (ty_tup (e ▸ ht))
      have e : conicB d = false := by
        cases d <;> first | rfl | exact absurd ⟨_, rfl⟩ hd
      simp [g_is_conic, ht, hne, e]
theorem sp_law_is_conic {st : Store} {d : D} (h : Cd st d) : F__law_is_conic [d] st = .ok (.bl (conicB d)) st := by
  refine viaF_eq (o := .ok (.bl (conicB d)) st) ⟨d, rfl, h, rfl⟩ (fun o' ⟨d', e, h', eo⟩ => ?_) fun h1 h2 => ?_
  · cases e; exact eo
  · obtain ⟨t, ht⟩ := h.ty
    by_cases hd : ∃ l, d = .tup l
    · obtain ⟨l, rfl⟩ := hd
      by_cases hl : l.length = 3
      · have fl := h.pl l rfl hl
        have key : lcL (okB ⟨l, []⟩) st.length (nameG 1) yesT le1__law_is_conic (wipeL [some (.tup l), none] [1]) l (st ++ [.lst []]) =
            .ok (.ref st.length) (st ++ [.lst (l.map fun x => .bl (conE x))]) := by
          refine lc_map (its := ⟨l, []⟩) (fun x => .bl (conE x)) (fun _ => rfl) (by rw [hl]; decide) fun x hx acc => ⟨_, rfl, rfl, ?_⟩
          obtain ⟨t, ht⟩ := fl x hx
          exact con_elem (fun t ht => sp_law_is_whole ht) ⟨t, tyD_app ht⟩
        simp only [okB_nil] at key
        simp [g__law_is_conic, hl, key, allL]
        rw [conic_e hl]
        exact Pk.dropG _ h1 rfl
      · refine Pk.of_eq ?_
        have hl' : ¬ ((l.length : Int) = 3) := by omega
        simp [g__law_is_conic, hl, hl', conicB]
    · refine Pk.of_eq ?_
      have hne : t ≠ .tup := fun e => hd (ty_tup (e ▸ ht))
      have e : conicB d = false := by
        cases d <;> first | rfl | exact absurd ⟨_, rfl⟩ hd
      simp [g__law_is_conic, ht, hne, e]
theorem sp_check_conic {st : Store} {d : D} (h : Cd st d) : F_check_conic [d] st = if conicB d = true then .ok .non st else noConic st := by
  refine viaF_eq ⟨d, rfl, h, rfl⟩ (fun o' ⟨d', e, h', eo⟩ => ?_) fun h1 h2 => ?_
  · cases e; exact eo
  · refine Pk.of_eq ?_
    simp [g_check_conic, sp_is_conic h]
    cases conicB d <;> simp [noConic]
theorem Ck.con {a b c : Int} (h : Ck a b c) : conicB (tupI [a, b, c]) = true := by
  have ha := h.a
  have hb := h.b
  have hc := h.c
  simp [tupI, conicB, conE, ha, hb, hc]
theorem Ck.cd {a b c : Int} (st : Store) : Cd st (tupI [a, b, c]) := ⟨⟨_, rfl⟩, fun l e _ x hx => by
  simp [tupI] at e
  subst e
  simp only [List.mem_cons, List.not_mem_nil, or_false] at hx
  rcases hx with rfl | rfl | rfl <;> exact ⟨_, rfl⟩⟩
theorem con_ck {d : D} (h : conicB d = true) : ∃ a b c, d = tupI [a, b, c] ∧ Ck a b c := by
  cases d with
  | tup l =>
    simp only [conicB, Bool.and_eq_true, decide_eq_true_eq] at h
    obtain ⟨hl, ha⟩ := h
    match l, hl with
    | [x, y, z], _ =>
      simp only [List.all_cons, List.all_nil, Bool.and_true, Bool.and_eq_true] at ha
      have el : ∀ {x : D}, conE x = true → ∃ i, x = .int i ∧ i ≠ 0 ∧ -1000 ≤ i ∧ i ≤ 1000 := fun {x} hx => by
        cases x with
        | int i => simp [conE] at hx; exact ⟨i, rfl, hx⟩
        | _ => cases hx
      obtain ⟨a, rfl, h1⟩ := el ha.1
      obtain ⟨b, rfl, h2⟩ := el ha.2.1
      obtain ⟨c, rfl, h3⟩ := el ha.2.2
      exact ⟨a, b, c, rfl, h1, h2, h3⟩
  | _ => cases h
theorem ck_ok {a b c : Int} (st : Store) (h : Ck a b c) : F_check_conic [tupI [a, b, c]] st = .ok .non st := (sp_check_conic (Ck.cd st)).trans (if_pos h.con)
theorem sp_common_divisor (a b : Int) (st : Store) : F_common_divisor [.int a, .int b] st = .ok (.int (Int.gcd a b)) st := by
  refine viaF_eq ⟨a, b, rfl, rfl⟩ (fun o' ⟨a', b', e, eo⟩ => ?_) fun h1 h2 => ?_
  · cases e; exact eo
  · refine Pk.of_eq ?_
    have key := while_run (t := wt1_common_divisor) (b := wb1_common_divisor)
      (fun (p : Nat × Nat) ls s => ls = [some (.int p.1), some (.int p.2)] ∧ s = st ∧ Nat.gcd p.1 p.2 = Int.gcd a b) (fun p => p.2)
      (fun ls s => s = st ∧ ∃ x, ls = [some (.int (Int.gcd a b)), x]) (fun p ls s ⟨e1, e2, e3⟩ => ?_) (a.natAbs, b.natAbs) [some (.int a.natAbs), some (.int b.natAbs)] st ⟨rfl, rfl, rfl⟩
    · obtain ⟨ls', st', k1, rfl, x, rfl⟩ := key
      have ea : (if a < 0 then -a else a) = (a.natAbs : Int) := by omega
      have eb : (if b < 0 then -b else b) = (b.natAbs : Int) := by omega
      simp [g_common_divisor, ea, eb, k1]
    · subst e1 e2
      by_cases hp : p.2 = 0
      · refine .inl ⟨_, by simp [wt1_common_divisor, hp], rfl, some (.int p.2), ?_⟩
        rw [hp, Nat.gcd_zero_right] at e3
        rw [← e3]
      · refine .inr ⟨_, _, _, (p.2, p.1 % p.2), by simp [wt1_common_divisor]; exact ⟨Nat.pos_of_ne_zero hp, rfl⟩, ?_, ⟨rfl, rfl, ?_⟩, Nat.mod_lt _ (Nat.pos_of_ne_zero hp)⟩
        · simp [wb1_common_divisor, hp]
        · rw [← e3, Nat.gcd_comm p.1 p.2, Nat.gcd_rec p.2 p.1, Nat.gcd_comm]
theorem sp_divisor_of (ns : List Int) (st : Store) : F_divisor_of [.tup (ns.map .int)] st = .ok (.int (gcdL ns)) st := by
  refine viaF_eq ⟨ns, rfl, rfl⟩ (fun o' ⟨ns', e, eo⟩ => ?_) fun h1 h2 => ?_
  · have e : ns.map D.int = ns'.map D.int := by simpa using e
    have := congrArg intsOf e
    rw [intsOf_map, intsOf_map] at this
    cases this
    exact eo
  · refine Pk.of_eq ?_
    obtain ⟨ls', st', k1, rfl, y, rfl⟩ := for_fold (ok := fun _ => true) (g := nameG 2) (b := fb1_divisor_of) (fun (x : Int) ls s => s = st ∧ ∃ y, ls = [some (.tup (ns.map .int)), some (.int x), y])
      (fun x d => match d with | .int i => (Int.gcd x i : Int) | _ => x) (fun _ _ _ _ => rfl) (ns.map .int) 0 [some (.tup (ns.map .int)), some (.int 0), none] st ⟨rfl, none, rfl⟩ (fun d hd x ls s ⟨e1, y, e2⟩ => by
        obtain ⟨i, _, rfl⟩ := List.mem_map.mp hd
        subst e1 e2
        exact ⟨_, _, [some (.tup (ns.map .int)), some (.int (Int.gcd x i)), some (.int i)], s, rfl, .inl (by simp [fb1_divisor_of, sp_common_divisor]), rfl, _, rfl⟩)
    simp [g_divisor_of, k1, gcdL, List.foldl_map]
end K65

set_option maxRecDepth 100000
set_option maxHeartbeats 2000000
namespace K65
open PySem PySem.Spec PyProof.Rows L2 DD
theorem fdiv_ex {i j : Int} (h : j ∣ i) : i.fdiv j = i / j := by
  rw [Int.fdiv_eq_ediv_of_dvd h]
theorem sp_descended {F : List D → Store → Out D} {n m : Int} {st : Store} (v : Sv n m) (n1 : n ≠ 1) (m1 : m ≠ 1) (no : n ≠ -m) (ns : n ≠ m) (le : n.natAbs ≤ m.natAbs)
    (ih : ∀ s : Int, Sv n s → 2 * s.natAbs ≤ m.natAbs → ∃ x y z, Pf n s x y z ∧ F [.int n, .int s] st = .ok (tupI [x, y, z]) st) : ∃ x y z, Pf n m x y z ∧ R_descended F [.int n, .int m] st = .ok (tupI [x, y, z]) st := by
  have key : Good_descended [.int n, .int m] st (R_descended F [.int n, .int m] st) := by
    obtain ⟨r, s, k, sp⟩ := v.step n1 m1 no ns le
    obtain ⟨x, y, z, hp, eF⟩ := ih s sp.sv sp.lt
    obtain ⟨M, hM⟩ : ∃ M : Int, M = m.natAbs := ⟨_, rfl⟩
    have m0 := v.m0
    have nb := v.nb
    have mb := v.mb
    have sk := sp.sk
    have dv := sp.dv
    have lo := sp.rt.lo
    have hi := sp.rt.hi
    have ea : (if m < 0 then -m else m) = M := by omega
    have M0 : ¬ M = 0 := by omega
    have MM : (0 : Int) ≤ M := by omega
    have b := emod_bd (x := n) (p := M) (by omega)
    have e1 := sp_square_root (n := n % M) (m := M) (r := r) st (by omega) (by omega) b.1 (by omega) (by rw [hM]; exact sp.rt)
    have e2 := fsq_at st sp.q0 (by have := sp.qb; omega) sp.fs
    have dm : divOk m = true := divOk_small m0 (by omega) (by omega)
    have k1 : ∀ y, mulOk r y = true := fun y => mulOk_l (by omega) (by omega)
    have k2 : ∀ y, mulOk n y = true := fun y => mulOk_l (by omega) (by omega)
    have k3 : ∀ y, mulOk (s * k) y = true := fun y => mulOk_l (by omega) (by omega)
    have sb := sp.lt
    have k4 : mulOk s k = true := mulOk_l (by omega) (by omega)
    have fd := fdiv_ex dv
    refine viaF_good (o := .ok (tupI [z + r * x, s * k * y, r * z + n * x]) st) ⟨n, m, _, _, _, rfl, v, n1, m1, no, ns, le, Pf.desc n m x y z r s k n1 m1 no ns le sp.rt dv sp.nz sp.fs hp, rfl⟩ fun _ _ => Pk.of_eq ?_
    simp [tupI] at eF
    simp [g_descended, ea, M0, MM, e1, k1, k2, k3, k4, dm, fd, e2, eF, tupI]
  obtain ⟨n', m', x, y, z, e, _, _, _, _, _, _, hp, eo⟩ := key
  cases e
  exact ⟨x, y, z, hp, eo⟩
theorem sp_point_for {st : Store} : ∀ (f : Nat) {n m : Int}, Sv n m → 2 * (n.natAbs * m.natAbs).log2 + 1 + (if m.natAbs < n.natAbs then 1 else 0) ≤ f → ∃ x y z, Pf n m x y z ∧ R_point_for f [.int n, .int m] st = .ok (tupI [x, y, z]) st
  | 0, n, m, v, h => by omega
  | f + 1, n, m, v, h => by
    have key : Good_point_for [.int n, .int m] st (R_point_for (f + 1) [.int n, .int m] st) := by
      have n0 := v.n0
      have m0 := v.m0
      have nb := v.nb
      have mb := v.mb
      by_cases n1 : n = 1
      · subst n1
        refine viaF_good (o := .ok (tupI [1, 0, 1]) st) ⟨1, m, _, _, _, rfl, v, Pf.one m, rfl⟩ fun _ _ => Pk.of_eq ?_
        simp [g_point_for, tupI]
      · by_cases m1 : m = 1
        · subst m1
          refine viaF_good (o := .ok (tupI [0, 1, 1]) st) ⟨n, 1, _, _, _, rfl, v, Pf.other n n1, rfl⟩ fun _ _ => Pk.of_eq ?_
          simp [g_point_for, tupI, n1]
        · by_cases no : n = -m
          · obtain rfl : m = -n := by omega
            refine viaF_good (o := .ok (tupI [1, 1, 0]) st) ⟨n, -n, _, _, _, rfl, v, Pf.opp n n1 (by omega), rfl⟩ fun _ _ => Pk.of_eq ?_
            simp [g_point_for, tupI, n1, m1]
          · by_cases ns : n = m
            · subst ns
              have nm1 : n ≠ -1 := fun h => v.not_m1 ⟨by omega, by omega⟩
              have l := log_half (a := n.natAbs) (b := 1) (c := n.natAbs) (by omega) (by omega) (by omega)
              have h1 := v.neg1
              have hl : 2 * (n.natAbs * (-1 : Int).natAbs).log2 + 1 + (if (-1 : Int).natAbs < n.natAbs then 1 else 0) ≤ f := by
                rw [show (-1 : Int).natAbs = 1 from rfl]
                rw [if_neg (Nat.lt_irrefl _)] at h
                split <;> omega
              obtain ⟨x, y, z, hp, eF⟩ := sp_point_for (st := st) f h1 hl
              have k2 : ∀ y, mulOk n y = true := fun y => mulOk_l (by omega) (by omega)
              refine viaF_good (o := .ok (tupI [z, y, n * x]) st) ⟨n, n, _, _, _, rfl, v, Pf.same n x y z n1 n0 hp, rfl⟩ fun _ _ => Pk.of_eq ?_
              simp [tupI] at eF
              have no' : ¬ n = -n := no
              simp [g_point_for, tupI, n1, no', eF, k2]
            · have ea : ∀ i : Int, (if i < 0 then -i else i) = (i.natAbs : Int) := fun i => by omega
              by_cases lt : m.natAbs < n.natAbs
              · rw [if_pos lt] at h
                have hl : 2 * (m.natAbs * n.natAbs).log2 + 1 + (if n.natAbs < m.natAbs then 1 else 0) ≤ f := by
                  rw [Nat.mul_comm m.natAbs, if_neg (by omega)]
                  omega
                obtain ⟨x, y, z, hp, eF⟩ := sp_point_for (st := st) f v.swap hl
                refine viaF_good (o := .ok (tupI [y, x, z]) st) ⟨n, m, _, _, _, rfl, v, Pf.swap n m x y z n1 m1 no ns lt hp, rfl⟩ fun _ _ => Pk.of_eq ?_
                simp [tupI] at eF
                have gt : (m.natAbs : Int) < (n.natAbs : Int) := by omega
                simp [g_point_for, tupI, n1, m1, no, ns, ea, eF, lt]
              · rw [if_neg lt] at h
                obtain ⟨x, y, z, hp, eF⟩ := sp_descended (F := R_point_for f) (st := st) v n1 m1 no ns (by omega) fun s vs ls => by
                  have l := log_half (a := n.natAbs) (b := s.natAbs) (c := m.natAbs) (by omega) (by have := vs.m0; omega) ls
                  exact sp_point_for (st := st) f vs (by split <;> omega)
                refine viaF_good (o := .ok (tupI [x, y, z]) st) ⟨n, m, _, _, _, rfl, v, hp, rfl⟩ fun _ _ => Pk.of_eq ?_
                simp [tupI] at eF
                simp [g_point_for, tupI, n1, m1, no, ns, ea, eF, lt]
    obtain ⟨n', m', x, y, z, e, _, hp, eo⟩ := key
    cases e
    exact ⟨x, y, z, hp, eo⟩
/-! the greatest common divisor of three -/
theorem g3 (x y z : Int) : gcdL [x, y, z] = ((Nat.gcd (Nat.gcd x.natAbs y.natAbs) z.natAbs : Nat) : Int) := by simp [gcdL, Int.gcd]
theorem g3_dvd (x y z : Int) : gcdL [x, y, z] ∣ x ∧ gcdL [x, y, z] ∣ y ∧ gcdL [x, y, z] ∣ z := by
  rw [g3]
  refine ⟨?_, ?_, ?_⟩ <;> refine Int.dvd_natAbs.mp (Int.natCast_dvd_natCast.mpr ?_)
  · exact Nat.dvd_trans (Nat.gcd_dvd_left _ _) (Nat.gcd_dvd_left _ _)
  · exact Nat.dvd_trans (Nat.gcd_dvd_left _ _) (Nat.gcd_dvd_right _ _)
  · exact Nat.gcd_dvd_right _ _
theorem g3_pos {x y z : Int} (h : ¬ (x = 0 ∧ y = 0 ∧ z = 0)) : 0 < gcdL [x, y, z] := by
  obtain ⟨⟨a, ha⟩, ⟨b, hb⟩, ⟨c, hc⟩⟩ := g3_dvd x y z
  have : 0 ≤ gcdL [x, y, z] := by rw [g3]; omega
  have : gcdL [x, y, z] ≠ 0 := fun e => by
    rw [e] at ha hb hc
    exact h ⟨by omega, by omega, by omega⟩
  omega
theorem g3_one {x y z : Int} (h : ¬ (x = 0 ∧ y = 0 ∧ z = 0)) : gcdL [x / gcdL [x, y, z], y / gcdL [x, y, z], z / gcdL [x, y, z]] = 1 := by
  have p := g3_pos h
  obtain ⟨⟨a, ha⟩, ⟨b, hb⟩, ⟨c, hc⟩⟩ := g3_dvd x y z
  have e := g3 x y z
  generalize gcdL [x, y, z] = g at *
  have ea : x / g = a := by rw [ha]; exact Int.mul_ediv_cancel_left a (by omega)
  have eb : y / g = b := by rw [hb]; exact Int.mul_ediv_cancel_left b (by omega)
  have ec : z / g = c := by rw [hc]; exact Int.mul_ediv_cancel_left c (by omega)
  rw [ea, eb, ec, g3]
  rw [ha, hb, hc, Int.natAbs_mul, Int.natAbs_mul, Int.natAbs_mul, Nat.gcd_mul_left, Nat.gcd_mul_left] at e
  have : g.natAbs * Nat.gcd (Nat.gcd a.natAbs b.natAbs) c.natAbs = g.natAbs * 1 := by omega
  have := Nat.eq_of_mul_eq_mul_left (by omega) this
  rw [this]; rfl
/-! the point -/
theorem log_bd {a b : Nat} (ha : a ≤ 1000000) (hb : b ≤ 1000000) (h0 : a ≠ 0) (h1 : b ≠ 0) : (a * b).log2 ≤ 39 := by
  have h : a * b ≤ 1000000 * 1000000 := Nat.mul_le_mul ha hb
  have : (a * b).log2 < 40 := (Nat.log2_lt (Nat.mul_ne_zero h0 h1)).mpr (by omega)
  omega
theorem Ck.sv {a b c r k s l : Int} (h : Ck a b c) (h1 : Fs (-(a * c)) r k) (h2 : Fs (-(b * c)) s l) (sl : Sl a b c) : Sv r s := by
  have ha := h.A
  have hb := h.B
  obtain ⟨r0, rb, _, _⟩ := h1.bd ha.1.nz
  obtain ⟨s0, sb, _, _⟩ := h2.bd hb.1.nz
  refine ⟨r0, s0, by omega, by omega, h1.free, h2.free, fun p hp => ?_⟩
  have := sl p hp
  have w1 : Wo (-(a * c)) r := ⟨⟨k, h1.eq⟩, h1.free⟩
  have w2 : Wo (-(b * c)) s := ⟨⟨l, h2.eq⟩, h2.free⟩
  rwa [sg_wo hp w1 w2 ha.1.nz hb.1.nz] at this
theorem So.uniq {a b c X Y Z X' Y' Z' : Int} (h : Ck a b c) (s : So a b c X Y Z) (t : So a b c X' Y' Z') : X = X' ∧ Y = Y' ∧ Z = Z' := by
  obtain ⟨r, k, s, l, x, y, z, h1, h2, h3, rfl, rfl, rfl⟩ := s.ex
  obtain ⟨r', k', s', l', x', y', z', g1, g2, g3, rfl, rfl, rfl⟩ := t.ex
  obtain ⟨rfl, rfl⟩ := h1.uniq h.A.1.nz g1
  obtain ⟨rfl, rfl⟩ := h2.uniq h.B.1.nz g2
  obtain ⟨rfl, rfl, rfl⟩ := h3.uniq g3
  exact ⟨rfl, rfl, rfl⟩
structure Big (x y z : Int) : Prop where
  x : x.natAbs < 2 ^ 900
  y : y.natAbs < 2 ^ 900
  z : z.natAbs < 2 ^ 900
theorem big_mul {L : Nat} {x d c : Int} (hL : L ≤ 39) (hx : x.natAbs < 2 ^ (22 * L + 1)) (hd : d.natAbs ≤ 1000) (hc : c.natAbs ≤ 1000) : (x * d * c).natAbs < 2 ^ 900 := by
  have e : 2 ^ (22 * L + 1) * 2 ^ 40 ≤ 2 ^ 900 := by
    rw [← Nat.pow_add]
    exact Nat.pow_le_pow_right (by decide) (by omega)
  rw [Int.natAbs_mul, Int.natAbs_mul]
  generalize 2 ^ (22 * L + 1) = P at *
  generalize 2 ^ 900 = Q at *
  have t1 : x.natAbs * d.natAbs ≤ P * 1000 := Nat.mul_le_mul (by omega) hd
  have t2 : x.natAbs * d.natAbs * c.natAbs ≤ P * 1000 * 1000 := Nat.mul_le_mul t1 hc
  have e40 : (2 : Nat) ^ 40 = 1099511627776 := by decide
  rw [e40] at e
  omega
theorem Fs.small {n r k : Int} (h0 : n ≠ 0) (hn : n.natAbs ≤ 1000000) (h : Fs n r k) : 1 ≤ k ∧ k ≤ 1000 := by
  obtain ⟨_, _, _, kk⟩ := h.bd h0
  have := h.pos
  refine ⟨by omega, ?_⟩
  by_cases c : k ≤ 1000
  · exact c
  · have : 1001 * 1001 ≤ k * k := Int.mul_le_mul (by omega) (by omega) (by omega) (by omega)
    omega
theorem div_le {x g : Int} (hg : 0 < g) (d : g ∣ x) : (x / g).natAbs ≤ x.natAbs := by
  obtain ⟨q, rfl⟩ := d
  rw [Int.mul_ediv_cancel_left q (by omega), Int.natAbs_mul]
  exact Nat.le_mul_of_pos_left _ (by omega)
theorem So.ok {a b c X Y Z : Int} (h : Ck a b c) (sl : Sl a b c) (so : So a b c X Y Z) : a * X * X + b * Y * Y + c * Z * Z = 0 ∧ gcdL [X, Y, Z] = 1 ∧ Big X Y Z := by
  obtain ⟨r, k, s, l, x, y, z, h1, h2, h3, rfl, rfl, rfl⟩ := so.ex
  have ha := h.A
  have hb := h.B
  have cc := h.c
  have v := h.sv h1 h2 sl
  obtain ⟨k1, k2⟩ := h1.small ha.1.nz ha.2
  obtain ⟨l1, l2⟩ := h2.small hb.1.nz hb.2
  obtain ⟨e, nz⟩ := h3.pt
  obtain ⟨bx, by', bz⟩ := h3.bd v
  have hL := log_bd v.nb v.mb (by have := v.n0; omega) (by have := v.m0; omega)
  have g1 := big_mul (x := x) (d := l) (c := c) hL bx (by omega) (by omega)
  have g2 := big_mul (x := y) (d := k) (c := c) hL by' (by omega) (by omega)
  have g3' := big_mul (x := z) (d := k) (c := l) hL bz (by omega) (by omega)
  have nz' : ¬ (x * l * c = 0 ∧ y * k * c = 0 ∧ z * k * l = 0) := fun ⟨e1, e2, e3⟩ => by
    refine nz ⟨?_, ?_, ?_⟩
    · exact (Int.mul_eq_zero.mp ((Int.mul_eq_zero.mp e1).resolve_right cc.1)).resolve_right (by omega)
    · exact (Int.mul_eq_zero.mp ((Int.mul_eq_zero.mp e2).resolve_right cc.1)).resolve_right (by omega)
    · exact (Int.mul_eq_zero.mp ((Int.mul_eq_zero.mp e3).resolve_right (by omega))).resolve_right (by omega)
  have eq : a * (x * l * c) * (x * l * c) + b * (y * k * c) * (y * k * c) + c * (z * k * l) * (z * k * l) = 0 := by
    have q1 : a * (x * l * c) * (x * l * c) = -(-(a * c)) * c * (x * x) * (l * l) := by grind
    have q2 : b * (y * k * c) * (y * k * c) = -(-(b * c)) * c * (y * y) * (k * k) := by grind
    rw [q1, q2, h1.eq, h2.eq]
    have q3 : z * z = r * (x * x) + s * (y * y) := e.symm
    have q4 : c * (z * k * l) * (z * k * l) = c * (z * z) * (k * k) * (l * l) := by grind
    rw [q4, q3]
    grind
  have one := g3_one nz'
  have pos := g3_pos nz'
  obtain ⟨d1, d2, d3⟩ := g3_dvd (x * l * c) (y * k * c) (z * k * l)
  refine ⟨?_, one, ⟨Nat.lt_of_le_of_lt (div_le pos d1) g1, Nat.lt_of_le_of_lt (div_le pos d2) g2, Nat.lt_of_le_of_lt (div_le pos d3) g3'⟩⟩
  generalize gcdL [x * l * c, y * k * c, z * k * l] = g at *
  generalize x * l * c = X at *
  generalize y * k * c = Y at *
  generalize z * k * l = Z at *
  obtain ⟨X', rfl⟩ := d1
  obtain ⟨Y', rfl⟩ := d2
  obtain ⟨Z', rfl⟩ := d3
  have gn : g ≠ 0 := by omega
  rw [Int.mul_ediv_cancel_left _ gn, Int.mul_ediv_cancel_left _ gn, Int.mul_ediv_cancel_left _ gn]
  have : g * g * (a * X' * X' + b * Y' * Y' + c * Z' * Z') = 0 := by rw [← eq]; grind
  exact (Int.mul_eq_zero.mp this).resolve_left (Int.mul_ne_zero gn gn)
theorem divOk_bits {g : Int} (h0 : g ≠ 0) (h : g.natAbs < 2 ^ 9000) : divOk g = true := okP_of ⟨h0, .inr ((Nat.log2_lt (by omega)).mpr h)⟩
theorem sp_solved {a b c : Int} (st : Store) (h : Ck a b c) (sl : Sl a b c) : ∃ X Y Z, So a b c X Y Z ∧ F_solved [tupI [a, b, c]] st = .ok (tupI [X, Y, Z]) st := by
  have key : Good_solved [tupI [a, b, c]] st (F_solved [tupI [a, b, c]] st) := by
    have hA := h.A
    have hB := h.B
    have ha := h.a
    have hb := h.b
    have hc := h.c
    obtain ⟨r, k, f1, e1⟩ := sp_free_of_squares st hA.1.nz hA.1.sm
    obtain ⟨s, l, f2, e2⟩ := sp_free_of_squares st hB.1.nz hB.1.sm
    have v := h.sv f1 f2 sl
    obtain ⟨k1, k2⟩ := f1.small hA.1.nz hA.2
    obtain ⟨l1, l2⟩ := f2.small hB.1.nz hB.2
    have hL := log_bd v.nb v.mb (by have := v.n0; omega) (by have := v.m0; omega)
    obtain ⟨x, y, z, hp, e3⟩ := sp_point_for (st := st) 100 v (by split <;> omega)
    have e3 : F_point_for [.int r, .int s] st = .ok (tupI [x, y, z]) st := e3
    obtain ⟨_, nz⟩ := hp.pt
    obtain ⟨bx, by', bz⟩ := hp.bd v
    have g1 := big_mul (x := x) (d := l) (c := c) hL bx (by omega) (by omega)
    have nz' : ¬ (x * l * c = 0 ∧ y * k * c = 0 ∧ z * k * l = 0) := fun ⟨e1, e2, e3⟩ => by
      refine nz ⟨?_, ?_, ?_⟩
      · exact (Int.mul_eq_zero.mp ((Int.mul_eq_zero.mp e1).resolve_right hc.1)).resolve_right (by omega)
      · exact (Int.mul_eq_zero.mp ((Int.mul_eq_zero.mp e2).resolve_right hc.1)).resolve_right (by omega)
      · exact (Int.mul_eq_zero.mp ((Int.mul_eq_zero.mp e3).resolve_right (by omega))).resolve_right (by omega)
    have so : So a b c (x * l * c / gcdL [x * l * c, y * k * c, z * k * l]) (y * k * c / gcdL [x * l * c, y * k * c, z * k * l]) (z * k * l / gcdL [x * l * c, y * k * c, z * k * l]) := ⟨r, k, s, l, x, y, z, f1, f2, hp, rfl, rfl, rfl⟩
    refine viaF_good (o := .ok (tupI _) st) ⟨a, b, c, _, _, _, rfl, h, sl, so, rfl⟩ fun h1 h2 => ?_
    have g2 := big_mul (x := y) (d := k) (c := c) hL by' (by omega) (by omega)
    have g3' := big_mul (x := z) (d := k) (c := l) hL bz (by omega) (by omega)
    have q1 : -a * c = -(a * c) := Int.neg_mul a c
    have q2 : -b * c = -(b * c) := Int.neg_mul b c
    have m1 : mulOk (-a) c = true := mulOk_l (by omega) (by omega)
    have m2 : mulOk (-b) c = true := mulOk_l (by omega) (by omega)
    have m3 : ∀ y, mulOk y l = true := fun y => mulOk_r (by omega) (by omega)
    have m4 : ∀ y, mulOk y k = true := fun y => mulOk_r (by omega) (by omega)
    have m5 : ∀ y, mulOk y c = true := fun y => mulOk_r (by omega) (by omega)
    have hdv := sp_divisor_of [x * l * c, y * k * c, z * k * l] st
    have pos := g3_pos nz'
    obtain ⟨d1, d2, d3⟩ := g3_dvd (x * l * c) (y * k * c) (z * k * l)
    have gb : (gcdL [x * l * c, y * k * c, z * k * l]).natAbs < 2 ^ 9000 := by
      have lt : (2 : Nat) ^ 900 ≤ 2 ^ 9000 := Nat.pow_le_pow_right (by decide) (by decide)
      have le : ∀ {w : Int}, w ≠ 0 → gcdL [x * l * c, y * k * c, z * k * l] ∣ w → (gcdL [x * l * c, y * k * c, z * k * l]).natAbs ≤ w.natAbs := fun {w} w0 d => Nat.le_of_dvd (by omega) (Int.natAbs_dvd_natAbs.mpr d)
      generalize gcdL [x * l * c, y * k * c, z * k * l] = g at *
      generalize x * l * c = X at *
      generalize y * k * c = Y at *
      generalize z * k * l = Z at *
      generalize 2 ^ 900 = P at *
      generalize 2 ^ 9000 = Q at *
      by_cases c1 : X = 0
      · by_cases c2 : Y = 0
        · have := le (w := Z) (fun c3 => nz' ⟨c1, c2, c3⟩) d3
          omega
        · have := le (w := Y) c2 d2
          omega
      · have := le (w := X) c1 d1
        omega
    have dg := divOk_bits (by omega) gb
    clear so gb g1 g2 g3'
    generalize gcdL [x * l * c, y * k * c, z * k * l] = g at *
    have g0 : (0 : Int) ≤ g := by omega
    generalize hX : x * l * c = X at *
    generalize hY : y * k * c = Y at *
    generalize hZ : z * k * l = Z at *
    have hle := lc_map (its := ⟨[.int X, .int Y, .int Z], []⟩) (st0 := st) (g := nameG 13) (ft := yesT) (fe := le1_solved)
      (lsw := [some (tupI [a, b, c]), some (.int a), some (.int b), some (.int c), some (.int r), some (.int k), some (.int s), some (.int l), some (.int x), some (.int y), some (.int z), some (.tup [.int X, .int Y, .int Z]), some (.int g), none])
      (fun d => match d with | .int i => .int (i / g) | _ => .non) (fun _ => rfl) (by simp) fun d hd acc => by
        obtain ⟨i, rfl⟩ : ∃ i, d = .int i := by
          simp only [List.mem_cons, List.not_mem_nil, or_false] at hd
          rcases hd with rfl | rfl | rfl <;> exact ⟨_, rfl⟩
        exact ⟨_, rfl, rfl, by simp [le1_solved, dg, g0]⟩
    simp [tupI] at hle hdv e3
    simp [g_solved, tupI, m1, m2, q1, q2, e1, e2, e3, m3, m4, m5, hX, hY, hZ, hdv, wipeL, hle, tupleV, -Int.neg_mul]
    exact Pk.dropG _ h1 rfl
  obtain ⟨a', b', c', X, Y, Z, e, _, _, so, eo⟩ := key
  simp [tupI] at e
  obtain ⟨rfl, rfl, rfl⟩ := e
  exact ⟨X, Y, Z, so, eo⟩
end K65

set_option maxRecDepth 100000
set_option maxHeartbeats 2000000
namespace K65
open PySem PySem.Spec PyProof.Rows L2 DD
theorem Sl.of {a b c : Int} (h : Ck a b c) : wr (-(a * c)) (-(b * c)) = [] ↔ Sl a b c := wr_nil h.A.1 h.B.1
theorem sp_conic_point {st : Store} {d : D} (h : Cd st d) : (conicB d = false ∧ F_conic_point [d] st = noConic st) ∨ ∃ a b c e, d = tupI [a, b, c] ∧ Ck a b c ∧ Tl a b c e ∧ F_conic_point [d] st = .ok e st := by
  have key : Good_conic_point [d] st (F_conic_point [d] st) := by
    have hck := sp_check_conic h
    cases hb : conicB d with
    | false =>
      rw [hb, if_neg Bool.false_ne_true] at hck
      exact viaF_good ⟨d, rfl, h, .inl ⟨hb, rfl⟩⟩ fun _ _ => Pk.of_eq (by simp [g_conic_point, hck, noConic])
    | true =>
      obtain ⟨a, b, c, rfl, k⟩ := con_ck hb
      rw [hb, if_pos rfl] at hck
      have e1 := sp_barring_places st k
      cases hw : wr (-(a * c)) (-(b * c)) with
      | cons p r =>
        rw [hw] at e1
        refine viaF_good ⟨_, rfl, h, .inr ⟨a, b, c, _, rfl, k, .place p r hw, rfl⟩⟩ fun h1 _ => ?_
        have hl := len_ref (st := st ++ [.lst ((p :: r).map D.int)]) (n := st.length) (l := (p :: r).map .int) (by simp)
        have hx := ix_ref (st := st ++ [.lst ((p :: r).map D.int)]) (n := st.length) (l := (p :: r).map .int) (i := 0) (by simp)
        have pos : (0 : Int) < (r.length : Int) + 1 := by omega
        have ha : atI ((p :: r).map D.int) 0 = some (.int p) := atI_int (by omega) (by simp)
        rw [ha] at hx
        simp at hl hx e1
        simp [g_conic_point, hck, e1, hl, hx, pos]
        exact Pk.dropG _ h1 rfl
      | nil =>
        rw [hw] at e1
        obtain ⟨X, Y, Z, so, e2⟩ := sp_solved (st ++ [.lst (([] : List Int).map D.int)]) k ((Sl.of k).mp hw)
        refine viaF_good ⟨_, rfl, h, .inr ⟨a, b, c, _, rfl, k, .point X Y Z hw so, rfl⟩⟩ fun h1 _ => ?_
        have hl := len_ref (st := st ++ [.lst (([] : List Int).map D.int)]) (n := st.length) (l := ([] : List Int).map .int) (by simp)
        simp at hl e1 e2
        simp [g_conic_point, hck, e1, hl, e2]
        exact Pk.dropG _ h1 rfl
  obtain ⟨d', q, _, ho⟩ := key
  cases q
  exact ho
theorem Tl.uniq {a b c : Int} {d e : D} (k : Ck a b c) (s : Tl a b c d) (t : Tl a b c e) : d = e := by
  cases s with
  | place p r h =>
    cases t with
    | place p' r' h' => rw [h] at h'; cases h'; rfl
    | point X Y Z h' _ => rw [h] at h'; cases h'
  | point X Y Z h so =>
    cases t with
    | place p' r' h' => rw [h] at h'; cases h'
    | point X' Y' Z' h' so' => obtain ⟨rfl, rfl, rfl⟩ := so.uniq k so'; rfl
/-! papers -/
def intB : D → Bool
  | .int _ => true
  | _ => false
theorem intB_ty {st : Store} {x : D} {t : Ty} (h : tyD st x = some t) : decide (t = .int) = intB x := by
  cases x with
  | ref n =>
    unfold tyD at h
    simp only at h
    split at h <;> first | (cases h; rfl) | cases h
  | adr a => cases h
  | _ => cases h; rfl
theorem three_ints {l : List D} (hl : l.length = 3) : (∃ x y z : Int, l = [.int x, .int y, .int z]) ∨ l.all intB = false := by
  match l, hl with
  | [a, b, c], _ =>
    cases a <;> cases b <;> cases c <;> first | exact .inl ⟨_, _, _, rfl⟩ | exact .inr rfl
theorem lc_ints {fe : LS → Store → Out D} {st : Store} {l : List D} {i : Nat} {lsw : LS} (h : l.length ≤ 16777216) (hx : ∀ x ∈ l, ∃ t, tyD st x = some t)
    (he : ∀ (x : D) (g : Store), (∃ t, tyD (st ++ g) x = some t) → fe (setL lsw i x) (st ++ g) = .ok (.bl (intB x)) (st ++ g)) :
    lcL (fun _ => true) st.length (nameG i) yesT fe lsw l (st ++ [.lst []]) = .ok (.ref st.length) (st ++ [.lst (l.map fun d => .bl (intB d))]) := by
  have := lc_map (its := ⟨l, []⟩) (st0 := st) (g := nameG i) (ft := yesT) (fe := fe) (lsw := lsw) (fun d => .bl (intB d)) (fun _ => rfl) h fun d hd acc => by
    obtain ⟨t, ht⟩ := hx d hd
    exact ⟨_, rfl, rfl, he d _ ⟨t, tyD_app ht⟩⟩
  simpa using this
theorem mulOk_bits {i j : Int} {a b : Nat} (ha : i.natAbs < 2 ^ a) (hb : j.natAbs < 2 ^ b) (h0 : 0 < a) (h1 : 0 < b) (h : a + b ≤ 1000000) : mulOk i j = true :=
  okP_of (.inr (.inr (wide_mul ha hb h0 h1 h)))
def prD : D → D
  | .tup [.int a, .int x] => .int (a * x * x)
  | _ => .non
theorem lc_prods {fe : LS → Store → Out D} {st : Store} {a b c x y z : Int} {lsw : LS} (k : Ck a b c) (hx : x.natAbs < 2 ^ 1000) (hy : y.natAbs < 2 ^ 1000) (hz : z.natAbs < 2 ^ 1000)
    (he : ∀ (a x : Int) (s : Store), mulOk a x = true → mulOk (a * x) x = true → fe (setL (setL lsw 2 (.int a)) 3 (.int x)) s = .ok (.int (a * x * x)) s) :
    lcL (fun _ => true) st.length (tupG 2 (consG (nameG 2) (consG (nameG 3) nilG))) yesT fe lsw [.tup [.int a, .int x], .tup [.int b, .int y], .tup [.int c, .int z]] (st ++ [.lst []]) =
      .ok (.ref st.length) (st ++ [.lst [.int (a * x * x), .int (b * y * y), .int (c * z * z)]]) := by
  have one : ∀ {a x : Int} {acc : List D}, (-1000 ≤ a ∧ a ≤ 1000) → x.natAbs < 2 ^ 1000 → ∃ ls1, tupG 2 (consG (nameG 2) (consG (nameG 3) nilG)) (.tup [.int a, .int x]) lsw (st ++ [.lst acc]) = .ok ls1 (st ++ [.lst acc]) ∧ yesT ls1 (st ++ [.lst acc]) = .ok true (st ++ [.lst acc]) ∧ fe ls1 (st ++ [.lst acc]) = .ok (prD (.tup [.int a, .int x])) (st ++ [.lst acc]) := fun {a x acc} ha hx => by
    have k1 : mulOk a x = true := by
      clear hx hy hz
      exact mulOk_l (by omega) (by omega)
    have a10 : a.natAbs < 2 ^ 10 := by
      clear hx hy hz k1
      rw [show (2 : Nat) ^ 10 = 1024 by decide]
      omega
    have ax : (a * x).natAbs < 2 ^ (10 + 1000) := wide_lt a10 hx
    have k2 : mulOk (a * x) x = true := mulOk_bits ax hx (Nat.succ_pos _) (Nat.succ_pos _) (by clear ax hx hy hz a10 k1; omega)
    exact ⟨setL (setL lsw 2 (.int a)) 3 (.int x), by simp, rfl, he a x _ k1 k2⟩
  have := lc_map (its := ⟨[.tup [.int a, .int x], .tup [.int b, .int y], .tup [.int c, .int z]], []⟩) (st0 := st) (g := tupG 2 (consG (nameG 2) (consG (nameG 3) nilG))) (ft := yesT) (fe := fe) (lsw := lsw) prD (fun _ => rfl) (by simp) fun d hd acc => by
    simp only [List.mem_cons, List.not_mem_nil, or_false] at hd
    rcases hd with rfl | rfl | rfl
    · exact one k.a.2 hx
    · exact one k.b.2 hy
    · exact one k.c.2 hz
  simpa [prD] using this
theorem shaped_ints (ns : List Int) : SeqAt.shaped (.list (ns.map PyData.int)) = true := by
  have := depth_ints ns
  unfold SeqAt.shaped
  rw [PyData.canLay0, canLay_ints, decide_eq_true]
  · rfl
  · simp only [PyData.depth]; omega
theorem toP_ints {st : Store} {n : Nat} {ns : List Int} (e : st[n]? = some (.lst (ns.map .int))) : toP st 60 (.ref n) = some (.list (ns.map PyData.int)) := by
  show (match st[n]? with | some (.lst l) => (l.mapM (toP st 59)).map PyData.list | _ => none) = _
  rw [e]
  show ((ns.map D.int).mapM (toP st 59)).map PyData.list = _
  have : ∀ ns : List Int, (ns.map D.int).mapM (toP st 59) = some (ns.map PyData.int) := fun ns => by
    induction ns with
    | nil => rfl
    | cons a ns ih => rw [List.map_cons, List.mapM_cons, ih]; rfl
  rw [this]
  rfl
theorem in_ints {st : Store} {n : Nat} {ns : List Int} {p : Int} (e : st[n]? = some (.lst (ns.map .int))) : DD.inV false (.int p) (.ref n) st = .ok (.bl (decide (p ∈ ns))) st := by
  show inF false (.int p) (.ref n) st = _
  unfold inF
  rw [toP_ints e]
  have e1 : toP st 60 (.int p) = some (.int p) := rfl
  simp only [e1]
  rw [if_pos ⟨by rfl, shaped_ints ns⟩]
  congr 2
  have : ∀ ns : List Int, ((ns.map PyData.int).any fun z => PyData.eqv z (.int p)) = decide (p ∈ ns) := fun ns => by
    induction ns with
    | nil => rfl
    | cons a ns ih =>
      rw [List.map_cons, List.any_cons, ih, PyData.eqv]
      refine Bool.eq_iff_iff.mpr ?_
      simp only [Bool.or_eq_true, beq_iff_eq, decide_eq_true_eq, List.mem_cons]
      exact ⟨fun h => h.elim (fun e => .inl e.symm) .inr, fun h => h.elim (fun e => .inl e.symm) .inr⟩
  exact this ns
theorem pt_zero {a b c : Int} : ptB (tupI [a, b, c]) (.tup [.int 0, .int 0, .int 0]) = false := by simp [ptB, tupI]
theorem pt_e {a b c x y z : Int} (h0 : ¬ (x = 0 ∧ (y = 0 ∧ z = 0))) : ptB (tupI [a, b, c]) (.tup [.int x, .int y, .int z]) = decide (a * x * x + b * y * y + c * z * z = 0) := by
  show (!(decide (x = 0) && (decide (y = 0) && decide (z = 0))) && decide (a * x * x + b * y * y + c * z * z = 0)) = _
  have : (decide (x = 0) && (decide (y = 0) && decide (z = 0))) = false := by
    rw [Bool.eq_false_iff]
    intro q
    simp at q
    exact h0 q
  rw [this]; rfl
theorem pt_no {a b c : Int} {y : D} (h : ¬ ∃ u v w : Int, y = .tup [.int u, .int v, .int w]) : ptB (tupI [a, b, c]) y = false := by
  unfold ptB
  split
  · rename_i e1 e2
    exact absurd ⟨_, _, _, rfl⟩ h
  · rfl
theorem pl_int {a b c p : Int} : plB (tupI [a, b, c]) (.int p) = decide (p ∈ wr (-(a * c)) (-(b * c))) := rfl
theorem pl_no {a b c : Int} {y : D} (h : ∀ p, y ≠ .int p) : plB (tupI [a, b, c]) y = false := by
  unfold plB
  split
  · exact absurd rfl (h _)
  · rfl
theorem sp_law_value {st : Store} {a b c x y z : Int} (k : Ck a b c) (hx : x.natAbs < 2 ^ 1000) (hy : y.natAbs < 2 ^ 1000) (hz : z.natAbs < 2 ^ 1000) :
    F__law_value [tupI [a, b, c], tupI [x, y, z]] st = .ok (.int (a * x * x + b * y * y + c * z * z)) st := by
  refine viaF_eq ⟨a, b, c, x, y, z, rfl, k, hx, hy, hz, rfl⟩ (fun o' ⟨a', b', c', x', y', z', q, _, _, _, _, eo⟩ => ?_) fun h1 h2 => ?_
  · simp [tupI] at q
    obtain ⟨⟨rfl, rfl, rfl⟩, rfl, rfl, rfl⟩ := q
    exact eo
  · have hle2 := lc_prods (fe := le1__law_value) (st := st) (lsw := [some (tupI [a, b, c]), some (tupI [x, y, z]), none, none]) k hx hy hz (fun a x s m1 m2 => by simp [le1__law_value, m1, m2])
    have hzi := zipI_tup (fr := consA (varD 0) (consA (varD 1) nilA)) (ls := [some (tupI [a, b, c]), some (tupI [x, y, z]), none, none]) (st := st) (st1 := st) (l := [.int a, .int b, .int c]) (m := [.int x, .int y, .int z]) (by simp [tupI])
    have e2 : a * x * x + (b * y * y + c * z * z) = a * x * x + b * y * y + c * z * z := by omega
    simp [tupI] at hle2 hzi
    simp [g__law_value, tupI, hzi, zipL, wipeL, hle2, sumL, intsOf, e2]
    exact Pk.dropG _ h1 rfl
theorem sp_law_is_point {st : Store} {a b c : Int} {e : D} (k : Ck a b c) (he : Py st e) : F__law_is_point [tupI [a, b, c], e] st = .ok (.bl (ptB (tupI [a, b, c]) e)) st := by
  refine viaF_eq ⟨a, b, c, e, rfl, k, he, rfl⟩ (fun o' ⟨a', b', c', e', q, _, _, eo⟩ => ?_) fun h1 h2 => ?_
  · simp [tupI] at q
    obtain ⟨⟨rfl, rfl, rfl⟩, rfl⟩ := q
    exact eo
  · obtain ⟨t, ht⟩ := he.ty
    by_cases htt : t = .tup
    · obtain ⟨l, rfl⟩ := ty_tup (htt ▸ ht)
      by_cases hl : l.length = 3
      · have hty := he.pl l rfl hl
        have hle := lc_ints (fe := le1__law_is_point) (st := st) (l := l) (i := 2) (lsw := [some (tupI [a, b, c]), some (.tup l), none]) (by rw [hl]; decide) hty (fun x g ⟨t, ht⟩ => by
          have := sp_law_is_whole ht
          simp [le1__law_is_point, this, intB_ty ht])
        have hl3 : (l.length : Int) = 3 := by omega
        rcases three_ints hl with ⟨x, y, z, rfl⟩ | hno
        · have hx := he.sm _ x rfl (by simp)
          have hy := he.sm _ y rfl (by simp)
          have hz := he.sm _ z rfl (by simp)
          have lc2 := lc_map (its := ⟨[.int x, .int y, .int z], []⟩) (st0 := st ++ [.lst ([D.int x, .int y, .int z].map fun d => .bl (intB d))]) (g := nameG 2) (ft := yesT) (fe := le2__law_is_point) (lsw := [some (tupI [a, b, c]), some (.tup [.int x, .int y, .int z]), none])
            (fun d => match d with | .int i => .bl (decide (i ≠ 0)) | _ => .non) (fun _ => rfl) (by simp) fun d hd acc => by
              obtain ⟨i, rfl⟩ : ∃ i, d = .int i := by
                simp only [List.mem_cons, List.not_mem_nil, or_false] at hd
                rcases hd with rfl | rfl | rfl <;> exact ⟨_, rfl⟩
              refine ⟨_, rfl, rfl, ?_⟩
              by_cases c : i = 0 <;> simp [le2__law_is_point, c]
          simp [tupI, intB, -List.append_assoc, -List.length_append] at hle lc2
          have hv := sp_law_value (st := st ++ [.lst [.bl true, .bl true, .bl true]] ++ [.lst [.bl (!decide (x = 0)), .bl (!decide (y = 0)), .bl (!decide (z = 0))]]) k hx hy hz
          simp [tupI, -List.append_assoc] at hv
          by_cases h0 : x = 0 ∧ (y = 0 ∧ z = 0)
          · obtain ⟨rfl, rfl, rfl⟩ := h0
            rw [pt_zero]
            have hp := Pk.dropG (st := st) (d := .bl false) ([.lst [.bl true, .bl true, .bl true]] ++ [.lst [.bl false, .bl false, .bl false]]) h1 rfl
            rw [← List.append_assoc] at hp
            simp [-List.append_assoc, -List.length_append] at lc2
            simp [g__law_is_point, tupI, hle, wipeL, allL, anyL, boolsOf, lc2, -List.append_assoc, -List.length_append]
            exact hp
          · rw [pt_e h0]
            have an : ((!decide (x = 0)) || ((!decide (y = 0)) || (!decide (z = 0)))) = true := by
              by_cases c1 : x = 0 <;> by_cases c2 : y = 0 <;> by_cases c3 : z = 0 <;> simp_all
            have hp := Pk.dropG (st := st) (d := .bl (decide (a * x * x + b * y * y + c * z * z = 0))) ([.lst [.bl true, .bl true, .bl true]] ++ [.lst [.bl (!decide (x = 0)), .bl (!decide (y = 0)), .bl (!decide (z = 0))]]) h1 rfl
            rw [← List.append_assoc] at hp
            simp [g__law_is_point, tupI, hle, wipeL, allL, anyL, boolsOf, lc2, an, hv, -List.append_assoc, -List.length_append]
            exact hp
        · rw [pt_no (fun ⟨u, v, w, e⟩ => by cases e; cases hno)]
          have hall : (l.map intB).all id = false := by
            rw [List.all_map]
            exact hno
          simp [tupI] at hle
          simp [g__law_is_point, tupI, hl3, hle, wipeL, allL, hall]
          exact Pk.dropG _ h1 rfl
      · have hl' : ¬ (l.length : Int) = 3 := by omega
        rw [pt_no (fun ⟨u, v, w, e⟩ => by cases e; exact hl rfl)]
        refine Pk.of_eq ?_
        simp [g__law_is_point, tupI, hl']
    · rw [pt_no (fun ⟨u, v, w, e⟩ => by subst e; cases ht; exact htt rfl)]
      refine Pk.of_eq ?_
      simp [g__law_is_point, tupI, ht, htt]
end K65

set_option maxRecDepth 100000
set_option maxHeartbeats 2000000
namespace K65
open PySem PySem.Spec PyProof.Rows L2 DD
theorem pap_shape {d e : D} (h : ¬ ∃ s y, e = .tup [.str s, y]) : papB d e = false := by
  unfold papB
  split
  · exact absurd ⟨_, _, rfl⟩ h
  · rfl
theorem pap_place {d y : D} : papB d (.tup [.str "place", y]) = plB d y := by
  show (if ("place" : Str) = "place" then plB d y else if ("place" : Str) = "point" then ptB d y else false) = _
  rw [if_pos rfl]
theorem pap_point {d y : D} : papB d (.tup [.str "point", y]) = ptB d y := by
  show (if ("point" : Str) = "place" then plB d y else if ("point" : Str) = "point" then ptB d y else false) = _
  rw [if_neg (by decide), if_pos rfl]
theorem pap_word {d y : D} {s : Str} (h1 : ¬ s = "place") (h2 : ¬ s = "point") : papB d (.tup [.str s, y]) = false := by
  show (if s = "place" then plB d y else if s = "point" then ptB d y else false) = _
  rw [if_neg h1, if_neg h2]
theorem isi_str {st : Store} {x : D} {t : Ty} (h : tyD st x = some t) (hs : ∀ s, x ≠ .str s) : t ≠ .str := fun e => by
  subst e
  cases x with
  | ref n =>
    unfold tyD at h
    simp only at h
    split at h <;> cases h
  | str s => exact hs s rfl
  | _ => cases h
theorem ne_int {st : Store} {x : D} {t : Ty} (h : tyD st x = some t) (hs : ∀ p, x ≠ .int p) : t ≠ .int := fun e => by
  subst e
  obtain ⟨i, rfl⟩ := ty_int h
  exact hs i rfl
theorem sp_law_is_paper {st : Store} {a b c : Int} {e : D} (k : Ck a b c) (he : Pp st e) : F__law_is_paper [tupI [a, b, c], e] st = .ok (.bl (papB (tupI [a, b, c]) e)) st := by
  refine viaF_eq ⟨a, b, c, e, rfl, k, he, rfl⟩ (fun o' ⟨a', b', c', e', q, _, _, eo⟩ => ?_) fun h1 h2 => ?_
  · simp [tupI] at q
    obtain ⟨⟨rfl, rfl, rfl⟩, rfl⟩ := q
    exact eo
  · obtain ⟨t, ht⟩ := he.ty
    by_cases htt : t = .tup
    · obtain ⟨l, rfl⟩ := ty_tup (htt ▸ ht)
      by_cases hl : l.length = 2
      · obtain ⟨x, y, rfl, ⟨tx, hx⟩, hy⟩ := he.pr l rfl hl
        by_cases hs : ∃ s, x = .str s
        · obtain ⟨s, rfl⟩ := hs
          by_cases w1 : s = "place"
          · subst w1
            rw [pap_place]
            obtain ⟨ty, hty⟩ := hy.ty
            have hw := sp_law_is_whole hty
            by_cases hi : ∃ p, y = .int p
            · obtain ⟨p, rfl⟩ := hi
              rw [pl_int]
              have e1 := sp_law_barring st k
              have e2 := in_ints (st := st ++ [.lst ((wr (-(a * c)) (-(b * c))).map .int)]) (n := st.length) (p := p) (ns := wr (-(a * c)) (-(b * c))) (by simp)
              cases hty
              simp [tupI] at e1 hw
              simp [g__law_is_paper, tupI, hw, e1, e2]
              exact Pk.dropG _ h1 rfl
            · have ni := ne_int hty fun p e => hi ⟨p, e⟩
              rw [pl_no fun p e => hi ⟨p, e⟩]
              refine Pk.of_eq ?_
              simp [g__law_is_paper, tupI, hw, ni]
          · by_cases w2 : s = "point"
            · subst w2
              rw [pap_point]
              have hp := sp_law_is_point k hy
              have n1 : ¬ ((Str.ofString "point") = (Str.ofString "place")) := by decide
              refine Pk.of_eq ?_
              simp [tupI] at hp
              simp [g__law_is_paper, tupI, hp, n1]
            · rw [pap_word w1 w2]
              refine Pk.of_eq ?_
              simp [g__law_is_paper, tupI, w1, w2]
        · have ns := isi_str hx fun s e => hs ⟨s, e⟩
          rw [pap_shape (fun ⟨s, z, e⟩ => by cases e; exact hs ⟨s, rfl⟩)]
          refine Pk.of_eq ?_
          have ia : tx.isA .str = false := by cases tx <;> first | rfl | exact absurd rfl ns
          simp [g__law_is_paper, tupI, hx, ns]
      · have hl' : ¬ (l.length : Int) = 2 := by omega
        rw [pap_shape (fun ⟨s, z, e⟩ => by cases e; exact hl rfl)]
        refine Pk.of_eq ?_
        simp [g__law_is_paper, tupI, hl']
    · rw [pap_shape (fun ⟨s, z, e⟩ => by subst e; cases ht; exact htt rfl)]
      refine Pk.of_eq ?_
      simp [g__law_is_paper, tupI, ht, htt]
theorem sp_is_conic_paper {st : Store} {d e : D} (hd : Cd st d) (he : Pp st e) : F_is_conic_paper [d, e] st = if conicB d = true then .ok (.bl (papB d e)) st else noConic st := by
  refine viaF_eq ⟨d, e, rfl, hd, he, rfl⟩ (fun o' ⟨d', e', q, _, _, eo⟩ => ?_) fun h1 h2 => ?_
  · cases q; exact eo
  · have hck := sp_check_conic hd
    cases hcb : conicB d with
    | false => exact Pk.of_eq (by simp [g_is_conic_paper, hck, hcb, noConic])
    | true =>
      obtain ⟨a, b, c, rfl, k⟩ := con_ck hcb
      have hck : F_check_conic [.tup [.int a, .int b, .int c]] st = .ok .non st := hck.trans (if_pos hcb)
      rw [if_pos rfl]
      obtain ⟨t, ht⟩ := he.ty
      by_cases htt : t = .tup
      · obtain ⟨l, rfl⟩ := ty_tup (htt ▸ ht)
        by_cases hl : l.length = 2
        · obtain ⟨x, y, rfl, ⟨tx, hx⟩, hy⟩ := he.pr l rfl hl
          by_cases hs : ∃ s, x = .str s
          · obtain ⟨s, rfl⟩ := hs
            obtain ⟨ty, hty⟩ := hy.ty
            by_cases w1 : s = "place"
            · subst w1
              rw [pap_place]
              have hw := sp_is_integer hty
              by_cases hi : ∃ p, y = .int p
              · obtain ⟨p, rfl⟩ := hi
                rw [pl_int]
                have e1 := sp_barring_places st k
                have e2 := in_ints (st := st ++ [.lst ((wr (-(a * c)) (-(b * c))).map .int)]) (n := st.length) (p := p) (ns := wr (-(a * c)) (-(b * c))) (by simp)
                cases hty
                simp [tupI] at e1 hw
                simp [g_is_conic_paper, tupI, hck, hw, e1, e2]
                exact Pk.dropG _ h1 rfl
              · have ni := ne_int hty fun p e => hi ⟨p, e⟩
                rw [pl_no fun p e => hi ⟨p, e⟩]
                refine Pk.of_eq ?_
                simp [g_is_conic_paper, tupI, hck, hw, ni]
            · by_cases w2 : s = "point"
              · subst w2
                rw [pap_point]
                have n1 : ¬ ((Str.ofString "point") = (Str.ofString "place")) := by decide
                by_cases htt : ty = .tup
                · obtain ⟨l, rfl⟩ := ty_tup (htt ▸ hty)
                  by_cases hl : l.length = 3
                  · have hly := hy.pl l rfl hl
                    have hle := lc_ints (fe := le1_is_conic_paper) (st := st) (l := l) (i := 2) (lsw := [some (tupI [a, b, c]), some (.tup [.str "point", .tup l]), none, none]) (by rw [hl]; decide) hly (fun x g ⟨t, ht⟩ => by
                      have := sp_is_integer ht
                      simp [le1_is_conic_paper, this, intB_ty ht])
                    have hl3 : (l.length : Int) = 3 := by omega
                    rcases three_ints hl with ⟨x, y, z, rfl⟩ | hno
                    · have hx := hy.sm _ x rfl (by simp)
                      have hy' := hy.sm _ y rfl (by simp)
                      have hz := hy.sm _ z rfl (by simp)
                      have hle2 := lc_prods (fe := le2_is_conic_paper) (st := st ++ [Cell.lst [.bl true, .bl true, .bl true]]) (lsw := [some (tupI [a, b, c]), some (.tup [.str "point", .tup [.int x, .int y, .int z]]), none, none]) k hx hy' hz (fun a x s m1 m2 => by simp [le2_is_conic_paper, m1, m2])
                      have han := anyT_ints (st := st ++ [Cell.lst [.bl true, .bl true, .bl true]]) [x, y, z]
                      have hzi := zipI_tup (fr := consA (varD 0) (consA (bin2 ixD (varD 1) (litD (.int 1))) nilA)) (ls := [some (tupI [a, b, c]), some (.tup [.str "point", .tup [.int x, .int y, .int z]]), none, none]) (st := st ++ [Cell.lst [.bl true, .bl true, .bl true]]) (st1 := st ++ [Cell.lst [.bl true, .bl true, .bl true]]) (l := [.int a, .int b, .int c]) (m := [.int x, .int y, .int z]) (by simp [tupI])
                      simp [tupI, intB, -List.append_assoc, -List.length_append] at hle hle2 han hzi
                      by_cases h0 : x = 0 ∧ (y = 0 ∧ z = 0)
                      · obtain ⟨rfl, rfl, rfl⟩ := h0
                        rw [pt_zero]
                        simp at han
                        simp [g_is_conic_paper, tupI, hck, n1, hle, wipeL, allL, boolsOf, han]
                        exact Pk.dropG _ h1 rfl
                      · rw [pt_e h0]
                        have e2 : a * x * x + (b * y * y + c * z * z) = a * x * x + b * y * y + c * z * z := by clear hx hy' hz; omega
                        simp [g_is_conic_paper, tupI, hck, n1, hle, wipeL, allL, boolsOf, han, h0, hzi, zipL, hle2, sumL, intsOf, e2, -List.append_assoc, -List.length_append]
                        have := Pk.dropG (st := st) (d := .bl (decide (a * x * x + b * y * y + c * z * z = 0))) ([.lst [.bl true, .bl true, .bl true]] ++ [.lst [.int (a * x * x), .int (b * y * y), .int (c * z * z)]]) h1 rfl
                        simpa using this
                    · rw [pt_no (fun ⟨u, v, w, e⟩ => by cases e; cases hno)]
                      have hall : (l.map intB).all id = false := by
                        rw [List.all_map]
                        exact hno
                      simp [tupI] at hle
                      simp [g_is_conic_paper, tupI, hck, n1, hl3, hle, wipeL, allL, hall]
                      exact Pk.dropG _ h1 rfl
                  · have hl' : ¬ (l.length : Int) = 3 := by omega
                    rw [pt_no (fun ⟨u, v, w, e⟩ => by cases e; exact hl rfl)]
                    refine Pk.of_eq ?_
                    simp [g_is_conic_paper, tupI, hck, n1, hl']
                · rw [pt_no (fun ⟨u, v, w, e⟩ => by subst e; cases hty; exact htt rfl)]
                  refine Pk.of_eq ?_
                  simp [g_is_conic_paper, tupI, hck, n1, hty, htt]
              · rw [pap_word w1 w2]
                refine Pk.of_eq ?_
                simp [g_is_conic_paper, tupI, hck, w1, w2]
          · have ns := isi_str hx fun s e => hs ⟨s, e⟩
            rw [pap_shape (fun ⟨s, z, e⟩ => by cases e; exact hs ⟨s, rfl⟩)]
            refine Pk.of_eq ?_
            have ia : tx.isA .str = false := by cases tx <;> first | rfl | exact absurd rfl ns
            simp [g_is_conic_paper, tupI, hck, hx, ns]
        · have hl' : ¬ (l.length : Int) = 2 := by omega
          rw [pap_shape (fun ⟨s, z, e⟩ => by cases e; exact hl rfl)]
          refine Pk.of_eq ?_
          simp [g_is_conic_paper, tupI, hck, hl']
      · rw [pap_shape (fun ⟨s, z, e⟩ => by subst e; cases ht; exact htt rfl)]
        refine Pk.of_eq ?_
        simp [g_is_conic_paper, tupI, hck, ht, htt]
theorem barO_no {a b c : Int} {e : D} {st : Store} (k : Ck a b c) (h : ∀ p, e ≠ .int p) : barO (tupI [a, b, c]) e st = noPlace st := by
  unfold barO
  rw [if_pos k.con]
  unfold tupI
  cases e <;> first | rfl | exact absurd rfl (h _)
theorem barO_int {a b c p : Int} {st : Store} (k : Ck a b c) : barO (tupI [a, b, c]) (.int p) st = if p = 0 ∨ (2 ≤ p ∧ p < 1000000000 ∧ isP p = true) then .ok (.bl (decide (sg p (-(a * c)) (-(b * c)) = -1))) st else noPlace st := by
  unfold barO
  rw [if_pos k.con]
  rfl
theorem sp_barred_at {st : Store} {d e : D} (hd : Cd st d) (he : ∃ t, tyD st e = some t) : F_barred_at [d, e] st = barO d e st := by
  refine viaF_eq ⟨d, e, rfl, hd, he, rfl⟩ (fun o' ⟨d', e', q, _, _, eo⟩ => ?_) fun h1 h2 => Pk.of_eq ?_
  · cases q; exact eo
  · have hck := sp_check_conic hd
    cases hcb : conicB d with
    | false =>
      unfold barO
      simp [g_barred_at, hck, hcb, noConic]
    | true =>
      obtain ⟨a, b, c, rfl, k⟩ := con_ck hcb
      have hck : F_check_conic [.tup [.int a, .int b, .int c]] st = .ok .non st := hck.trans (if_pos hcb)
      obtain ⟨t, ht⟩ := he
      have hi := sp_is_integer ht
      by_cases c1 : ∃ p, e = .int p
      · obtain ⟨p, rfl⟩ := c1
        rw [barO_int k]
        cases ht
        have ha := k.a
        have hb := k.b
        have q1 : -a * c = -(a * c) := Int.neg_mul a c
        have q2 : -b * c = -(b * c) := Int.neg_mul b c
        have m1 : mulOk (-a) c = true := mulOk_l (by omega) (by omega)
        have m2 : mulOk (-b) c = true := mulOk_l (by omega) (by omega)
        have sa := fun h1 h2 => sp_sign_at_place (n := -(a * c)) (m := -(b * c)) (p := p) st (Nz.of k.A.1) (Nz.of k.B.1) h1 h2
        by_cases p0 : p = 0
        · subst p0
          have sa := sa (.inl rfl) (by omega)
          rw [if_pos (.inl rfl)]
          simp at hi
          simp [g_barred_at, tupI, hck, hi, m1, m2, q1, q2, sa, -Int.neg_mul]
        · by_cases p2 : 2 ≤ p
          · by_cases pb : p < 1000000000
            · have sa := sa (.inr p2) (by omega)
              have pp := sp_is_prime_number (n := p) st (by omega)
              have z : ∀ {x y : Int}, x ≤ y → ¬ y < x := by omega
              simp at hi
              cases hP : isP p with
              | true =>
                rw [if_pos (.inr ⟨p2, pb, rfl⟩)]
                rw [hP] at pp
                simp [g_barred_at, tupI, hck, hi, p0, p2, pb, pp, m1, m2, q1, q2, sa, -Int.neg_mul]
              | false =>
                rw [if_neg (fun h => by rcases h with h | ⟨_, _, h⟩; exact p0 h; cases h)]
                rw [hP] at pp
                simp [g_barred_at, tupI, hck, hi, p0, p2, pb, pp, noPlace]
            · rw [if_neg (by omega)]
              simp at hi
              simp [g_barred_at, tupI, hck, hi, p0, p2, pb, noPlace]
          · rw [if_neg (by omega)]
            simp at hi
            simp [g_barred_at, tupI, hck, hi, p0, p2, noPlace]
      · have ni := ne_int ht fun p e => c1 ⟨p, e⟩
        rw [barO_no k fun p e => c1 ⟨p, e⟩]
        simp [g_barred_at, tupI, hck, hi, ni, noPlace]
end K65

set_option maxRecDepth 100000
set_option maxHeartbeats 1000000
namespace K65
open PySem PySem.Spec PyProof.Rows L2 DD
theorem sp_law_with_point {st : Store} {h : Nat} {hd : Hd} (e : st[h]? = some hd.cell) : ∃ a b c x y z hd', Wp a b c x y z ∧ -3 ≤ x ∧ x ≤ 3 ∧ -3 ≤ y ∧ y ≤ 3 ∧ -3 ≤ z ∧ z ≤ 3 ∧ F__law_with_point [.ref h] st = .ok (.tup [tupI [a, b, c], tupI [x, y, z]]) (st.set h (Hd.cell hd')) := by
  have key : Good__law_with_point [.ref h] st (F__law_with_point [.ref h] st) := by
    have fin : ∀ {a b c x y z hd' s}, Wp a b c x y z → -3 ≤ x ∧ x ≤ 3 → -3 ≤ y ∧ y ≤ 3 → -3 ≤ z ∧ z ≤ 3 → HS st h hd' s → endO (g__law_with_point (startD 8 [.ref h]) st) = .ok (.tup [tupI [a, b, c], tupI [x, y, z]]) s → Good__law_with_point [.ref h] st (F__law_with_point [.ref h] st) := fun {a b c x y z hd' s} w hx hy hz hs eq =>
      viaF_good (o := .ok (.tup [tupI [a, b, c], tupI [x, y, z]]) (st.set h hd'.cell)) ⟨h, hd, rfl, e, a, b, c, x, y, z, hd', w, hx.1, hx.2, hy.1, hy.2, hz.1, hz.2, rfl⟩ fun l1 _ => by
        rw [eq]
        exact hs.pk l1 rfl
    have hr := rng1_eq (fr := consA (litD (.int 40)) nilA) (ls := [some (.ref h), none, none, none, none, none, none, none]) (st := st) (st1 := st) (j := 40) (by simp) (by omega) (by omega)
    rcases for_may (α := Unit) (ok := fun _ => true) (g := nameG 1) (b := fb1__law_with_point) (fun _ ls s => ∃ hd' l a b x y z w, ls = [some (.ref h), l, a, b, x, y, z, w] ∧ HS st h hd' s)
      (fun r s => ∃ a b c x y z hd', r = .tup [tupI [a, b, c], tupI [x, y, z]] ∧ Wp a b c x y z ∧ (-3 ≤ x ∧ x ≤ 3) ∧ (-3 ≤ y ∧ y ≤ 3) ∧ (-3 ≤ z ∧ z ≤ 3) ∧ HS st h hd' s) (fun _ _ _ _ => rfl) (rangeL 0 (40 : Int).toNat) () [some (.ref h), none, none, none, none, none, none, none] st ⟨hd, none, none, none, none, none, none, none, rfl, HS.refl e⟩
      (fun d _ _ ls s ⟨hd', l, a, b, x, y, z, w, e1, hs⟩ => by
        subst e1
        refine ⟨_, s, rfl, ?_⟩
        obtain ⟨a, hd1, s1, a0, a1, a2, ea, x1⟩ := number_hs (w := 60) hs (by omega) (by omega)
        obtain ⟨b, hd2, s2, b0, b1, b2, eb, x2⟩ := number_hs (w := 60) x1 (by omega) (by omega)
        obtain ⟨x, hd3, s3, x0, xl, ex, x3⟩ := draw_hs (m := 4) x2 (by omega) (by omega)
        obtain ⟨y, hd4, s4, y0, yl, ey, x4⟩ := draw_hs (m := 3) x3 (by omega) (by omega)
        obtain ⟨z, hd5, s5, z0, zl, ez, x5⟩ := draw_hs (m := 2) x4 (by omega) (by omega)
        have m1 : mulOk a x = true := mulOk_l (by omega) (by omega)
        have m2 : mulOk (a * x) x = true := mulOk_r (by omega) (by omega)
        have m3 : mulOk b (1 + y) = true := mulOk_l (by omega) (by omega)
        have m4 : mulOk (b * (1 + y)) (1 + y) = true := mulOk_r (by omega) (by omega)
        have m5 : mulOk (1 + z) (1 + z) = true := mulOk_r (by omega) (by omega)
        have zz : 0 < (1 + z) * (1 + z) := Int.mul_pos (by omega) (by omega)
        have zz2 : (1 + z) * (1 + z) ≤ 2 * 2 := Int.mul_le_mul (by omega) (by omega) (by omega) (by omega)
        generalize hZ : (1 + z) * (1 + z) = Z at *
        have d1 : divOk Z = true := divOk_small (by omega) (by omega) (by omega)
        have zn : ¬ Z = 0 := by omega
        have z0' : (0 : Int) ≤ Z := by omega
        generalize hw : a * x * x + b * (1 + y) * (1 + y) = w at *
        by_cases c1 : 0 - w = 0
        · refine .inl ⟨(), [some (.ref h), some d, some (.int a), some (.int b), some (.int x), some (.int (1 + y)), some (.int (1 + z)), some (.int (0 - w))], s5, .inl ?_, hd5, _, _, _, _, _, _, _, rfl, x5⟩
          simp at c1
          simp [fb1__law_with_point, ea, eb, ex, ey, ez, m1, m2, m3, m4, m5, hZ, hw, c1]
        · by_cases c2 : (0 - w) % Z = 0
          · by_cases c3 : (if 0 - w < 0 then -(0 - w) else 0 - w) / Z ≤ 1000
            · refine .inr ⟨.tup [tupI [a, b, (0 - w) / Z], tupI [x, 1 + y, 1 + z]], s5, ?_, a, b, (0 - w) / Z, x, 1 + y, 1 + z, hd5, rfl, ?_, by omega, by omega, by omega, x5⟩
              · simp at c1 c2 c3
                simp [fb1__law_with_point, ea, eb, ex, ey, ez, m1, m2, m3, m4, m5, hZ, hw, c1, c2, c3, zn, z0', d1, tupI]
              · have hdv : (0 - w) / Z * Z = 0 - w := Int.ediv_mul_cancel (Int.dvd_of_emod_eq_zero c2)
                generalize hq : (0 - w) / Z = q at *
                have hq0 : q ≠ 0 := fun q0 => c1 (by rw [← hdv, q0, Int.zero_mul])
                have hab : (if 0 - w < 0 then -(0 - w) else 0 - w) / Z = (q.natAbs : Int) := by
                  have e1 : (if 0 - w < 0 then -(0 - w) else 0 - w) = (q.natAbs : Int) * Z := by
                    rw [← hdv]
                    rcases (by omega : q < 0 ∨ 0 ≤ q) with n | n
                    · have : q * Z < 0 := Int.mul_neg_of_neg_of_pos n zz
                      rw [if_pos this]
                      have : (q.natAbs : Int) = -q := by omega
                      rw [this, Int.neg_mul]
                    · have : ¬ q * Z < 0 := by
                        have := Int.mul_nonneg n z0'
                        omega
                      rw [if_neg this]
                      have : (q.natAbs : Int) = q := by omega
                      rw [this]
                  rw [e1, Int.mul_ediv_cancel _ zn]
                rw [hab] at c3
                refine ⟨⟨a0, by omega, by omega⟩, ⟨b0, by omega, by omega⟩, ⟨hq0, by omega, by omega⟩, by omega, by omega, by omega, by omega, ?_⟩
                rw [hw]
                have : q * (1 + z) * (1 + z) = q * Z := by rw [Int.mul_assoc, hZ]
                rw [this, hdv]
                omega
            · refine .inl ⟨(), [some (.ref h), some d, some (.int a), some (.int b), some (.int x), some (.int (1 + y)), some (.int (1 + z)), some (.int (0 - w))], s5, .inl ?_, hd5, _, _, _, _, _, _, _, rfl, x5⟩
              simp at c1 c2 c3
              simp [fb1__law_with_point, ea, eb, ex, ey, ez, m1, m2, m3, m4, m5, hZ, hw, c1, c2, c3, zn, z0', d1]
          · refine .inl ⟨(), [some (.ref h), some d, some (.int a), some (.int b), some (.int x), some (.int (1 + y)), some (.int (1 + z)), some (.int (0 - w))], s5, .inl ?_, hd5, _, _, _, _, _, _, _, rfl, x5⟩
            simp at c1 c2
            simp [fb1__law_with_point, ea, eb, ex, ey, ez, m1, m2, m3, m4, m5, hZ, hw, c1, c2, zn, z0', d1]) with ⟨_, ls', s', k1, hd', l, a, b, x, y, z, w, rfl, hs⟩ | ⟨r, s', k1, a, b, c, x, y, z, hd', rfl, w, hx, hy, hz, hs⟩
    · refine fin (a := 1) (b := 1) (c := -2) (x := 1) (y := 1) (z := 1) (hd' := hd') (s := s') ⟨by omega, by omega, by omega, by omega, by omega, by omega, by omega, by omega⟩ (by omega) (by omega) (by omega) hs ?_
      simp at k1
      simp [g__law_with_point, hr, k1, tupI]
    · refine fin w hx hy hz hs ?_
      simp at k1
      simp [g__law_with_point, hr, k1]
  obtain ⟨h', hd', q, _, a, b, c, x, y, z, hd2, w, x1, x2, y1, y2, z1, z2, eo⟩ := key
  cases q
  exact ⟨a, b, c, x, y, z, hd2, w, x1, x2, y1, y2, z1, z2, eo⟩
end K65

set_option maxRecDepth 100000
set_option maxHeartbeats 2000000
namespace K65
open PySem PySem.Spec PyProof.Rows L2 DD
/-! small prime numbers stand the text's test -/
def smB (n : Nat) : Bool := decide (n < 2) || ((List.range 32).any fun d => decide (2 ≤ d) && (decide (d < n) && decide (n % d = 0))) || isP (n : Int)
theorem small_B : ((List.range 1001).all smB) = true := by decide +kernel
theorem pr_P {p : Int} (h : Pr p) (hb : p ≤ 1000) : isP p = true := by
  have h2 := h.two
  have := List.all_eq_true.mp small_B p.toNat (List.mem_range.mpr (by omega))
  unfold smB at this
  simp only [Bool.or_eq_true, decide_eq_true_eq, List.any_eq_true, Bool.and_eq_true] at this
  rcases this with (c | ⟨d, hd, d2, dl, dm⟩) | c
  · omega
  · exfalso
    have dd : (d : Int) ∣ p := by
      have : ((d : Nat) : Int) ∣ ((p.toNat : Nat) : Int) := Int.natCast_dvd_natCast.mpr (Nat.dvd_of_mod_eq_zero dm)
      rwa [Int.toNat_of_nonneg (by omega)] at this
    have := h.div d (by omega) dd
    omega
  · rwa [Int.toNat_of_nonneg (by omega)] at c
theorem HS.setn {st s : Store} {h n : Nat} {hd : Hd} {c : Cell} (x : HS st h hd s) (hn : st.length ≤ n) : HS st h hd (s.set n c) := by
  obtain ⟨g, rfl⟩ := x.ex
  refine ⟨⟨g.set (n - st.length) c, ?_⟩, x.lt⟩
  rw [List.set_append_right _ _ (by rw [List.length_set]; exact hn), List.length_set]
theorem number_keep {st s : Store} {h : Nat} {hd : Hd} {w : Int} (x : HS st h hd s) (h0 : 1 ≤ w) (h1 : w ≤ 1000000) : ∃ v hd' s', v ≠ 0 ∧ -w ≤ v ∧ v ≤ w ∧ F__law_number [.ref h, .int w] s = .ok (.int v) s' ∧ HS st h hd' s' ∧ ∀ k c, k ≠ h → s[k]? = some c → s'[k]? = some c := by
  obtain ⟨v, hd', a, b, c, e⟩ := sp_law_number (w := w) x.get h0 h1
  exact ⟨v, hd', _, a, b, c, e, x.set, fun k c hk hc => by rw [List.getElem?_set_ne (Ne.symm hk)]; exact hc⟩
abbrev Small (L : List Int) : Prop := ∀ v ∈ L, v ≠ 0 ∧ -1000 ≤ v ∧ v ≤ 1000
theorem lc_drawn {st : Store} {h n : Nat} {w : Int} (w0 : 1 ≤ w) (w1 : w ≤ 1000) (hn : st.length ≤ n) : ∀ (r : List D) (acc : List Int) (hd : Hd) (s : Store), HS st h hd s → s[n]? = some (.lst (acc.map D.int)) → acc.length + r.length < 16777216 → Small acc →
    ∃ L hd' s', lcL (fun _ => true) n (nameG 2) yesT le1__law_conic [some (.ref h), some (.int w), none] r s = .ok (.ref n) s' ∧ HS st h hd' s' ∧ s'[n]? = some (.lst (L.map D.int)) ∧ L.length = acc.length + r.length ∧ Small L
  | [], acc, hd, s, x, hs, _, ha => ⟨acc, hd, s, by unfold lcL; rw [if_pos rfl], x, hs, by simp, ha⟩
  | d :: r, acc, hd, s, x, hs, hl, ha => by
    have hlt := x.lt
    simp only [List.length_cons] at hl
    obtain ⟨v, hd1, s1, v0, v1, v2, e1, x1, k1⟩ := number_keep (w := w) x (by omega) (by omega)
    have hs1 := k1 n _ (by omega) hs
    have hn1 := (List.getElem?_eq_some_iff.mp hs1).1
    obtain ⟨L, hd', s', e2, x2, h2, hlen, hL⟩ := lc_drawn w0 w1 hn r (acc ++ [v]) hd1 (s1.set n (.lst ((acc ++ [v]).map D.int))) (x1.setn hn) (by rw [List.getElem?_set_self hn1]) (by simp; omega) (fun u hu => by
      rcases List.mem_append.mp hu with hu | hu
      · exact ha u hu
      · rw [List.mem_singleton.mp hu]; exact ⟨v0, by omega, by omega⟩)
    refine ⟨L, hd', s', ?_, x2, h2, by simp at hlen; simp; omega, hL⟩
    rw [← e2]
    conv => lhs; unfold lcL
    have g1 : nameG 2 d [some (.ref h), some (.int w), none] s = .ok [some (.ref h), some (.int w), some d] s := rfl
    have g2 : le1__law_conic [some (.ref h), some (.int w), some d] s = .ok (.int v) s1 := by
      simp [le1__law_conic, e1]
    rw [if_pos rfl, g1]
    simp only [yesT, g2, hs1, if_true]
    rw [if_pos (by simp; omega)]
    simp
theorem sp_law_conic {st : Store} {h : Nat} {hd : Hd} (e : st[h]? = some hd.cell) : ∃ a b c hd', Ck a b c ∧ F__law_conic [.ref h] st = .ok (tupI [a, b, c]) (st.set h (Hd.cell hd')) := by
  have key : Good__law_conic [.ref h] st (F__law_conic [.ref h] st) := by
    obtain ⟨w, hd1, s1, hw, e1, x1⟩ := any_new (l := [.int 30, .int 200, .int 200, .int 1000]) (HS.refl e) (by simp) (by simp)
    obtain ⟨w, rfl, w0, w1⟩ : ∃ q : Int, w = .int q ∧ 1 ≤ q ∧ q ≤ 1000 := by
      simp only [List.mem_cons, List.not_mem_nil, or_false] at hw
      rcases hw with rfl | rfl | rfl | rfl <;> exact ⟨_, rfl, by omega, by omega⟩
    have hr := fun ls => rng1_eq (fr := consA (litD (.int 3)) nilA) (ls := ls) (st := s1) (st1 := s1) (j := 3) (by simp) (by omega) (by omega)
    obtain ⟨L, hd2, s2, e2, x2, c2, l2, hL⟩ := lc_drawn (st := st) (h := h) (n := s1.length) (w := w) w0 w1 (by
      obtain ⟨g, rfl⟩ := x1.ex
      simp) (rangeL 0 (3 : Int).toNat) [] hd1 (s1 ++ [.lst []]) x1.app (by simp) (by simp [rangeL_len]) (fun _ h => by cases h)
    rw [rangeL_len] at l2
    obtain ⟨a, b, c, rfl⟩ : ∃ p q r, L = [p, q, r] := by
      match L, l2 with
      | [p, q, r], _ => exact ⟨_, _, _, rfl⟩
    refine viaF_good (o := .ok (tupI [a, b, c]) (st.set h hd2.cell)) ⟨h, hd, rfl, e, a, b, c, hd2, ⟨hL a (by simp), hL b (by simp), hL c (by simp)⟩, rfl⟩ fun l1 _ => ?_
    have i2 : itsOf (.ref s1.length) s2 = some ⟨[.int a, .int b, .int c], [(s1.length, [.int a, .int b, .int c])]⟩ := by
      simp at c2
      simp [itsOf, c2]
    simp at e2 hr
    simp [g__law_conic, e1, hr, wipeL, e2, tupleV, i2, tupI]
    exact x2.pk l1 rfl
  obtain ⟨h', hd', q, _, a, b, c, hd2, k, eo⟩ := key
  cases q
  exact ⟨a, b, c, hd2, k, eo⟩
theorem map_er {α β : Type} (f : α → β) : ∀ (l : List α) (k : Nat), (l.map f).eraseIdx k = (l.eraseIdx k).map f
  | [], _ => rfl
  | _ :: _, 0 => rfl
  | x :: l, k + 1 => by rw [List.map_cons, List.eraseIdx_cons_succ, List.eraseIdx_cons_succ, List.map_cons, map_er f l k]
theorem er_perm {α : Type} : ∀ {l : List α} {k : Nat} (h : k < l.length), List.Perm (l[k] :: l.eraseIdx k) l
  | _ :: _, 0, _ => List.Perm.refl _
  | x :: l, k + 1, h => by
    rw [List.getElem_cons_succ, List.eraseIdx_cons_succ]
    exact (List.Perm.swap x _ _).trans (List.Perm.cons x (er_perm (by simpa using h)))
theorem sp_law_shuffled {st : Store} {h : Nat} {hd : Hd} {a b c : Int} (e : st[h]? = some hd.cell) : ∃ l hd', List.Perm l [a, b, c] ∧ F__law_shuffled [.ref h, tupI [a, b, c]] st = .ok (.ref (st.length + 1)) (st.set h (Hd.cell hd') ++ [.lst [], .lst (l.map .int)]) := by
  have key : Good__law_shuffled [.ref h, tupI [a, b, c]] st (F__law_shuffled [.ref h, tupI [a, b, c]] st) := by
    have hlt := (List.getElem?_eq_some_iff.mp e).1
    obtain ⟨t, ht⟩ : ∃ t : D, t = .tup [.int a, .int b, .int c] := ⟨_, rfl⟩
    obtain ⟨ls', st', k1, f, hd2, rfl, rfl, pm⟩ := while_run (t := wt1__law_shuffled) (b := wb1__law_shuffled)
      (fun (o : List Int) ls s => ∃ f hd', ls = [some (.ref h), some t, some (.ref st.length), some (.ref (st.length + 1))] ∧ s = st.set h (Hd.cell hd') ++ [.lst (o.map .int), .lst (f.map .int)] ∧ List.Perm (o ++ f) [a, b, c]) (fun o => o.length)
      (fun ls s => ∃ f hd', ls = [some (.ref h), some t, some (.ref st.length), some (.ref (st.length + 1))] ∧ s = st.set h (Hd.cell hd') ++ [.lst [], .lst (f.map .int)] ∧ List.Perm f [a, b, c]) (fun o ls s ⟨f, hd', e1, e2, pm⟩ => by
        subst e1 e2
        have lk := pm.length_eq
        simp at lk
        have hl := len_ref (st := st.set h hd'.cell ++ [.lst (o.map .int), .lst (f.map .int)]) (n := st.length) (l := o.map .int) (by simp)
        simp at hl
        match o, lk, pm with
        | [], lk, pm =>
          simp at hl
          exact .inl ⟨st.set h hd'.cell ++ [.lst [], .lst (f.map .int)], by simp [wt1__law_shuffled, hl], f, hd', rfl, rfl, by simpa using pm⟩
        | x :: o, lk, pm =>
          have pos : (0 : Int) < (o.length : Int) + 1 := by omega
          obtain ⟨v, hd2, v0, v1, ed⟩ := sp_law_draw (h := h) (hd := hd') (m := (o.length : Int) + 1) (st := st.set h hd'.cell ++ [.lst ((x :: o).map .int), .lst (f.map .int)]) (by
            rw [List.getElem?_append_left (by rw [List.length_set]; exact hlt), List.getElem?_set_self hlt]) (by omega) (by simp at lk; omega)
          have es : (st.set h hd'.cell ++ [Cell.lst ((x :: o).map .int), .lst (f.map .int)]).set h hd2.cell = st.set h hd2.cell ++ [.lst ((x :: o).map .int), .lst (f.map .int)] := by
            rw [List.set_append_left _ _ (by rw [List.length_set]; exact hlt), List.set_set]
          rw [es] at ed
          have hv : v.toNat < (x :: o).length := by simp; omega
          have hp := pop_ref (st := st.set h hd2.cell ++ [.lst ((x :: o).map .int), .lst (f.map .int)]) (n := st.length) (l := (x :: o).map .int) (i := v) (x := .int ((x :: o)[v.toNat])) (by simp) v0 (by rw [List.getElem?_map, List.getElem?_eq_getElem hv]; rfl) (by simp at lk; simp; omega)
          have es2 : (st.set h hd2.cell ++ [Cell.lst ((x :: o).map .int), .lst (f.map .int)]).set st.length (.lst (((x :: o).map D.int).eraseIdx v.toNat)) = st.set h hd2.cell ++ [.lst (((x :: o).eraseIdx v.toNat).map .int), .lst (f.map .int)] := by
            rw [List.set_append_right _ _ (by simp)]
            rw [map_er]
            simp
          rw [es2] at hp
          have ha := app_ref (st := st.set h hd2.cell ++ [.lst (((x :: o).eraseIdx v.toNat).map .int), .lst (f.map .int)]) (n := st.length + 1) (l := f.map .int) (x := .int ((x :: o)[v.toNat])) (by simp) (by simp at lk; simp; omega)
          have es3 : (st.set h hd2.cell ++ [Cell.lst (((x :: o).eraseIdx v.toNat).map .int), .lst (f.map .int)]).set (st.length + 1) (.lst (f.map .int ++ [.int ((x :: o)[v.toNat])])) = st.set h hd2.cell ++ [.lst (((x :: o).eraseIdx v.toNat).map .int), .lst ((f ++ [(x :: o)[v.toNat]]).map .int)] := by
            rw [List.set_append_right _ _ (by simp)]
            simp
          rw [es3] at ha
          have ty1 : ∀ s : Store, s[st.length]? = some (.lst ((x :: o).map .int)) → tyD s (.ref st.length) = some .lst := fun s hs => tyD_ref hs
          have t1 : tyD (st.set h hd'.cell ++ [.lst ((x :: o).map .int), .lst (f.map .int)]) (.ref st.length) = some .lst := by simp [tyD]
          have t2 : tyD (st.set h hd2.cell ++ [.lst ((x :: o).map .int), .lst (f.map .int)]) (.ref st.length) = some .lst := by simp [tyD]
          have t3 : tyD (st.set h hd'.cell ++ [.lst ((x :: o).map .int), .lst (f.map .int)]) (.ref (st.length + 1)) = some .lst := by simp [tyD]
          have t4 : tyD (st.set h hd2.cell ++ [.lst (((x :: o).eraseIdx v.toNat).map .int), .lst (f.map .int)]) (.ref (st.length + 1)) = some .lst := by simp [tyD]
          refine .inr ⟨st.set h hd'.cell ++ [.lst ((x :: o).map .int), .lst (f.map .int)], _, st.set h hd2.cell ++ [.lst (((x :: o).eraseIdx v.toNat).map .int), .lst ((f ++ [(x :: o)[v.toNat]]).map .int)], (x :: o).eraseIdx v.toNat, ?_, ?_, ⟨f ++ [(x :: o)[v.toNat]], hd2, rfl, rfl, ?_⟩, ?_⟩
          · simp at hl
            simp [wt1__law_shuffled, hl, pos]
          · simp at hl ed hp ha t1 t2 t3 t4
            simp [wb1__law_shuffled, methD, t1, t2, t3, t4, hl, ed, hp, ha]
          · refine List.Perm.trans ?_ pm
            have p1 : List.Perm ((x :: o)[v.toNat] :: (x :: o).eraseIdx v.toNat) (x :: o) := er_perm hv
            have p2 := (p1.append_right f)
            refine List.Perm.trans ?_ p2
            rw [← List.append_assoc]
            exact (List.perm_append_comm).trans (by rw [List.singleton_append]; exact List.Perm.refl _)
          · have := List.length_eraseIdx_of_lt hv
            rw [this, List.length_cons]
            omega) [a, b, c] [some (.ref h), some t, some (.ref st.length), some (.ref (st.length + 1))] (st.set h hd.cell ++ [.lst ([a, b, c].map .int), .lst (([] : List Int).map .int)]) ⟨[], hd, rfl, rfl, by simp⟩
    refine viaF_good (o := .ok (.ref (st.length + 1)) (st.set h hd2.cell ++ [.lst [], .lst (f.map .int)])) ⟨h, hd, a, b, c, rfl, e, f, hd2, pm, rfl⟩ fun l1 _ => Pk.of_eq ?_
    rw [set_same e] at k1
    simp [ht] at k1
    simp [g__law_shuffled, tupI, listV, k1]
  obtain ⟨h', hd', a', b', c', q, _, l, hd2, pm, eo⟩ := key
  simp [tupI] at q
  obtain ⟨rfl, rfl, rfl, rfl⟩ := q
  exact ⟨l, hd2, pm, eo⟩
end K65

set_option maxRecDepth 100000
set_option maxHeartbeats 2000000
namespace K65
open PySem PySem.Spec PyProof.Rows L2 DD
/-! texts -/
theorem reprG {st : Store} {d : D} {p : PyData} (e1 : toP st 60 d = some p) (h1 : p.showable = true) (h2 : p.hasDict = false) (h3 : p.depth ≤ 64) (h4 : p.shown.length ≤ 16777216) : reprV [d] st = .ok (.str p.shown) st := by
  unfold reprV
  simp only [e1]
  rw [if_pos ⟨h1, h2, h3, h4⟩]
theorem repr_bl {st : Store} {b : Bool} : reprV [.bl b] st = .ok (.str (PyData.shown (.bool b))) st :=
  reprG rfl rfl (by rw [PyData.hasDict]) (by simp [PyData.depth]) (by cases b <;> decide)
theorem int900 {i : Int} (h : i.natAbs < 2 ^ 900) : (PyData.int i).showable = true ∧ (PyData.int i).leavesShort 300 = true := by
  constructor
  · rw [PyData.showable]
    refine decide_eq_true ?_
    by_cases hz : i.natAbs = 0
    · rw [hz]; decide
    · rw [Nat.log2_lt hz]
      exact Nat.lt_of_lt_of_le h (Nat.pow_le_pow_right (by decide) (by decide))
  · rw [PyData.leavesShort]
    refine decide_eq_true ?_
    rw [PyData.shown_int]
    have h10 : (2 : Nat) ^ 900 ≤ 10 ^ 299 := by decide +kernel
    have := int_text_length_le10 (k := 299) (by decide) (Nat.lt_of_lt_of_le h h10)
    show (Str.ofString (toString i)).length ≤ 300
    rw [PySem.ofString_length]
    exact this
theorem small900 {p : Int} (h0 : -1000000000 ≤ p) (h1 : p ≤ 1000000000) : p.natAbs < 2 ^ 900 := by
  have : (2 : Nat) ^ 40 ≤ 2 ^ 900 := Nat.pow_le_pow_right (by decide) (by decide)
  refine Nat.lt_of_lt_of_le ?_ this
  rw [show (2 : Nat) ^ 40 = 1099511627776 by decide]
  omega
theorem repr_place {st : Store} {p : Int} (h : p.natAbs < 2 ^ 900) : ∃ s, reprV [.tup [.str "place", .int p]] st = .ok (.str s) st ∧ ∀ st', reprV [.tup [.str "place", .int p]] st' = .ok (.str s) st' := by
  obtain ⟨h1, h2⟩ := int900 h
  have key : ∀ st : Store, reprV [.tup [.str "place", .int p]] st = .ok (.str (PyData.shown (.tuple [.str "place", .int p]))) st := fun st => by
    refine reprG (p := .tuple [.str "place", .int p]) rfl ?_ ?_ ?_ ?_
    · rw [PyData.showable, PyData.showableAll, PyData.showableAll, PyData.showableAll, h1]; rfl
    · rw [PyData.hasDict, PyData.hasDictAll, PyData.hasDictAll, PyData.hasDictAll, PyData.hasDict, PyData.hasDict]; rfl
    · simp [PyData.depth, PyData.depthAll]
    · have hs : (PyData.tuple [.str "place", .int p]).leavesShort 300 = true := by
        rw [PyData.leavesShort, PyData.leavesShortAll, PyData.leavesShortAll, PyData.leavesShortAll, h2]
        decide +kernel
      have hb := PyData.shown_le_bulk 300 (by decide) _ hs
      have : (PyData.tuple [.str "place", .int p]).bulk ≤ 100 := by
        simp [PyData.bulk, PyData.bulkAll]
        decide +kernel
      omega
  exact ⟨_, key st, key⟩
theorem repr_point {st : Store} {x y z : Int} (b : Big x y z) : ∃ s, reprV [.tup [.str "point", tupI [x, y, z]]] st = .ok (.str s) st ∧ ∀ st', reprV [.tup [.str "point", tupI [x, y, z]]] st' = .ok (.str s) st' := by
  obtain ⟨h1, h2⟩ := int900 b.x
  obtain ⟨h3, h4⟩ := int900 b.y
  obtain ⟨h5, h6⟩ := int900 b.z
  have key : ∀ st : Store, reprV [.tup [.str "point", tupI [x, y, z]]] st = .ok (.str (PyData.shown (.tuple [.str "point", .tuple [.int x, .int y, .int z]]))) st := fun st => by
    refine reprG (p := .tuple [.str "point", .tuple [.int x, .int y, .int z]]) rfl ?_ ?_ ?_ ?_
    · simp only [PyData.showable, PyData.showableAll] at h1 h3 h5 ⊢
      rw [h1, h3, h5]; rfl
    · simp only [PyData.hasDict, PyData.hasDictAll]; rfl
    · simp [PyData.depth, PyData.depthAll]
    · have hs : (PyData.tuple [.str "point", .tuple [.int x, .int y, .int z]]).leavesShort 300 = true := by
        rw [PyData.leavesShort, PyData.leavesShortAll, PyData.leavesShortAll, PyData.leavesShortAll, PyData.leavesShort, PyData.leavesShort, PyData.leavesShortAll, PyData.leavesShortAll, PyData.leavesShortAll, PyData.leavesShortAll, h2, h4, h6]
        decide +kernel
      have hb := PyData.shown_le_bulk 300 (by decide) _ hs
      have : (PyData.tuple [.str "point", .tuple [.int x, .int y, .int z]]).bulk ≤ 100 := by
        simp [PyData.bulk, PyData.bulkAll]
        decide +kernel
      omega
  exact ⟨_, key st, key⟩
/-! the word of a call -/
theorem cat_c : catF ⟨"NoPlace", []⟩ = some true := by decide
theorem cat_f : catF ⟨"NoConic", []⟩ = some true := by decide
theorem kcc : kT "NoPlace" "NoPlace" = true := by decide
theorem kcf : kT "NoPlace" "NoConic" = false := by decide
theorem kcv : kT "NoPlace" "ValueError" = true := by decide
theorem kfc : kT "NoConic" "NoPlace" = false := by decide
theorem kff : kT "NoConic" "NoConic" = true := by decide
theorem kfv : kT "NoConic" "ValueError" = true := by decide
theorem wsC {st : Store} : wordS (noPlace st) = "place" := rfl
theorem wsF {st : Store} : wordS (noConic st) = "conic" := rfl
theorem ne_bl {x y : Bool} {st : Store} : eqF true (.bl x) (.bl y) st = .ok (.bl (x != y)) st := by
  show (if SeqAt.shaped (PyData.bool x) = true ∧ SeqAt.shaped (PyData.bool y) = true then Out.ok (D.bl (!PyData.eqv (.bool x) (.bool y))) st else .bad) = _
  rw [if_pos ⟨rfl, rfl⟩]
  cases x <;> cases y <;> rfl
theorem tryD_as {i : Nat} {cat : Exc → Option Bool} {b : LS → Store → SO} {g : Exc → Addr → LS → Store → SO} {ls ls1 : LS} {st st1 : Store} {e : Exc} {r : SO} (hb : b ls st = .ex e ls1 st1) (hc : cat e = some true) (hg : ∀ a, unS i (g e a (setL ls1 i (.adr a)) st1) = r) : tryD i cat b g ls st = r := by
  unfold tryD
  rw [hb]
  simp only [hc]
  rw [if_pos fun a => by rw [hg a, hg 0]]
  exact hg 0
theorem tryD_nx {i : Nat} {cat : Exc → Option Bool} {b : LS → Store → SO} {g : Exc → Addr → LS → Store → SO} {ls ls1 : LS} {st st1 : Store} (hb : b ls st = .nx ls1 st1) : tryD i cat b g ls st = .nx ls1 st1 := by
  unfold tryD
  rw [hb]
theorem word_parts : ∃ B G, g__law_word = seqD (asgD (litD (.str "let")) (nameG 3)) (seqD (tryD 4 catF B G) (retD (varD 3))) ∧
    (∀ (d e : D) (st : Store), B [some (.int 0), some d, some e, some (.str "let"), none] st = ofE (F_barred_at [d, e] st) [some (.int 0), some d, some e, some (.str "let"), none] fun _ st1 => .nx [some (.int 0), some d, some e, some (.str "let"), none] st1) ∧
    (∀ (d e : D) (st : Store), B [some (.int 1), some d, some e, some (.str "let"), none] st = ofE (F_conic_point [d] st) [some (.int 1), some d, some e, some (.str "let"), none] fun _ st1 => .nx [some (.int 1), some d, some e, some (.str "let"), none] st1) ∧
    (∀ (d e : D) (st : Store), B [some (.int 2), some d, some e, some (.str "let"), none] st = ofE (F_is_conic_paper [d, .non] st) [some (.int 2), some d, some e, some (.str "let"), none] fun _ st1 => .nx [some (.int 2), some d, some e, some (.str "let"), none] st1) ∧
    (∀ (a : Addr) (s1 s2 s3 : Option D) (x : D) (st : Store), unS 4 (G ⟨"NoPlace", []⟩ a [s1, s2, s3, some x, some (.adr a)] st) = .nx [s1, s2, s3, some (.str "place"), none] st) ∧
    ∀ (a : Addr) (s1 s2 s3 : Option D) (x : D) (st : Store), unS 4 (G ⟨"NoConic", []⟩ a [s1, s2, s3, some x, some (.adr a)] st) = .nx [s1, s2, s3, some (.str "conic"), none] st := by
  refine ⟨_, _, rfl, fun d e st => ?_, fun d e st => ?_, fun d e st => ?_, fun a s1 s2 s3 x st => ?_, fun a s1 s2 s3 x st => ?_⟩
  · simp
  · simp
  · simp
  · simp [kcc, kcf, kcv, isED, unS, ne_bl]
  · simp [kfc, kff, kfv, isED, unS, ne_bl]
theorem word_run {st : Store} {o : Out D} {i : Int} {d e : D} (hB : ∀ B G, g__law_word = seqD (asgD (litD (.str "let")) (nameG 3)) (seqD (tryD 4 catF B G) (retD (varD 3))) →
      (∀ (d e : D) (st : Store), B [some (.int 0), some d, some e, some (.str "let"), none] st = ofE (F_barred_at [d, e] st) [some (.int 0), some d, some e, some (.str "let"), none] fun _ st1 => .nx [some (.int 0), some d, some e, some (.str "let"), none] st1) →
      (∀ (d e : D) (st : Store), B [some (.int 1), some d, some e, some (.str "let"), none] st = ofE (F_conic_point [d] st) [some (.int 1), some d, some e, some (.str "let"), none] fun _ st1 => .nx [some (.int 1), some d, some e, some (.str "let"), none] st1) →
      (∀ (d e : D) (st : Store), B [some (.int 2), some d, some e, some (.str "let"), none] st = ofE (F_is_conic_paper [d, .non] st) [some (.int 2), some d, some e, some (.str "let"), none] fun _ st1 => .nx [some (.int 2), some d, some e, some (.str "let"), none] st1) →
      B [some (.int i), some d, some e, some (.str "let"), none] st = ofE o [some (.int i), some d, some e, some (.str "let"), none] fun _ st1 => .nx [some (.int i), some d, some e, some (.str "let"), none] st1)
    (ho : (∃ v, o = .ok v st) ∨ o = noPlace st ∨ o = noConic st) : endO (g__law_word (startD 5 [.int i, d, e]) st) = .ok (.str (wordS o)) st := by
  obtain ⟨B, G, e0, e1, e2, e3, e4, e5⟩ := word_parts
  have hb := hB B G e0 e1 e2 e3
  rw [e0]
  rcases ho with ⟨v, rfl⟩ | rfl | rfl
  · have t := tryD_nx (i := 4) (cat := catF) (g := G) hb
    simp [t, wordS]
  · have t := tryD_as (i := 4) (cat := catF) (g := G) hb cat_c (fun x => e4 x _ _ _ _ st)
    rw [wsC]
    simp [t]
  · have t := tryD_as (i := 4) (cat := catF) (g := G) hb cat_f (fun x => e5 x _ _ _ _ st)
    rw [wsF]
    simp [t]
theorem barO_cases (d e : D) (st : Store) : (∃ v, barO d e st = .ok v st) ∨ barO d e st = noPlace st ∨ barO d e st = noConic st := by
  unfold barO
  split
  · split
    · split
      · exact .inl ⟨_, rfl⟩
      · exact .inr (.inl rfl)
    · exact .inr (.inl rfl)
  · exact .inr (.inr rfl)
theorem word_bar {st : Store} {d e : D} (hd : Cd st d) (he : ∃ t, tyD st e = some t) : F__law_word [.int 0, d, e] st = .ok (.str (wordS (barO d e st))) st := by
  refine viaF_eq (.inl ⟨d, e, rfl, hd, he, rfl⟩) (fun o' h' => ?_) fun h1 h2 => Pk.of_eq ?_
  · rcases h' with ⟨d', e', q, _, _, eo⟩ | ⟨i, d', e', hi, q, _⟩
    · cases q; exact eo
    · cases q; omega
  · refine word_run (fun B G _ e1 _ _ => ?_) (barO_cases d e st)
    rw [e1 d e st, sp_barred_at hd he]
theorem word_oth {st : Store} {d e : D} {i : Int} (hi : i = 1 ∨ i = 2) (hd : Cd st d) : F__law_word [.int i, d, e] st = .ok (.str (if conicB d = true then "let" else "conic")) st := by
  refine viaF_eq (.inr ⟨i, d, e, hi, rfl, hd, rfl⟩) (fun o' h' => ?_) fun h1 h2 => Pk.of_eq ?_
  · rcases h' with ⟨d', e', q, _⟩ | ⟨i', d', e', _, q, _, eo⟩
    · cases q; omega
    · cases q; exact eo
  · have fin : ∀ o : Out D, (∃ v, o = .ok v st ∧ conicB d = true) ∨ (o = noConic st ∧ conicB d = false) → ((∃ v, o = .ok v st) ∨ o = noPlace st ∨ o = noConic st) ∧ wordS o = (if conicB d = true then ("let" : Str) else "conic") := fun o h => by
      rcases h with ⟨v, rfl, c⟩ | ⟨rfl, c⟩
      · exact ⟨.inl ⟨v, rfl⟩, by rw [if_pos c]; rfl⟩
      · exact ⟨.inr (.inr rfl), by rw [c]; rfl⟩
    rcases hi with rfl | rfl
    · have f := fin (F_conic_point [d] st) (by
        rcases sp_conic_point hd with ⟨h, e⟩ | ⟨a, b, c, e, rfl, k, _, h⟩
        · exact .inr ⟨e, h⟩
        · exact .inl ⟨e, h, k.con⟩)
      rw [← f.2]
      exact word_run (fun B G _ _ e2 _ => e2 d e st) f.1
    · have f := fin (F_is_conic_paper [d, .non] st) (by
        have h := sp_is_conic_paper (e := .non) hd ⟨⟨_, rfl⟩, fun l e => by cases e⟩
        cases c : conicB d with
        | true => rw [c, if_pos rfl] at h; exact .inl ⟨_, h, rfl⟩
        | false => rw [c, if_neg Bool.false_ne_true] at h; exact .inr ⟨h, rfl⟩)
      rw [← f.2]
      exact word_run (fun B G _ _ _ e3 => e3 d e st) f.1
end K65

set_option maxRecDepth 100000
set_option maxHeartbeats 2000000
namespace K65
open PySem PySem.Spec PyProof.Rows L2 DD
theorem any_keep {st s g : Store} {h n : Nat} {hd : Hd} {l : List D} (x : HS st h hd s) (hn : n = s.length + g.length) (h0 : 0 < l.length) (h1 : l.length < 1000000) :
    ∃ y hd' s', y ∈ l ∧ F__law_any [.ref h, .ref n] (s ++ (g ++ [.lst l])) = .ok y s' ∧ HS st h hd' s' ∧ ∀ (k : Nat) (c : Cell), k ≠ h → (s ++ g)[k]? = some c → s'[k]? = some c := by
  subst hn
  have x' : HS st h hd (s ++ g) := x.app
  have e : s ++ (g ++ [Cell.lst l]) = (s ++ g) ++ [Cell.lst l] := (List.append_assoc _ _ _).symm
  have hne : h ≠ s.length + g.length := by have := x'.ne; rwa [List.length_append] at this
  obtain ⟨y, hd', hy, e1⟩ := sp_law_any (st := (s ++ g) ++ [.lst l]) (n := s.length + g.length) (l := l) hne (x'.app (g := [.lst l])).get (by rw [← List.length_append]; exact get_new) h0 h1
  refine ⟨y, hd', _, hy, by rw [e, e1], (x'.app (g := [.lst l])).set, fun k c hk hc => ?_⟩
  rw [List.getElem?_set_ne (Ne.symm hk), List.getElem?_append_left (List.getElem?_eq_some_iff.mp hc).1]
  exact hc
def thA (n m : Nat) : List D := [.non, .tup [.int 1, .int 1], .tup [.int 1, .int 1, .int 0], .tup [.int 1, .int 1, .int 1001], .ref n, .tup [.int 1, .int 1, .bl true], .tup [.int 1, .int 1, .int (-2), .int 1], .tup [.str "1", .int 1, .int 1], .ref m, .int 0]
def thB : List D := [.tup [.int 1, .int 1, .int (-2)], .tup [.int 9, .int 9, .int (-9)]]
def thL (n m : Nat) : List D := [.non, .tup [.int 1, .int 1], .tup [.int 1, .int 1, .int 0], .tup [.int 1, .int 1, .int 1001], .ref n, .tup [.int 1, .int 1, .bl true], .tup [.int 1, .int 1, .int (-2), .int 1], .tup [.str "1", .int 1, .int 1], .ref m, .int 0, .tup [.int 1, .int 1, .int (-2)], .tup [.int 9, .int 9, .int (-9)]]
def noL (m : Nat) : List D := [.int 1, .int 4, .int (-2), .non, .bl true, .str "2", .tup [.int 2], .int 91, .int 1000000007, .ref m]
theorem cd_flat {st : Store} {l : List D} (h : ∀ x ∈ l, ∃ t, tyD st x = some t) : Cd st (.tup l) := ⟨⟨_, rfl⟩, fun l' e _ => by cases e; exact h⟩
theorem th_cd {s : Store} {n m : Nat} {d : D} {l : List D} {k : List (Key × D)} (hd : d ∈ thL n m) (hn : s[n]? = some (.lst l)) (hm : s[m]? = some (.dic k)) : Cd s d := by
  simp only [thL, List.mem_cons, List.not_mem_nil, or_false] at hd
  rcases hd with rfl | rfl | rfl | rfl | rfl | rfl | rfl | rfl | rfl | rfl | rfl | rfl
  all_goals first
    | (refine cd_flat fun x hx => ?_
       simp only [List.mem_cons, List.not_mem_nil, or_false] at hx
       rcases hx with rfl | rfl | rfl | rfl <;> exact ⟨_, rfl⟩)
    | (refine cd_flat fun x hx => ?_
       simp only [List.mem_cons, List.not_mem_nil, or_false] at hx
       rcases hx with rfl | rfl | rfl <;> exact ⟨_, rfl⟩)
    | (refine cd_flat fun x hx => ?_
       simp only [List.mem_cons, List.not_mem_nil, or_false] at hx
       rcases hx with rfl | rfl <;> exact ⟨_, rfl⟩)
    | exact ⟨⟨_, rfl⟩, fun l e => by cases e⟩
    | (refine ⟨?_, fun l e => by cases e⟩; simp [tyD, hn]; done)
    | (refine ⟨?_, fun l e => by cases e⟩; simp [tyD, hm]; done)
theorem P_one : isP 1 = false := by decide +kernel
theorem P_four : isP 4 = false := by decide +kernel
theorem P_odd : isP 91 = false := by decide +kernel
theorem P_two : isP 2 = true := by decide +kernel
theorem ck112 : Ck 1 1 (-2) := ⟨by omega, by omega, by omega⟩
theorem no_ty {s : Store} {m : Nat} {d : D} {k : List (Key × D)} (hd : d ∈ noL m) (hm : s[m]? = some (.dic k)) : (∃ t, tyD s d = some t) ∧ barO (tupI [1, 1, -2]) d s = noPlace s := by
  simp only [noL, List.mem_cons, List.not_mem_nil, or_false] at hd
  rcases hd with rfl | rfl | rfl | rfl | rfl | rfl | rfl | rfl | rfl | rfl <;> refine ⟨by first
    | exact ⟨_, rfl⟩
    | (simp [tyD, hm]; done), ?_⟩ <;> first
    | (rw [barO_int ck112]; simp [P_one, P_four, P_odd]; done)
    | (refine barO_no ck112 ?_; intro p e; cases e; done)
theorem bar_none {e : D} {s : Store} : barO .non e s = noConic s := rfl
theorem bar_two {d : D} {s : Store} : wordS (barO d (.int 2) s) = (if conicB d = true then ("let" : Str) else "conic") := by
  cases h : conicB d with
  | false => unfold barO; rw [h]; rfl
  | true =>
    obtain ⟨a, b, c, rfl, k⟩ := con_ck h
    rw [barO_int k, if_pos (.inr ⟨by omega, by omega, P_two⟩)]
    rfl
theorem eq_words {st : Store} {n m : Nat} {a b c d : Str} (ok : PyData.strOk a = true ∧ PyData.strOk b = true ∧ PyData.strOk c = true ∧ PyData.strOk d = true) (h : st[n]? = some (.lst [.str a, .str b, .str c, .str d])) (h' : st[m]? = some (.lst [.str a, .str b, .str c, .str d])) : eqF false (.ref n) (.ref m) st = .ok (.bl true) st := by
  have t : ∀ k, st[k]? = some (.lst [.str a, .str b, .str c, .str d]) → toP st 60 (.ref k) = some (.list [.str a, .str b, .str c, .str d]) := fun k hk => by
    rw [toP]
    simp only [hk]
    rfl
  show eqG false (.ref n) (.ref m) st = _
  unfold eqG
  rw [t n h, t m h']
  have hs : SeqAt.shaped (.list [.str a, .str b, .str c, .str d]) = true := by simp [SeqAt.shaped, PyData.canLay0, PyData.canLayAll0, PyData.depth, PyData.depthAll, ok]
  simp only [hs, and_self, if_true]
  simp [PyData.eqv, PyData.eqvAll]
theorem sp_law_are_refused {st : Store} {h : Nat} {hd : Hd} (e : st[h]? = some hd.cell) : ∃ hd', F__law_are_refused [.ref h] st = .ok (.bl true) (st.set h (Hd.cell hd')) := by
  have key : Good__law_are_refused [.ref h] st (F__law_are_refused [.ref h] st) := by
    have hl := (List.getElem?_eq_some_iff.mp e).1
    obtain ⟨th, hd1, s1, hth, e1, x1, c1⟩ := any_keep (g := [.lst [.int 1, .int 1, .int (-2)], .dic [], .lst (thA st.length (st.length + 1)), .lst thB]) (l := thL st.length (st.length + 1)) (n := st.length + 4) (HS.refl e) (by simp) (by simp [thL]) (by simp [thL])
    have k1 := c1 st.length (.lst [.int 1, .int 1, .int (-2)]) (by omega) (by simp)
    have k2 := c1 (st.length + 1) (.dic []) (by omega) (by simp)
    obtain ⟨non, hd2, s2, hnon, e2, x2, c2⟩ := any_keep (g := [.dic []]) (l := noL s1.length) (n := s1.length + 1) x1 (by simp) (by simp [noL]) (by simp [noL])
    have l1 : st.length + 1 < s1.length := (List.getElem?_eq_some_iff.mp k2).1
    have k3 := c2 st.length _ (by omega) (by rw [List.getElem?_append_left (by omega)]; exact k1)
    have k4 := c2 (st.length + 1) _ (by omega) (by rw [List.getElem?_append_left (by omega)]; exact k2)
    have k5 := c2 s1.length (.dic []) (by have := x1.ne; omega) (by simp)
    have cd1 := th_cd hth k1 k2
    have cd2 := th_cd hth k3 k4
    have nn := no_ty hnon k5
    obtain ⟨due, hdue, ok⟩ : ∃ due : Str, due = (if conicB th = true then ("let" : Str) else "conic") ∧ PyData.strOk due = true := by
      cases conicB th
      · exact ⟨_, rfl, by decide +kernel⟩
      · exact ⟨_, rfl, by decide +kernel⟩
    have ci := sp_is_conic cd1
    have cl := sp_law_is_conic cd1
    have w1 := word_bar cd2 (e := .int 2) ⟨_, rfl⟩
    rw [bar_two, ← hdue] at w1
    have w2 := word_oth (e := .int 0) (.inl rfl) cd2
    rw [← hdue] at w2
    have w3 := word_oth (e := .int 0) (.inr rfl) cd2
    rw [← hdue] at w3
    have w4 := word_bar (Ck.cd s2 (a := 1) (b := 1) (c := -2)) nn.1
    rw [nn.2, wsC] at w4
    have w5 := fun g : Store => word_bar (st := s2 ++ g) (d := .non) (e := non) ⟨⟨_, rfl⟩, fun l e => by cases e⟩ (by obtain ⟨t, ht⟩ := nn.1; exact ⟨t, tyD_app ht⟩)
    have w5 : ∀ g : Store, F__law_word [.int 0, .non, non] (s2 ++ g) = .ok (.str "conic") (s2 ++ g) := fun g => by rw [w5 g, bar_none, wsF]
    refine viaF_good (o := .ok (.bl true) (st.set h hd2.cell)) ⟨h, hd, rfl, e, hd2, rfl⟩ fun l1 _ => ?_
    have pw : okP (0 ≤ (9 : Int) ∧ (9 : Int) ≤ 1000 ∧ -18446744073709551616 < (10 : Int) ∧ (10 : Int) < 18446744073709551616) = true := okP_of (by omega)
    have ct := cat_ref (st := st ++ [.lst [.int 1, .int 1, .int (-2)], .dic [], .lst (thA st.length (st.length + 1))] ++ [.lst thB]) (n := st.length + 2) (m := st.length + 3) (l := thA st.length (st.length + 1)) (k := thB) (by simp) (by simp) (by simp [thA, thB])
    have rp : mulV (.ref (s2.length + 1)) (.int 3) (s2 ++ [.lst [.str due, .str due, .str due, .str "place"], .lst [.str due]]) = .ok (.ref (s2.length + 2)) (s2 ++ [.lst [.str due, .str due, .str due, .str "place"], .lst [.str due], .lst [.str due, .str due, .str due]]) := by
      show repL _ _ _ = _
      unfold repL
      have lo : lstOf (s2 ++ [Cell.lst [.str due, .str due, .str due, .str "place"], .lst [.str due]]) (.ref (s2.length + 1)) = some [.str due] := by simp [lstOf]
      simp only [lo]
      rw [if_pos (okP_of ⟨by omega, by omega, by simp⟩)]
      simp [List.replicate]
    have hx := cat_ref (st := s2 ++ [.lst [.str due, .str due, .str due, .str "place"], .lst [.str due], .lst [.str due, .str due, .str due]] ++ [.lst [.str "place"]]) (n := s2.length + 2) (m := s2.length + 3) (l := [.str due, .str due, .str due]) (k := [.str "place"]) (by simp) (by simp) (by simp)
    have hq := eq_words (st := s2 ++ [.lst [.str due, .str due, .str due, .str "place"], .lst [.str due], .lst [.str due, .str due, .str due]] ++ [.lst [.str "place"]] ++ [.lst [.str due, .str due, .str due, .str "place"]]) (n := s2.length) (m := s2.length + 4) (a := due) (b := due) (c := due) (d := "place") ⟨ok, ok, ok, by decide +kernel⟩ (by simp) (by simp)
    have w5' := w5 [.lst [.str due, .str due, .str due, .str "place"], .lst [.str due], .lst [.str due, .str due, .str due], .lst [.str "place"], .lst [.str due, .str due, .str due, .str "place"]]
    have cc : (if conicB th = true then Out.ok (D.str "let") s1 else Out.ok (D.str "conic") s1) = .ok (.str due) s1 := by rw [hdue]; split <;> rfl
    simp only [thA, thB, thL, noL, tupI] at e1 e2 ct w4
    simp at e1 e2 ct w4 hx hq
    simp [g__law_are_refused, pw, ct, e1, e2, cl, ci, cc, repr_bl, w1, w2, w3, w4, rp, hx, hq, w5']
    exact (x2.app (g := [_, _, _, _, _])).pk l1 rfl
  obtain ⟨h', hd', q, _, hd2, eo⟩ := key
  cases q
  exact ⟨hd2, eo⟩
end K65

set_option maxRecDepth 100000
set_option maxHeartbeats 4000000
namespace K65
open PySem PySem.Spec PyProof.Rows L2 DD
/-! what may be handed in as a paper -/
/-- no cell from k on -/
def Ok (k : Nat) : D → Prop
  | .ref n => n < k
  | .adr _ => False
  | _ => True
theorem Ok.ty {k : Nat} {s : Store} {d : D} (h : Ok k d) (hk : k ≤ s.length) : ∃ t, tyD s d = some t := by
  cases d with
  | ref n =>
    have hn : n < s.length := Nat.lt_of_lt_of_le h hk
    unfold tyD
    simp only
    rw [List.getElem?_eq_getElem hn]
    cases s[n] <;> exact ⟨_, rfl⟩
  | adr a => exact h.elim
  | _ => exact ⟨_, rfl⟩
theorem Ok.mono {k k' : Nat} {d : D} (h : Ok k d) (hk : k ≤ k') : Ok k' d := by
  cases d with
  | ref n => exact Nat.lt_of_lt_of_le h hk
  | adr a => exact h
  | _ => trivial
structure Yk (k : Nat) (y : D) : Prop where
  ok : Ok k y
  el : ∀ l, y = .tup l → l.length = 3 → ∀ x ∈ l, Ok k x
  sm : ∀ l i, y = .tup l → D.int i ∈ l → i.natAbs < 2 ^ 1000
structure Pk' (k : Nat) (e : D) : Prop where
  ok : Ok k e
  pr : ∀ x y, e = .tup [x, y] → Ok k x ∧ Yk k y
theorem Yk.py {k : Nat} {s : Store} {y : D} (h : Yk k y) (hk : k ≤ s.length) : Py s y := ⟨h.ok.ty hk, fun l e hl x hx => (h.el l e hl x hx).ty hk, h.sm⟩
theorem Pk'.pp {k : Nat} {s : Store} {e : D} (h : Pk' k e) (hk : k ≤ s.length) : Pp s e := ⟨h.ok.ty hk, fun l el hl => by
  match l, hl with
  | [x, y], _ =>
    obtain ⟨h1, h2⟩ := h.pr x y el
    exact ⟨x, y, rfl, h1.ty hk, h2.py hk⟩⟩
theorem Yk.mono {k k' : Nat} {y : D} (h : Yk k y) (hk : k ≤ k') : Yk k' y := ⟨h.ok.mono hk, fun l e hl x hx => (h.el l e hl x hx).mono hk, h.sm⟩
theorem Pk'.mono {k k' : Nat} {e : D} (h : Pk' k e) (hk : k ≤ k') : Pk' k' e := ⟨h.ok.mono hk, fun x y e => ⟨(h.pr x y e).1.mono hk, (h.pr x y e).2.mono hk⟩⟩
theorem pk_pair {k : Nat} {x y : D} (hx : Ok k x) (hy : Yk k y) : Pk' k (.tup [x, y]) := ⟨trivial, fun x' y' e => by cases e; exact ⟨hx, hy⟩⟩
theorem pk_len {k : Nat} {l : List D} (h : l.length ≠ 2) : Pk' k (.tup l) := ⟨trivial, fun x y e => by cases e; exact absurd rfl h⟩
theorem pk_other {k : Nat} {d : D} (h : Ok k d) (hn : ∀ l, d ≠ .tup l) : Pk' k d := ⟨h, fun x y e => absurd e (hn _)⟩
theorem yk_other {k : Nat} {d : D} (h : Ok k d) (hn : ∀ l, d ≠ .tup l) : Yk k d := ⟨h, fun l e => absurd e (hn l), fun l i e => absurd e (hn l)⟩
theorem yk_ints {k : Nat} {ns : List Int} (h : ∀ i ∈ ns, i.natAbs < 2 ^ 1000) : Yk k (tupI ns) := ⟨trivial, fun l e _ x hx => by
  cases e
  obtain ⟨i, _, rfl⟩ := List.mem_map.mp hx
  trivial, fun l i e hi => by
  cases e
  obtain ⟨j, hj, e⟩ := List.mem_map.mp hi
  cases e
  exact h _ hj⟩
theorem b1000 {i : Int} (h : i.natAbs < 2 ^ 900) : i.natAbs < 2 ^ 1000 := Nat.lt_of_lt_of_le h (Nat.pow_le_pow_right (by decide) (by decide))
theorem s1000 {p : Int} (h0 : -1000000000 ≤ p) (h1 : p ≤ 1000000000) : p.natAbs < 2 ^ 1000 := b1000 (small900 h0 h1)
theorem neg900 {i : Int} (h : i.natAbs < 2 ^ 900) : (0 - i).natAbs < 2 ^ 1000 := by
  have : (0 - i).natAbs = i.natAbs := by omega
  rw [this]
  exact b1000 h
theorem three900 {i : Int} (h : i.natAbs < 2 ^ 900) : (3 * i).natAbs < 2 ^ 1000 := by
  rw [Int.natAbs_mul]
  have e : 2 ^ 900 * 4 ≤ 2 ^ 1000 := by
    rw [show (4 : Nat) = 2 ^ 2 by decide, ← Nat.pow_add]
    exact Nat.pow_le_pow_right (by decide) (by decide)
  have : (3 : Int).natAbs = 3 := rfl
  rw [this]
  generalize 2 ^ 900 = P at *
  generalize 2 ^ 1000 = Q at *
  omega
theorem one900 {i : Int} (h : i.natAbs < 2 ^ 900) : (i + 1).natAbs < 2 ^ 1000 := by
  have e : 2 ^ 900 * 4 ≤ 2 ^ 1000 := by
    rw [show (4 : Nat) = 2 ^ 2 by decide, ← Nat.pow_add]
    exact Nat.pow_le_pow_right (by decide) (by decide)
  have e1 : 1 ≤ 2 ^ 900 := Nat.one_le_two_pow
  generalize 2 ^ 900 = P at *
  generalize 2 ^ 1000 = Q at *
  omega
theorem two900 : (2 : Int).natAbs < 2 ^ 1000 := s1000 (by omega) (by omega)
/-! the bent things -/
def oddE (a b c : Nat) : List D := [.non, .bl true, .int 0, .int (-1), .int 4, .str "2", .tup [.int 2], .int 1000000007, .ref a, .tup [.int 0, .int 0, .int 0], .tup [.int 1, .int 1], .ref b, .ref c]
theorem odd_ok {a b c k : Nat} {d : D} (ha : a < k) (hb : b < k) (hc : c < k) (h : d ∈ oddE a b c) : Yk k d := by
  simp only [oddE, List.mem_cons, List.not_mem_nil, or_false] at h
  rcases h with rfl | rfl | rfl | rfl | rfl | rfl | rfl | rfl | rfl | rfl | rfl | rfl | rfl
  · exact yk_other trivial (fun l e => by cases e)
  · exact yk_other trivial (fun l e => by cases e)
  · exact yk_other trivial (fun l e => by cases e)
  · exact yk_other trivial (fun l e => by cases e)
  · exact yk_other trivial (fun l e => by cases e)
  · exact yk_other trivial (fun l e => by cases e)
  · exact yk_ints (ns := [2]) (fun i hi => by rw [List.mem_singleton.mp hi]; exact two900)
  · exact yk_other trivial (fun l e => by cases e)
  · exact yk_other ha (fun l e => by cases e)
  · exact yk_ints (ns := [0, 0, 0]) (fun i hi => by
      simp only [List.mem_cons, List.not_mem_nil, or_false] at hi
      rcases hi with rfl | rfl | rfl <;> exact s1000 (by omega) (by omega))
  · exact yk_ints (ns := [1, 1]) (fun i hi => by
      simp only [List.mem_cons, List.not_mem_nil, or_false] at hi
      rcases hi with rfl | rfl <;> exact s1000 (by omega) (by omega))
  · exact yk_other hb (fun l e => by cases e)
  · exact yk_other hc (fun l e => by cases e)
end K65

set_option maxRecDepth 100000
set_option maxHeartbeats 8000000
namespace K65
open PySem PySem.Spec PyProof.Rows L2 DD
theorem any_len {st s g : Store} {h n : Nat} {hd : Hd} {l : List D} (x : HS st h hd s) (hn : n = s.length + g.length) (h0 : 0 < l.length) (h1 : l.length < 1000000) :
    ∃ y hd' s', y ∈ l ∧ F__law_any [.ref h, .ref n] (s ++ (g ++ [.lst l])) = .ok y s' ∧ HS st h hd' s' ∧ (∀ (k : Nat) (c : Cell), k ≠ h → (s ++ g)[k]? = some c → s'[k]? = some c) ∧ s'.length = s.length + g.length + 1 := by
  subst hn
  have x' : HS st h hd (s ++ g) := x.app
  have e : s ++ (g ++ [Cell.lst l]) = (s ++ g) ++ [Cell.lst l] := (List.append_assoc _ _ _).symm
  have hne : h ≠ s.length + g.length := by have := x'.ne; rwa [List.length_append] at this
  obtain ⟨y, hd', hy, e1⟩ := sp_law_any (st := (s ++ g) ++ [.lst l]) (n := s.length + g.length) (l := l) hne (x'.app (g := [.lst l])).get (by rw [← List.length_append]; exact get_new) h0 h1
  refine ⟨y, hd', _, hy, by rw [e, e1], (x'.app (g := [.lst l])).set, fun k c hk hc => ?_, by simp; omega⟩
  rw [List.getElem?_set_ne (Ne.symm hk), List.getElem?_append_left (List.getElem?_eq_some_iff.mp hc).1]
  exact hc
/-- what both kinds of told papers share -/
def bentE (w : Str) (v od q : D) (n : Nat) : List D := [.tup [.str "place", od], .tup [.str "point", od], .tup [.str "place", q], .tup [.str w], .ref n, .non, .tup [], .tup [.str "Point", v], .tup [.int 0, v], .tup [.str w, v, .int 0], .tup [.str "point", .tup [.int 1, .int 1, .int 1]], .tup [.str "point", .tup [.int 0, .int 1, .int 1]]]
theorem bent_ok {w : Str} {v od q d : D} {n k : Nat} (hv : Yk k v) (ho : Yk k od) (hq : Yk k q) (hn : n < k) (h : d ∈ bentE w v od q n) : Pk' k d := by
  simp only [bentE, List.mem_cons, List.not_mem_nil, or_false] at h
  have o1 : ∀ i : Int, 0 ≤ i → i ≤ 1 → i.natAbs < 2 ^ 1000 := fun i h0 h1 => s1000 (by omega) (by omega)
  rcases h with rfl | rfl | rfl | rfl | rfl | rfl | rfl | rfl | rfl | rfl | rfl | rfl
  · exact pk_pair trivial ho
  · exact pk_pair trivial ho
  · exact pk_pair trivial hq
  · exact pk_len (by simp)
  · exact pk_other hn (fun l e => by cases e)
  · exact pk_other trivial (fun l e => by cases e)
  · exact pk_len (by decide)
  · exact pk_pair trivial hv
  · exact pk_pair trivial hv
  · exact pk_len (by simp)
  · exact pk_pair trivial (yk_ints (ns := [1, 1, 1]) (fun i hi => by
      simp only [List.mem_cons, List.not_mem_nil, or_false] at hi
      rcases hi with rfl | rfl | rfl <;> exact o1 _ (by omega) (by omega)))
  · exact pk_pair trivial (yk_ints (ns := [0, 1, 1]) (fun i hi => by
      simp only [List.mem_cons, List.not_mem_nil, or_false] at hi
      rcases hi with rfl | rfl | rfl <;> exact o1 _ (by omega) (by omega)))
def rowsE (x y z : Int) (n : Nat) : List D := [.tup [.int (0 - x), .int y, .int z], .tup [.int (3 * x), .int (3 * y), .int (3 * z)], .tup [.int y, .int x, .int z], .tup [.int x, .int y, .int (z + 1)], .ref n]
def pointE (x y z : Int) (n : Nat) : List D := (rowsE x y z n).map (fun d => .tup [.str "point", d]) ++ (rowsE x y z n).map (fun d => .tup [.str "point", d]) ++ [.tup [.str "place", .tup [.int x, .int y, .int z]], .tup [.str "point", .tup [.int x, .int y]], .tup [.str "point", .tup [.int x, .int y, .bl true]]]
theorem rows_ok {x y z : Int} {n k : Nat} {d : D} (b : Big x y z) (hn : n < k) (h : d ∈ rowsE x y z n) : Yk k d := by
  simp only [rowsE, List.mem_cons, List.not_mem_nil, or_false] at h
  rcases h with rfl | rfl | rfl | rfl | rfl
  · exact yk_ints (ns := [0 - x, y, z]) (fun i hi => by
      simp only [List.mem_cons, List.not_mem_nil, or_false] at hi
      rcases hi with rfl | rfl | rfl
      · exact neg900 b.x
      · exact b1000 b.y
      · exact b1000 b.z)
  · exact yk_ints (ns := [3 * x, 3 * y, 3 * z]) (fun i hi => by
      simp only [List.mem_cons, List.not_mem_nil, or_false] at hi
      rcases hi with rfl | rfl | rfl
      · exact three900 b.x
      · exact three900 b.y
      · exact three900 b.z)
  · exact yk_ints (ns := [y, x, z]) (fun i hi => by
      simp only [List.mem_cons, List.not_mem_nil, or_false] at hi
      rcases hi with rfl | rfl | rfl
      · exact b1000 b.y
      · exact b1000 b.x
      · exact b1000 b.z)
  · exact yk_ints (ns := [x, y, z + 1]) (fun i hi => by
      simp only [List.mem_cons, List.not_mem_nil, or_false] at hi
      rcases hi with rfl | rfl | rfl
      · exact b1000 b.x
      · exact b1000 b.y
      · exact one900 b.z)
  · exact yk_other hn (fun l e => by cases e)
theorem point_ok {x y z : Int} {n k : Nat} {d : D} (b : Big x y z) (hn : n < k) (h : d ∈ pointE x y z n) : Pk' k d := by
  unfold pointE at h
  have rw' : ∀ d, d ∈ (rowsE x y z n).map (fun d => D.tup [.str "point", d]) → Pk' k d := fun d hd => by
    obtain ⟨r, hr, rfl⟩ := List.mem_map.mp hd
    exact pk_pair trivial (rows_ok b hn hr)
  rcases List.mem_append.mp h with h | h
  · rcases List.mem_append.mp h with h | h
    · exact rw' d h
    · exact rw' d h
  · simp only [List.mem_cons, List.not_mem_nil, or_false] at h
    rcases h with rfl | rfl | rfl
    · exact pk_pair trivial (yk_ints (ns := [x, y, z]) (fun i hi => by
        simp only [List.mem_cons, List.not_mem_nil, or_false] at hi
        rcases hi with rfl | rfl | rfl
        · exact b1000 b.x
        · exact b1000 b.y
        · exact b1000 b.z))
    · exact pk_pair trivial (yk_ints (ns := [x, y]) (fun i hi => by
        simp only [List.mem_cons, List.not_mem_nil, or_false] at hi
        rcases hi with rfl | rfl
        · exact b1000 b.x
        · exact b1000 b.y))
    · refine pk_pair trivial ⟨trivial, fun l e _ x hx => ?_, fun l i e hi => ?_⟩
      · cases e
        simp only [List.mem_cons, List.not_mem_nil, or_false] at hx
        rcases hx with rfl | rfl | rfl <;> trivial
      · cases e
        simp only [List.mem_cons, List.not_mem_nil, or_false] at hi
        rcases hi with e | e | e
        · cases e; exact b1000 b.x
        · cases e; exact b1000 b.y
        · cases e
theorem sp_law_bent {st : Store} {h : Nat} {hd : Hd} {a b c : Int} {e : D} (hh : st[h]? = some hd.cell) (k : Ck a b c) (tl : Tl a b c e) : ∃ d hd' g, Pp (st.set h (Hd.cell hd') ++ g) d ∧ F__law_bent [.ref h, tupI [a, b, c], e] st = .ok d (st.set h (Hd.cell hd') ++ g) := by
  have key : Good__law_bent [.ref h, tupI [a, b, c], e] st (F__law_bent [.ref h, tupI [a, b, c], e] st) := by
    have hlt := (List.getElem?_eq_some_iff.mp hh).1
    have pw : okP (0 ≤ (9 : Int) ∧ (9 : Int) ≤ 1000 ∧ -18446744073709551616 < (10 : Int) ∧ (10 : Int) < 18446744073709551616) = true := okP_of (by omega)
    obtain ⟨od, hd1, s1, hod, e1, x1, c1, n1⟩ := any_len (g := [.lst [.int 0, .int 0, .int 0], .dic [], .lst [.str "x"], .lst [.ref (st.length + 2), .non], .lst [.ref (st.length + 3)]]) (l := oddE st.length (st.length + 1) (st.length + 4)) (n := st.length + 5) (HS.refl hh) (by simp) (by simp [oddE]) (by simp [oddE])
    obtain ⟨q, hd2, s2, hq, e2, x2, c2, n2⟩ := any_len (g := []) (l := [.int 0, .int 2, .int 3, .int 5, .int 7]) (n := s1.length) x1 (by simp) (by simp) (by simp)
    simp at n1 n2
    have yo : ∀ K, s2.length ≤ K → Yk K od := fun K hK => odd_ok (by omega) (by omega) (by omega) hod
    have yq : ∀ K, Yk K q := fun K => by
      simp only [List.mem_cons, List.not_mem_nil, or_false] at hq
      rcases hq with rfl | rfl | rfl | rfl | rfl <;> exact yk_other trivial (fun l e => by cases e)
    simp only [oddE] at e1
    simp at e1 e2
    have lst2 : ∀ w v : D, listV [.tup [w, v]] s2 = .ok (.ref s2.length) (s2 ++ [.lst [w, v]]) := fun _ _ => rfl
    cases tl with
    | place p r hw =>
      have hp := wr_pl k.A.1 k.B.1 (show p ∈ wr (-(a * c)) (-(b * c)) by rw [hw]; exact List.mem_cons_self)
      obtain ⟨d, hd3, s3, hdm, e3, x3, c3, n3⟩ := any_len (g := [.lst [.str "place", .int p], .lst [.tup [.str "place", od], .tup [.str "point", od], .tup [.str "place", q], .tup [.str "place"], .ref s2.length], .lst [.non, .tup []],
          .lst [.tup [.str "place", od], .tup [.str "point", od], .tup [.str "place", q], .tup [.str "place"], .ref s2.length, .non, .tup []], .lst [.tup [.str "Point", .int p], .tup [.int 0, .int p], .tup [.str "place", .int p, .int 0], .tup [.str "point", .tup [.int 1, .int 1, .int 1]], .tup [.str "point", .tup [.int 0, .int 1, .int 1]]]])
        (l := bentE "place" (.int p) od q s2.length) (n := s2.length + 5) x2 (by simp) (by simp [bentE]) (by simp [bentE])
      simp at n3
      have y := bent_ok (k := s2.length + 1) (yk_other (d := .int p) trivial (fun l e => by cases e)) (yo _ (by omega)) (yq _) (by omega) hdm
      obtain ⟨g, rfl⟩ := x3.ex
      refine viaF_good (o := .ok d _) ⟨h, hd, a, b, c, _, rfl, hh, k, .place p r hw, d, hd3, g, y.pp (by omega), rfl⟩ fun l1 _ => Pk.of_eq ?_
      have ct1 := cat_ref (st := s2 ++ [.lst [.str "place", .int p], .lst [.tup [.str "place", od], .tup [.str "point", od], .tup [.str "place", q], .tup [.str "place"], .ref s2.length], .lst [.non, .tup []]]) (n := s2.length + 1) (m := s2.length + 2) (l := [.tup [.str "place", od], .tup [.str "point", od], .tup [.str "place", q], .tup [.str "place"], .ref s2.length]) (k := [.non, .tup []]) (by simp) (by simp) (by simp)
      have ct2 := cat_ref (st := s2 ++ [.lst [.str "place", .int p], .lst [.tup [.str "place", od], .tup [.str "point", od], .tup [.str "place", q], .tup [.str "place"], .ref s2.length], .lst [.non, .tup []], .lst [.tup [.str "place", od], .tup [.str "point", od], .tup [.str "place", q], .tup [.str "place"], .ref s2.length, .non, .tup []], .lst [.tup [.str "Point", .int p], .tup [.int 0, .int p], .tup [.str "place", .int p, .int 0], .tup [.str "point", .tup [.int 1, .int 1, .int 1]], .tup [.str "point", .tup [.int 0, .int 1, .int 1]]]])
        (n := s2.length + 3) (m := s2.length + 4) (l := [.tup [.str "place", od], .tup [.str "point", od], .tup [.str "place", q], .tup [.str "place"], .ref s2.length, .non, .tup []]) (k := [.tup [.str "Point", .int p], .tup [.int 0, .int p], .tup [.str "place", .int p, .int 0], .tup [.str "point", .tup [.int 1, .int 1, .int 1]], .tup [.str "point", .tup [.int 0, .int 1, .int 1]]]) (by simp) (by simp) (by simp)
      have ad : ∀ s, addV (.tup [.str "place", .int p]) (.tup [.int 0]) s = .ok (.tup [.str "place", .int p, .int 0]) s := fun _ => rfl
      simp only [bentE] at e3
      simp at e3 ct1 ct2
      have n1' : ¬ ((Str.ofString "place") = (Str.ofString "point")) := by decide
      simp [g__law_bent, pw, e1, e2, lst2, ct1, ct2, ad, n1', e3, tupI]
    | point x y z hw so =>
      have big := (so.ok k ((Sl.of k).mp hw)).2.2
      obtain ⟨d, hd3, s3, hdm, e3, x3, c3, n3⟩ := any_len (g := [.lst [.str "point", .tup [.int x, .int y, .int z]], .lst [.tup [.str "place", od], .tup [.str "point", od], .tup [.str "place", q], .tup [.str "point"], .ref s2.length], .lst [.non, .tup []],
          .lst [.tup [.str "place", od], .tup [.str "point", od], .tup [.str "place", q], .tup [.str "point"], .ref s2.length, .non, .tup []], .lst [.tup [.str "Point", .tup [.int x, .int y, .int z]], .tup [.int 0, .tup [.int x, .int y, .int z]], .tup [.str "point", .tup [.int x, .int y, .int z], .int 0], .tup [.str "point", .tup [.int 1, .int 1, .int 1]], .tup [.str "point", .tup [.int 0, .int 1, .int 1]]],
          .lst (bentE "point" (.tup [.int x, .int y, .int z]) od q s2.length), .lst [.int x, .int y, .int z], .lst (rowsE x y z (s2.length + 6)), .lst ((rowsE x y z (s2.length + 6)).map (fun d => .tup [.str "point", d])), .lst ((rowsE x y z (s2.length + 6)).map (fun d => .tup [.str "point", d]) ++ (rowsE x y z (s2.length + 6)).map (fun d => .tup [.str "point", d])),
          .lst (bentE "point" (.tup [.int x, .int y, .int z]) od q s2.length ++ ((rowsE x y z (s2.length + 6)).map (fun d => .tup [.str "point", d]) ++ (rowsE x y z (s2.length + 6)).map (fun d => .tup [.str "point", d]))), .lst [.tup [.str "place", .tup [.int x, .int y, .int z]], .tup [.str "point", .tup [.int x, .int y]], .tup [.str "point", .tup [.int x, .int y, .bl true]]]])
        (l := bentE "point" (.tup [.int x, .int y, .int z]) od q s2.length ++ pointE x y z (s2.length + 6)) (n := s2.length + 12) x2 (by simp) (by simp [bentE]) (by simp [bentE, pointE, rowsE])
      simp at n3
      have yv : Yk (s2.length + 7) (.tup [.int x, .int y, .int z]) := yk_ints (ns := [x, y, z]) (fun i hi => by
        simp only [List.mem_cons, List.not_mem_nil, or_false] at hi
        rcases hi with rfl | rfl | rfl
        · exact b1000 big.x
        · exact b1000 big.y
        · exact b1000 big.z)
      have yd : Pk' (s2.length + 7) d := by
        rcases List.mem_append.mp hdm with h | h
        · exact bent_ok (k := s2.length + 7) yv (yo _ (by omega)) (yq _) (by omega) h
        · exact point_ok big (by omega) h
      obtain ⟨g, rfl⟩ := x3.ex
      refine viaF_good (o := .ok d _) ⟨h, hd, a, b, c, _, rfl, hh, k, .point x y z hw so, d, hd3, g, yd.pp (by omega), rfl⟩ fun l1 _ => Pk.of_eq ?_
      have n1' : ¬ ((Str.ofString "point") = (Str.ofString "place")) := by decide
      obtain ⟨B, hB⟩ : ∃ B : Store, B = [.lst [.str "point", .tup [.int x, .int y, .int z]], .lst [.tup [.str "place", od], .tup [.str "point", od], .tup [.str "place", q], .tup [.str "point"], .ref s2.length], .lst [.non, .tup []],
          .lst [.tup [.str "place", od], .tup [.str "point", od], .tup [.str "place", q], .tup [.str "point"], .ref s2.length, .non, .tup []], .lst [.tup [.str "Point", .tup [.int x, .int y, .int z]], .tup [.int 0, .tup [.int x, .int y, .int z]], .tup [.str "point", .tup [.int x, .int y, .int z], .int 0], .tup [.str "point", .tup [.int 1, .int 1, .int 1]], .tup [.str "point", .tup [.int 0, .int 1, .int 1]]],
          .lst (bentE "point" (.tup [.int x, .int y, .int z]) od q s2.length), .lst [.int x, .int y, .int z], .lst (rowsE x y z (s2.length + 6))] := ⟨_, rfl⟩
      have ct1 := cat_ref (st := s2 ++ [.lst [.str "point", .tup [.int x, .int y, .int z]], .lst [.tup [.str "place", od], .tup [.str "point", od], .tup [.str "place", q], .tup [.str "point"], .ref s2.length], .lst [.non, .tup []]]) (n := s2.length + 1) (m := s2.length + 2) (l := [.tup [.str "place", od], .tup [.str "point", od], .tup [.str "place", q], .tup [.str "point"], .ref s2.length]) (k := [.non, .tup []]) (by simp) (by simp) (by simp)
      have ct2 := cat_ref (st := s2 ++ [.lst [.str "point", .tup [.int x, .int y, .int z]], .lst [.tup [.str "place", od], .tup [.str "point", od], .tup [.str "place", q], .tup [.str "point"], .ref s2.length], .lst [.non, .tup []], .lst [.tup [.str "place", od], .tup [.str "point", od], .tup [.str "place", q], .tup [.str "point"], .ref s2.length, .non, .tup []], .lst [.tup [.str "Point", .tup [.int x, .int y, .int z]], .tup [.int 0, .tup [.int x, .int y, .int z]], .tup [.str "point", .tup [.int x, .int y, .int z], .int 0], .tup [.str "point", .tup [.int 1, .int 1, .int 1]], .tup [.str "point", .tup [.int 0, .int 1, .int 1]]]])
        (n := s2.length + 3) (m := s2.length + 4) (l := [.tup [.str "place", od], .tup [.str "point", od], .tup [.str "place", q], .tup [.str "point"], .ref s2.length, .non, .tup []]) (k := [.tup [.str "Point", .tup [.int x, .int y, .int z]], .tup [.int 0, .tup [.int x, .int y, .int z]], .tup [.str "point", .tup [.int x, .int y, .int z], .int 0], .tup [.str "point", .tup [.int 1, .int 1, .int 1]], .tup [.str "point", .tup [.int 0, .int 1, .int 1]]]) (by simp) (by simp) (by simp)
      have ad : ∀ s, addV (.tup [.str "point", .tup [.int x, .int y, .int z]]) (.tup [.int 0]) s = .ok (.tup [.str "point", .tup [.int x, .int y, .int z], .int 0]) s := fun _ => rfl
      have m3 : ∀ i : Int, mulOk 3 i = true := fun i => mulOk_l (by omega) (by omega)
      have lB : B.length = 8 := by rw [hB]; rfl
      have gB : (s2 ++ B)[s2.length + 7]? = some (.lst (rowsE x y z (s2.length + 6))) := by rw [hB]; simp
      have itB : itsOf (.ref (s2.length + 7)) (s2 ++ B) = some ⟨rowsE x y z (s2.length + 6), [(s2.length + 7, rowsE x y z (s2.length + 6))]⟩ := by
        unfold itsOf
        simp only [gB]
      have lc := lc_map (its := ⟨rowsE x y z (s2.length + 6), [(s2.length + 7, rowsE x y z (s2.length + 6))]⟩) (st0 := s2 ++ B) (g := nameG 9) (ft := yesT) (fe := le1__law_bent)
        (lsw := [some (.ref h), some (tupI [a, b, c]), some (.tup [.str "point", .tup [.int x, .int y, .int z]]), some od, some (.ref (s2.length + 5)), some (.int x), some (.int y), some (.int z), some (.ref (s2.length + 7)), none])
        (fun d => .tup [.str "point", d]) (fun acc => okB_iff.mpr fun p hp => by
          rw [List.mem_singleton.mp hp]
          rw [List.getElem?_append_left (by simp [lB])]
          exact gB) (by simp [rowsE]) fun d hd acc => ⟨_, rfl, rfl, by simp [le1__law_bent]⟩
      obtain ⟨R, hR⟩ : ∃ R : List D, R = (rowsE x y z (s2.length + 6)).map (fun d => .tup [.str "point", d]) := ⟨_, rfl⟩
      obtain ⟨E, hE⟩ : ∃ E : List D, E = bentE "point" (.tup [.int x, .int y, .int z]) od q s2.length := ⟨_, rfl⟩
      have gE : (s2 ++ B)[s2.length + 5]? = some (.lst E) := by rw [hB, hE]; simp
      have lR : R.length = 5 := by rw [hR]; simp [rowsE]
      have lE : E.length = 12 := by rw [hE]; simp [bentE]
      have rp : mulV (.ref (s2.length + 8)) (.int 2) (s2 ++ B ++ [.lst R]) = .ok (.ref (s2.length + 9)) (s2 ++ B ++ [.lst R, .lst (R ++ R)]) := by
        show repL _ _ _ = _
        unfold repL
        have lo : lstOf (s2 ++ B ++ [Cell.lst R]) (.ref (s2.length + 8)) = some R := by simp [lstOf, lB]
        simp only [lo]
        rw [if_pos (okP_of ⟨by omega, by omega, by omega⟩)]
        simp [List.replicate, lB]
      have ct3 := cat_ref (st := s2 ++ B ++ [.lst R, .lst (R ++ R)]) (n := s2.length + 5) (m := s2.length + 9) (l := E) (k := R ++ R) (by
        rw [List.getElem?_append_left (by simp [lB])]
        exact gE) (by simp [lB]) (by simp [lR, lE])
      have ct4 := cat_ref (st := s2 ++ B ++ [.lst R, .lst (R ++ R), .lst (E ++ (R ++ R))] ++ [.lst [.tup [.str "place", .tup [.int x, .int y, .int z]], .tup [.str "point", .tup [.int x, .int y]], .tup [.str "point", .tup [.int x, .int y, .bl true]]]]) (n := s2.length + 10) (m := s2.length + 11) (l := E ++ (R ++ R)) (k := [.tup [.str "place", .tup [.int x, .int y, .int z]], .tup [.str "point", .tup [.int x, .int y]], .tup [.str "point", .tup [.int x, .int y, .bl true]]]) (by simp [lB]) (by simp [lB]) (by simp [lR, lE])
      have sl : (s2 ++ B).length = s2.length + 8 := by simp [lB]
      subst hR hE hB
      simp only [bentE, rowsE, pointE, tupI] at lc rp ct3 ct4 e3 itB
      simp at e3 ct1 ct2 lc rp ct3 ct4 itB
      simp [g__law_bent, pw, e1, e2, lst2, ct1, ct2, ad, e3, tupI, m3, itB, wipeL, lc, rp, ct3, ct4]
  obtain ⟨h', hd', a', b', c', e', q, _, _, _, d, hd2, g, hp, eo⟩ := key
  simp [tupI] at q
  obtain ⟨rfl, ⟨rfl, rfl, rfl⟩, rfl⟩ := q
  exact ⟨d, hd2, g, hp, eo⟩
end K65

set_option maxRecDepth 100000
set_option maxHeartbeats 4000000
namespace K65
open PySem PySem.Spec PyProof.Rows L2 DD
theorem ok_of_ty {s : Store} {d : D} (h : ∃ t, tyD s d = some t) : Ok s.length d := by
  obtain ⟨t, ht⟩ := h
  cases d with
  | ref n =>
    unfold tyD at ht
    simp only at ht
    show n < s.length
    by_cases c : n < s.length
    · exact c
    · rw [List.getElem?_eq_none (by omega)] at ht
      cases ht
  | adr a => cases ht
  | _ => trivial
theorem Pp.pk {s : Store} {d : D} (h : Pp s d) : Pk' s.length d := ⟨ok_of_ty h.ty, fun x y e => by
  obtain ⟨x', y', q, hx, hy⟩ := h.pr _ e rfl
  cases q
  exact ⟨ok_of_ty hx, ok_of_ty hy.ty, fun l e hl z hz => ok_of_ty (hy.pl l e hl z hz), hy.sm⟩⟩
theorem bent_hs {st s : Store} {h : Nat} {hd : Hd} {a b c : Int} {e : D} (x : HS st h hd s) (k : Ck a b c) (tl : Tl a b c e) : ∃ d hd' s', Pk' s'.length d ∧ F__law_bent [.ref h, tupI [a, b, c], e] s = .ok d s' ∧ HS st h hd' s' ∧ s.length ≤ s'.length ∧ ∀ (i : Nat) (c : Cell), i ≠ h → s[i]? = some c → s'[i]? = some c := by
  obtain ⟨d, hd', g, hp, e1⟩ := sp_law_bent x.get k tl
  refine ⟨d, hd', _, hp.pk, e1, x.set.app, by simp, fun i c hi hc => ?_⟩
  have hlt := (List.getElem?_eq_some_iff.mp hc).1
  rw [List.getElem?_append_left (by simpa using hlt), List.getElem?_set_ne (Ne.symm hi)]
  exact hc
theorem lc_bent {st : Store} {h n : Nat} {a b c : Int} {e : D} {pt r4 r5 r6 r7 r8 r9 r10 r12 : Option D} (k : Ck a b c) (tl : Tl a b c e) (hn : st.length ≤ n) : ∀ (r : List D) (acc : List D) (hd : Hd) (s : Store), HS st h hd s → s[n]? = some (.lst acc) → acc.length + r.length < 16777216 → (∀ d ∈ acc, Pk' s.length d) →
    ∃ L hd' s', lcL (fun _ => true) n (nameG 11) yesT le2__law_is_right [some (.ref h), some (tupI [a, b, c]), pt, some e, r4, r5, r6, r7, r8, r9, r10, none, r12] r s = .ok (.ref n) s' ∧ HS st h hd' s' ∧ s'[n]? = some (.lst L) ∧ L.length = acc.length + r.length ∧ (∀ d ∈ L, Pk' s'.length d) ∧ s.length ≤ s'.length ∧ ∀ (i : Nat) (c : Cell), i ≠ h → i ≠ n → s[i]? = some c → s'[i]? = some c
  | [], acc, hd, s, x, hs, _, ha => ⟨acc, hd, s, by unfold lcL; rw [if_pos rfl], x, hs, by simp, ha, Nat.le_refl _, fun i c _ _ h => h⟩
  | d :: r, acc, hd, s, x, hs, hl, ha => by
    have hlt := x.lt
    simp only [List.length_cons] at hl
    obtain ⟨v, hd1, s1, hv, e1, x1, l1, k1⟩ := bent_hs x k tl
    have hs1 := k1 n _ (by omega) hs
    have hn1 := (List.getElem?_eq_some_iff.mp hs1).1
    obtain ⟨L, hd', s', e2, x2, h2, hlen, hL, l2, k2⟩ := lc_bent k tl hn r (acc ++ [v]) hd1 (s1.set n (.lst (acc ++ [v]))) (x1.setn hn) (by rw [List.getElem?_set_self hn1]) (by simp; omega) (fun u hu => by
      rw [List.length_set]
      rcases List.mem_append.mp hu with hu | hu
      · exact (ha u hu).mono l1
      · rw [List.mem_singleton.mp hu]; exact hv)
    rw [List.length_set] at l2
    refine ⟨L, hd', s', ?_, x2, h2, by simp at hlen; simp; omega, hL, by omega, fun i c hi hj hc => k2 i c hi hj (by rw [List.getElem?_set_ne (Ne.symm hj)]; exact k1 i c hi hc)⟩
    rw [← e2]
    conv => lhs; unfold lcL
    have g1 : nameG 11 d [some (.ref h), some (tupI [a, b, c]), pt, some e, r4, r5, r6, r7, r8, r9, r10, none, r12] s = .ok [some (.ref h), some (tupI [a, b, c]), pt, some e, r4, r5, r6, r7, r8, r9, r10, some d, r12] s := rfl
    have g2 : le2__law_is_right [some (.ref h), some (tupI [a, b, c]), pt, some e, r4, r5, r6, r7, r8, r9, r10, some d, r12] s = .ok v s1 := by
      simp [le2__law_is_right, e1]
    rw [if_pos rfl, g1]
    simp only [yesT, g2, hs1, if_true]
    rw [if_pos (by omega)]
/-- a place that the law asks for -/
def Ask (p : Int) : Prop := Pl p ∧ (p = 0 ∨ (2 ≤ p ∧ p < 1000000000 ∧ isP p = true))
theorem ask_pr {p : Int} (h : Pr p) (hb : p ≤ 1000) : Ask p := by
  have h2 := h.two
  refine ⟨?_, .inr ⟨h2, by omega, pr_P h hb⟩⟩
  rcases h.two_or with c | c
  · exact .inr (.inl c)
  · exact .inr (.inr c)
def prB (n : Nat) : Bool := decide (2 ≤ n) && (List.range n).all fun d => decide (d < 2) || decide (n % d ≠ 0)
theorem pr_of_B {n : Nat} (h : prB n = true) : Pr (n : Int) := by
  unfold prB at h
  obtain ⟨h1, h2⟩ := Bool.and_eq_true_iff.mp h
  have h1 := of_decide_eq_true h1
  refine ⟨by omega, fun d hd dd => ?_⟩
  have hb := Int.le_of_dvd (by omega) dd
  by_cases c : d = n
  · exact c
  · exfalso
    have := List.all_eq_true.mp h2 d.toNat (List.mem_range.mpr (by omega))
    simp only [Bool.or_eq_true, decide_eq_true_eq] at this
    rcases this with q | q
    · omega
    · apply q
      have : (d.toNat : Int) ∣ (n : Int) := by rw [Int.toNat_of_nonneg (by omega)]; exact dd
      exact Nat.mod_eq_zero_of_dvd (by exact_mod_cast this)
theorem body5 {h N : Nat} {a b c p : Int} {s : Store} {pt r3 r6 r7 r8 r9 r10 r11 r12 : Option D} (k : Ck a b c) (hp : Ask p) (hN : s[N]? = some (.lst ((wr (-(a * c)) (-(b * c))).map .int))) :
    fb1__law_is_right [some (.ref h), some (tupI [a, b, c]), pt, r3, some (.ref N), some (.int p), r6, r7, r8, r9, r10, r11, r12] s = .nx [some (.ref h), some (tupI [a, b, c]), pt, r3, some (.ref N), some (.int p), r6, r7, r8, r9, r10, r11, r12] s := by
  have e1 := sp_barred_at (Ck.cd s (a := a) (b := b) (c := c)) (e := .int p) ⟨_, rfl⟩
  rw [barO_int k, if_pos hp.2] at e1
  have e2 := in_ints (p := p) hN
  have m := mem_wr k.A.1 k.B.1 hp.1
  have : decide (p ∈ wr (-(a * c)) (-(b * c))) = decide (sg p (-(a * c)) (-(b * c)) = -1) := by
    by_cases c : sg p (-(a * c)) (-(b * c)) = -1
    · rw [decide_eq_true c, decide_eq_true (m.mpr c)]
    · rw [decide_eq_false c, decide_eq_false (fun h => c (m.mp h))]
  rw [this] at e2
  generalize decide (sg p (-(a * c)) (-(b * c)) = -1) = B at *
  simp [tupI] at e1
  simp [fb1__law_is_right, tupI, e1, e2, repr_bl]
theorem body8 {h : Nat} {a b c : Int} {d : D} {s : Store} {pt r3 r4 r5 r6 r8 r9 r10 r11 r12 : Option D} (k : Ck a b c) (hp : Pp s d) :
    fb2__law_is_right [some (.ref h), some (tupI [a, b, c]), pt, r3, r4, r5, r6, some d, r8, r9, r10, r11, r12] s = .nx [some (.ref h), some (tupI [a, b, c]), pt, r3, r4, r5, r6, some d, r8, r9, r10, r11, r12] s := by
  have e1 := sp_is_conic_paper (Ck.cd s (a := a) (b := b) (c := c)) hp
  rw [if_pos k.con] at e1
  have e2 := sp_law_is_paper k hp
  generalize papB (tupI [a, b, c]) d = B at *
  simp [tupI] at e1 e2
  simp [fb2__law_is_right, tupI, e1, e2, repr_bl]
/-! what is told has the one word or the other -/
theorem Tl.word {a b c : Int} {e : D} (k : Ck a b c) (t : Tl a b c e) : ∃ w v, e = .tup [.str w, v] ∧ ((w = "point" ∧ Sl a b c) ∨ (w = "place" ∧ ¬ Sl a b c)) := by
  cases t with
  | place p r h => exact ⟨_, _, rfl, .inr ⟨rfl, fun q => by rw [(Sl.of k).mpr q] at h; cases h⟩⟩
  | point X Y Z h so => exact ⟨_, _, rfl, .inl ⟨rfl, (Sl.of k).mp h⟩⟩
theorem cp_at {a b c : Int} {e : D} (k : Ck a b c) (t : Tl a b c e) (s : Store) : F_conic_point [tupI [a, b, c]] s = .ok e s := by
  rcases sp_conic_point (Ck.cd s (a := a) (b := b) (c := c)) with ⟨h, _⟩ | ⟨a', b', c', e', q, k', t', h⟩
  · rw [k.con] at h; cases h
  · simp [tupI] at q
    obtain ⟨rfl, rfl, rfl⟩ := q
    rw [h, Tl.uniq k t t']
theorem cp_ex {a b c : Int} (k : Ck a b c) : ∃ e, Tl a b c e := by
  rcases sp_conic_point (Ck.cd [] (a := a) (b := b) (c := c)) with ⟨h, _⟩ | ⟨a', b', c', e', q, k', t', h⟩
  · rw [k.con] at h; cases h
  · simp [tupI] at q
    obtain ⟨rfl, rfl, rfl⟩ := q
    exact ⟨e', t'⟩
theorem Tl.ok {a b c : Int} {e : D} (k : Ck a b c) (t : Tl a b c e) : papB (tupI [a, b, c]) e = true ∧ (∀ s, Pp s e) ∧ ∃ x : Str, ∀ s, reprV [e] s = .ok (.str x) s := by
  cases t with
  | place p r h =>
    have hp := wr_pl k.A.1 k.B.1 (show p ∈ wr (-(a * c)) (-(b * c)) by rw [h]; exact List.mem_cons_self)
    refine ⟨?_, fun s => (pk_pair (k := 0) (x := .str "place") (y := .int p) trivial (yk_other trivial (fun l e => by cases e))).pp (Nat.zero_le _), ?_⟩
    · rw [pap_place, pl_int, h, decide_eq_true]
      exact List.mem_cons_self
    · obtain ⟨x, _, h⟩ := repr_place (st := []) (p := p) (small900 (by omega) (by omega))
      exact ⟨x, h⟩
  | point X Y Z h so =>
    have ok := so.ok k ((Sl.of k).mp h)
    refine ⟨?_, fun s => (pk_pair (k := 0) (x := .str "point") (y := tupI [X, Y, Z]) trivial (yk_ints (fun i hi => by
        simp only [List.mem_cons, List.not_mem_nil, or_false] at hi
        rcases hi with rfl | rfl | rfl
        · exact b1000 ok.2.2.x
        · exact b1000 ok.2.2.y
        · exact b1000 ok.2.2.z))).pp (Nat.zero_le _), ?_⟩
    · rw [pap_point]
      have nz : ¬ (X = 0 ∧ (Y = 0 ∧ Z = 0)) := fun ⟨h1, h2, h3⟩ => by
        have g := ok.2.1
        rw [h1, h2, h3, g3] at g
        cases g
      exact (pt_e nz).trans (decide_eq_true ok.1)
    · obtain ⟨x, _, h⟩ := repr_point (st := []) ok.2.2
      exact ⟨x, h⟩
theorem wo_uniq {n r s : Int} (h0 : n ≠ 0) (a : Wo n r) (b : Wo n s) : r = s := by
  have fs : ∀ {r}, Wo n r → ∃ k, Fs n r k := fun {r} w => by
    obtain ⟨_, k, k0, e⟩ := wo_ne w h0
    refine ⟨k.natAbs, ?_, by omega, w.free⟩
    rw [e]
    congr 1
    rw [← Int.natCast_mul, ← Int.natAbs_mul]
    have : 0 ≤ k * k := by
      rcases Int.le_total 0 k with h | h
      · exact Int.mul_nonneg h h
      · exact Int.mul_nonneg_of_nonpos_of_nonpos h h
    omega
  obtain ⟨k, f1⟩ := fs a
  obtain ⟨l, f2⟩ := fs b
  exact (f1.uniq h0 f2).1
theorem wo_all {n : Int} (h : N9 n) : ∃ r, Wo n r ∧ ∀ s, F__law_without_squares [.int n] s = .ok (.int r) s := by
  obtain ⟨r, w, _⟩ := sp_law_without_squares [] h
  refine ⟨r, w, fun s => ?_⟩
  obtain ⟨r', w', e⟩ := sp_law_without_squares s h
  rw [e, wo_uniq h.nz w w']
end K65

set_option maxRecDepth 100000
set_option maxHeartbeats 4000000
namespace K65
open PySem PySem.Spec PyProof.Rows L2 DD
noncomputable def Ra1 : LS → Store → SO := (asgD (tupD (consA (callD F_conic_point (consA (varD 1) nilA)) (consA (callD F__law_barring (consA (varD 1) nilA)) nilA))) (tupG 2 (consG (nameG 3) (consG (nameG 4) nilG))))
noncomputable def Ra2 : LS → Store → SO := (ifS ((orT (notT (testD (callD F__law_is_paper (consA (varD 1) (consA (varD 3) nilA))))) (boolD (bin2 neV (bin2 eqV (bin2 ixD (varD 3) (litD (.int 0))) (litD (.str "point"))) (bin2 eqV (callD lenV (consA (varD 4) nilA)) (litD (.int 0))))))) (retD (litD (.bl false))) skipD)
noncomputable def Ra3 : LS → Store → SO := (ifS ((orT ((andT (boolD (bin2 eqV (bin2 ixD (varD 3) (litD (.int 0))) (litD (.str "point")))) (boolD (bin2 neV (callD F__law_divisor (consA (bin2 ixD (varD 3) (litD (.int 1))) nilA)) (litD (.int 1)))))) ((andT (boolD (bin2 eqV (bin2 ixD (varD 3) (litD (.int 0))) (litD (.str "place")))) (boolD (bin2 neV (bin2 ixD (varD 3) (litD (.int 1))) (bin2 ixD (varD 4) (litD (.int 0))))))))) (retD (litD (.bl false))) skipD)
noncomputable def Ra4 : LS → Store → SO := (ifS ((orT ((andT (boolD (bin2 (isNonF true) (varD 2) (litD .non))) (boolD (bin2 neV (bin2 ixD (varD 3) (litD (.int 0))) (litD (.str "point")))))) (boolD (bin2 neV (callD reprV (consA (callD F_conic_point (consA (varD 1) nilA)) nilA)) (callD reprV (consA (varD 3) nilA)))))) (retD (litD (.bl false))) skipD)
noncomputable def Ra5 : LS → Store → SO := (forD (seqI (bin2 addV (lstD (consA (litD (.int 0)) (consA (litD (.int 2)) (consA (litD (.int 3)) (consA (litD (.int 5)) (consA (callD F__law_any (consA (varD 0) (consA (lstD (consA (litD (.int 7)) (consA (litD (.int 11)) (consA (litD (.int 13)) (consA (litD (.int 101)) nilA))))) nilA))) nilA)))))) (callD F__law_primes_of (consA (callD absV' (consA (bin2 mulV (bin2 ixD (varD 1) (litD (.int 0))) (bin2 ixD (varD 1) (litD (.int 2)))) nilA)) nilA)))) (nameG 5) fb1__law_is_right)
noncomputable def Ra6 : LS → Store → SO := (asgD (bin2 addV (lstD (consA (varD 3) nilA)) (lcD (seqI (varD 4)) (nameG 5) yesT le1__law_is_right [5])) (nameG 6))
noncomputable def Ra7 : LS → Store → SO := (asgD (bin2 addV (varD 6) (ifE (boolD (bin2 (isNonF false) (varD 2) (litD .non))) (lstD nilA) (lstD (consA (tupD (consA (litD (.str "point")) (consA (varD 2) nilA))) nilA)))) (nameG 6))
noncomputable def Ra8 : LS → Store → SO := (forD (seqI (bin2 addV (varD 6) (lcD (rng1 (consA (litD (.int 7)) nilA)) (nameG 11) yesT le2__law_is_right [11]))) (nameG 7) fb2__law_is_right)
noncomputable def Ra9 : LS → Store → SO := (asgD (callD tupleV (consA (callD F__law_shuffled (consA (varD 0) (consA (varD 1) nilA))) nilA)) (nameG 8))
noncomputable def Ra10 : LS → Store → SO := (asgD (callD tupleV (consA (lcD (seqI (varD 1)) (nameG 12) yesT le3__law_is_right [12]) nilA)) (nameG 9))
noncomputable def Ra11 : LS → Store → SO := (asgD (callD tupleV (consA (lcD (seqI (varD 1)) (nameG 12) yesT le4__law_is_right [12]) nilA)) (nameG 10))
noncomputable def Ra12 : LS → Store → SO := (retD (bin2 eqV (lcD (seqI (tupD (consA (varD 8) (consA (varD 9) (consA (varD 10) nilA))))) (nameG 12) yesT le5__law_is_right [12]) (bin2 mulV (lstD (consA (bin2 ixD (varD 3) (litD (.int 0))) nilA)) (litD (.int 3)))))
theorem Ra_split : g__law_is_right = (seqD Ra1 (seqD Ra2 (seqD Ra3 (seqD Ra4 (seqD Ra5 (seqD Ra6 (seqD Ra7 (seqD Ra8 (seqD Ra9 (seqD Ra10 (seqD Ra11 Ra12))))))))))) := rfl

section
variable {a b c : Int} {e : D} {x0 x1 x2 x3 x4 x5 x6 x7 x8 x9 x10 x11 x12 : Option D} {s st : Store} {h N : Nat} {hd : Hd}
noncomputable abbrev Wi (a b c : Int) : List D := (wr (-(a * c)) (-(b * c))).map D.int
theorem ra1 (k : Ck a b c) (tl : Tl a b c e) : Ra1 [x0, some (tupI [a, b, c]), x2, x3, x4, x5, x6, x7, x8, x9, x10, x11, x12] s =
    .nx [x0, some (tupI [a, b, c]), x2, some e, some (.ref s.length), x5, x6, x7, x8, x9, x10, x11, x12] (s ++ [.lst (Wi a b c)]) := by
  have e1 := cp_at k tl s
  have e2 := sp_law_barring s k
  simp [tupI] at e1 e2
  simp [Ra1, tupI, e1, e2]
theorem ra2 (k : Ck a b c) (tl : Tl a b c e) (hN : s[N]? = some (.lst (Wi a b c))) : Ra2 [x0, some (tupI [a, b, c]), x2, some e, some (.ref N), x5, x6, x7, x8, x9, x10, x11, x12] s =
    .nx [x0, some (tupI [a, b, c]), x2, some e, some (.ref N), x5, x6, x7, x8, x9, x10, x11, x12] s := by
  obtain ⟨p1, pp, _⟩ := tl.ok k
  have e1 := sp_law_is_paper k (pp s)
  rw [p1] at e1
  have len := len_ref hN
  have n1 : ¬ ((Str.ofString "place") = (Str.ofString "point")) := by decide
  cases tl with
  | place p r hw =>
    simp [Wi, hw] at len
    have n0 : ¬ ((r.length : Int) + 1 = 0) := by omega
    simp [tupI] at e1
    simp [Ra2, tupI, e1, len, n0, ne_bl, n1]
  | point X Y Z hw so =>
    simp [Wi, hw] at len
    simp [tupI] at e1
    simp [Ra2, tupI, e1, len, ne_bl]
theorem ra3 (k : Ck a b c) (tl : Tl a b c e) (hN : s[N]? = some (.lst (Wi a b c))) : Ra3 [x0, x1, x2, some e, some (.ref N), x5, x6, x7, x8, x9, x10, x11, x12] s =
    .nx [x0, x1, x2, some e, some (.ref N), x5, x6, x7, x8, x9, x10, x11, x12] s := by
  have n1 : ¬ ((Str.ofString "place") = (Str.ofString "point")) := by decide
  have n2 : ¬ ((Str.ofString "point") = (Str.ofString "place")) := by decide
  cases tl with
  | place p r hw =>
    have ix := ix_ref (i := 0) hN
    simp only [Wi, hw, List.map_cons] at ix
    have : atI (D.int p :: r.map D.int) 0 = some (.int p) := atI_int (by omega) rfl
    rw [this] at ix
    simp [Ra3, tupI, ix, n1]
  | point X Y Z hw so =>
    have ok := so.ok k ((Sl.of k).mp hw)
    have dv := sp_law_divisor [X, Y, Z] s
    rw [ok.2.1] at dv
    simp at dv
    simp [Ra3, tupI, dv, n2]
/-- the point that may be known -/
def Kn (a b c : Int) (pt : D) : Prop := pt = .non ∨ ∃ x y z, pt = tupI [x, y, z] ∧ Wp a b c x y z
theorem ra4 {pt : D} (k : Ck a b c) (tl : Tl a b c e) (kn : Kn a b c pt) : Ra4 [x0, some (tupI [a, b, c]), some pt, some e, x4, x5, x6, x7, x8, x9, x10, x11, x12] s =
    .nx [x0, some (tupI [a, b, c]), some pt, some e, x4, x5, x6, x7, x8, x9, x10, x11, x12] s := by
  obtain ⟨_, _, x, hx⟩ := tl.ok k
  have rx := hx s
  have e1 := cp_at k tl s
  rcases kn with rfl | ⟨X, Y, Z, rfl, w⟩
  · simp [tupI] at e1
    simp [Ra4, isNonF, tupI, e1, rx]
  · have sl : Sl a b c := Sl.point k.a.1 k.b.1 k.c.1 w.pn w.po
    cases tl with
    | place p r hw => rw [(Sl.of k).mpr sl] at hw; cases hw
    | point X' Y' Z' hw so =>
      simp [tupI] at e1 rx
      simp [Ra4, isNonF, tupI, e1, rx]
theorem ra5 (k : Ck a b c) (x : HS st h hd s) (hn : st.length ≤ N) (hN : s[N]? = some (.lst (Wi a b c))) :
    ∃ p hd' s', Ra5 [some (.ref h), some (tupI [a, b, c]), x2, x3, some (.ref N), x5, x6, x7, x8, x9, x10, x11, x12] s =
      .nx [some (.ref h), some (tupI [a, b, c]), x2, x3, some (.ref N), p, x6, x7, x8, x9, x10, x11, x12] s' ∧ HS st h hd' s' ∧ s'[N]? = some (.lst (Wi a b c)) := by
  have hlt := x.lt
  obtain ⟨y, hd1, s1, hy, e1, y1, c1⟩ := any_keep (g := []) (l := [.int 7, .int 11, .int 13, .int 101]) (n := s.length) x (by simp) (by simp) (by simp)
  obtain ⟨q, rfl, pq, qb⟩ : ∃ q : Int, y = .int q ∧ Pr q ∧ q ≤ 1000 := by
    simp only [List.mem_cons, List.not_mem_nil, or_false] at hy
    rcases hy with rfl | rfl | rfl | rfl
    · exact ⟨_, rfl, pr_of_B (n := 7) (by decide), by omega⟩
    · exact ⟨_, rfl, pr_of_B (n := 11) (by decide), by omega⟩
    · exact ⟨_, rfl, pr_of_B (n := 13) (by decide), by omega⟩
    · exact ⟨_, rfl, pr_of_B (n := 101) (by decide), by omega⟩
  have hN1 := c1 N _ (by omega) (by simpa using hN)
  have hA := k.A
  have hac := hA.1.nz
  have hac2 := hA.2
  generalize hm : (if a * c < 0 then -(a * c) else a * c) = m
  have m1 : 1 ≤ m ∧ m ≤ 1000000 ∧ ∀ p : Int, p ∣ m → p ∣ a * c := by
    rw [← hm]
    split
    · exact ⟨by omega, by omega, fun p d => Int.dvd_neg.mp d⟩
    · exact ⟨by omega, by omega, fun p d => d⟩
  obtain ⟨l, pl, e2⟩ := sp_law_primes_of (n := m) (s1 ++ [.lst [.int 0, .int 2, .int 3, .int 5, .int q]]) m1.1 (by omega)
  have ct := cat_ref (st := s1 ++ [.lst [.int 0, .int 2, .int 3, .int 5, .int q]] ++ [.lst (l.map .int)]) (n := s1.length) (m := s1.length + 1) (l := [.int 0, .int 2, .int 3, .int 5, .int q]) (k := l.map .int) (by simp) (by simp) (by have := pl.len; simp; omega)
  obtain ⟨L, hL⟩ : ∃ L : List D, L = [.int 0, .int 2, .int 3, .int 5, .int q] ++ l.map .int := ⟨_, rfl⟩
  obtain ⟨s3, hs3⟩ : ∃ s3 : Store, s3 = s1 ++ [.lst [.int 0, .int 2, .int 3, .int 5, .int q], .lst (l.map .int), .lst L] := ⟨_, rfl⟩
  have ask : ∀ d ∈ L, ∃ p, d = .int p ∧ Ask p := fun d hd => by
    rw [hL] at hd
    rcases List.mem_append.mp hd with hd | hd
    · simp only [List.mem_cons, List.not_mem_nil, or_false] at hd
      rcases hd with rfl | rfl | rfl | rfl | rfl
      · exact ⟨_, rfl, .inl rfl, .inl rfl⟩
      · exact ⟨_, rfl, ask_pr (pr_of_B (n := 2) (by decide)) (by omega)⟩
      · exact ⟨_, rfl, ask_pr (pr_of_B (n := 3) (by decide)) (by omega)⟩
      · exact ⟨_, rfl, ask_pr (pr_of_B (n := 5) (by decide)) (by omega)⟩
      · exact ⟨_, rfl, ask_pr pq qb⟩
    · obtain ⟨p, hp, rfl⟩ := List.mem_map.mp hd
      obtain ⟨pp, pd⟩ := (pl.mem p).mp hp
      refine ⟨p, rfl, ask_pr pp ?_⟩
      have ha := k.a
      have hc := k.c
      rcases pp.or (m1.2.2 p pd) with d | d
      · have := Int.natAbs_dvd_natAbs.mpr d
        have := Nat.le_of_dvd (by omega) this
        omega
      · have := Int.natAbs_dvd_natAbs.mpr d
        have := Nat.le_of_dvd (by omega) this
        omega
  have hN3 : s3[N]? = some (.lst (Wi a b c)) := by
    rw [hs3, List.getElem?_append_left (List.getElem?_eq_some_iff.mp hN1).1]
    exact hN1
  have l3 : s3[s1.length + 2]? = some (.lst L) := by rw [hs3]; simp
  obtain ⟨ls', s', k2, p, rfl, es⟩ := for_inv (ok := okB ⟨L, [(s1.length + 2, L)]⟩) (g := nameG 5) (b := fb1__law_is_right) (fun ls s' => ∃ p, ls = [some (.ref h), some (tupI [a, b, c]), x2, x3, some (.ref N), p, x6, x7, x8, x9, x10, x11, x12] ∧ s' = s3)
    (fun ls s' ⟨_, _, e⟩ => okB_iff.mpr fun p hp => by rw [List.mem_singleton.mp hp, e]; exact l3) L [some (.ref h), some (tupI [a, b, c]), x2, x3, some (.ref N), x5, x6, x7, x8, x9, x10, x11, x12] s3 ⟨_, rfl, rfl⟩
    (fun d hd ls s' ⟨p0, e1, e2⟩ => by
      subst e1
      obtain ⟨p, rfl, hp⟩ := ask d hd
      rw [e2]
      exact ⟨_, _, _, _, rfl, .inl (body5 k hp hN3), _, rfl, rfl⟩)
  rw [es] at k2
  refine ⟨p, hd1, s3, ?_, by rw [hs3]; exact y1.app, hN3⟩
  have mo : mulOk a c = true := mulOk_l (by have := k.a; have := k.c; omega) (by have := k.a; have := k.c; omega)
  have it : itsOf (.ref (s1.length + 2)) s3 = some ⟨L, [(s1.length + 2, L)]⟩ := itsOf_ref l3
  rw [← hL] at ct
  simp at e1 e2 ct
  rw [← hs3] at ct
  simp [tupI] at k2
  simp [Ra5, tupI, e1, mo, hm, e2, ct, it, k2]
theorem ra6 (hN : s[N]? = some (.lst (Wi a b c))) (k : Ck a b c) : Ra6 [x0, x1, x2, some e, some (.ref N), x5, x6, x7, x8, x9, x10, x11, x12] s =
    .nx [x0, x1, x2, some e, some (.ref N), x5, some (.ref (s.length + 2)), x7, x8, x9, x10, x11, x12] (s ++ [.lst [e], .lst ((Wi a b c).map fun d => .tup [.str "place", d]), .lst (e :: (Wi a b c).map fun d => .tup [.str "place", d])]) := by
  have hlt := (List.getElem?_eq_some_iff.mp hN).1
  have hl := wr_len k.A.1 k.B.1
  have lW : (Wi a b c).length = (wr (-(a * c)) (-(b * c))).length := by simp [Wi]
  have hl' : (wr (-(a * c)) (-(b * c))).length + 1 ≤ 16777216 := by
    have := List.length_filter_le (fun p => decide (sg p (-(a * c)) (-(b * c)) = -1)) (plc (-(a * c)) (-(b * c)))
    have h2 : (plc (-(a * c)) (-(b * c))).length ≤ (-(a * c)).natAbs + (-(b * c)).natAbs + 3 := by
      unfold plc
      refine Nat.le_trans (List.length_filter_le _ _) (by simp)
    have := k.A.2
    have := k.B.2
    have e : (wr (-(a * c)) (-(b * c))).length = ((plc (-(a * c)) (-(b * c))).filter fun p => decide (sg p (-(a * c)) (-(b * c)) = -1)).length := rfl
    omega
  generalize Wi a b c = W at *
  have gN : (s ++ [Cell.lst [e]])[N]? = some (.lst W) := by rw [List.getElem?_append_left hlt]; exact hN
  have it : itsOf (.ref N) (s ++ [.lst [e]]) = some ⟨W, [(N, W)]⟩ := itsOf_ref gN
  have lc := lc_map (its := ⟨W, [(N, W)]⟩) (st0 := s ++ [.lst [e]]) (g := nameG 5) (ft := yesT) (fe := le1__law_is_right)
    (lsw := [x0, x1, x2, some e, some (.ref N), none, x6, x7, x8, x9, x10, x11, x12]) (fun d => .tup [.str "place", d]) (fun acc => okB_iff.mpr fun p hp => by
      rw [List.mem_singleton.mp hp, List.getElem?_append_left (by simp; omega)]
      exact gN) (by simp; omega) fun d hd acc => ⟨_, rfl, rfl, by simp [le1__law_is_right]⟩
  have ct := cat_ref (st := s ++ [.lst [e]] ++ [.lst (W.map fun d => .tup [.str "place", d])]) (n := s.length) (m := s.length + 1) (l := [e]) (k := W.map fun d => .tup [.str "place", d]) (by simp) (by simp) (by simp; omega)
  simp at lc ct
  simp [Ra6, it, wipeL, lc, ct]
def ptL (pt : D) : List D := match pt with
  | .non => []
  | d => [.tup [.str "point", d]]
theorem ra7 {pt : D} {Q : List D} (kn : Kn a b c pt) (hN : s[N]? = some (.lst Q)) (hQ : Q.length < 16777216) : Ra7 [x0, x1, some pt, x3, x4, x5, some (.ref N), x7, x8, x9, x10, x11, x12] s =
    .nx [x0, x1, some pt, x3, x4, x5, some (.ref (s.length + 1)), x7, x8, x9, x10, x11, x12] (s ++ [.lst (ptL pt), .lst (Q ++ ptL pt)]) := by
  have hlt := (List.getElem?_eq_some_iff.mp hN).1
  have ct := fun P : List D => fun h1 : P.length ≤ 1 => cat_ref (st := s ++ [.lst P]) (n := N) (m := s.length) (l := Q) (k := P) (by rw [List.getElem?_append_left hlt]; exact hN) (by simp) (by omega)
  rcases kn with rfl | ⟨X, Y, Z, rfl, w⟩
  · have ct := ct [] (by simp)
    simp at ct
    simp [Ra7, isNonF, ptL, ct]
  · have ct := ct [.tup [.str "point", .tup [.int X, .int Y, .int Z]]] (by simp)
    simp at ct
    simp [Ra7, isNonF, ptL, ct, tupI]
end
end K65

set_option maxRecDepth 100000
set_option maxHeartbeats 4000000
namespace K65
open PySem PySem.Spec PyProof.Rows L2 DD
section
variable {a b c : Int} {e : D} {x0 x1 x2 x3 x4 x5 x6 x7 x8 x9 x10 x11 x12 : Option D} {s st : Store} {h N : Nat} {hd : Hd}
theorem ra8 {Q : List D} (k : Ck a b c) (tl : Tl a b c e) (x : HS st h hd s) (hn : st.length ≤ N) (hN : s[N]? = some (.lst Q)) (hq : ∀ d ∈ Q, ∀ s, Pp s d) (hQ : Q.length ≤ 16000000) :
    ∃ y7 hd' s', Ra8 [some (.ref h), some (tupI [a, b, c]), x2, some e, x4, x5, some (.ref N), x7, x8, x9, x10, x11, x12] s =
      .nx [some (.ref h), some (tupI [a, b, c]), x2, some e, x4, x5, some (.ref N), y7, x8, x9, x10, x11, x12] s' ∧ HS st h hd' s' := by
  have hlt := x.lt
  have hlN := (List.getElem?_eq_some_iff.mp hN).1
  have hr := rng1_eq (fr := consA (litD (.int 7)) nilA) (ls := [some (.ref h), some (tupI [a, b, c]), x2, some e, x4, x5, some (.ref N), x7, x8, x9, x10, x11, x12]) (st := s) (st1 := s) (j := 7) (by simp) (by omega) (by omega)
  have ls : st.length ≤ s.length := by
    obtain ⟨g, rfl⟩ := x.ex
    simp
  obtain ⟨L, hd1, s1, e2, y1, h2, hlen, hL, l2, k2⟩ := lc_bent (h := h) (n := s.length) (pt := x2) (r4 := x4) (r5 := x5) (r6 := some (.ref N)) (r7 := x7) (r8 := x8) (r9 := x9) (r10 := x10) (r12 := x12) k tl ls (rangeL 0 (7 : Int).toNat) [] hd (s ++ [.lst []]) x.app (by simp) (by simp [rangeL_len]) (fun _ h => by cases h)
  have hN1 := k2 N _ (by omega) (by omega) (show (s ++ [Cell.lst []])[N]? = some (.lst Q) by rw [List.getElem?_append_left hlN]; exact hN)
  rw [rangeL_len] at hlen
  have ct := cat_ref (st := s1) (n := N) (m := s.length) (l := Q) (k := L) hN1 h2 (by simp at hlen; omega)
  obtain ⟨M, hM⟩ : ∃ M : List D, M = Q ++ L := ⟨_, rfl⟩
  rw [← hM] at ct
  obtain ⟨s3, hs3⟩ : ∃ s3 : Store, s3 = s1 ++ [.lst M] := ⟨_, rfl⟩
  rw [← hs3] at ct
  have l3 : s3[s1.length]? = some (.lst M) := by rw [hs3]; simp
  have l4 : s1.length ≤ s3.length := by rw [hs3]; simp
  have pp : ∀ d ∈ M, Pp s3 d := fun d hd => by
    rw [hM] at hd
    rcases List.mem_append.mp hd with hd | hd
    · exact hq d hd s3
    · exact (hL d hd).pp l4
  obtain ⟨ls', s', k3, p, rfl, es⟩ := for_inv (ok := okB ⟨M, [(s1.length, M)]⟩) (g := nameG 7) (b := fb2__law_is_right) (fun ls s' => ∃ p, ls = [some (.ref h), some (tupI [a, b, c]), x2, some e, x4, x5, some (.ref N), p, x8, x9, x10, x11, x12] ∧ s' = s3)
    (fun ls s' ⟨_, _, e⟩ => okB_iff.mpr fun p hp => by rw [List.mem_singleton.mp hp, e]; exact l3) M [some (.ref h), some (tupI [a, b, c]), x2, some e, x4, x5, some (.ref N), x7, x8, x9, x10, x11, x12] s3 ⟨_, rfl, rfl⟩
    (fun d hd ls s' ⟨p0, e1, e2⟩ => by
      subst e1
      rw [e2]
      exact ⟨_, _, _, _, rfl, .inl (body8 k (pp d hd)), _, rfl, rfl⟩)
  rw [es] at k3
  refine ⟨p, hd1, s3, ?_, by rw [hs3]; exact y1.app⟩
  have it : itsOf (.ref s1.length) s3 = some ⟨M, [(s1.length, M)]⟩ := itsOf_ref l3
  simp [tupI] at k3 hr e2
  simp [Ra8, tupI, hr, wipeL, e2, ct, it, k3]
theorem ra9 (k : Ck a b c) (x : HS st h hd s) : ∃ l hd' s', List.Perm l [a, b, c] ∧ Ra9 [some (.ref h), some (tupI [a, b, c]), x2, x3, x4, x5, x6, x7, x8, x9, x10, x11, x12] s =
      .nx [some (.ref h), some (tupI [a, b, c]), x2, x3, x4, x5, x6, x7, some (tupI l), x9, x10, x11, x12] s' ∧ HS st h hd' s' := by
  obtain ⟨l, hd', pm, e1⟩ := sp_law_shuffled (a := a) (b := b) (c := c) x.get
  refine ⟨l, hd', _, pm, ?_, (x.set (hd' := hd')).app (g := [.lst [], .lst (l.map .int)])⟩
  have it : itsOf (.ref (s.length + 1)) (s.set h hd'.cell ++ [.lst [], .lst (l.map .int)]) = some ⟨l.map .int, [(s.length + 1, l.map .int)]⟩ := itsOf_ref (by simp)
  simp [tupI] at e1
  simp [Ra9, tupI, e1, tupleV, it]
theorem wo_fun : ∃ w : Int → Int, ∀ i, N9 i → Wo i (w i) ∧ ∀ s, F__law_without_squares [.int i] s = .ok (.int (w i)) s := by
  refine ⟨fun i => open Classical in if h : N9 i then (wo_all h).choose else 0, fun i h => ?_⟩
  simp only [dif_pos h]
  exact (wo_all h).choose_spec
theorem Ck.n9 (k : Ck a b c) : N9 a ∧ N9 b ∧ N9 c := ⟨⟨k.a.1, by have := k.a; omega⟩, ⟨k.b.1, by have := k.b; omega⟩, ⟨k.c.1, by have := k.c; omega⟩⟩
theorem ra10 (k : Ck a b c) : ∃ u v w, Wo a u ∧ Wo b v ∧ Wo c w ∧ ∀ s : Store, ∃ g, Ra10 [x0, some (tupI [a, b, c]), x2, x3, x4, x5, x6, x7, x8, x9, x10, x11, x12] s =
      .nx [x0, some (tupI [a, b, c]), x2, x3, x4, x5, x6, x7, x8, some (tupI [u, v, w]), x10, x11, x12] (s ++ g) := by
  obtain ⟨f, hf⟩ := wo_fun
  obtain ⟨ha, hb, hc⟩ := k.n9
  refine ⟨f a, f b, f c, (hf a ha).1, (hf b hb).1, (hf c hc).1, fun s => ⟨[.lst [.int (f a), .int (f b), .int (f c)]], ?_⟩⟩
  have lc := lc_map (its := ⟨[.int a, .int b, .int c], []⟩) (st0 := s) (g := nameG 12) (ft := yesT) (fe := le3__law_is_right)
    (lsw := [x0, some (tupI [a, b, c]), x2, x3, x4, x5, x6, x7, x8, x9, x10, x11, none]) (fun d => match d with | .int i => .int (f i) | _ => .non) (fun acc => rfl) (by simp) fun d hd acc => by
      obtain ⟨i, rfl, hi⟩ : ∃ i, d = .int i ∧ N9 i := by
        simp only [List.mem_cons, List.not_mem_nil, or_false] at hd
        rcases hd with rfl | rfl | rfl
        · exact ⟨_, rfl, ha⟩
        · exact ⟨_, rfl, hb⟩
        · exact ⟨_, rfl, hc⟩
      exact ⟨_, rfl, rfl, by simp [le3__law_is_right, (hf i hi).2]⟩
  simp [tupI] at lc
  simp [Ra10, tupI, wipeL, lc, tupleV]
theorem ra11 : ∀ s : Store, ∃ g, Ra11 [x0, some (tupI [a, b, c]), x2, x3, x4, x5, x6, x7, x8, x9, x10, x11, x12] s =
      .nx [x0, some (tupI [a, b, c]), x2, x3, x4, x5, x6, x7, x8, x9, some (tupI [-a, -b, -c]), x11, x12] (s ++ g) := by
  refine fun s => ⟨[.lst [.int (-a), .int (-b), .int (-c)]], ?_⟩
  have lc := lc_map (its := ⟨[.int a, .int b, .int c], []⟩) (st0 := s) (g := nameG 12) (ft := yesT) (fe := le4__law_is_right)
    (lsw := [x0, some (tupI [a, b, c]), x2, x3, x4, x5, x6, x7, x8, x9, x10, x11, none]) (fun d => match d with | .int i => .int (-i) | _ => .non) (fun acc => rfl) (by simp) fun d hd acc => by
      obtain ⟨i, rfl⟩ : ∃ i, d = .int i := by
        simp only [List.mem_cons, List.not_mem_nil, or_false] at hd
        rcases hd with rfl | rfl | rfl <;> exact ⟨_, rfl⟩
      exact ⟨_, rfl, rfl, by simp [le4__law_is_right]⟩
  simp [tupI] at lc
  simp [Ra11, tupI, wipeL, lc, tupleV]
theorem eq_three {st : Store} {n m : Nat} {w : Str} (ok : PyData.strOk w = true) (h : st[n]? = some (.lst [.str w, .str w, .str w])) (h' : st[m]? = some (.lst [.str w, .str w, .str w])) : eqF false (.ref n) (.ref m) st = .ok (.bl true) st := by
  have t : ∀ k, st[k]? = some (.lst [.str w, .str w, .str w]) → toP st 60 (.ref k) = some (.list [.str w, .str w, .str w]) := fun k hk => by
    rw [toP]
    simp only [hk]
    rfl
  show eqG false (.ref n) (.ref m) st = _
  unfold eqG
  rw [t n h, t m h']
  have hs : SeqAt.shaped (.list [.str w, .str w, .str w]) = true := by simp [SeqAt.shaped, PyData.canLay0, PyData.canLayAll0, PyData.depth, PyData.depthAll, ok]
  simp only [hs, and_self, if_true]
  simp [PyData.eqv, PyData.eqvAll]
theorem ra12 {w : Str} {v d1 d2 d3 : D} (ok : PyData.strOk w = true) (f : ∀ d ∈ [d1, d2, d3], ∃ v, ∀ s, F_conic_point [d] s = .ok (.tup [.str w, v]) s) (s : Store) :
    ∃ g, Ra12 [x0, x1, x2, some (.tup [.str w, v]), x4, x5, x6, x7, some d1, some d2, some d3, x11, x12] s = .rt (.bl true) (s ++ g) := by
  refine ⟨[.lst [.str w, .str w, .str w], .lst [.str w], .lst [.str w, .str w, .str w]], ?_⟩
  have lc := lc_map (its := ⟨[d1, d2, d3], []⟩) (st0 := s) (g := nameG 12) (ft := yesT) (fe := le5__law_is_right)
    (lsw := [x0, x1, x2, some (.tup [.str w, v]), x4, x5, x6, x7, some d1, some d2, some d3, x11, none]) (fun d => .str w) (fun acc => rfl) (by simp) fun d hd acc => by
      obtain ⟨u, hu⟩ := f d hd
      exact ⟨_, rfl, rfl, by simp [le5__law_is_right, hu]⟩
  have rp : mulV (.ref (s.length + 1)) (.int 3) (s ++ [.lst [.str w, .str w, .str w], .lst [.str w]]) = .ok (.ref (s.length + 2)) (s ++ [.lst [.str w, .str w, .str w], .lst [.str w], .lst [.str w, .str w, .str w]]) := by
    show repL _ _ _ = _
    unfold repL
    have lo : lstOf (s ++ [Cell.lst [.str w, .str w, .str w], .lst [.str w]]) (.ref (s.length + 1)) = some [.str w] := by simp [lstOf]
    simp only [lo]
    rw [if_pos (okP_of ⟨by omega, by omega, by simp⟩)]
    simp [List.replicate]
  have hq := eq_three (st := s ++ [.lst [.str w, .str w, .str w], .lst [.str w], .lst [.str w, .str w, .str w]]) (n := s.length) (m := s.length + 2) ok (by simp) (by simp)
  simp at lc hq
  simp [Ra12, wipeL, lc, rp, hq]
end
theorem cp_word {a b c : Int} {w : Str} (k : Ck a b c) (hw : (w = "point" ∧ Sl a b c) ∨ (w = "place" ∧ ¬ Sl a b c)) : ∃ v, ∀ s, F_conic_point [tupI [a, b, c]] s = .ok (.tup [.str w, v]) s := by
  obtain ⟨e, t⟩ := cp_ex k
  obtain ⟨w', v, rfl, h⟩ := t.word k
  have : w' = w := by
    rcases h with ⟨h1, h2⟩ | ⟨h1, h2⟩ <;> rcases hw with ⟨h3, h4⟩ | ⟨h3, h4⟩
    · rw [h1, h3]
    · exact absurd h2 h4
    · exact absurd h4 h2
    · rw [h1, h3]
  subst this
  exact ⟨v, cp_at k t⟩
theorem Sl.perm_iff {a b c x y z : Int} (k : Ck a b c) (k' : Ck x y z) (p : List.Perm [x, y, z] [a, b, c]) : Sl x y z ↔ Sl a b c := by
  constructor
  · intro h
    obtain ⟨x', y', z', e, h'⟩ := h.perm k'.a.1 k'.b.1 k'.c.1 p.symm
    cases e
    exact h'
  · intro h
    obtain ⟨x', y', z', e, h'⟩ := h.perm k.a.1 k.b.1 k.c.1 p
    cases e
    exact h'
theorem Ck.perm {a b c : Int} (k : Ck a b c) {l : List Int} (p : List.Perm l [a, b, c]) : ∃ x y z, l = [x, y, z] ∧ Ck x y z := by
  have hl := p.length_eq
  match l, hl with
  | [x, y, z], _ =>
    have hm : ∀ i ∈ [x, y, z], i ≠ 0 ∧ -1000 ≤ i ∧ i ≤ 1000 := fun i hi => by
      have := p.mem_iff.mp hi
      simp only [List.mem_cons, List.not_mem_nil, or_false] at this
      rcases this with rfl | rfl | rfl
      · exact k.a
      · exact k.b
      · exact k.c
    exact ⟨x, y, z, rfl, hm x (by simp), hm y (by simp), hm z (by simp)⟩
theorem wo_ck {a u : Int} (h : a ≠ 0 ∧ -1000 ≤ a ∧ a ≤ 1000) (w : Wo a u) : u ≠ 0 ∧ -1000 ≤ u ∧ u ≤ 1000 := by
  have := wo_le w h.1
  have := (wo_ne w h.1).1
  omega
theorem sp_law_is_right {st : Store} {h : Nat} {hd : Hd} {a b c : Int} {pt : D} (hh : st[h]? = some hd.cell) (k : Ck a b c) (kn : Kn a b c pt) : ∃ hd', F__law_is_right [.ref h, tupI [a, b, c], pt] st = .ok (.bl true) (st.set h (Hd.cell hd')) := by
  have key : Good__law_is_right [.ref h, tupI [a, b, c], pt] st (F__law_is_right [.ref h, tupI [a, b, c], pt] st) := by
    have hlt := (List.getElem?_eq_some_iff.mp hh).1
    obtain ⟨e, tl⟩ := cp_ex k
    obtain ⟨w, v, ee, hw⟩ := tl.word k
    have k1 := ra1 (x0 := some (.ref h)) (x2 := some pt) (x3 := none) (x4 := none) (x5 := none) (x6 := none) (x7 := none) (x8 := none) (x9 := none) (x10 := none) (x11 := none) (x12 := none) (s := st) k tl
    have X1 : HS st h hd (st ++ [.lst (Wi a b c)]) := (HS.refl hh).app
    have g1 : (st ++ [Cell.lst (Wi a b c)])[st.length]? = some (.lst (Wi a b c)) := by simp
    have k2 := ra2 (x0 := some (.ref h)) (x2 := some pt) (x5 := none) (x6 := none) (x7 := none) (x8 := none) (x9 := none) (x10 := none) (x11 := none) (x12 := none) k tl g1
    have k3 := ra3 (x0 := some (.ref h)) (x1 := some (tupI [a, b, c])) (x2 := some pt) (x5 := none) (x6 := none) (x7 := none) (x8 := none) (x9 := none) (x10 := none) (x11 := none) (x12 := none) k tl g1
    have k4 := ra4 (x0 := some (.ref h)) (x4 := some (.ref st.length)) (x5 := none) (x6 := none) (x7 := none) (x8 := none) (x9 := none) (x10 := none) (x11 := none) (x12 := none) (s := st ++ [.lst (Wi a b c)]) k tl kn
    obtain ⟨p, hd5, s5, k5, X5, g5⟩ := ra5 (x2 := some pt) (x3 := some e) (x5 := none) (x6 := none) (x7 := none) (x8 := none) (x9 := none) (x10 := none) (x11 := none) (x12 := none) k X1 (Nat.le_refl _) g1
    have k6 := ra6 (x0 := some (.ref h)) (x1 := some (tupI [a, b, c])) (x2 := some pt) (x5 := p) (x6 := none) (x7 := none) (x8 := none) (x9 := none) (x10 := none) (x11 := none) (x12 := none) (e := e) g5 k
    have X6 := X5.app (g := [.lst [e], .lst ((Wi a b c).map fun d => .tup [.str "place", d]), .lst (e :: (Wi a b c).map fun d => .tup [.str "place", d])])
    have lW : (Wi a b c).length ≤ 3000000 := by
      have e : (Wi a b c).length = ((plc (-(a * c)) (-(b * c))).filter fun p => decide (sg p (-(a * c)) (-(b * c)) = -1)).length := by simp [Wi, wr]
      have := List.length_filter_le (fun p => decide (sg p (-(a * c)) (-(b * c)) = -1)) (plc (-(a * c)) (-(b * c)))
      have h2 : (plc (-(a * c)) (-(b * c))).length ≤ (-(a * c)).natAbs + (-(b * c)).natAbs + 3 := by
        unfold plc
        refine Nat.le_trans (List.length_filter_le _ _) (by simp)
      have := k.A.2
      have := k.B.2
      omega
    have lP : (ptL pt).length ≤ 1 := by rcases kn with rfl | ⟨_, _, _, rfl, _⟩ <;> simp [ptL, tupI]
    have pl : ∀ d ∈ Wi a b c, ∀ s, Pp s (.tup [.str "place", d]) := fun d hd s => by
      obtain ⟨p, _, rfl⟩ := List.mem_map.mp hd
      exact (pk_pair (k := 0) (x := .str "place") (y := .int p) trivial (yk_other trivial (fun l e => by cases e))).pp (Nat.zero_le _)
    have pp : ∀ d ∈ (e :: (Wi a b c).map fun d => .tup [.str "place", d]) ++ ptL pt, ∀ s, Pp s d := fun d hd s => by
      rcases List.mem_append.mp hd with hd | hd
      · rcases List.mem_cons.mp hd with rfl | hd
        · exact (tl.ok k).2.1 s
        · obtain ⟨q, hq, rfl⟩ := List.mem_map.mp hd
          exact pl q hq s
      · rcases kn with rfl | ⟨x, y, z, rfl, w⟩
        · cases hd
        · have : d = .tup [.str "point", tupI [x, y, z]] := by simpa [ptL, tupI] using hd
          subst this
          exact (pk_pair (k := 0) (x := .str "point") (y := tupI [x, y, z]) trivial (yk_ints (fun i hi => by
            simp only [List.mem_cons, List.not_mem_nil, or_false] at hi
            have := w.px
            have := w.py
            have := w.pz
            rcases hi with rfl | rfl | rfl <;> exact s1000 (by omega) (by omega)))).pp (Nat.zero_le _)
    obtain ⟨s6, hs6⟩ : ∃ s6, s6 = s5 ++ [.lst [e], .lst ((Wi a b c).map fun d => .tup [.str "place", d]), .lst (e :: (Wi a b c).map fun d => .tup [.str "place", d])] := ⟨_, rfl⟩
    have g6 : s6[s5.length + 2]? = some (.lst (e :: (Wi a b c).map fun d => .tup [.str "place", d])) := by rw [hs6]; simp
    have n5 : st.length ≤ s5.length := by
      obtain ⟨g, rfl⟩ := X5.ex
      simp
    have n6 : s6.length = s5.length + 3 := by rw [hs6]; simp
    rw [← hs6] at k6 X6
    have k7 := ra7 (x0 := some (.ref h)) (x1 := some (tupI [a, b, c])) (x3 := some e) (x4 := some (.ref st.length)) (x5 := p) (x7 := none) (x8 := none) (x9 := none) (x10 := none) (x11 := none) (x12 := none) kn g6 (by simp at lW; simp; omega)
    have X7 := X6.app (g := [.lst (ptL pt), .lst ((e :: (Wi a b c).map fun d => .tup [.str "place", d]) ++ ptL pt)])
    have g7 : (s6 ++ [.lst (ptL pt), .lst ((e :: (Wi a b c).map fun d => .tup [.str "place", d]) ++ ptL pt)])[s6.length + 1]? = some (.lst ((e :: (Wi a b c).map fun d => .tup [.str "place", d]) ++ ptL pt)) := by simp
    obtain ⟨y7, hd8, s8, k8, X8⟩ := ra8 (x2 := some pt) (x4 := some (.ref st.length)) (x5 := p) (x7 := none) (x8 := none) (x9 := none) (x10 := none) (x11 := none) (x12 := none) k tl X7 (by omega) g7 pp (by simp at lW; simp; omega)
    obtain ⟨l, hd9, s9, pm, k9, X9⟩ := ra9 (x2 := some pt) (x3 := some e) (x4 := some (.ref st.length)) (x5 := p) (x6 := some (.ref (s6.length + 1))) (x7 := y7) (x8 := none) (x9 := none) (x10 := none) (x11 := none) (x12 := none) k X8
    obtain ⟨u1, u2, u3, w1, w2, w3, k10⟩ := ra10 (x0 := some (.ref h)) (x2 := some pt) (x3 := some e) (x4 := some (.ref st.length)) (x5 := p) (x6 := some (.ref (s6.length + 1))) (x7 := y7) (x8 := some (tupI l)) (x9 := none) (x10 := none) (x11 := none) (x12 := none) k
    obtain ⟨g10, k10⟩ := k10 s9
    obtain ⟨g11, k11⟩ := ra11 (a := a) (b := b) (c := c) (x0 := some (.ref h)) (x2 := some pt) (x3 := some e) (x4 := some (.ref st.length)) (x5 := p) (x6 := some (.ref (s6.length + 1))) (x7 := y7) (x8 := some (tupI l)) (x9 := some (tupI [u1, u2, u3])) (x10 := none) (x11 := none) (x12 := none) (s9 ++ g10)
    have ok : PyData.strOk w = true := by rcases hw with ⟨rfl, _⟩ | ⟨rfl, _⟩ <;> decide +kernel
    have f : ∀ d ∈ [tupI l, tupI [u1, u2, u3], tupI [-a, -b, -c]], ∃ v, ∀ s, F_conic_point [d] s = .ok (.tup [.str w, v]) s := fun d hd => by
      simp only [List.mem_cons, List.not_mem_nil, or_false] at hd
      rcases hd with rfl | rfl | rfl
      · obtain ⟨x, y, z, rfl, k'⟩ := k.perm pm
        exact cp_word k' (by rw [Sl.perm_iff k k' pm]; exact hw)
      · have k' : Ck u1 u2 u3 := ⟨wo_ck k.a w1, wo_ck k.b w2, wo_ck k.c w3⟩
        exact cp_word k' (by rw [← Sl.wo k.a.1 k.b.1 k.c.1 w1 w2 w3]; exact hw)
      · have k' : Ck (-a) (-b) (-c) := ⟨by have := k.a; omega, by have := k.b; omega, by have := k.c; omega⟩
        exact cp_word k' (by rw [← Sl.neg]; exact hw)
    obtain ⟨g12, k12⟩ := ra12 (v := v) (x0 := some (.ref h)) (x1 := some (tupI [a, b, c])) (x2 := some pt) (x4 := some (.ref st.length)) (x5 := p) (x6 := some (.ref (s6.length + 1))) (x7 := y7) (x11 := none) (x12 := none) ok f (s9 ++ g10 ++ g11)
    refine viaF_good (o := .ok (.bl true) (st.set h hd9.cell)) ⟨h, hd, a, b, c, pt, rfl, hh, k, kn, hd9, rfl⟩ fun l1 _ => ?_
    have fin : endO (g__law_is_right (startD 13 [.ref h, tupI [a, b, c], pt]) st) = .ok (.bl true) (s9 ++ g10 ++ g11 ++ g12) := by
      rw [Ra_split]
      rw [← ee] at k12
      simp only [seqD_eq, startD_cons, startD_nil, startD_zero, k1, k2, k3, k4, k5, k6, k7, k8, k9, k10, k11, k12, endO_rt]
    rw [fin]
    exact ((X9.app (g := g10)).app (g := g11)).app (g := g12) |>.pk l1 rfl
  obtain ⟨h', hd', a', b', c', e', q, _, _, _, hd2, eo⟩ := key
  simp [tupI] at q
  obtain ⟨rfl, _⟩ := q
  exact ⟨hd2, eo⟩
end K65

set_option maxRecDepth 100000
set_option maxHeartbeats 4000000
namespace K65
open PySem PySem.Spec PyProof.Rows L2 DD
theorem head_of {l : List Int} {x : Int} (p : l.Pairwise (· < ·)) (hx : x ∈ l) (le : ∀ y ∈ l, x ≤ y) : ∃ r, l = x :: r := by
  match l, hx with
  | y :: r, hx =>
    refine ⟨r, ?_⟩
    rcases List.mem_cons.mp hx with h | h
    · rw [h]
    · have := (List.pairwise_cons.mp p).1 x h
      have := le y List.mem_cons_self
      omega
theorem wr_pw (n m : Int) : (wr n m).Pairwise (· < ·) := (pw_plc n m).filter _
theorem wr_zero {n m : Int} (hn : N9 n) (hm : N9 m) (h : sg 0 n m = -1) : ∃ r, wr n m = 0 :: r :=
  head_of (wr_pw n m) ((mem_wr hn hm (.inl rfl)).mpr h) fun y hy => by
    have := (wr_pl hn hm hy).2.2
    omega
theorem wr_two {n m : Int} (hn : N9 n) (hm : N9 m) (h0 : sg 0 n m = 1) (h : sg 2 n m = -1) : ∃ r, wr n m = 2 :: r :=
  head_of (wr_pw n m) ((mem_wr hn hm (.inr (.inl rfl))).mpr h) fun y hy => by
    have := (wr_pl hn hm hy).2.2
    rcases this with rfl | h
    · have := (mem_wr hn hm (.inl rfl)).mp hy
      omega
    · exact h
theorem ne_pair {w : Str} {i : Int} {st : Store} (ok : PyData.strOk w = true) : eqG true (.tup [.str w, .int i]) (.tup [.str w, .int i]) st = .ok (.bl false) st := by
  have t : toP st 60 (.tup [.str w, .int i]) = some (.tuple [.str w, .int i]) := rfl
  unfold eqG
  rw [t]
  have hs : SeqAt.shaped (.tuple [.str w, .int i]) = true := by simp [SeqAt.shaped, PyData.canLay0, PyData.canLayAll0, PyData.depth, PyData.depthAll, ok]
  simp only [hs, and_self, if_true]
  simp [PyData.eqv, PyData.eqvAll]
theorem ck113 : Ck 1 1 (-3) := ⟨by omega, by omega, by omega⟩
theorem ck111 : Ck 1 1 1 := ⟨by omega, by omega, by omega⟩
theorem cp113 (s : Store) : F_conic_point [.tup [.int 1, .int 1, .int (-3)]] s = .ok (.tup [.str "place", .int 2]) s := by
  obtain ⟨r, h⟩ := wr_two (n := 3) (m := 3) ⟨by omega, by omega⟩ ⟨by omega, by omega⟩ (by decide +kernel) (by decide +kernel)
  exact cp_at ck113 (.place 2 r h) s
theorem cp111 (s : Store) : F_conic_point [.tup [.int 1, .int 1, .int 1]] s = .ok (.tup [.str "place", .int 0]) s := by
  obtain ⟨r, h⟩ := wr_zero (n := -1) (m := -1) ⟨by omega, by omega⟩ ⟨by omega, by omega⟩ (by decide +kernel)
  exact cp_at ck111 (.place 0 r h) s
theorem cp112 : ∃ v, ∀ s, F_conic_point [.tup [.int 1, .int 1, .int (-2)]] s = .ok (.tup [.str "point", v]) s :=
  cp_word ck112 (.inl ⟨rfl, Sl.point (x := 1) (y := 1) (z := 1) (by omega) (by omega) (by omega) (by omega) (by omega)⟩)
theorem Wp.ck {a b c x y z : Int} (w : Wp a b c x y z) : Ck a b c := ⟨by have := w.pa; omega, by have := w.pb; omega, by have := w.pc; omega⟩
theorem law_body {st s : Store} {h : Nat} {hd : Hd} {x0 x2 x3 x4 : Option D} (x : HS st h hd s) :
    ∃ y3 y4 hd' s', fb1_law [x0, some (.ref h), x2, x3, x4] s = .nx [x0, some (.ref h), x2, y3, y4] s' ∧ HS st h hd' s' := by
  obtain ⟨a, b, c, X, Y, Z, hd1, w, _, _, _, _, _, _, e1⟩ := sp_law_with_point x.get
  have x1 := x.set (hd' := hd1)
  obtain ⟨hd2, e2⟩ := sp_law_is_right x1.get w.ck (pt := tupI [X, Y, Z]) (.inr ⟨X, Y, Z, rfl, w⟩)
  have x2 := x1.set (hd' := hd2)
  obtain ⟨a', b', c', hd3, k', e3⟩ := sp_law_conic x2.get
  have x3 := x2.set (hd' := hd3)
  obtain ⟨hd4, e4⟩ := sp_law_is_right x3.get k' (pt := .non) (.inl rfl)
  refine ⟨some (tupI [a, b, c]), some (tupI [X, Y, Z]), hd4, _, ?_, x3.set (hd' := hd4)⟩
  generalize s.set h hd1.cell = s1 at *
  generalize s1.set h hd2.cell = s2 at *
  generalize s2.set h hd3.cell = s3 at *
  generalize s3.set h hd4.cell = s4 at *
  simp [tupI] at e1 e2 e3 e4
  simp [fb1_law, tupI, e1, e2, e3, e4]
theorem law_true (ns : List Int) (h : ns.length ≤ 63) : ∃ st, F_law [.cst (ns.map D.int)] [] = .ok (.bl true) st := by
  obtain ⟨hd, e0⟩ := sp_law_hand (st := []) h
  have X0 : HS [hd.cell] 0 hd [hd.cell] := HS.refl rfl
  obtain ⟨v, hv⟩ := cp112
  obtain ⟨hd1, e1⟩ := sp_law_are_refused X0.get
  have X1 := X0.set (hd' := hd1)
  have ok : PyData.strOk (Str.ofString "place") = true := by decide +kernel
  obtain ⟨s1, hs1⟩ : ∃ s1 : Store, s1 = [hd.cell].set 0 hd1.cell := ⟨_, rfl⟩
  rw [← hs1] at X1 e1
  have hr := fun ls => rng1_eq (fr := consA (litD (.int 4)) nilA) (ls := ls) (st := s1) (st1 := s1) (j := 4) (by simp) (by omega) (by omega)
  obtain ⟨ls', s3, k2, l2, l3, l4, hd3, rfl, X3⟩ := for_inv (ok := fun _ => true) (g := nameG 2) (b := fb1_law) (fun ls s => ∃ l2 l3 l4 hd', ls = [some (.cst (ns.map D.int)), some (.ref 0), l2, l3, l4] ∧ HS [hd.cell] 0 hd' s)
    (fun _ _ _ => rfl) (rangeL 0 (4 : Int).toNat) [some (.cst (ns.map D.int)), some (.ref 0), none, none, none] s1 ⟨_, _, _, _, rfl, X1⟩ (fun d hdm ls s ⟨l2, l3, l4, hd', e, x⟩ => by
      subst e
      obtain ⟨m3, m4, hd2, s', e2, x'⟩ := law_body (x0 := some (.cst (ns.map D.int))) (x2 := some d) (x3 := l3) (x4 := l4) x
      exact ⟨_, _, _, _, rfl, .inl e2, _, _, _, hd2, rfl, x'⟩)
  have key : Good_law [.cst (ns.map D.int)] [] (F_law [.cst (ns.map D.int)] []) := viaF_good (o := .ok (.bl true) s3) ⟨s3, rfl⟩ fun l1 _ => by
    refine Pk.of_eq ?_
    have n1 := fun s : Store => ne_pair (i := 2) (st := s) ok
    have n2 := fun s : Store => ne_pair (i := 0) (st := s) ok
    simp at k2 hr e0
    simp [g_law, e0, cp113, cp111, hv, n1, n2, e1, hr, k2]
  exact key
end K65

set_option maxRecDepth 100000
set_option maxHeartbeats 0
namespace K65
open PySem PySem.Spec PyProof.Rows L2 DD
structure KTf (K : PySem.W.Frag) (y : Str) : Prop where
  k_NoConic : PySem.W.kitOne K (.ref (He.ga K y)) (.ref (He.ga K "NoConic")) = some (kT y "NoConic")
  k_NoPlace : PySem.W.kitOne K (.ref (He.ga K y)) (.ref (He.ga K "NoPlace")) = some (kT y "NoPlace")
  k_ValueError : PySem.W.kitOne K (.ref (He.ga K y)) (.type "ValueError") = some (kT y "ValueError")
structure Fx (P : Program) (K : PySem.W.Frag) (mg : Str → Option Value) : Prop where
  b_ValueError : mg "ValueError" = none
  b_abs : mg "abs" = none
  b_all : mg "all" = none
  b_any : mg "any" = none
  b_bool : mg "bool" = none
  b_int : mg "int" = none
  b_isinstance : mg "isinstance" = none
  b_len : mg "len" = none
  b_list : mg "list" = none
  b_range : mg "range" = none
  b_repr : mg "repr" = none
  b_set : mg "set" = none
  b_sorted : mg "sorted" = none
  b_str : mg "str" = none
  b_sum : mg "sum" = none
  b_super : mg "super" = none
  b_tuple : mg "tuple" = none
  b_zip : mg "zip" = none
  i_MOST : ∃ t, mg "MOST" = some (.int 1000 t)
  i_MOST_SIGN : ∃ t, mg "MOST_SIGN" = some (.int 1000000000 t)
  i_REAL : ∃ t, mg "REAL" = some (.int 0 t)
  t_BASES : TupG K mg "BASES" [2, 3, 5, 7, 11, 13, 17, 19, 23, 29, 31, 37, 41]
  m_FieldError : mg "FieldError" = some (.ref (He.ga K "FieldError"))
  m_NoConic : mg "NoConic" = some (.ref (He.ga K "NoConic"))
  m_NoPlace : mg "NoPlace" = some (.ref (He.ga K "NoPlace"))
  x_NoConic : Ini0 P K (He.ga K "NoConic")
  x_NoPlace : Ini0 P K (He.ga K "NoPlace")
  ms : ∀ y ∈ excs, mg y = some (.ref (He.ga K y))
  ec : ∀ y ∈ excs, ExcC K (He.ga K y)
  cat : ∀ y ∈ excs, PySem.W.exmOne K (.ref (He.ga K y)) (.ref (He.ga K "FieldError")) = some true
  kt : ∀ y ∈ excs, KTf K y
theorem catF_ok {P : Program} {K : PySem.W.Frag} {mg : Str → Option Value} (B : Fx P K mg) (e : Exc) (b : Bool) (T : Addr) (h : catF e = some b) (hm : mg e.cls = some (.ref T)) : PySem.W.exmOne K (.ref T) (.ref (He.ga K "FieldError")) = some b := by
  obtain ⟨h1, rfl⟩ := catF_in h
  rw [B.ms _ h1] at hm
  cases hm
  exact B.cat _ h1
theorem suite_ok {P : Program} {K : PySem.W.Frag} {mg : Str → Option Value} (B : Fx P K mg) {e : Exc} {T : Addr} (h : catF e = some true) (hm : mg e.cls = some (.ref T)) : ∃ _ : e.cls ∈ excs, T = He.ga K e.cls ∧ ExcC K (He.ga K e.cls) := by
  obtain ⟨h1, _⟩ := catF_in h
  rw [B.ms _ h1] at hm
  cases hm
  exact ⟨h1, rfl, B.ec _ h1⟩
theorem sc__law_hand : FnScope N__law_hand ["script"] (defScope (top 36)) := ⟨rfl, rfl, rfl, by decide +kernel, rfl, by decide +kernel, by decide +kernel⟩
theorem b__law_hand {P : Program} {w : World} {K : PySem.W.Frag} {mg : Str → Option Value} {base : Heap} {f : Addr} {cdv : Value} {A : Around} {outer : List Env} {s : Shared} {H : Hp} {E : XK} (B : Fx P K mg)  (C : Ctx (cxD P w K mg base N__law_hand "_law_hand" (top 36) f cdv A outer s H E) (wE E) 0) : DSs (cxD P w K mg base N__law_hand "_law_hand" (top 36) f cdv A outer s H E) (wE E) (defBody (top 36)) g__law_hand := by
  have SC := sc__law_hand
  exact (ds_cons (ds_setLc (i := 1) (own := [("cell", 2)]) C rfl SC.nd rfl rfl (by first | rfl | exact sw_true rfl rfl rfl rfl) (di_seq (de_slice (dv 0) dp_none (dp_some (de_int)))) (blkOk (by kernel_rfl)) rfl (fun _ _ _ _ _ C => ⟨(dgx_name (by decide) (pg_name SC.nd rfl (.inl rfl) (by first | exact .inl rfl | exact .inr rfl))), dts_nil, (de_callB call_abs cd_abs B.b_abs PyProof.Rows.Boot.«abs» (da_cons (de_callTy call_int1 cd_int B.b_int PyProof.Rows.boot_int (da_cons (dv 2) da_nil)) da_nil))⟩))
  (ds_one (ds_ret (de_lst (da_cons (dv 1) (da_cons (de_int) (da_cons (de_int) (da_cons (de_add (de_int) (de_mul (de_int) (de_callB call_len_seq cd_len B.b_len PyProof.Rows.Boot.«len» (da_cons (dv 1) da_nil)))) (da_cons (de_int) da_nil)))))))))
theorem ok__law_hand {P : Program} {w : World} {K : PySem.W.Frag} {mg : Str → Option Value} {base : Heap} {a : Addr} {fd : FuncData} (B : Fx P K mg) (U : FunD K "_law_hand" "_law_hand" (defArgs (top 36)) (defBody (top 36)) (defScope (top 36)) [] [] a fd) (hm : mg "_law_hand" = some (.ref a))  : DFn P w K mg base "_law_hand" 1 1 F__law_hand :=
  DFn.mk' (fun_of U) hm sc__law_hand (U.bindsN fun _ _ _ _ _ _ us hl => match us, hl with | [_], _ => rfl) rfl (fun cdv A outer s H E C => b__law_hand B  C) (fun ds st _ => viaF_sem 3 g__law_hand Good__law_hand ds st)
theorem sc_is_integer : FnScope N_is_integer ["thing"] (defScope (top 2)) := ⟨rfl, rfl, rfl, by decide +kernel, rfl, by decide +kernel, by decide +kernel⟩
theorem b_is_integer {P : Program} {w : World} {K : PySem.W.Frag} {mg : Str → Option Value} {base : Heap} {f : Addr} {cdv : Value} {A : Around} {outer : List Env} {s : Shared} {H : Hp} {E : XK} (B : Fx P K mg)  (C : Ctx (cxD P w K mg base N_is_integer "is_integer" (top 2) f cdv A outer s H E) (wE E) 0) : DSs (cxD P w K mg base N_is_integer "is_integer" (top 2) f cdv A outer s H E) (wE E) (defBody (top 2)) g_is_integer := by
  have SC := sc_is_integer
  exact (ds_one (ds_ret ((de_and (de_isi .int B.b_isinstance B.b_int PyProof.Rows.boot_int (dv 0)) (de_one (de_not (de_isi .bl B.b_isinstance B.b_bool PyProof.Rows.boot_bool (dv 0))))))))
theorem ok_is_integer {P : Program} {w : World} {K : PySem.W.Frag} {mg : Str → Option Value} {base : Heap} {a : Addr} {fd : FuncData} (B : Fx P K mg) (U : FunD K "is_integer" "is_integer" (defArgs (top 2)) (defBody (top 2)) (defScope (top 2)) [] [] a fd) (hm : mg "is_integer" = some (.ref a))  : DFn P w K mg base "is_integer" 1 1 F_is_integer :=
  DFn.mk' (fun_of U) hm sc_is_integer (U.bindsN fun _ _ _ _ _ _ us hl => match us, hl with | [_], _ => rfl) rfl (fun cdv A outer s H E C => b_is_integer B  C) (fun ds st _ => viaF_sem 1 g_is_integer Good_is_integer ds st)
theorem sc_is_conic : FnScope N_is_conic ["thing"] (defScope (top 25)) := ⟨rfl, rfl, rfl, by decide +kernel, rfl, by decide +kernel, by decide +kernel⟩
theorem b_is_conic {P : Program} {w : World} {K : PySem.W.Frag} {mg : Str → Option Value} {base : Heap} {f : Addr} {cdv : Value} {A : Around} {outer : List Env} {s : Shared} {H : Hp} {E : XK} (B : Fx P K mg) (G_is_integer : DFn P w K mg base "is_integer" 1 1 F_is_integer) (C : Ctx (cxD P w K mg base N_is_conic "is_conic" (top 25) f cdv A outer s H E) (wE E) 1) : DSs (cxD P w K mg base N_is_conic "is_conic" (top 25) f cdv A outer s H E) (wE E) (defBody (top 25)) g_is_conic := by
  have SC := sc_is_conic
  exact (ds_cons (ds_if (PW.pt (dw_or (dt_not (dt_truth (de_isi .tup B.b_isinstance B.b_tuple PyProof.Rows.boot_tuple (dv 0)))) (dw_or1 (dt_c (cm_ne C) (de_callB call_len_seq cd_len B.b_len PyProof.Rows.Boot.«len» (da_cons (dv 0) da_nil)) (de_int))))) (ds_one (ds_ret (de_bl))) ds_nil)
  (ds_one (ds_ret (de_callB (cr_all rfl) cd_all B.b_all PyProof.Rows.boot_all (da_cons (de_lc (own := [("one", 1)]) C rfl SC.nd (di_seq (dv 0)) (blkOk (by kernel_rfl)) rfl (fun _ _ _ _ _ C => ⟨(dgx_name (by decide) (pg_name SC.nd rfl (.inl rfl) (by first | exact .inl rfl | exact .inr rfl))), dts_nil, ((de_and (de_call C G_is_integer (da_cons (dv 1) da_nil)) (de_and (de_c (cm_ne C) (dv 1) (de_int)) (de_one (de_c cm_le (de_callB call_abs cd_abs B.b_abs PyProof.Rows.Boot.«abs» (da_cons (dv 1) da_nil)) (de_globI B.i_MOST))))))⟩)) da_nil)))))
theorem ok_is_conic {P : Program} {w : World} {K : PySem.W.Frag} {mg : Str → Option Value} {base : Heap} {a : Addr} {fd : FuncData} (B : Fx P K mg) (U : FunD K "is_conic" "is_conic" (defArgs (top 25)) (defBody (top 25)) (defScope (top 25)) [] [] a fd) (hm : mg "is_conic" = some (.ref a)) (G_is_integer : DFn P w K mg base "is_integer" 1 1 F_is_integer) : DFn P w K mg base "is_conic" 1 2 F_is_conic :=
  DFn.mk' (fun_of U) hm sc_is_conic (U.bindsN fun _ _ _ _ _ _ us hl => match us, hl with | [_], _ => rfl) rfl (fun cdv A outer s H E C => b_is_conic B G_is_integer C) (fun ds st _ => viaF_sem 2 g_is_conic Good_is_conic ds st)
theorem sc_check_conic : FnScope N_check_conic ["thing"] (defScope (top 26)) := ⟨rfl, rfl, rfl, by decide +kernel, rfl, by decide +kernel, by decide +kernel⟩
theorem b_check_conic {P : Program} {w : World} {K : PySem.W.Frag} {mg : Str → Option Value} {base : Heap} {f : Addr} {cdv : Value} {A : Around} {outer : List Env} {s : Shared} {H : Hp} {E : XK} (B : Fx P K mg) (G_is_conic : DFn P w K mg base "is_conic" 1 2 F_is_conic) (C : Ctx (cxD P w K mg base N_check_conic "check_conic" (top 26) f cdv A outer s H E) (wE E) 2) : DSs (cxD P w K mg base N_check_conic "check_conic" (top 26) f cdv A outer s H E) (wE E) (defBody (top 26)) g_check_conic := by
  have SC := sc_check_conic
  exact (ds_one (ds_if (dt_not (dt_truth (de_call C G_is_conic (da_cons (dv 0) da_nil)))) (ds_one (ds_raise C B.x_NoConic B.m_NoConic B.b_super)) ds_nil))
theorem ok_check_conic {P : Program} {w : World} {K : PySem.W.Frag} {mg : Str → Option Value} {base : Heap} {a : Addr} {fd : FuncData} (B : Fx P K mg) (U : FunD K "check_conic" "check_conic" (defArgs (top 26)) (defBody (top 26)) (defScope (top 26)) [] [] a fd) (hm : mg "check_conic" = some (.ref a)) (G_is_conic : DFn P w K mg base "is_conic" 1 2 F_is_conic) : DFn P w K mg base "check_conic" 1 3 F_check_conic :=
  DFn.mk' (fun_of U) hm sc_check_conic (U.bindsN fun _ _ _ _ _ _ us hl => match us, hl with | [_], _ => rfl) rfl (fun cdv A outer s H E C => b_check_conic B G_is_conic C) (fun ds st _ => viaF_sem 1 g_check_conic Good_check_conic ds st)
theorem sc_prime_divisors : FnScope N_prime_divisors ["number"] (defScope (top 8)) := ⟨rfl, rfl, rfl, by decide +kernel, rfl, by decide +kernel, by decide +kernel⟩
theorem b_prime_divisors {P : Program} {w : World} {K : PySem.W.Frag} {mg : Str → Option Value} {base : Heap} {f : Addr} {cdv : Value} {A : Around} {outer : List Env} {s : Shared} {H : Hp} {E : XK} (B : Fx P K mg)  (C : Ctx (cxD P w K mg base N_prime_divisors "prime_divisors" (top 8) f cdv A outer s H E) (wE E) 0) : DSs (cxD P w K mg base N_prime_divisors "prime_divisors" (top 8) f cdv A outer s H E) (wE E) (defBody (top 8)) g_prime_divisors := by
  have SC := sc_prime_divisors
  exact (ds_cons (ds_par (i := 1) (j := 2) rfl SC.nd rfl rfl (by decide) rfl rfl (da_cons (de_lst da_nil) (da_cons (de_int) da_nil)))
  (ds_cons (ds_whileC C (dt_c cm_le (de_mul (dv 2) (dv 2)) (dv 0)) (ds_cons (ds_if (dt_c (cm_eq C) (de_mod (dv 0) (dv 2)) (de_int)) (ds_cons (ds_expr (de_append (dv 1) (da_cons (dv 2) da_nil)))
  (ds_one (ds_whileC C (dt_c (cm_eq C) (de_mod (dv 0) (dv 2)) (de_int)) (ds_one (ds_set (i := 0) SC.nd rfl (by first | exact .inl rfl | exact .inr rfl) (de_fdiv (dv 0) (dv 2))))))) ds_nil)
  (ds_one (ds_set (i := 2) SC.nd rfl (by first | exact .inl rfl | exact .inr rfl) (de_add (dv 2) (de_if (dt_c (cm_eq C) (dv 2) (de_int)) (de_int) (de_int)))))))
  (ds_cons (ds_if (dt_c cm_gt (dv 0) (de_int)) (ds_one (ds_expr (de_append (dv 1) (da_cons (dv 0) da_nil)))) ds_nil)
  (ds_one (ds_ret (dv 1))))))
theorem ok_prime_divisors {P : Program} {w : World} {K : PySem.W.Frag} {mg : Str → Option Value} {base : Heap} {a : Addr} {fd : FuncData} (B : Fx P K mg) (U : FunD K "prime_divisors" "prime_divisors" (defArgs (top 8)) (defBody (top 8)) (defScope (top 8)) [] [] a fd) (hm : mg "prime_divisors" = some (.ref a))  : DFn P w K mg base "prime_divisors" 1 1 F_prime_divisors :=
  DFn.mk' (fun_of U) hm sc_prime_divisors (U.bindsN fun _ _ _ _ _ _ us hl => match us, hl with | [_], _ => rfl) rfl (fun cdv A outer s H E C => b_prime_divisors B  C) (fun ds st _ => viaF_sem 3 g_prime_divisors Good_prime_divisors ds st)
theorem sc_places_for : FnScope N_places_for ["numbers"] (defScope (top 24)) := ⟨rfl, rfl, rfl, by decide +kernel, rfl, by decide +kernel, by decide +kernel⟩
theorem b_places_for {P : Program} {w : World} {K : PySem.W.Frag} {mg : Str → Option Value} {base : Heap} {f : Addr} {cdv : Value} {A : Around} {outer : List Env} {s : Shared} {H : Hp} {E : XK} (B : Fx P K mg) (G_prime_divisors : DFn P w K mg base "prime_divisors" 1 1 F_prime_divisors) (C : Ctx (cxD P w K mg base N_places_for "places_for" (top 24) f cdv A outer s H E) (wE E) 1) : DSs (cxD P w K mg base N_places_for "places_for" (top 24) f cdv A outer s H E) (wE E) (defBody (top 24)) g_places_for := by
  have SC := sc_places_for
  exact (ds_cons (ds_set (i := 1) SC.nd rfl (by first | exact .inl rfl | exact .inr rfl) (de_disp (dps_cons (de_globI B.i_REAL) (de_bl) (dps_cons (de_int) (de_bl) dps_nil))))
  (ds_cons (ds_forC C rfl (di_seq (dv 0)) (dg_name SC.nd rfl (by first | exact .inl rfl | exact .inr rfl)) (ds_one (ds_expr (de_update (dv 1) (de_dc (own := [("p", 3)]) C rfl SC.nd (di_seq (de_call C G_prime_divisors (da_cons (de_callB call_abs cd_abs B.b_abs PyProof.Rows.Boot.«abs» (da_cons (dv 2) da_nil)) da_nil))) (blkOk (by kernel_rfl)) rfl (fun _ _ _ _ _ C => ⟨(dgx_name (by decide) (pg_name SC.nd rfl (.inl rfl) (by first | exact .inl rfl | exact .inr rfl))), dts_nil, (dv 3), (de_bl)⟩))))))
  (ds_one (ds_ret (de_sortD (dv 1) B.b_sorted)))))
theorem ok_places_for {P : Program} {w : World} {K : PySem.W.Frag} {mg : Str → Option Value} {base : Heap} {a : Addr} {fd : FuncData} (B : Fx P K mg) (U : FunD K "places_for" "places_for" (defArgs (top 24)) (defBody (top 24)) (defScope (top 24)) [] [] a fd) (hm : mg "places_for" = some (.ref a)) (G_prime_divisors : DFn P w K mg base "prime_divisors" 1 1 F_prime_divisors) : DFn P w K mg base "places_for" 1 2 F_places_for :=
  DFn.mk' (fun_of U) hm sc_places_for (U.bindsN fun _ _ _ _ _ _ us hl => match us, hl with | [_], _ => rfl) rfl (fun cdv A outer s H E C => b_places_for B G_prime_divisors C) (fun ds st _ => viaF_sem 4 g_places_for Good_places_for ds st)
theorem sc_taken_out : FnScope N_taken_out ["number", "p"] (defScope (top 22)) := ⟨rfl, rfl, rfl, by decide +kernel, rfl, by decide +kernel, by decide +kernel⟩
theorem b_taken_out {P : Program} {w : World} {K : PySem.W.Frag} {mg : Str → Option Value} {base : Heap} {f : Addr} {cdv : Value} {A : Around} {outer : List Env} {s : Shared} {H : Hp} {E : XK} (B : Fx P K mg)  (C : Ctx (cxD P w K mg base N_taken_out "taken_out" (top 22) f cdv A outer s H E) (wE E) 0) : DSs (cxD P w K mg base N_taken_out "taken_out" (top 22) f cdv A outer s H E) (wE E) (defBody (top 22)) g_taken_out := by
  have SC := sc_taken_out
  exact (ds_cons (ds_set (i := 2) SC.nd rfl (by first | exact .inl rfl | exact .inr rfl) (de_int))
  (ds_cons (ds_whileC C (dt_c (cm_eq C) (de_mod (dv 0) (dv 1)) (de_int)) (ds_one (ds_par (i := 0) (j := 2) rfl SC.nd rfl rfl (by decide) rfl rfl (da_cons (de_fdiv (dv 0) (dv 1)) (da_cons (de_add (dv 2) (de_int)) da_nil)))))
  (ds_one (ds_ret (de_tup (da_cons (dv 2) (da_cons (dv 0) da_nil)))))))
theorem ok_taken_out {P : Program} {w : World} {K : PySem.W.Frag} {mg : Str → Option Value} {base : Heap} {a : Addr} {fd : FuncData} (B : Fx P K mg) (U : FunD K "taken_out" "taken_out" (defArgs (top 22)) (defBody (top 22)) (defScope (top 22)) [] [] a fd) (hm : mg "taken_out" = some (.ref a))  : DFn P w K mg base "taken_out" 2 1 F_taken_out :=
  DFn.mk' (fun_of U) hm sc_taken_out (U.bindsN fun _ _ _ _ _ _ us hl => match us, hl with | [_, _], _ => rfl) rfl (fun cdv A outer s H E C => b_taken_out B  C) (fun ds st _ => viaF_sem 3 g_taken_out Good_taken_out ds st)
theorem sc_by_four : FnScope N_by_four ["number"] (defScope (top 14)) := ⟨rfl, rfl, rfl, by decide +kernel, rfl, by decide +kernel, by decide +kernel⟩
theorem b_by_four {P : Program} {w : World} {K : PySem.W.Frag} {mg : Str → Option Value} {base : Heap} {f : Addr} {cdv : Value} {A : Around} {outer : List Env} {s : Shared} {H : Hp} {E : XK} (B : Fx P K mg)  (C : Ctx (cxD P w K mg base N_by_four "by_four" (top 14) f cdv A outer s H E) (wE E) 0) : DSs (cxD P w K mg base N_by_four "by_four" (top 14) f cdv A outer s H E) (wE E) (defBody (top 14)) g_by_four := by
  have SC := sc_by_four
  exact (ds_one (ds_ret (de_if (dt_c (cm_eq C) (de_mod (dv 0) (de_int)) (de_int)) (de_int) (de_neg (de_int)))))
theorem ok_by_four {P : Program} {w : World} {K : PySem.W.Frag} {mg : Str → Option Value} {base : Heap} {a : Addr} {fd : FuncData} (B : Fx P K mg) (U : FunD K "by_four" "by_four" (defArgs (top 14)) (defBody (top 14)) (defScope (top 14)) [] [] a fd) (hm : mg "by_four" = some (.ref a))  : DFn P w K mg base "by_four" 1 1 F_by_four :=
  DFn.mk' (fun_of U) hm sc_by_four (U.bindsN fun _ _ _ _ _ _ us hl => match us, hl with | [_], _ => rfl) rfl (fun cdv A outer s H E C => b_by_four B  C) (fun ds st _ => viaF_sem 1 g_by_four Good_by_four ds st)
theorem sc_by_eight : FnScope N_by_eight ["number"] (defScope (top 15)) := ⟨rfl, rfl, rfl, by decide +kernel, rfl, by decide +kernel, by decide +kernel⟩
theorem b_by_eight {P : Program} {w : World} {K : PySem.W.Frag} {mg : Str → Option Value} {base : Heap} {f : Addr} {cdv : Value} {A : Around} {outer : List Env} {s : Shared} {H : Hp} {E : XK} (B : Fx P K mg)  (C : Ctx (cxD P w K mg base N_by_eight "by_eight" (top 15) f cdv A outer s H E) (wE E) 0) : DSs (cxD P w K mg base N_by_eight "by_eight" (top 15) f cdv A outer s H E) (wE E) (defBody (top 15)) g_by_eight := by
  have SC := sc_by_eight
  exact (ds_one (ds_ret (de_if (dt_c (cm_inV C) (de_mod (dv 0) (de_int)) (de_tup (da_cons (de_int) (da_cons (de_int) da_nil)))) (de_int) (de_neg (de_int)))))
theorem ok_by_eight {P : Program} {w : World} {K : PySem.W.Frag} {mg : Str → Option Value} {base : Heap} {a : Addr} {fd : FuncData} (B : Fx P K mg) (U : FunD K "by_eight" "by_eight" (defArgs (top 15)) (defBody (top 15)) (defScope (top 15)) [] [] a fd) (hm : mg "by_eight" = some (.ref a))  : DFn P w K mg base "by_eight" 1 1 F_by_eight :=
  DFn.mk' (fun_of U) hm sc_by_eight (U.bindsN fun _ _ _ _ _ _ us hl => match us, hl with | [_], _ => rfl) rfl (fun cdv A outer s H E C => b_by_eight B  C) (fun ds st _ => viaF_sem 1 g_by_eight Good_by_eight ds st)
theorem sc_power_of : FnScope N_power_of ["number", "many", "p"] (defScope (top 5)) := ⟨rfl, rfl, rfl, by decide +kernel, rfl, by decide +kernel, by decide +kernel⟩
theorem b_power_of {P : Program} {w : World} {K : PySem.W.Frag} {mg : Str → Option Value} {base : Heap} {f : Addr} {cdv : Value} {A : Around} {outer : List Env} {s : Shared} {H : Hp} {E : XK} (B : Fx P K mg)  (C : Ctx (cxD P w K mg base N_power_of "power_of" (top 5) f cdv A outer s H E) (wE E) 0) : DSs (cxD P w K mg base N_power_of "power_of" (top 5) f cdv A outer s H E) (wE E) (defBody (top 5)) g_power_of := by
  have SC := sc_power_of
  exact (ds_cons (ds_par (i := 3) (j := 4) rfl SC.nd rfl rfl (by decide) rfl rfl (da_cons (de_mod (de_int) (dv 2)) (da_cons (de_mod (dv 0) (dv 2)) da_nil)))
  (ds_cons (ds_whileC C (dt_c cm_gt (dv 1) (de_int)) (ds_cons (ds_if (dt_c (cm_eq C) (de_mod (dv 1) (de_int)) (de_int)) (ds_one (ds_set (i := 3) SC.nd rfl (by first | exact .inl rfl | exact .inr rfl) (de_mod (de_mul (dv 3) (dv 4)) (dv 2)))) ds_nil)
  (ds_one (ds_par (i := 4) (j := 1) rfl SC.nd rfl rfl (by decide) rfl rfl (da_cons (de_mod (de_mul (dv 4) (dv 4)) (dv 2)) (da_cons (de_fdiv (dv 1) (de_int)) da_nil))))))
  (ds_one (ds_ret (dv 3)))))
theorem ok_power_of {P : Program} {w : World} {K : PySem.W.Frag} {mg : Str → Option Value} {base : Heap} {a : Addr} {fd : FuncData} (B : Fx P K mg) (U : FunD K "power_of" "power_of" (defArgs (top 5)) (defBody (top 5)) (defScope (top 5)) [] [] a fd) (hm : mg "power_of" = some (.ref a))  : DFn P w K mg base "power_of" 3 1 F_power_of :=
  DFn.mk' (fun_of U) hm sc_power_of (U.bindsN fun _ _ _ _ _ _ us hl => match us, hl with | [_, _, _], _ => rfl) rfl (fun cdv A outer s H E C => b_power_of B  C) (fun ds st _ => viaF_sem 5 g_power_of Good_power_of ds st)
theorem sc_by_prime : FnScope N_by_prime ["number", "p"] (defScope (top 16)) := ⟨rfl, rfl, rfl, by decide +kernel, rfl, by decide +kernel, by decide +kernel⟩
theorem b_by_prime {P : Program} {w : World} {K : PySem.W.Frag} {mg : Str → Option Value} {base : Heap} {f : Addr} {cdv : Value} {A : Around} {outer : List Env} {s : Shared} {H : Hp} {E : XK} (B : Fx P K mg) (G_power_of : DFn P w K mg base "power_of" 3 1 F_power_of) (C : Ctx (cxD P w K mg base N_by_prime "by_prime" (top 16) f cdv A outer s H E) (wE E) 1) : DSs (cxD P w K mg base N_by_prime "by_prime" (top 16) f cdv A outer s H E) (wE E) (defBody (top 16)) g_by_prime := by
  have SC := sc_by_prime
  exact (ds_one (ds_ret (de_if (dt_c (cm_eq C) (de_call C G_power_of (da_cons (dv 0) (da_cons (de_fdiv (de_sub (dv 1) (de_int)) (de_int)) (da_cons (dv 1) da_nil)))) (de_int)) (de_int) (de_neg (de_int)))))
theorem ok_by_prime {P : Program} {w : World} {K : PySem.W.Frag} {mg : Str → Option Value} {base : Heap} {a : Addr} {fd : FuncData} (B : Fx P K mg) (U : FunD K "by_prime" "by_prime" (defArgs (top 16)) (defBody (top 16)) (defScope (top 16)) [] [] a fd) (hm : mg "by_prime" = some (.ref a)) (G_power_of : DFn P w K mg base "power_of" 3 1 F_power_of) : DFn P w K mg base "by_prime" 2 2 F_by_prime :=
  DFn.mk' (fun_of U) hm sc_by_prime (U.bindsN fun _ _ _ _ _ _ us hl => match us, hl with | [_, _], _ => rfl) rfl (fun cdv A outer s H E C => b_by_prime B G_power_of C) (fun ds st _ => viaF_sem 2 g_by_prime Good_by_prime ds st)
theorem sc_sign_at_place : FnScope N_sign_at_place ["one", "other", "p"] (defScope (top 23)) := ⟨rfl, rfl, rfl, by decide +kernel, rfl, by decide +kernel, by decide +kernel⟩
theorem b_sign_at_place {P : Program} {w : World} {K : PySem.W.Frag} {mg : Str → Option Value} {base : Heap} {f : Addr} {cdv : Value} {A : Around} {outer : List Env} {s : Shared} {H : Hp} {E : XK} (B : Fx P K mg) (G_taken_out : DFn P w K mg base "taken_out" 2 1 F_taken_out) (G_by_four : DFn P w K mg base "by_four" 1 1 F_by_four) (G_by_eight : DFn P w K mg base "by_eight" 1 1 F_by_eight) (G_by_prime : DFn P w K mg base "by_prime" 2 2 F_by_prime) (C : Ctx (cxD P w K mg base N_sign_at_place "sign_at_place" (top 23) f cdv A outer s H E) (wE E) 2) : DSs (cxD P w K mg base N_sign_at_place "sign_at_place" (top 23) f cdv A outer s H E) (wE E) (defBody (top 23)) g_sign_at_place := by
  have SC := sc_sign_at_place
  exact (ds_cons (ds_if (dt_c (cm_eq C) (dv 2) (de_globI B.i_REAL)) (ds_one (ds_ret (de_if (PW.pt (dw_and (dt_c cm_lt (dv 0) (de_int)) (dw_and1 (dt_c cm_lt (dv 1) (de_int))))) (de_neg (de_int)) (de_int)))) ds_nil)
  (ds_cons (ds_asg (de_call C G_taken_out (da_cons (dv 0) (da_cons (dv 2) da_nil))) (dg_tup rfl (dgs_cons (dg_name SC.nd rfl (by first | exact .inl rfl | exact .inr rfl)) (dgs_cons (dg_name SC.nd rfl (by first | exact .inl rfl | exact .inr rfl)) dgs_nil))))
  (ds_cons (ds_asg (de_call C G_taken_out (da_cons (dv 1) (da_cons (dv 2) da_nil))) (dg_tup rfl (dgs_cons (dg_name SC.nd rfl (by first | exact .inl rfl | exact .inr rfl)) (dgs_cons (dg_name SC.nd rfl (by first | exact .inl rfl | exact .inr rfl)) dgs_nil))))
  (ds_cons (ds_if (dt_c (cm_eq C) (dv 2) (de_int)) (ds_cons (ds_set (i := 7) SC.nd rfl (by first | exact .inl rfl | exact .inr rfl) (de_if (PW.pt (dw_and (dt_c (cm_eq C) (de_call C G_by_four (da_cons (dv 4) da_nil)) (de_neg (de_int))) (dw_and1 (dt_c (cm_eq C) (de_call C G_by_four (da_cons (dv 6) da_nil)) (de_neg (de_int)))))) (de_neg (de_int)) (de_int)))
  (ds_cons (ds_set (i := 7) SC.nd rfl (by first | exact .inl rfl | exact .inr rfl) (de_mul (dv 7) (de_if (dt_c (cm_eq C) (de_mod (dv 3) (de_int)) (de_int)) (de_call C G_by_eight (da_cons (dv 6) da_nil)) (de_int))))
  (ds_one (ds_ret (de_mul (dv 7) (de_if (dt_c (cm_eq C) (de_mod (dv 5) (de_int)) (de_int)) (de_call C G_by_eight (da_cons (dv 4) da_nil)) (de_int))))))) ds_nil)
  (ds_cons (ds_set (i := 7) SC.nd rfl (by first | exact .inl rfl | exact .inr rfl) (de_if (PW.pt (dw_and (dt_c (cm_eq C) (de_mod (dv 3) (de_int)) (de_int)) (dw_and (dt_c (cm_eq C) (de_mod (dv 5) (de_int)) (de_int)) (dw_and1 (dt_c (cm_eq C) (de_mod (dv 2) (de_int)) (de_int)))))) (de_neg (de_int)) (de_int)))
  (ds_cons (ds_set (i := 7) SC.nd rfl (by first | exact .inl rfl | exact .inr rfl) (de_mul (dv 7) (de_if (dt_c (cm_eq C) (de_mod (dv 5) (de_int)) (de_int)) (de_call C G_by_prime (da_cons (dv 4) (da_cons (dv 2) da_nil))) (de_int))))
  (ds_one (ds_ret (de_mul (dv 7) (de_if (dt_c (cm_eq C) (de_mod (dv 3) (de_int)) (de_int)) (de_call C G_by_prime (da_cons (dv 6) (da_cons (dv 2) da_nil))) (de_int)))))))))))
theorem ok_sign_at_place {P : Program} {w : World} {K : PySem.W.Frag} {mg : Str → Option Value} {base : Heap} {a : Addr} {fd : FuncData} (B : Fx P K mg) (U : FunD K "sign_at_place" "sign_at_place" (defArgs (top 23)) (defBody (top 23)) (defScope (top 23)) [] [] a fd) (hm : mg "sign_at_place" = some (.ref a)) (G_taken_out : DFn P w K mg base "taken_out" 2 1 F_taken_out) (G_by_four : DFn P w K mg base "by_four" 1 1 F_by_four) (G_by_eight : DFn P w K mg base "by_eight" 1 1 F_by_eight) (G_by_prime : DFn P w K mg base "by_prime" 2 2 F_by_prime) : DFn P w K mg base "sign_at_place" 3 3 F_sign_at_place :=
  DFn.mk' (fun_of U) hm sc_sign_at_place (U.bindsN fun _ _ _ _ _ _ us hl => match us, hl with | [_, _, _], _ => rfl) rfl (fun cdv A outer s H E C => b_sign_at_place B G_taken_out G_by_four G_by_eight G_by_prime C) (fun ds st _ => viaF_sem 8 g_sign_at_place Good_sign_at_place ds st)
theorem sc_barring_places : FnScope N_barring_places ["conic"] (defScope (top 27)) := ⟨rfl, rfl, rfl, by decide +kernel, rfl, by decide +kernel, by decide +kernel⟩
theorem b_barring_places {P : Program} {w : World} {K : PySem.W.Frag} {mg : Str → Option Value} {base : Heap} {f : Addr} {cdv : Value} {A : Around} {outer : List Env} {s : Shared} {H : Hp} {E : XK} (B : Fx P K mg) (G_places_for : DFn P w K mg base "places_for" 1 2 F_places_for) (G_sign_at_place : DFn P w K mg base "sign_at_place" 3 3 F_sign_at_place) (C : Ctx (cxD P w K mg base N_barring_places "barring_places" (top 27) f cdv A outer s H E) (wE E) 3) : DSs (cxD P w K mg base N_barring_places "barring_places" (top 27) f cdv A outer s H E) (wE E) (defBody (top 27)) g_barring_places := by
  have SC := sc_barring_places
  exact (ds_cons (ds_asg (dv 0) (dg_tup rfl (dgs_cons (dg_name SC.nd rfl (by first | exact .inl rfl | exact .inr rfl)) (dgs_cons (dg_name SC.nd rfl (by first | exact .inl rfl | exact .inr rfl)) (dgs_cons (dg_name SC.nd rfl (by first | exact .inl rfl | exact .inr rfl)) dgs_nil)))))
  (ds_one (ds_ret (de_lc (own := [("p", 4)]) C rfl SC.nd (di_seq (de_call C G_places_for (da_cons (dv 0) da_nil))) (blkOk (by kernel_rfl)) rfl (fun _ _ _ _ _ C => ⟨(dgx_name (by decide) (pg_name SC.nd rfl (.inl rfl) (by first | exact .inl rfl | exact .inr rfl))), (dts_one (dt_c (cm_eq C) (de_call C G_sign_at_place (da_cons (de_mul (de_neg (dv 1)) (dv 3)) (da_cons (de_mul (de_neg (dv 2)) (dv 3)) (da_cons (dv 4) da_nil)))) (de_neg (de_int)))), (dv 4)⟩)))))
theorem ok_barring_places {P : Program} {w : World} {K : PySem.W.Frag} {mg : Str → Option Value} {base : Heap} {a : Addr} {fd : FuncData} (B : Fx P K mg) (U : FunD K "barring_places" "barring_places" (defArgs (top 27)) (defBody (top 27)) (defScope (top 27)) [] [] a fd) (hm : mg "barring_places" = some (.ref a)) (G_places_for : DFn P w K mg base "places_for" 1 2 F_places_for) (G_sign_at_place : DFn P w K mg base "sign_at_place" 3 3 F_sign_at_place) : DFn P w K mg base "barring_places" 1 4 F_barring_places :=
  DFn.mk' (fun_of U) hm sc_barring_places (U.bindsN fun _ _ _ _ _ _ us hl => match us, hl with | [_], _ => rfl) rfl (fun cdv A outer s H E C => b_barring_places B G_places_for G_sign_at_place C) (fun ds st _ => viaF_sem 5 g_barring_places Good_barring_places ds st)
theorem sc_free_of_squares : FnScope N_free_of_squares ["number"] (defScope (top 21)) := ⟨rfl, rfl, rfl, by decide +kernel, rfl, by decide +kernel, by decide +kernel⟩
theorem b_free_of_squares {P : Program} {w : World} {K : PySem.W.Frag} {mg : Str → Option Value} {base : Heap} {f : Addr} {cdv : Value} {A : Around} {outer : List Env} {s : Shared} {H : Hp} {E : XK} (B : Fx P K mg) (G_prime_divisors : DFn P w K mg base "prime_divisors" 1 1 F_prime_divisors) (C : Ctx (cxD P w K mg base N_free_of_squares "free_of_squares" (top 21) f cdv A outer s H E) (wE E) 1) : DSs (cxD P w K mg base N_free_of_squares "free_of_squares" (top 21) f cdv A outer s H E) (wE E) (defBody (top 21)) g_free_of_squares := by
  have SC := sc_free_of_squares
  exact (ds_cons (ds_par (i := 1) (j := 2) rfl SC.nd rfl rfl (by decide) rfl rfl (da_cons (de_callB call_abs cd_abs B.b_abs PyProof.Rows.Boot.«abs» (da_cons (dv 0) da_nil)) (da_cons (de_int) da_nil)))
  (ds_cons (ds_forC C rfl (di_seq (de_call C G_prime_divisors (da_cons (dv 1) da_nil))) (dg_name SC.nd rfl (by first | exact .inl rfl | exact .inr rfl)) (ds_one (ds_whileC C (dt_c (cm_eq C) (de_mod (dv 1) (de_mul (dv 3) (dv 3))) (de_int)) (ds_one (ds_par (i := 1) (j := 2) rfl SC.nd rfl rfl (by decide) rfl rfl (da_cons (de_fdiv (dv 1) (de_mul (dv 3) (dv 3))) (da_cons (de_mul (dv 2) (dv 3)) da_nil)))))))
  (ds_one (ds_ret (de_tup (da_cons (de_if (dt_c cm_gt (dv 0) (de_int)) (dv 1) (de_neg (dv 1))) (da_cons (dv 2) da_nil)))))))
theorem ok_free_of_squares {P : Program} {w : World} {K : PySem.W.Frag} {mg : Str → Option Value} {base : Heap} {a : Addr} {fd : FuncData} (B : Fx P K mg) (U : FunD K "free_of_squares" "free_of_squares" (defArgs (top 21)) (defBody (top 21)) (defScope (top 21)) [] [] a fd) (hm : mg "free_of_squares" = some (.ref a)) (G_prime_divisors : DFn P w K mg base "prime_divisors" 1 1 F_prime_divisors) : DFn P w K mg base "free_of_squares" 1 2 F_free_of_squares :=
  DFn.mk' (fun_of U) hm sc_free_of_squares (U.bindsN fun _ _ _ _ _ _ us hl => match us, hl with | [_], _ => rfl) rfl (fun cdv A outer s H E C => b_free_of_squares B G_prime_divisors C) (fun ds st _ => viaF_sem 4 g_free_of_squares Good_free_of_squares ds st)
theorem sc_square_root : FnScope N_square_root ["number", "modulus"] (defScope (top 28)) := ⟨rfl, rfl, rfl, by decide +kernel, rfl, by decide +kernel, by decide +kernel⟩
theorem b_square_root {P : Program} {w : World} {K : PySem.W.Frag} {mg : Str → Option Value} {base : Heap} {f : Addr} {cdv : Value} {A : Around} {outer : List Env} {s : Shared} {H : Hp} {E : XK} (B : Fx P K mg)  (C : Ctx (cxD P w K mg base N_square_root "square_root" (top 28) f cdv A outer s H E) (wE E) 0) : DSs (cxD P w K mg base N_square_root "square_root" (top 28) f cdv A outer s H E) (wE E) (defBody (top 28)) g_square_root := by
  have SC := sc_square_root
  exact (ds_cons (ds_forC C rfl (di_range1 B.b_range (da_cons (de_add (de_fdiv (dv 1) (de_int)) (de_int)) da_nil)) (dg_name SC.nd rfl (by first | exact .inl rfl | exact .inr rfl)) (ds_one (ds_if (dt_c (cm_eq C) (de_mod (de_sub (de_mul (dv 2) (dv 2)) (dv 0)) (dv 1)) (de_int)) (ds_one (ds_ret (dv 2))) ds_nil)))
  (ds_one (ds_ret (de_non))))
theorem ok_square_root {P : Program} {w : World} {K : PySem.W.Frag} {mg : Str → Option Value} {base : Heap} {a : Addr} {fd : FuncData} (B : Fx P K mg) (U : FunD K "square_root" "square_root" (defArgs (top 28)) (defBody (top 28)) (defScope (top 28)) [] [] a fd) (hm : mg "square_root" = some (.ref a))  : DFn P w K mg base "square_root" 2 1 F_square_root :=
  DFn.mk' (fun_of U) hm sc_square_root (U.bindsN fun _ _ _ _ _ _ us hl => match us, hl with | [_, _], _ => rfl) rfl (fun cdv A outer s H E C => b_square_root B  C) (fun ds st _ => viaF_sem 3 g_square_root Good_square_root ds st)
theorem sc_descended : FnScope N_descended ["one", "other"] (defScope (top 30)) := ⟨rfl, rfl, rfl, by decide +kernel, rfl, by decide +kernel, by decide +kernel⟩
theorem b_descended {P : Program} {w : World} {K : PySem.W.Frag} {mg : Str → Option Value} {base : Heap} {f : Addr} {cdv : Value} {A : Around} {outer : List Env} {s : Shared} {H : Hp} {E : XK} {F_descended F_point_for : List D → Store → Out D} {k j_point_for : Nat} (B : Fx P K mg) (G_square_root : DFn P w K mg base "square_root" 2 1 F_square_root) (G_free_of_squares : DFn P w K mg base "free_of_squares" 1 2 F_free_of_squares) (G_point_for : DFn P w K mg base "point_for" 2 j_point_for F_point_for) (h_point_for : j_point_for ≤ k) (C : Ctx (cxD P w K mg base N_descended "descended" (top 30) f cdv A outer s H E) (wE E) k) (hk : 2 ≤ k) : DSs (cxD P w K mg base N_descended "descended" (top 30) f cdv A outer s H E) (wE E) (defBody (top 30)) (g_descended F_descended F_point_for) := by
  have SC := sc_descended
  exact (ds_cons (ds_set (i := 2) SC.nd rfl (by first | exact .inl rfl | exact .inr rfl) (de_call C G_square_root (da_cons (de_mod (dv 0) (de_callB call_abs cd_abs B.b_abs PyProof.Rows.Boot.«abs» (da_cons (dv 1) da_nil))) (da_cons (de_callB call_abs cd_abs B.b_abs PyProof.Rows.Boot.«abs» (da_cons (dv 1) da_nil)) da_nil)) (by omega)))
  (ds_cons (ds_asg (de_call C G_free_of_squares (da_cons (de_fdiv (de_sub (de_mul (dv 2) (dv 2)) (dv 0)) (dv 1)) da_nil) (by omega)) (dg_tup rfl (dgs_cons (dg_name SC.nd rfl (by first | exact .inl rfl | exact .inr rfl)) (dgs_cons (dg_name SC.nd rfl (by first | exact .inl rfl | exact .inr rfl)) dgs_nil))))
  (ds_cons (ds_asg (de_call C G_point_for (da_cons (dv 0) (da_cons (dv 3) da_nil)) (by omega)) (dg_tup rfl (dgs_cons (dg_name SC.nd rfl (by first | exact .inl rfl | exact .inr rfl)) (dgs_cons (dg_name SC.nd rfl (by first | exact .inl rfl | exact .inr rfl)) (dgs_cons (dg_name SC.nd rfl (by first | exact .inl rfl | exact .inr rfl)) dgs_nil)))))
  (ds_one (ds_ret (de_tup (da_cons (de_add (dv 7) (de_mul (dv 2) (dv 5))) (da_cons (de_mul (de_mul (dv 3) (dv 4)) (dv 6)) (da_cons (de_add (de_mul (dv 2) (dv 7)) (de_mul (dv 0) (dv 5))) da_nil)))))))))
theorem ok_descended {P : Program} {w : World} {K : PySem.W.Frag} {mg : Str → Option Value} {base : Heap} {a_descended : Addr} {fd_descended : FuncData} {k : Nat} {F : List D → Store → Out D} (B : Fx P K mg) (U_descended : FunD K "descended" "descended" (defArgs (top 30)) (defBody (top 30)) (defScope (top 30)) [] [] a_descended fd_descended) (m_descended : mg "descended" = some (.ref a_descended)) (G_square_root : DFn P w K mg base "square_root" 2 1 F_square_root) (G_free_of_squares : DFn P w K mg base "free_of_squares" 1 2 F_free_of_squares) (G_point_for : DFn P w K mg base "point_for" 2 k F) (hk : 2 ≤ k) : DFn P w K mg base "descended" 2 (k + 1) (R_descended F) :=
  DFn.mk' (fun_of U_descended) m_descended sc_descended (U_descended.bindsN fun _ _ _ _ _ _ us hl => match us, hl with | [_, _], _ => rfl) rfl (fun cdv A outer s H E C => b_descended B G_square_root G_free_of_squares G_point_for (Nat.le_refl _) C hk) (fun ds st _ => viaF_sem 8 (g_descended (fun _ _ => .bad) F) Good_descended ds st)
theorem sc_point_for : FnScope N_point_for ["one", "other"] (defScope (top 29)) := ⟨rfl, rfl, rfl, by decide +kernel, rfl, by decide +kernel, by decide +kernel⟩
theorem b_point_for {P : Program} {w : World} {K : PySem.W.Frag} {mg : Str → Option Value} {base : Heap} {f : Addr} {cdv : Value} {A : Around} {outer : List Env} {s : Shared} {H : Hp} {E : XK} {F_descended F_point_for : List D → Store → Out D} {k j_descended j_point_for : Nat} (B : Fx P K mg) (G_square_root : DFn P w K mg base "square_root" 2 1 F_square_root) (G_free_of_squares : DFn P w K mg base "free_of_squares" 1 2 F_free_of_squares) (G_descended : DFn P w K mg base "descended" 2 j_descended F_descended) (h_descended : j_descended ≤ k) (G_point_for : DFn P w K mg base "point_for" 2 j_point_for F_point_for) (h_point_for : j_point_for ≤ k) (C : Ctx (cxD P w K mg base N_point_for "point_for" (top 29) f cdv A outer s H E) (wE E) k) (hk : 2 ≤ k) : DSs (cxD P w K mg base N_point_for "point_for" (top 29) f cdv A outer s H E) (wE E) (defBody (top 29)) (g_point_for F_descended F_point_for) := by
  have SC := sc_point_for
  exact (ds_cons (ds_if (dt_c (cm_eq C) (dv 0) (de_int)) (ds_one (ds_ret (de_tup (da_cons (de_int) (da_cons (de_int) (da_cons (de_int) da_nil)))))) ds_nil)
  (ds_cons (ds_if (dt_c (cm_eq C) (dv 1) (de_int)) (ds_one (ds_ret (de_tup (da_cons (de_int) (da_cons (de_int) (da_cons (de_int) da_nil)))))) ds_nil)
  (ds_cons (ds_if (dt_c (cm_eq C) (dv 0) (de_neg (dv 1))) (ds_one (ds_ret (de_tup (da_cons (de_int) (da_cons (de_int) (da_cons (de_int) da_nil)))))) ds_nil)
  (ds_cons (ds_if (dt_c (cm_eq C) (dv 0) (dv 1)) (ds_cons (ds_asg (de_call C G_point_for (da_cons (dv 0) (da_cons (de_neg (de_int)) da_nil)) (by omega)) (dg_tup rfl (dgs_cons (dg_name SC.nd rfl (by first | exact .inl rfl | exact .inr rfl)) (dgs_cons (dg_name SC.nd rfl (by first | exact .inl rfl | exact .inr rfl)) (dgs_cons (dg_name SC.nd rfl (by first | exact .inl rfl | exact .inr rfl)) dgs_nil)))))
  (ds_one (ds_ret (de_tup (da_cons (dv 4) (da_cons (dv 3) (da_cons (de_mul (dv 0) (dv 2)) da_nil))))))) ds_nil)
  (ds_cons (ds_if (dt_c cm_gt (de_callB call_abs cd_abs B.b_abs PyProof.Rows.Boot.«abs» (da_cons (dv 0) da_nil)) (de_callB call_abs cd_abs B.b_abs PyProof.Rows.Boot.«abs» (da_cons (dv 1) da_nil))) (ds_cons (ds_asg (de_call C G_point_for (da_cons (dv 1) (da_cons (dv 0) da_nil)) (by omega)) (dg_tup rfl (dgs_cons (dg_name SC.nd rfl (by first | exact .inl rfl | exact .inr rfl)) (dgs_cons (dg_name SC.nd rfl (by first | exact .inl rfl | exact .inr rfl)) (dgs_cons (dg_name SC.nd rfl (by first | exact .inl rfl | exact .inr rfl)) dgs_nil)))))
  (ds_one (ds_ret (de_tup (da_cons (dv 3) (da_cons (dv 2) (da_cons (dv 4) da_nil))))))) ds_nil)
  (ds_one (ds_ret (de_call C G_descended (da_cons (dv 0) (da_cons (dv 1) da_nil)) (by omega)))))))))
theorem okR_point_for {P : Program} {w : World} {K : PySem.W.Frag} {mg : Str → Option Value} {base : Heap} {a_descended : Addr} {fd_descended : FuncData} {a_point_for : Addr} {fd_point_for : FuncData} (B : Fx P K mg) (U_descended : FunD K "descended" "descended" (defArgs (top 30)) (defBody (top 30)) (defScope (top 30)) [] [] a_descended fd_descended) (m_descended : mg "descended" = some (.ref a_descended)) (U_point_for : FunD K "point_for" "point_for" (defArgs (top 29)) (defBody (top 29)) (defScope (top 29)) [] [] a_point_for fd_point_for) (m_point_for : mg "point_for" = some (.ref a_point_for)) (G_square_root : DFn P w K mg base "square_root" 2 1 F_square_root) (G_free_of_squares : DFn P w K mg base "free_of_squares" 1 2 F_free_of_squares) : ∀ n : Nat, DFn P w K mg base "point_for" 2 (2 + 2 * n) (R_point_for n)
  | 0 => DFn.bad (ps := ["one", "other"]) (fun_of U_point_for) m_point_for (U_point_for.bindsN fun _ _ _ _ _ _ us hl => match us, hl with | [_, _], _ => rfl) rfl
  | n + 1 =>
    have G_point_for := okR_point_for B U_descended m_descended U_point_for m_point_for G_square_root G_free_of_squares n
    have G_descended := ok_descended B U_descended m_descended G_square_root G_free_of_squares G_point_for (by omega)
    have t : DFn P w K mg base "point_for" 2 ((2 + 2 * n + 1) + 1) (R_point_for (n + 1)) := DFn.mk' (fun_of U_point_for) m_point_for sc_point_for (U_point_for.bindsN fun _ _ _ _ _ _ us hl => match us, hl with | [_, _], _ => rfl) rfl (fun cdv A outer s H E C => b_point_for B G_square_root G_free_of_squares G_descended (by omega) G_point_for (by omega) C (by omega)) (fun ds st _ => viaF_sem 5 (g_point_for (R_descended (R_point_for n)) (R_point_for n)) Good_point_for ds st)
    t
theorem sc_common_divisor : FnScope N_common_divisor ["one", "other"] (defScope (top 3)) := ⟨rfl, rfl, rfl, by decide +kernel, rfl, by decide +kernel, by decide +kernel⟩
theorem b_common_divisor {P : Program} {w : World} {K : PySem.W.Frag} {mg : Str → Option Value} {base : Heap} {f : Addr} {cdv : Value} {A : Around} {outer : List Env} {s : Shared} {H : Hp} {E : XK} (B : Fx P K mg)  (C : Ctx (cxD P w K mg base N_common_divisor "common_divisor" (top 3) f cdv A outer s H E) (wE E) 0) : DSs (cxD P w K mg base N_common_divisor "common_divisor" (top 3) f cdv A outer s H E) (wE E) (defBody (top 3)) g_common_divisor := by
  have SC := sc_common_divisor
  exact (ds_cons (ds_par (i := 0) (j := 1) rfl SC.nd rfl rfl (by decide) rfl rfl (da_cons (de_callB call_abs cd_abs B.b_abs PyProof.Rows.Boot.«abs» (da_cons (dv 0) da_nil)) (da_cons (de_callB call_abs cd_abs B.b_abs PyProof.Rows.Boot.«abs» (da_cons (dv 1) da_nil)) da_nil)))
  (ds_cons (ds_whileC C (dt_c cm_gt (dv 1) (de_int)) (ds_one (ds_par (i := 0) (j := 1) rfl SC.nd rfl rfl (by decide) rfl rfl (da_cons (dv 1) (da_cons (de_mod (dv 0) (dv 1)) da_nil)))))
  (ds_one (ds_ret (dv 0)))))
theorem ok_common_divisor {P : Program} {w : World} {K : PySem.W.Frag} {mg : Str → Option Value} {base : Heap} {a : Addr} {fd : FuncData} (B : Fx P K mg) (U : FunD K "common_divisor" "common_divisor" (defArgs (top 3)) (defBody (top 3)) (defScope (top 3)) [] [] a fd) (hm : mg "common_divisor" = some (.ref a))  : DFn P w K mg base "common_divisor" 2 1 F_common_divisor :=
  DFn.mk' (fun_of U) hm sc_common_divisor (U.bindsN fun _ _ _ _ _ _ us hl => match us, hl with | [_, _], _ => rfl) rfl (fun cdv A outer s H E C => b_common_divisor B  C) (fun ds st _ => viaF_sem 2 g_common_divisor Good_common_divisor ds st)
theorem sc_divisor_of : FnScope N_divisor_of ["numbers"] (defScope (top 4)) := ⟨rfl, rfl, rfl, by decide +kernel, rfl, by decide +kernel, by decide +kernel⟩
theorem b_divisor_of {P : Program} {w : World} {K : PySem.W.Frag} {mg : Str → Option Value} {base : Heap} {f : Addr} {cdv : Value} {A : Around} {outer : List Env} {s : Shared} {H : Hp} {E : XK} (B : Fx P K mg) (G_common_divisor : DFn P w K mg base "common_divisor" 2 1 F_common_divisor) (C : Ctx (cxD P w K mg base N_divisor_of "divisor_of" (top 4) f cdv A outer s H E) (wE E) 1) : DSs (cxD P w K mg base N_divisor_of "divisor_of" (top 4) f cdv A outer s H E) (wE E) (defBody (top 4)) g_divisor_of := by
  have SC := sc_divisor_of
  exact (ds_cons (ds_set (i := 1) SC.nd rfl (by first | exact .inl rfl | exact .inr rfl) (de_int))
  (ds_cons (ds_forC C rfl (di_seq (dv 0)) (dg_name SC.nd rfl (by first | exact .inl rfl | exact .inr rfl)) (ds_one (ds_set (i := 1) SC.nd rfl (by first | exact .inl rfl | exact .inr rfl) (de_call C G_common_divisor (da_cons (dv 1) (da_cons (dv 2) da_nil))))))
  (ds_one (ds_ret (dv 1)))))
theorem ok_divisor_of {P : Program} {w : World} {K : PySem.W.Frag} {mg : Str → Option Value} {base : Heap} {a : Addr} {fd : FuncData} (B : Fx P K mg) (U : FunD K "divisor_of" "divisor_of" (defArgs (top 4)) (defBody (top 4)) (defScope (top 4)) [] [] a fd) (hm : mg "divisor_of" = some (.ref a)) (G_common_divisor : DFn P w K mg base "common_divisor" 2 1 F_common_divisor) : DFn P w K mg base "divisor_of" 1 2 F_divisor_of :=
  DFn.mk' (fun_of U) hm sc_divisor_of (U.bindsN fun _ _ _ _ _ _ us hl => match us, hl with | [_], _ => rfl) rfl (fun cdv A outer s H E C => b_divisor_of B G_common_divisor C) (fun ds st _ => viaF_sem 3 g_divisor_of Good_divisor_of ds st)
theorem sc_solved : FnScope N_solved ["conic"] (defScope (top 31)) := ⟨rfl, rfl, rfl, by decide +kernel, rfl, by decide +kernel, by decide +kernel⟩
theorem b_solved {P : Program} {w : World} {K : PySem.W.Frag} {mg : Str → Option Value} {base : Heap} {f : Addr} {cdv : Value} {A : Around} {outer : List Env} {s : Shared} {H : Hp} {E : XK} (B : Fx P K mg) (G_free_of_squares : DFn P w K mg base "free_of_squares" 1 2 F_free_of_squares) (G_point_for : DFn P w K mg base "point_for" 2 202 F_point_for) (G_divisor_of : DFn P w K mg base "divisor_of" 1 2 F_divisor_of) (C : Ctx (cxD P w K mg base N_solved "solved" (top 31) f cdv A outer s H E) (wE E) 202) : DSs (cxD P w K mg base N_solved "solved" (top 31) f cdv A outer s H E) (wE E) (defBody (top 31)) g_solved := by
  have SC := sc_solved
  exact (ds_cons (ds_asg (dv 0) (dg_tup rfl (dgs_cons (dg_name SC.nd rfl (by first | exact .inl rfl | exact .inr rfl)) (dgs_cons (dg_name SC.nd rfl (by first | exact .inl rfl | exact .inr rfl)) (dgs_cons (dg_name SC.nd rfl (by first | exact .inl rfl | exact .inr rfl)) dgs_nil)))))
  (ds_cons (ds_asg (de_call C G_free_of_squares (da_cons (de_mul (de_neg (dv 1)) (dv 3)) da_nil)) (dg_tup rfl (dgs_cons (dg_name SC.nd rfl (by first | exact .inl rfl | exact .inr rfl)) (dgs_cons (dg_name SC.nd rfl (by first | exact .inl rfl | exact .inr rfl)) dgs_nil))))
  (ds_cons (ds_asg (de_call C G_free_of_squares (da_cons (de_mul (de_neg (dv 2)) (dv 3)) da_nil)) (dg_tup rfl (dgs_cons (dg_name SC.nd rfl (by first | exact .inl rfl | exact .inr rfl)) (dgs_cons (dg_name SC.nd rfl (by first | exact .inl rfl | exact .inr rfl)) dgs_nil))))
  (ds_cons (ds_asg (de_call C G_point_for (da_cons (dv 4) (da_cons (dv 6) da_nil))) (dg_tup rfl (dgs_cons (dg_name SC.nd rfl (by first | exact .inl rfl | exact .inr rfl)) (dgs_cons (dg_name SC.nd rfl (by first | exact .inl rfl | exact .inr rfl)) (dgs_cons (dg_name SC.nd rfl (by first | exact .inl rfl | exact .inr rfl)) dgs_nil)))))
  (ds_cons (ds_set (i := 11) SC.nd rfl (by first | exact .inl rfl | exact .inr rfl) (de_tup (da_cons (de_mul (de_mul (dv 8) (dv 7)) (dv 3)) (da_cons (de_mul (de_mul (dv 9) (dv 5)) (dv 3)) (da_cons (de_mul (de_mul (dv 10) (dv 5)) (dv 7)) da_nil)))))
  (ds_cons (ds_set (i := 12) SC.nd rfl (by first | exact .inl rfl | exact .inr rfl) (de_call C G_divisor_of (da_cons (dv 11) da_nil)))
  (ds_one (ds_ret (de_callTy call_tuple_of cd_tuple B.b_tuple PyProof.Rows.boot_tuple (da_cons (de_lc (own := [("part", 13)]) C rfl SC.nd (di_seq (dv 11)) (blkOk (by kernel_rfl)) rfl (fun _ _ _ _ _ C => ⟨(dgx_name (by decide) (pg_name SC.nd rfl (.inl rfl) (by first | exact .inl rfl | exact .inr rfl))), dts_nil, (de_fdiv (dv 13) (dv 12))⟩)) da_nil))))))))))
theorem ok_solved {P : Program} {w : World} {K : PySem.W.Frag} {mg : Str → Option Value} {base : Heap} {a : Addr} {fd : FuncData} (B : Fx P K mg) (U : FunD K "solved" "solved" (defArgs (top 31)) (defBody (top 31)) (defScope (top 31)) [] [] a fd) (hm : mg "solved" = some (.ref a)) (G_free_of_squares : DFn P w K mg base "free_of_squares" 1 2 F_free_of_squares) (G_point_for : DFn P w K mg base "point_for" 2 202 F_point_for) (G_divisor_of : DFn P w K mg base "divisor_of" 1 2 F_divisor_of) : DFn P w K mg base "solved" 1 203 F_solved :=
  DFn.mk' (fun_of U) hm sc_solved (U.bindsN fun _ _ _ _ _ _ us hl => match us, hl with | [_], _ => rfl) rfl (fun cdv A outer s H E C => b_solved B G_free_of_squares G_point_for G_divisor_of C) (fun ds st _ => viaF_sem 14 g_solved Good_solved ds st)
theorem sc_conic_point : FnScope N_conic_point ["conic"] (defScope (top 32)) := ⟨rfl, rfl, rfl, by decide +kernel, rfl, by decide +kernel, by decide +kernel⟩
theorem b_conic_point {P : Program} {w : World} {K : PySem.W.Frag} {mg : Str → Option Value} {base : Heap} {f : Addr} {cdv : Value} {A : Around} {outer : List Env} {s : Shared} {H : Hp} {E : XK} (B : Fx P K mg) (G_check_conic : DFn P w K mg base "check_conic" 1 3 F_check_conic) (G_barring_places : DFn P w K mg base "barring_places" 1 4 F_barring_places) (G_solved : DFn P w K mg base "solved" 1 203 F_solved) (C : Ctx (cxD P w K mg base N_conic_point "conic_point" (top 32) f cdv A outer s H E) (wE E) 203) : DSs (cxD P w K mg base N_conic_point "conic_point" (top 32) f cdv A outer s H E) (wE E) (defBody (top 32)) g_conic_point := by
  have SC := sc_conic_point
  exact (ds_cons (ds_expr (de_call C G_check_conic (da_cons (dv 0) da_nil)))
  (ds_cons (ds_set (i := 1) SC.nd rfl (by first | exact .inl rfl | exact .inr rfl) (de_call C G_barring_places (da_cons (dv 0) da_nil)))
  (ds_cons (ds_if (dt_c cm_gt (de_callB call_len_seq cd_len B.b_len PyProof.Rows.Boot.«len» (da_cons (dv 1) da_nil)) (de_int)) (ds_one (ds_ret (de_tup (da_cons (de_str) (da_cons (de_ix (dv 1) (de_int)) da_nil))))) ds_nil)
  (ds_one (ds_ret (de_tup (da_cons (de_str) (da_cons (de_call C G_solved (da_cons (dv 0) da_nil)) da_nil))))))))
theorem ok_conic_point {P : Program} {w : World} {K : PySem.W.Frag} {mg : Str → Option Value} {base : Heap} {a : Addr} {fd : FuncData} (B : Fx P K mg) (U : FunD K "conic_point" "conic_point" (defArgs (top 32)) (defBody (top 32)) (defScope (top 32)) [] [] a fd) (hm : mg "conic_point" = some (.ref a)) (G_check_conic : DFn P w K mg base "check_conic" 1 3 F_check_conic) (G_barring_places : DFn P w K mg base "barring_places" 1 4 F_barring_places) (G_solved : DFn P w K mg base "solved" 1 203 F_solved) : DFn P w K mg base "conic_point" 1 204 F_conic_point :=
  DFn.mk' (fun_of U) hm sc_conic_point (U.bindsN fun _ _ _ _ _ _ us hl => match us, hl with | [_], _ => rfl) rfl (fun cdv A outer s H E C => b_conic_point B G_check_conic G_barring_places G_solved C) (fun ds st _ => viaF_sem 2 g_conic_point Good_conic_point ds st)
theorem sc__law_draw : FnScope N__law_draw ["hand", "many"] (defScope (top 37)) := ⟨rfl, rfl, rfl, by decide +kernel, rfl, by decide +kernel, by decide +kernel⟩
theorem b__law_draw {P : Program} {w : World} {K : PySem.W.Frag} {mg : Str → Option Value} {base : Heap} {f : Addr} {cdv : Value} {A : Around} {outer : List Env} {s : Shared} {H : Hp} {E : XK} (B : Fx P K mg)  (C : Ctx (cxD P w K mg base N__law_draw "_law_draw" (top 37) f cdv A outer s H E) (wE E) 0) : DSs (cxD P w K mg base N__law_draw "_law_draw" (top 37) f cdv A outer s H E) (wE E) (defBody (top 37)) g__law_draw := by
  have SC := sc__law_draw
  exact (ds_cons (ds_if (PW.pt (dw_and (dt_c (cm_eq C) (de_ix (dv 0) (de_int)) (de_int)) (dw_and1 (dt_c cm_lt (de_ix (dv 0) (de_int)) (de_callB call_len_seq cd_len B.b_len PyProof.Rows.Boot.«len» (da_cons (de_ix (dv 0) (de_int)) da_nil)))))) (ds_cons (ds_set (i := 2) SC.nd rfl (by first | exact .inl rfl | exact .inr rfl) (de_ix (de_ix (dv 0) (de_int)) (de_ix (dv 0) (de_int))))
  (ds_cons (ds_asg (de_add (de_ix (dv 0) (de_int)) (de_int)) (dg_sub (W := wE E) (dv 0) (de_int)))
  (ds_cons (ds_asg (de_mod (de_callTy call_int1 cd_int B.b_int PyProof.Rows.boot_int (da_cons (de_add (de_add (de_mul (de_ix (dv 0) (de_int)) (de_int)) (de_mul (dv 2) (de_int))) (de_int)) da_nil)) (de_int)) (dg_sub (W := wE E) (dv 0) (de_int)))
  (ds_one (ds_if (dt_c cm_ge (dv 2) (de_pow (de_int) (de_int))) (ds_one (ds_asg (dv 2) (dg_sub (W := wE E) (dv 0) (de_int)))) ds_nil))))) ds_nil)
  (ds_cons (ds_if (dt_c cm_gt (de_ix (dv 0) (de_int)) (de_int)) (ds_cons (ds_set (i := 3) SC.nd rfl (by first | exact .inl rfl | exact .inr rfl) (de_mod (de_callTy call_int1 cd_int B.b_int PyProof.Rows.boot_int (da_cons (de_ix (dv 0) (de_int)) da_nil)) (dv 1)))
  (ds_cons (ds_asg (de_fdiv (de_ix (dv 0) (de_int)) (dv 1)) (dg_sub (W := wE E) (dv 0) (de_int)))
  (ds_one (ds_ret (dv 3))))) ds_nil)
  (ds_cons (ds_asg (de_add (de_ix (dv 0) (de_int)) (de_int)) (dg_sub (W := wE E) (dv 0) (de_int)))
  (ds_cons (ds_set (i := 4) SC.nd rfl (by first | exact .inl rfl | exact .inr rfl) (de_mod (de_callTy call_int1 cd_int B.b_int PyProof.Rows.boot_int (da_cons (de_mul (de_callTy call_int1 cd_int B.b_int PyProof.Rows.boot_int (da_cons (de_add (de_ix (dv 0) (de_int)) (de_mul (de_int) (de_ix (dv 0) (de_int)))) da_nil)) (de_int)) da_nil)) (de_int)))
  (ds_cons (ds_set (i := 4) SC.nd rfl (by first | exact .inl rfl | exact .inr rfl) (de_mod (de_callTy call_int1 cd_int B.b_int PyProof.Rows.boot_int (da_cons (de_mul (dv 4) (de_add (de_fdiv (dv 4) (de_int)) (de_int))) da_nil)) (de_int)))
  (ds_cons (ds_set (i := 4) SC.nd rfl (by first | exact .inl rfl | exact .inr rfl) (de_mod (de_callTy call_int1 cd_int B.b_int PyProof.Rows.boot_int (da_cons (de_mul (dv 4) (de_add (de_fdiv (dv 4) (de_int)) (de_int))) da_nil)) (de_int)))
  (ds_one (ds_ret (de_mod (de_callTy call_int1 cd_int B.b_int PyProof.Rows.boot_int (da_cons (de_fdiv (dv 4) (de_int)) da_nil)) (dv 1))))))))))
theorem ok__law_draw {P : Program} {w : World} {K : PySem.W.Frag} {mg : Str → Option Value} {base : Heap} {a : Addr} {fd : FuncData} (B : Fx P K mg) (U : FunD K "_law_draw" "_law_draw" (defArgs (top 37)) (defBody (top 37)) (defScope (top 37)) [] [] a fd) (hm : mg "_law_draw" = some (.ref a))  : DFn P w K mg base "_law_draw" 2 1 F__law_draw :=
  DFn.mk' (fun_of U) hm sc__law_draw (U.bindsN fun _ _ _ _ _ _ us hl => match us, hl with | [_, _], _ => rfl) rfl (fun cdv A outer s H E C => b__law_draw B  C) (fun ds st _ => viaF_sem 5 g__law_draw Good__law_draw ds st)
theorem sc__law_any : FnScope N__law_any ["hand", "some"] (defScope (top 38)) := ⟨rfl, rfl, rfl, by decide +kernel, rfl, by decide +kernel, by decide +kernel⟩
theorem b__law_any {P : Program} {w : World} {K : PySem.W.Frag} {mg : Str → Option Value} {base : Heap} {f : Addr} {cdv : Value} {A : Around} {outer : List Env} {s : Shared} {H : Hp} {E : XK} (B : Fx P K mg) (G__law_draw : DFn P w K mg base "_law_draw" 2 1 F__law_draw) (C : Ctx (cxD P w K mg base N__law_any "_law_any" (top 38) f cdv A outer s H E) (wE E) 1) : DSs (cxD P w K mg base N__law_any "_law_any" (top 38) f cdv A outer s H E) (wE E) (defBody (top 38)) g__law_any := by
  have SC := sc__law_any
  exact (ds_one (ds_ret (de_ix (dv 1) (de_call C G__law_draw (da_cons (dv 0) (da_cons (de_callB call_len_seq cd_len B.b_len PyProof.Rows.Boot.«len» (da_cons (dv 1) da_nil)) da_nil))))))
theorem ok__law_any {P : Program} {w : World} {K : PySem.W.Frag} {mg : Str → Option Value} {base : Heap} {a : Addr} {fd : FuncData} (B : Fx P K mg) (U : FunD K "_law_any" "_law_any" (defArgs (top 38)) (defBody (top 38)) (defScope (top 38)) [] [] a fd) (hm : mg "_law_any" = some (.ref a)) (G__law_draw : DFn P w K mg base "_law_draw" 2 1 F__law_draw) : DFn P w K mg base "_law_any" 2 2 F__law_any :=
  DFn.mk' (fun_of U) hm sc__law_any (U.bindsN fun _ _ _ _ _ _ us hl => match us, hl with | [_, _], _ => rfl) rfl (fun cdv A outer s H E C => b__law_any B G__law_draw C) (fun ds st _ => viaF_sem 2 g__law_any Good__law_any ds st)
theorem sc__law_is_whole : FnScope N__law_is_whole ["thing"] (defScope (top 47)) := ⟨rfl, rfl, rfl, by decide +kernel, rfl, by decide +kernel, by decide +kernel⟩
theorem b__law_is_whole {P : Program} {w : World} {K : PySem.W.Frag} {mg : Str → Option Value} {base : Heap} {f : Addr} {cdv : Value} {A : Around} {outer : List Env} {s : Shared} {H : Hp} {E : XK} (B : Fx P K mg)  (C : Ctx (cxD P w K mg base N__law_is_whole "_law_is_whole" (top 47) f cdv A outer s H E) (wE E) 0) : DSs (cxD P w K mg base N__law_is_whole "_law_is_whole" (top 47) f cdv A outer s H E) (wE E) (defBody (top 47)) g__law_is_whole := by
  have SC := sc__law_is_whole
  exact (ds_one (ds_ret ((de_and (de_isi .int B.b_isinstance B.b_int PyProof.Rows.boot_int (dv 0)) (de_one (de_not (de_isi .bl B.b_isinstance B.b_bool PyProof.Rows.boot_bool (dv 0))))))))
theorem ok__law_is_whole {P : Program} {w : World} {K : PySem.W.Frag} {mg : Str → Option Value} {base : Heap} {a : Addr} {fd : FuncData} (B : Fx P K mg) (U : FunD K "_law_is_whole" "_law_is_whole" (defArgs (top 47)) (defBody (top 47)) (defScope (top 47)) [] [] a fd) (hm : mg "_law_is_whole" = some (.ref a))  : DFn P w K mg base "_law_is_whole" 1 1 F__law_is_whole :=
  DFn.mk' (fun_of U) hm sc__law_is_whole (U.bindsN fun _ _ _ _ _ _ us hl => match us, hl with | [_], _ => rfl) rfl (fun cdv A outer s H E C => b__law_is_whole B  C) (fun ds st _ => viaF_sem 1 g__law_is_whole Good__law_is_whole ds st)
theorem sc__law_is_conic : FnScope N__law_is_conic ["thing"] (defScope (top 52)) := ⟨rfl, rfl, rfl, by decide +kernel, rfl, by decide +kernel, by decide +kernel⟩
theorem b__law_is_conic {P : Program} {w : World} {K : PySem.W.Frag} {mg : Str → Option Value} {base : Heap} {f : Addr} {cdv : Value} {A : Around} {outer : List Env} {s : Shared} {H : Hp} {E : XK} (B : Fx P K mg) (G__law_is_whole : DFn P w K mg base "_law_is_whole" 1 1 F__law_is_whole) (C : Ctx (cxD P w K mg base N__law_is_conic "_law_is_conic" (top 52) f cdv A outer s H E) (wE E) 1) : DSs (cxD P w K mg base N__law_is_conic "_law_is_conic" (top 52) f cdv A outer s H E) (wE E) (defBody (top 52)) g__law_is_conic := by
  have SC := sc__law_is_conic
  exact (ds_cons (ds_if (PW.pt (dw_or (dt_not (dt_truth (de_isi .tup B.b_isinstance B.b_tuple PyProof.Rows.boot_tuple (dv 0)))) (dw_or1 (dt_c (cm_ne C) (de_callB call_len_seq cd_len B.b_len PyProof.Rows.Boot.«len» (da_cons (dv 0) da_nil)) (de_int))))) (ds_one (ds_ret (de_bl))) ds_nil)
  (ds_one (ds_ret (de_callB (cr_all rfl) cd_all B.b_all PyProof.Rows.boot_all (da_cons (de_lc (own := [("one", 1)]) C rfl SC.nd (di_seq (dv 0)) (blkOk (by kernel_rfl)) rfl (fun _ _ _ _ _ C => ⟨(dgx_name (by decide) (pg_name SC.nd rfl (.inl rfl) (by first | exact .inl rfl | exact .inr rfl))), dts_nil, ((de_and (de_call C G__law_is_whole (da_cons (dv 1) da_nil)) (de_and (de_c (cm_ne C) (dv 1) (de_int)) (de_one (de_c cm_le (de_callB call_abs cd_abs B.b_abs PyProof.Rows.Boot.«abs» (da_cons (dv 1) da_nil)) (de_int))))))⟩)) da_nil)))))
theorem ok__law_is_conic {P : Program} {w : World} {K : PySem.W.Frag} {mg : Str → Option Value} {base : Heap} {a : Addr} {fd : FuncData} (B : Fx P K mg) (U : FunD K "_law_is_conic" "_law_is_conic" (defArgs (top 52)) (defBody (top 52)) (defScope (top 52)) [] [] a fd) (hm : mg "_law_is_conic" = some (.ref a)) (G__law_is_whole : DFn P w K mg base "_law_is_whole" 1 1 F__law_is_whole) : DFn P w K mg base "_law_is_conic" 1 2 F__law_is_conic :=
  DFn.mk' (fun_of U) hm sc__law_is_conic (U.bindsN fun _ _ _ _ _ _ us hl => match us, hl with | [_], _ => rfl) rfl (fun cdv A outer s H E C => b__law_is_conic B G__law_is_whole C) (fun ds st _ => viaF_sem 2 g__law_is_conic Good__law_is_conic ds st)
theorem sc_is_witness : FnScope N_is_witness ["base", "number"] (defScope (top 6)) := ⟨rfl, rfl, rfl, by decide +kernel, rfl, by decide +kernel, by decide +kernel⟩
theorem b_is_witness {P : Program} {w : World} {K : PySem.W.Frag} {mg : Str → Option Value} {base : Heap} {f : Addr} {cdv : Value} {A : Around} {outer : List Env} {s : Shared} {H : Hp} {E : XK} (B : Fx P K mg) (G_power_of : DFn P w K mg base "power_of" 3 1 F_power_of) (C : Ctx (cxD P w K mg base N_is_witness "is_witness" (top 6) f cdv A outer s H E) (wE E) 1) : DSs (cxD P w K mg base N_is_witness "is_witness" (top 6) f cdv A outer s H E) (wE E) (defBody (top 6)) g_is_witness := by
  have SC := sc_is_witness
  exact (ds_cons (ds_par (i := 2) (j := 3) rfl SC.nd rfl rfl (by decide) rfl rfl (da_cons (de_sub (dv 1) (de_int)) (da_cons (de_int) da_nil)))
  (ds_cons (ds_whileC C (dt_c (cm_eq C) (de_mod (dv 2) (de_int)) (de_int)) (ds_one (ds_par (i := 2) (j := 3) rfl SC.nd rfl rfl (by decide) rfl rfl (da_cons (de_fdiv (dv 2) (de_int)) (da_cons (de_add (dv 3) (de_int)) da_nil)))))
  (ds_cons (ds_set (i := 4) SC.nd rfl (by first | exact .inl rfl | exact .inr rfl) (de_call C G_power_of (da_cons (dv 0) (da_cons (dv 2) (da_cons (dv 1) da_nil)))))
  (ds_cons (ds_if (dt_c (cm_inV C) (dv 4) (de_tup (da_cons (de_int) (da_cons (de_sub (dv 1) (de_int)) da_nil)))) (ds_one (ds_ret (de_bl))) ds_nil)
  (ds_cons (ds_forC C rfl (di_range1 B.b_range (da_cons (de_sub (dv 3) (de_int)) da_nil)) (dg_name SC.nd rfl (by first | exact .inl rfl | exact .inr rfl)) (ds_cons (ds_set (i := 4) SC.nd rfl (by first | exact .inl rfl | exact .inr rfl) (de_mod (de_mul (dv 4) (dv 4)) (dv 1)))
  (ds_one (ds_if (dt_c (cm_eq C) (dv 4) (de_sub (dv 1) (de_int))) (ds_one (ds_ret (de_bl))) ds_nil))))
  (ds_one (ds_ret (de_bl))))))))
theorem ok_is_witness {P : Program} {w : World} {K : PySem.W.Frag} {mg : Str → Option Value} {base : Heap} {a : Addr} {fd : FuncData} (B : Fx P K mg) (U : FunD K "is_witness" "is_witness" (defArgs (top 6)) (defBody (top 6)) (defScope (top 6)) [] [] a fd) (hm : mg "is_witness" = some (.ref a)) (G_power_of : DFn P w K mg base "power_of" 3 1 F_power_of) : DFn P w K mg base "is_witness" 2 2 F_is_witness :=
  DFn.mk' (fun_of U) hm sc_is_witness (U.bindsN fun _ _ _ _ _ _ us hl => match us, hl with | [_, _], _ => rfl) rfl (fun cdv A outer s H E C => b_is_witness B G_power_of C) (fun ds st _ => viaF_sem 6 g_is_witness Good_is_witness ds st)
theorem sc_is_prime_number : FnScope N_is_prime_number ["number"] (defScope (top 7)) := ⟨rfl, rfl, rfl, by decide +kernel, rfl, by decide +kernel, by decide +kernel⟩
theorem b_is_prime_number {P : Program} {w : World} {K : PySem.W.Frag} {mg : Str → Option Value} {base : Heap} {f : Addr} {cdv : Value} {A : Around} {outer : List Env} {s : Shared} {H : Hp} {E : XK} (B : Fx P K mg) (G_is_witness : DFn P w K mg base "is_witness" 2 2 F_is_witness) (C : Ctx (cxD P w K mg base N_is_prime_number "is_prime_number" (top 7) f cdv A outer s H E) (wE E) 2) : DSs (cxD P w K mg base N_is_prime_number "is_prime_number" (top 7) f cdv A outer s H E) (wE E) (defBody (top 7)) g_is_prime_number := by
  have SC := sc_is_prime_number
  exact (ds_cons (ds_if (dt_c cm_lt (dv 0) (de_int)) (ds_one (ds_ret (de_bl))) ds_nil)
  (ds_cons (ds_forC C rfl (di_seq (de_globT B.t_BASES)) (dg_name SC.nd rfl (by first | exact .inl rfl | exact .inr rfl)) (ds_one (ds_if (dt_c (cm_eq C) (de_mod (dv 0) (dv 1)) (de_int)) (ds_one (ds_ret (de_c (cm_eq C) (dv 0) (dv 1)))) ds_nil)))
  (ds_one (ds_ret (de_not (de_callB (cr_any rfl) cd_any B.b_any PyProof.Rows.boot_any (da_cons (de_lc (own := [("base", 1)]) C rfl SC.nd (di_seq (de_globT B.t_BASES)) (blkOk (by kernel_rfl)) rfl (fun _ _ _ _ _ C => ⟨(dgx_name (by decide) (pg_name SC.nd rfl (.inl rfl) (by first | exact .inl rfl | exact .inr rfl))), dts_nil, (de_call C G_is_witness (da_cons (dv 1) (da_cons (dv 0) da_nil)))⟩)) da_nil)))))))
theorem ok_is_prime_number {P : Program} {w : World} {K : PySem.W.Frag} {mg : Str → Option Value} {base : Heap} {a : Addr} {fd : FuncData} (B : Fx P K mg) (U : FunD K "is_prime_number" "is_prime_number" (defArgs (top 7)) (defBody (top 7)) (defScope (top 7)) [] [] a fd) (hm : mg "is_prime_number" = some (.ref a)) (G_is_witness : DFn P w K mg base "is_witness" 2 2 F_is_witness) : DFn P w K mg base "is_prime_number" 1 3 F_is_prime_number :=
  DFn.mk' (fun_of U) hm sc_is_prime_number (U.bindsN fun _ _ _ _ _ _ us hl => match us, hl with | [_], _ => rfl) rfl (fun cdv A outer s H E C => b_is_prime_number B G_is_witness C) (fun ds st _ => viaF_sem 2 g_is_prime_number Good_is_prime_number ds st)
theorem sc_barred_at : FnScope N_barred_at ["conic", "place"] (defScope (top 34)) := ⟨rfl, rfl, rfl, by decide +kernel, rfl, by decide +kernel, by decide +kernel⟩
theorem b_barred_at {P : Program} {w : World} {K : PySem.W.Frag} {mg : Str → Option Value} {base : Heap} {f : Addr} {cdv : Value} {A : Around} {outer : List Env} {s : Shared} {H : Hp} {E : XK} (B : Fx P K mg) (G_check_conic : DFn P w K mg base "check_conic" 1 3 F_check_conic) (G_is_integer : DFn P w K mg base "is_integer" 1 1 F_is_integer) (G_is_prime_number : DFn P w K mg base "is_prime_number" 1 3 F_is_prime_number) (G_sign_at_place : DFn P w K mg base "sign_at_place" 3 3 F_sign_at_place) (C : Ctx (cxD P w K mg base N_barred_at "barred_at" (top 34) f cdv A outer s H E) (wE E) 3) : DSs (cxD P w K mg base N_barred_at "barred_at" (top 34) f cdv A outer s H E) (wE E) (defBody (top 34)) g_barred_at := by
  have SC := sc_barred_at
  exact (ds_cons (ds_expr (de_call C G_check_conic (da_cons (dv 0) da_nil)))
  (ds_cons (ds_if (PW.pt (dw_or (dt_not (dt_truth (de_call C G_is_integer (da_cons (dv 1) da_nil)))) (dw_or1 (PW.pt (dw_and (dt_c (cm_ne C) (dv 1) (de_globI B.i_REAL)) (dw_and1 (dt_not (PW.pt (dw_and (dt_chain cm_le cm_lt (de_int) (dv 1) (de_globI B.i_MOST_SIGN)) (dw_and1 (dt_truth (de_call C G_is_prime_number (da_cons (dv 1) da_nil))))))))))))) (ds_one (ds_raise C B.x_NoPlace B.m_NoPlace B.b_super)) ds_nil)
  (ds_one (ds_ret (de_c (cm_eq C) (de_call C G_sign_at_place (da_cons (de_mul (de_neg (de_ix (dv 0) (de_int))) (de_ix (dv 0) (de_int))) (da_cons (de_mul (de_neg (de_ix (dv 0) (de_int))) (de_ix (dv 0) (de_int))) (da_cons (dv 1) da_nil)))) (de_neg (de_int)))))))
theorem ok_barred_at {P : Program} {w : World} {K : PySem.W.Frag} {mg : Str → Option Value} {base : Heap} {a : Addr} {fd : FuncData} (B : Fx P K mg) (U : FunD K "barred_at" "barred_at" (defArgs (top 34)) (defBody (top 34)) (defScope (top 34)) [] [] a fd) (hm : mg "barred_at" = some (.ref a)) (G_check_conic : DFn P w K mg base "check_conic" 1 3 F_check_conic) (G_is_integer : DFn P w K mg base "is_integer" 1 1 F_is_integer) (G_is_prime_number : DFn P w K mg base "is_prime_number" 1 3 F_is_prime_number) (G_sign_at_place : DFn P w K mg base "sign_at_place" 3 3 F_sign_at_place) : DFn P w K mg base "barred_at" 2 4 F_barred_at :=
  DFn.mk' (fun_of U) hm sc_barred_at (U.bindsN fun _ _ _ _ _ _ us hl => match us, hl with | [_, _], _ => rfl) rfl (fun cdv A outer s H E C => b_barred_at B G_check_conic G_is_integer G_is_prime_number G_sign_at_place C) (fun ds st _ => viaF_sem 2 g_barred_at Good_barred_at ds st)
theorem sc_is_conic_paper : FnScope N_is_conic_paper ["conic", "thing"] (defScope (top 33)) := ⟨rfl, rfl, rfl, by decide +kernel, rfl, by decide +kernel, by decide +kernel⟩
theorem b_is_conic_paper {P : Program} {w : World} {K : PySem.W.Frag} {mg : Str → Option Value} {base : Heap} {f : Addr} {cdv : Value} {A : Around} {outer : List Env} {s : Shared} {H : Hp} {E : XK} (B : Fx P K mg) (G_check_conic : DFn P w K mg base "check_conic" 1 3 F_check_conic) (G_is_integer : DFn P w K mg base "is_integer" 1 1 F_is_integer) (G_barring_places : DFn P w K mg base "barring_places" 1 4 F_barring_places) (C : Ctx (cxD P w K mg base N_is_conic_paper "is_conic_paper" (top 33) f cdv A outer s H E) (wE E) 4) : DSs (cxD P w K mg base N_is_conic_paper "is_conic_paper" (top 33) f cdv A outer s H E) (wE E) (defBody (top 33)) g_is_conic_paper := by
  have SC := sc_is_conic_paper
  exact (ds_cons (ds_expr (de_call C G_check_conic (da_cons (dv 0) da_nil)))
  (ds_cons (ds_if (PW.pt (dw_or (dt_not (dt_truth (de_isi .tup B.b_isinstance B.b_tuple PyProof.Rows.boot_tuple (dv 1)))) (dw_or (dt_c (cm_ne C) (de_callB call_len_seq cd_len B.b_len PyProof.Rows.Boot.«len» (da_cons (dv 1) da_nil)) (de_int)) (dw_or1 (dt_not (dt_truth (de_isi .str B.b_isinstance B.b_str PyProof.Rows.boot_str (de_ix (dv 1) (de_int))))))))) (ds_one (ds_ret (de_bl))) ds_nil)
  (ds_cons (ds_if (dt_c (cm_eq C) (de_ix (dv 1) (de_int)) (de_str)) (ds_one (ds_ret ((de_and (de_call C G_is_integer (da_cons (de_ix (dv 1) (de_int)) da_nil)) (de_one (de_c (cm_inV C) (de_ix (dv 1) (de_int)) (de_call C G_barring_places (da_cons (dv 0) da_nil)))))))) ds_nil)
  (ds_cons (ds_if (PW.pt (dw_or (dt_c (cm_ne C) (de_ix (dv 1) (de_int)) (de_str)) (dw_or (dt_not (dt_truth (de_isi .tup B.b_isinstance B.b_tuple PyProof.Rows.boot_tuple (de_ix (dv 1) (de_int))))) (dw_or1 (dt_c (cm_ne C) (de_callB call_len_seq cd_len B.b_len PyProof.Rows.Boot.«len» (da_cons (de_ix (dv 1) (de_int)) da_nil)) (de_int)))))) (ds_one (ds_ret (de_bl))) ds_nil)
  (ds_cons (ds_if (PW.pt (dw_or (dt_not (dt_truth (de_callB (cr_all rfl) cd_all B.b_all PyProof.Rows.boot_all (da_cons (de_lc (own := [("one", 2)]) C rfl SC.nd (di_seq (de_ix (dv 1) (de_int))) (blkOk (by kernel_rfl)) rfl (fun _ _ _ _ _ C => ⟨(dgx_name (by decide) (pg_name SC.nd rfl (.inl rfl) (by first | exact .inl rfl | exact .inr rfl))), dts_nil, (de_call C G_is_integer (da_cons (dv 2) da_nil))⟩)) da_nil)))) (dw_or1 (dt_not (dt_truth (de_callB (call_anyT C) cd_anyT B.b_any PyProof.Rows.boot_any (da_cons (de_ix (dv 1) (de_int)) da_nil))))))) (ds_one (ds_ret (de_bl))) ds_nil)
  (ds_one (ds_ret (de_c (cm_eq C) (de_callB (cr_sum rfl) cd_sum B.b_sum PyProof.Rows.boot_sum (da_cons (de_lc (own := [("one", 2), ("part", 3)]) C rfl SC.nd (di_zip B.b_zip (da_cons (dv 0) (da_cons (de_ix (dv 1) (de_int)) da_nil))) (blkOk (by kernel_rfl)) rfl (fun _ _ _ _ _ C => ⟨(dgx_tup rfl (dgxs_cons (dgx_name (by decide) (pg_name SC.nd rfl (.inl rfl) (by first | exact .inl rfl | exact .inr rfl))) (dgxs_cons (dgx_name (by decide) (pg_name SC.nd rfl (.inl rfl) (by first | exact .inl rfl | exact .inr rfl))) dgxs_nil))), dts_nil, (de_mul (de_mul (dv 2) (dv 3)) (dv 3))⟩)) da_nil)) (de_int)))))))))
theorem ok_is_conic_paper {P : Program} {w : World} {K : PySem.W.Frag} {mg : Str → Option Value} {base : Heap} {a : Addr} {fd : FuncData} (B : Fx P K mg) (U : FunD K "is_conic_paper" "is_conic_paper" (defArgs (top 33)) (defBody (top 33)) (defScope (top 33)) [] [] a fd) (hm : mg "is_conic_paper" = some (.ref a)) (G_check_conic : DFn P w K mg base "check_conic" 1 3 F_check_conic) (G_is_integer : DFn P w K mg base "is_integer" 1 1 F_is_integer) (G_barring_places : DFn P w K mg base "barring_places" 1 4 F_barring_places) : DFn P w K mg base "is_conic_paper" 2 5 F_is_conic_paper :=
  DFn.mk' (fun_of U) hm sc_is_conic_paper (U.bindsN fun _ _ _ _ _ _ us hl => match us, hl with | [_, _], _ => rfl) rfl (fun cdv A outer s H E C => b_is_conic_paper B G_check_conic G_is_integer G_barring_places C) (fun ds st _ => viaF_sem 4 g_is_conic_paper Good_is_conic_paper ds st)
theorem sc__law_word : FnScope N__law_word ["which", "conic", "p"] (defScope (top 57)) := ⟨rfl, rfl, rfl, by decide +kernel, rfl, by decide +kernel, by decide +kernel⟩
theorem b__law_word {P : Program} {w : World} {K : PySem.W.Frag} {mg : Str → Option Value} {base : Heap} {f : Addr} {cdv : Value} {A : Around} {outer : List Env} {s : Shared} {H : Hp} {E : XK} (B : Fx P K mg) (G_barred_at : DFn P w K mg base "barred_at" 2 4 F_barred_at) (G_conic_point : DFn P w K mg base "conic_point" 1 204 F_conic_point) (G_is_conic_paper : DFn P w K mg base "is_conic_paper" 2 5 F_is_conic_paper) (C : Ctx (cxD P w K mg base N__law_word "_law_word" (top 57) f cdv A outer s H E) (wE E) 204) : DSs (cxD P w K mg base N__law_word "_law_word" (top 57) f cdv A outer s H E) (wE E) (defBody (top 57)) g__law_word := by
  have SC := sc__law_word
  exact (ds_cons (ds_set (i := 3) SC.nd rfl (by first | exact .inl rfl | exact .inr rfl) (de_str))
  (ds_cons (ds_try_as C rfl rfl SC.nd rfl rfl ⟨rfl, by decide, .inl B.m_FieldError⟩ (catF_ok B) (fun _ _ _ C => (ds_one (ds_if (dt_c (cm_eq C) (dv 0) (de_int)) (ds_one (ds_expr (de_call C G_barred_at (da_cons (dv 1) (da_cons (dv 2) da_nil))))) (ds_one (ds_if (dt_c (cm_eq C) (dv 0) (de_int)) (ds_one (ds_expr (de_call C G_conic_point (da_cons (dv 1) da_nil)))) (ds_one (ds_expr (de_call C G_is_conic_paper (da_cons (dv 1) (da_cons (de_non) da_nil)))))))))) (fun x a oe D d pn hcat hm hd hz hfl CS => by
    obtain ⟨hy, rfl, EX⟩ := suite_ok B hcat hm
    obtain rfl := hd (catF_fs hcat)
    exact (ds_cons (ds_set (i := 3) SC.nd rfl (by first | exact .inl rfl | exact .inr rfl) (de_str))
  (ds_one (ds_if (PW.pt (dw_and (dt_c (cms_ne CS) (de_isC EX hz hfl (B.kt _ hy).k_NoConic B.m_NoConic B.b_isinstance) (de_isC EX hz hfl (B.kt _ hy).k_NoPlace B.m_NoPlace B.b_isinstance)) (dw_and1 (dt_truth (de_isB EX hz hfl (B.kt _ hy).k_ValueError B.b_ValueError PyProof.Rows.Boot.«ValueError» B.b_isinstance))))) (ds_one (ds_set (i := 3) SC.nd rfl (by first | exact .inl rfl | exact .inr rfl) (de_if (dt_truth (de_isC EX hz hfl (B.kt _ hy).k_NoConic B.m_NoConic B.b_isinstance)) (de_str) (de_str)))) ds_nil)))))
  (ds_one (ds_ret (dv 3)))))
theorem ok__law_word {P : Program} {w : World} {K : PySem.W.Frag} {mg : Str → Option Value} {base : Heap} {a : Addr} {fd : FuncData} (B : Fx P K mg) (U : FunD K "_law_word" "_law_word" (defArgs (top 57)) (defBody (top 57)) (defScope (top 57)) [] [] a fd) (hm : mg "_law_word" = some (.ref a)) (G_barred_at : DFn P w K mg base "barred_at" 2 4 F_barred_at) (G_conic_point : DFn P w K mg base "conic_point" 1 204 F_conic_point) (G_is_conic_paper : DFn P w K mg base "is_conic_paper" 2 5 F_is_conic_paper) : DFn P w K mg base "_law_word" 3 205 F__law_word :=
  DFn.mk' (fun_of U) hm sc__law_word (U.bindsN fun _ _ _ _ _ _ us hl => match us, hl with | [_, _, _], _ => rfl) rfl (fun cdv A outer s H E C => b__law_word B G_barred_at G_conic_point G_is_conic_paper C) (fun ds st _ => viaF_sem 5 g__law_word Good__law_word ds st)
theorem sc__law_are_refused : FnScope N__law_are_refused ["hand"] (defScope (top 58)) := ⟨rfl, rfl, rfl, by decide +kernel, rfl, by decide +kernel, by decide +kernel⟩
theorem b__law_are_refused {P : Program} {w : World} {K : PySem.W.Frag} {mg : Str → Option Value} {base : Heap} {f : Addr} {cdv : Value} {A : Around} {outer : List Env} {s : Shared} {H : Hp} {E : XK} (B : Fx P K mg) (G__law_any : DFn P w K mg base "_law_any" 2 2 F__law_any) (G__law_is_conic : DFn P w K mg base "_law_is_conic" 1 2 F__law_is_conic) (G_is_conic : DFn P w K mg base "is_conic" 1 2 F_is_conic) (G__law_word : DFn P w K mg base "_law_word" 3 205 F__law_word) (C : Ctx (cxD P w K mg base N__law_are_refused "_law_are_refused" (top 58) f cdv A outer s H E) (wE E) 205) : DSs (cxD P w K mg base N__law_are_refused "_law_are_refused" (top 58) f cdv A outer s H E) (wE E) (defBody (top 58)) g__law_are_refused := by
  have SC := sc__law_are_refused
  exact (ds_cons (ds_set (i := 1) SC.nd rfl (by first | exact .inl rfl | exact .inr rfl) (de_lst (da_cons (de_non) (da_cons (de_tup (da_cons (de_int) (da_cons (de_int) da_nil))) (da_cons (de_tup (da_cons (de_int) (da_cons (de_int) (da_cons (de_int) da_nil)))) (da_cons (de_tup (da_cons (de_int) (da_cons (de_int) (da_cons (de_int) da_nil)))) (da_cons (de_lst (da_cons (de_int) (da_cons (de_int) (da_cons (de_neg (de_int)) da_nil)))) (da_cons (de_tup (da_cons (de_int) (da_cons (de_int) (da_cons (de_bl) da_nil)))) (da_cons (de_tup (da_cons (de_int) (da_cons (de_int) (da_cons (de_neg (de_int)) (da_cons (de_int) da_nil))))) (da_cons (de_tup (da_cons (de_str) (da_cons (de_int) (da_cons (de_int) da_nil)))) (da_cons (de_dic0) (da_cons (de_int) da_nil))))))))))))
  (ds_cons (ds_set (i := 2) SC.nd rfl (by first | exact .inl rfl | exact .inr rfl) (de_call C G__law_any (da_cons (dv 0) (da_cons (de_add (dv 1) (de_lst (da_cons (de_tup (da_cons (de_int) (da_cons (de_int) (da_cons (de_neg (de_int)) da_nil)))) (da_cons (de_tup (da_cons (de_int) (da_cons (de_int) (da_cons (de_neg (de_int)) da_nil)))) da_nil)))) da_nil))))
  (ds_cons (ds_set (i := 3) SC.nd rfl (by first | exact .inl rfl | exact .inr rfl) (de_if (dt_truth (de_call C G__law_is_conic (da_cons (dv 2) da_nil))) (de_str) (de_str)))
  (ds_cons (ds_if (dt_c (cm_ne C) (de_callB (call_repr C) cd_repr B.b_repr PyProof.Rows.boot_repr (da_cons (de_call C G_is_conic (da_cons (dv 2) da_nil)) da_nil)) (de_callB (call_repr C) cd_repr B.b_repr PyProof.Rows.boot_repr (da_cons (de_call C G__law_is_conic (da_cons (dv 2) da_nil)) da_nil))) (ds_one (ds_ret (de_bl))) ds_nil)
  (ds_cons (ds_set (i := 4) SC.nd rfl (by first | exact .inl rfl | exact .inr rfl) (de_call C G__law_any (da_cons (dv 0) (da_cons (de_lst (da_cons (de_int) (da_cons (de_int) (da_cons (de_neg (de_int)) (da_cons (de_non) (da_cons (de_bl) (da_cons (de_str) (da_cons (de_tup (da_cons (de_int) da_nil)) (da_cons (de_int) (da_cons (de_add (de_pow (de_int) (de_int)) (de_int)) (da_cons (de_dic0) da_nil))))))))))) da_nil))))
  (ds_cons (ds_set (i := 5) SC.nd rfl (by first | exact .inl rfl | exact .inr rfl) (de_lst (da_cons (de_call C G__law_word (da_cons (de_int) (da_cons (dv 2) (da_cons (de_int) da_nil)))) (da_cons (de_call C G__law_word (da_cons (de_int) (da_cons (dv 2) (da_cons (de_int) da_nil)))) (da_cons (de_call C G__law_word (da_cons (de_int) (da_cons (dv 2) (da_cons (de_int) da_nil)))) (da_cons (de_call C G__law_word (da_cons (de_int) (da_cons (de_tup (da_cons (de_int) (da_cons (de_int) (da_cons (de_neg (de_int)) da_nil)))) (da_cons (dv 4) da_nil)))) da_nil))))))
  (ds_one (ds_ret ((de_and (de_c (cm_eq C) (dv 5) (de_add (de_mul (de_lst (da_cons (dv 3) da_nil)) (de_int)) (de_lst (da_cons (de_str) da_nil)))) (de_one (de_c (cm_eq C) (de_call C G__law_word (da_cons (de_int) (da_cons (de_non) (da_cons (dv 4) da_nil)))) (de_str)))))))))))))
theorem ok__law_are_refused {P : Program} {w : World} {K : PySem.W.Frag} {mg : Str → Option Value} {base : Heap} {a : Addr} {fd : FuncData} (B : Fx P K mg) (U : FunD K "_law_are_refused" "_law_are_refused" (defArgs (top 58)) (defBody (top 58)) (defScope (top 58)) [] [] a fd) (hm : mg "_law_are_refused" = some (.ref a)) (G__law_any : DFn P w K mg base "_law_any" 2 2 F__law_any) (G__law_is_conic : DFn P w K mg base "_law_is_conic" 1 2 F__law_is_conic) (G_is_conic : DFn P w K mg base "is_conic" 1 2 F_is_conic) (G__law_word : DFn P w K mg base "_law_word" 3 205 F__law_word) : DFn P w K mg base "_law_are_refused" 1 206 F__law_are_refused :=
  DFn.mk' (fun_of U) hm sc__law_are_refused (U.bindsN fun _ _ _ _ _ _ us hl => match us, hl with | [_], _ => rfl) rfl (fun cdv A outer s H E C => b__law_are_refused B G__law_any G__law_is_conic G_is_conic G__law_word C) (fun ds st _ => viaF_sem 6 g__law_are_refused Good__law_are_refused ds st)
theorem sc__law_number : FnScope N__law_number ["hand", "wide"] (defScope (top 45)) := ⟨rfl, rfl, rfl, by decide +kernel, rfl, by decide +kernel, by decide +kernel⟩
theorem b__law_number {P : Program} {w : World} {K : PySem.W.Frag} {mg : Str → Option Value} {base : Heap} {f : Addr} {cdv : Value} {A : Around} {outer : List Env} {s : Shared} {H : Hp} {E : XK} (B : Fx P K mg) (G__law_draw : DFn P w K mg base "_law_draw" 2 1 F__law_draw) (G__law_any : DFn P w K mg base "_law_any" 2 2 F__law_any) (C : Ctx (cxD P w K mg base N__law_number "_law_number" (top 45) f cdv A outer s H E) (wE E) 2) : DSs (cxD P w K mg base N__law_number "_law_number" (top 45) f cdv A outer s H E) (wE E) (defBody (top 45)) g__law_number := by
  have SC := sc__law_number
  exact (ds_cons (ds_set (i := 2) SC.nd rfl (by first | exact .inl rfl | exact .inr rfl) (de_int))
  (ds_cons (ds_forC C rfl (di_range1 B.b_range (da_cons (de_call C G__law_draw (da_cons (dv 0) (da_cons (de_int) da_nil))) da_nil)) (dg_name SC.nd rfl (by first | exact .inl rfl | exact .inr rfl)) (ds_cons (ds_set (i := 4) SC.nd rfl (by first | exact .inl rfl | exact .inr rfl) (de_call C G__law_any (da_cons (dv 0) (da_cons (de_lst (da_cons (de_int) (da_cons (de_int) (da_cons (de_int) (da_cons (de_int) (da_cons (de_int) (da_cons (de_int) (da_cons (de_int) (da_cons (de_int) (da_cons (de_int) (da_cons (de_int) (da_cons (de_int) da_nil)))))))))))) da_nil))))
  (ds_one (ds_set (i := 2) SC.nd rfl (by first | exact .inl rfl | exact .inr rfl) (de_if (dt_c cm_le (de_mul (dv 2) (dv 4)) (dv 1)) (de_mul (dv 2) (dv 4)) (dv 2))))))
  (ds_one (ds_ret (de_if (dt_c (cm_eq C) (de_call C G__law_draw (da_cons (dv 0) (da_cons (de_int) da_nil))) (de_int)) (dv 2) (de_sub (de_int) (dv 2)))))))
theorem ok__law_number {P : Program} {w : World} {K : PySem.W.Frag} {mg : Str → Option Value} {base : Heap} {a : Addr} {fd : FuncData} (B : Fx P K mg) (U : FunD K "_law_number" "_law_number" (defArgs (top 45)) (defBody (top 45)) (defScope (top 45)) [] [] a fd) (hm : mg "_law_number" = some (.ref a)) (G__law_draw : DFn P w K mg base "_law_draw" 2 1 F__law_draw) (G__law_any : DFn P w K mg base "_law_any" 2 2 F__law_any) : DFn P w K mg base "_law_number" 2 3 F__law_number :=
  DFn.mk' (fun_of U) hm sc__law_number (U.bindsN fun _ _ _ _ _ _ us hl => match us, hl with | [_, _], _ => rfl) rfl (fun cdv A outer s H E C => b__law_number B G__law_draw G__law_any C) (fun ds st _ => viaF_sem 5 g__law_number Good__law_number ds st)
theorem sc__law_with_point : FnScope N__law_with_point ["hand"] (defScope (top 51)) := ⟨rfl, rfl, rfl, by decide +kernel, rfl, by decide +kernel, by decide +kernel⟩
theorem b__law_with_point {P : Program} {w : World} {K : PySem.W.Frag} {mg : Str → Option Value} {base : Heap} {f : Addr} {cdv : Value} {A : Around} {outer : List Env} {s : Shared} {H : Hp} {E : XK} (B : Fx P K mg) (G__law_number : DFn P w K mg base "_law_number" 2 3 F__law_number) (G__law_draw : DFn P w K mg base "_law_draw" 2 1 F__law_draw) (C : Ctx (cxD P w K mg base N__law_with_point "_law_with_point" (top 51) f cdv A outer s H E) (wE E) 3) : DSs (cxD P w K mg base N__law_with_point "_law_with_point" (top 51) f cdv A outer s H E) (wE E) (defBody (top 51)) g__law_with_point := by
  have SC := sc__law_with_point
  exact (ds_cons (ds_forC C rfl (di_range1 B.b_range (da_cons (de_int) da_nil)) (dg_name SC.nd rfl (by first | exact .inl rfl | exact .inr rfl)) (ds_cons (ds_par (i := 2) (j := 3) rfl SC.nd rfl rfl (by decide) rfl rfl (da_cons (de_call C G__law_number (da_cons (dv 0) (da_cons (de_int) da_nil))) (da_cons (de_call C G__law_number (da_cons (dv 0) (da_cons (de_int) da_nil))) da_nil)))
  (ds_cons (ds_par3 (i := 4) (j := 5) (l := 6) rfl SC.nd rfl rfl rfl (by decide) (by decide) (by decide) rfl rfl rfl (da_cons (de_call C G__law_draw (da_cons (dv 0) (da_cons (de_int) da_nil))) (da_cons (de_add (de_int) (de_call C G__law_draw (da_cons (dv 0) (da_cons (de_int) da_nil)))) (da_cons (de_add (de_int) (de_call C G__law_draw (da_cons (dv 0) (da_cons (de_int) da_nil)))) da_nil))))
  (ds_cons (ds_set (i := 7) SC.nd rfl (by first | exact .inl rfl | exact .inr rfl) (de_sub (de_int) (de_add (de_mul (de_mul (dv 2) (dv 4)) (dv 4)) (de_mul (de_mul (dv 3) (dv 5)) (dv 5)))))
  (ds_one (ds_if (PW.pt (dw_and (dt_c (cm_ne C) (dv 7) (de_int)) (dw_and (dt_c (cm_eq C) (de_mod (de_callTy call_int1 cd_int B.b_int PyProof.Rows.boot_int (da_cons (dv 7) da_nil)) (de_mul (dv 6) (dv 6))) (de_int)) (dw_and1 (dt_c cm_le (de_fdiv (de_callB call_abs cd_abs B.b_abs PyProof.Rows.Boot.«abs» (da_cons (dv 7) da_nil)) (de_mul (dv 6) (dv 6))) (de_int)))))) (ds_one (ds_ret (de_tup (da_cons (de_tup (da_cons (dv 2) (da_cons (dv 3) (da_cons (de_fdiv (dv 7) (de_mul (dv 6) (dv 6))) da_nil)))) (da_cons (de_tup (da_cons (dv 4) (da_cons (dv 5) (da_cons (dv 6) da_nil)))) da_nil))))) ds_nil))))))
  (ds_one (ds_ret (de_tup (da_cons (de_tup (da_cons (de_int) (da_cons (de_int) (da_cons (de_neg (de_int)) da_nil)))) (da_cons (de_tup (da_cons (de_int) (da_cons (de_int) (da_cons (de_int) da_nil)))) da_nil))))))
theorem ok__law_with_point {P : Program} {w : World} {K : PySem.W.Frag} {mg : Str → Option Value} {base : Heap} {a : Addr} {fd : FuncData} (B : Fx P K mg) (U : FunD K "_law_with_point" "_law_with_point" (defArgs (top 51)) (defBody (top 51)) (defScope (top 51)) [] [] a fd) (hm : mg "_law_with_point" = some (.ref a)) (G__law_number : DFn P w K mg base "_law_number" 2 3 F__law_number) (G__law_draw : DFn P w K mg base "_law_draw" 2 1 F__law_draw) : DFn P w K mg base "_law_with_point" 1 4 F__law_with_point :=
  DFn.mk' (fun_of U) hm sc__law_with_point (U.bindsN fun _ _ _ _ _ _ us hl => match us, hl with | [_], _ => rfl) rfl (fun cdv A outer s H E C => b__law_with_point B G__law_number G__law_draw C) (fun ds st _ => viaF_sem 8 g__law_with_point Good__law_with_point ds st)
theorem sc__law_primes_of : FnScope N__law_primes_of ["number"] (defScope (top 40)) := ⟨rfl, rfl, rfl, by decide +kernel, rfl, by decide +kernel, by decide +kernel⟩
theorem b__law_primes_of {P : Program} {w : World} {K : PySem.W.Frag} {mg : Str → Option Value} {base : Heap} {f : Addr} {cdv : Value} {A : Around} {outer : List Env} {s : Shared} {H : Hp} {E : XK} (B : Fx P K mg)  (C : Ctx (cxD P w K mg base N__law_primes_of "_law_primes_of" (top 40) f cdv A outer s H E) (wE E) 0) : DSs (cxD P w K mg base N__law_primes_of "_law_primes_of" (top 40) f cdv A outer s H E) (wE E) (defBody (top 40)) g__law_primes_of := by
  have SC := sc__law_primes_of
  exact (ds_cons (ds_par (i := 1) (j := 2) rfl SC.nd rfl rfl (by decide) rfl rfl (da_cons (de_lst da_nil) (da_cons (de_int) da_nil)))
  (ds_cons (ds_whileC C (dt_c cm_le (de_mul (dv 2) (dv 2)) (dv 0)) (ds_cons (ds_if (dt_c (cm_eq C) (de_mod (de_callTy call_int1 cd_int B.b_int PyProof.Rows.boot_int (da_cons (dv 0) da_nil)) (dv 2)) (de_int)) (ds_cons (ds_expr (de_append (dv 1) (da_cons (dv 2) da_nil)))
  (ds_one (ds_whileC C (dt_c (cm_eq C) (de_mod (de_callTy call_int1 cd_int B.b_int PyProof.Rows.boot_int (da_cons (dv 0) da_nil)) (dv 2)) (de_int)) (ds_one (ds_set (i := 0) SC.nd rfl (by first | exact .inl rfl | exact .inr rfl) (de_fdiv (dv 0) (dv 2))))))) ds_nil)
  (ds_one (ds_set (i := 2) SC.nd rfl (by first | exact .inl rfl | exact .inr rfl) (de_add (dv 2) (de_int))))))
  (ds_one (ds_ret (de_if (dt_c cm_gt (dv 0) (de_int)) (de_add (dv 1) (de_lst (da_cons (dv 0) da_nil))) (dv 1))))))
theorem ok__law_primes_of {P : Program} {w : World} {K : PySem.W.Frag} {mg : Str → Option Value} {base : Heap} {a : Addr} {fd : FuncData} (B : Fx P K mg) (U : FunD K "_law_primes_of" "_law_primes_of" (defArgs (top 40)) (defBody (top 40)) (defScope (top 40)) [] [] a fd) (hm : mg "_law_primes_of" = some (.ref a))  : DFn P w K mg base "_law_primes_of" 1 1 F__law_primes_of :=
  DFn.mk' (fun_of U) hm sc__law_primes_of (U.bindsN fun _ _ _ _ _ _ us hl => match us, hl with | [_], _ => rfl) rfl (fun cdv A outer s H E C => b__law_primes_of B  C) (fun ds st _ => viaF_sem 3 g__law_primes_of Good__law_primes_of ds st)
theorem sc__law_without_squares : FnScope N__law_without_squares ["number"] (defScope (top 41)) := ⟨rfl, rfl, rfl, by decide +kernel, rfl, by decide +kernel, by decide +kernel⟩
theorem b__law_without_squares {P : Program} {w : World} {K : PySem.W.Frag} {mg : Str → Option Value} {base : Heap} {f : Addr} {cdv : Value} {A : Around} {outer : List Env} {s : Shared} {H : Hp} {E : XK} (B : Fx P K mg) (G__law_primes_of : DFn P w K mg base "_law_primes_of" 1 1 F__law_primes_of) (C : Ctx (cxD P w K mg base N__law_without_squares "_law_without_squares" (top 41) f cdv A outer s H E) (wE E) 1) : DSs (cxD P w K mg base N__law_without_squares "_law_without_squares" (top 41) f cdv A outer s H E) (wE E) (defBody (top 41)) g__law_without_squares := by
  have SC := sc__law_without_squares
  exact (ds_cons (ds_set (i := 1) SC.nd rfl (by first | exact .inl rfl | exact .inr rfl) (de_callB call_abs cd_abs B.b_abs PyProof.Rows.Boot.«abs» (da_cons (dv 0) da_nil)))
  (ds_cons (ds_forC C rfl (di_seq (de_call C G__law_primes_of (da_cons (dv 1) da_nil))) (dg_name SC.nd rfl (by first | exact .inl rfl | exact .inr rfl)) (ds_one (ds_whileC C (dt_c (cm_eq C) (de_mod (de_callTy call_int1 cd_int B.b_int PyProof.Rows.boot_int (da_cons (dv 1) da_nil)) (de_mul (dv 2) (dv 2))) (de_int)) (ds_one (ds_set (i := 1) SC.nd rfl (by first | exact .inl rfl | exact .inr rfl) (de_fdiv (dv 1) (de_mul (dv 2) (dv 2))))))))
  (ds_one (ds_ret (de_if (dt_c cm_gt (dv 0) (de_int)) (dv 1) (de_sub (de_int) (dv 1)))))))
theorem ok__law_without_squares {P : Program} {w : World} {K : PySem.W.Frag} {mg : Str → Option Value} {base : Heap} {a : Addr} {fd : FuncData} (B : Fx P K mg) (U : FunD K "_law_without_squares" "_law_without_squares" (defArgs (top 41)) (defBody (top 41)) (defScope (top 41)) [] [] a fd) (hm : mg "_law_without_squares" = some (.ref a)) (G__law_primes_of : DFn P w K mg base "_law_primes_of" 1 1 F__law_primes_of) : DFn P w K mg base "_law_without_squares" 1 2 F__law_without_squares :=
  DFn.mk' (fun_of U) hm sc__law_without_squares (U.bindsN fun _ _ _ _ _ _ us hl => match us, hl with | [_], _ => rfl) rfl (fun cdv A outer s H E C => b__law_without_squares B G__law_primes_of C) (fun ds st _ => viaF_sem 3 g__law_without_squares Good__law_without_squares ds st)
theorem sc__law_is_square_rest : FnScope N__law_is_square_rest ["number", "p"] (defScope (top 42)) := ⟨rfl, rfl, rfl, by decide +kernel, rfl, by decide +kernel, by decide +kernel⟩
theorem b__law_is_square_rest {P : Program} {w : World} {K : PySem.W.Frag} {mg : Str → Option Value} {base : Heap} {f : Addr} {cdv : Value} {A : Around} {outer : List Env} {s : Shared} {H : Hp} {E : XK} (B : Fx P K mg)  (C : Ctx (cxD P w K mg base N__law_is_square_rest "_law_is_square_rest" (top 42) f cdv A outer s H E) (wE E) 0) : DSs (cxD P w K mg base N__law_is_square_rest "_law_is_square_rest" (top 42) f cdv A outer s H E) (wE E) (defBody (top 42)) g__law_is_square_rest := by
  have SC := sc__law_is_square_rest
  exact (ds_cons (ds_par3 (i := 2) (j := 3) (l := 4) rfl SC.nd rfl rfl rfl (by decide) (by decide) (by decide) rfl rfl rfl (da_cons (de_int) (da_cons (de_mod (de_callTy call_int1 cd_int B.b_int PyProof.Rows.boot_int (da_cons (dv 0) da_nil)) (dv 1)) (da_cons (de_fdiv (de_sub (dv 1) (de_int)) (de_int)) da_nil))))
  (ds_cons (ds_whileC C (dt_c cm_gt (dv 4) (de_int)) (ds_cons (ds_set (i := 2) SC.nd rfl (by first | exact .inl rfl | exact .inr rfl) (de_if (dt_c (cm_eq C) (de_mod (de_callTy call_int1 cd_int B.b_int PyProof.Rows.boot_int (da_cons (dv 4) da_nil)) (de_int)) (de_int)) (de_mod (de_callTy call_int1 cd_int B.b_int PyProof.Rows.boot_int (da_cons (de_mul (dv 2) (dv 3)) da_nil)) (dv 1)) (dv 2)))
  (ds_one (ds_par (i := 3) (j := 4) rfl SC.nd rfl rfl (by decide) rfl rfl (da_cons (de_mod (de_callTy call_int1 cd_int B.b_int PyProof.Rows.boot_int (da_cons (de_mul (dv 3) (dv 3)) da_nil)) (dv 1)) (da_cons (de_fdiv (dv 4) (de_int)) da_nil))))))
  (ds_one (ds_ret (de_c (cm_eq C) (dv 2) (de_int))))))
theorem ok__law_is_square_rest {P : Program} {w : World} {K : PySem.W.Frag} {mg : Str → Option Value} {base : Heap} {a : Addr} {fd : FuncData} (B : Fx P K mg) (U : FunD K "_law_is_square_rest" "_law_is_square_rest" (defArgs (top 42)) (defBody (top 42)) (defScope (top 42)) [] [] a fd) (hm : mg "_law_is_square_rest" = some (.ref a))  : DFn P w K mg base "_law_is_square_rest" 2 1 F__law_is_square_rest :=
  DFn.mk' (fun_of U) hm sc__law_is_square_rest (U.bindsN fun _ _ _ _ _ _ us hl => match us, hl with | [_, _], _ => rfl) rfl (fun cdv A outer s H E C => b__law_is_square_rest B  C) (fun ds st _ => viaF_sem 5 g__law_is_square_rest Good__law_is_square_rest ds st)
theorem sc__law_sign : FnScope N__law_sign ["one", "other", "p"] (defScope (top 43)) := ⟨rfl, rfl, rfl, by decide +kernel, rfl, by decide +kernel, by decide +kernel⟩
theorem b__law_sign {P : Program} {w : World} {K : PySem.W.Frag} {mg : Str → Option Value} {base : Heap} {f : Addr} {cdv : Value} {A : Around} {outer : List Env} {s : Shared} {H : Hp} {E : XK} (B : Fx P K mg) (G__law_without_squares : DFn P w K mg base "_law_without_squares" 1 2 F__law_without_squares) (G__law_is_square_rest : DFn P w K mg base "_law_is_square_rest" 2 1 F__law_is_square_rest) (C : Ctx (cxD P w K mg base N__law_sign "_law_sign" (top 43) f cdv A outer s H E) (wE E) 2) : DSs (cxD P w K mg base N__law_sign "_law_sign" (top 43) f cdv A outer s H E) (wE E) (defBody (top 43)) g__law_sign := by
  have SC := sc__law_sign
  exact (ds_cons (ds_if (dt_c (cm_eq C) (dv 2) (de_int)) (ds_one (ds_ret (de_if (PW.pt (dw_and (dt_c cm_lt (dv 0) (de_int)) (dw_and1 (dt_c cm_lt (dv 1) (de_int))))) (de_neg (de_int)) (de_int)))) ds_nil)
  (ds_cons (ds_par (i := 0) (j := 1) rfl SC.nd rfl rfl (by decide) rfl rfl (da_cons (de_call C G__law_without_squares (da_cons (dv 0) da_nil)) (da_cons (de_call C G__law_without_squares (da_cons (dv 1) da_nil)) da_nil)))
  (ds_cons (ds_set (i := 3) SC.nd rfl (by first | exact .inl rfl | exact .inr rfl) (de_if (dt_c (cm_eq C) (de_mod (de_callTy call_int1 cd_int B.b_int PyProof.Rows.boot_int (da_cons (dv 0) da_nil)) (dv 2)) (de_int)) (de_fdiv (dv 0) (dv 2)) (dv 0)))
  (ds_cons (ds_set (i := 4) SC.nd rfl (by first | exact .inl rfl | exact .inr rfl) (de_if (dt_c (cm_eq C) (de_mod (de_callTy call_int1 cd_int B.b_int PyProof.Rows.boot_int (da_cons (dv 1) da_nil)) (dv 2)) (de_int)) (de_fdiv (dv 1) (dv 2)) (dv 1)))
  (ds_cons (ds_par (i := 5) (j := 6) rfl SC.nd rfl rfl (by decide) rfl rfl (da_cons (de_c (cm_ne C) (dv 3) (dv 0)) (da_cons (de_c (cm_ne C) (dv 4) (dv 1)) da_nil)))
  (ds_cons (ds_if (dt_c (cm_eq C) (dv 2) (de_int)) (ds_cons (ds_set (i := 7) SC.nd rfl (by first | exact .inl rfl | exact .inr rfl) (de_if (PW.pt (dw_and (dt_c (cm_eq C) (de_mod (de_callTy call_int1 cd_int B.b_int PyProof.Rows.boot_int (da_cons (dv 3) da_nil)) (de_int)) (de_int)) (dw_and1 (dt_c (cm_eq C) (de_mod (de_callTy call_int1 cd_int B.b_int PyProof.Rows.boot_int (da_cons (dv 4) da_nil)) (de_int)) (de_int))))) (de_neg (de_int)) (de_int)))
  (ds_cons (ds_set (i := 7) SC.nd rfl (by first | exact .inl rfl | exact .inr rfl) (de_if (PW.pt (dw_and (dt_truth (dv 5)) (dw_and1 (dt_c (cm_inV C) (de_mod (de_callTy call_int1 cd_int B.b_int PyProof.Rows.boot_int (da_cons (dv 4) da_nil)) (de_int)) (de_tup (da_cons (de_int) (da_cons (de_int) da_nil))))))) (de_sub (de_int) (dv 7)) (dv 7)))
  (ds_one (ds_ret (de_if (PW.pt (dw_and (dt_truth (dv 6)) (dw_and1 (dt_c (cm_inV C) (de_mod (de_callTy call_int1 cd_int B.b_int PyProof.Rows.boot_int (da_cons (dv 3) da_nil)) (de_int)) (de_tup (da_cons (de_int) (da_cons (de_int) da_nil))))))) (de_sub (de_int) (dv 7)) (dv 7)))))) ds_nil)
  (ds_cons (ds_set (i := 7) SC.nd rfl (by first | exact .inl rfl | exact .inr rfl) (de_if (PW.pt (dw_and (dt_truth (dv 5)) (dw_and (dt_truth (dv 6)) (dw_and1 (dt_c (cm_eq C) (de_mod (de_callTy call_int1 cd_int B.b_int PyProof.Rows.boot_int (da_cons (dv 2) da_nil)) (de_int)) (de_int)))))) (de_neg (de_int)) (de_int)))
  (ds_cons (ds_set (i := 7) SC.nd rfl (by first | exact .inl rfl | exact .inr rfl) (de_if (PW.pt (dw_and (dt_truth (dv 5)) (dw_and1 (dt_not (dt_truth (de_call C G__law_is_square_rest (da_cons (dv 4) (da_cons (dv 2) da_nil)))))))) (de_sub (de_int) (dv 7)) (dv 7)))
  (ds_one (ds_ret (de_if (PW.pt (dw_and (dt_truth (dv 6)) (dw_and1 (dt_not (dt_truth (de_call C G__law_is_square_rest (da_cons (dv 3) (da_cons (dv 2) da_nil)))))))) (de_sub (de_int) (dv 7)) (dv 7))))))))))))
theorem ok__law_sign {P : Program} {w : World} {K : PySem.W.Frag} {mg : Str → Option Value} {base : Heap} {a : Addr} {fd : FuncData} (B : Fx P K mg) (U : FunD K "_law_sign" "_law_sign" (defArgs (top 43)) (defBody (top 43)) (defScope (top 43)) [] [] a fd) (hm : mg "_law_sign" = some (.ref a)) (G__law_without_squares : DFn P w K mg base "_law_without_squares" 1 2 F__law_without_squares) (G__law_is_square_rest : DFn P w K mg base "_law_is_square_rest" 2 1 F__law_is_square_rest) : DFn P w K mg base "_law_sign" 3 3 F__law_sign :=
  DFn.mk' (fun_of U) hm sc__law_sign (U.bindsN fun _ _ _ _ _ _ us hl => match us, hl with | [_, _, _], _ => rfl) rfl (fun cdv A outer s H E C => b__law_sign B G__law_without_squares G__law_is_square_rest C) (fun ds st _ => viaF_sem 8 g__law_sign Good__law_sign ds st)
theorem sc__law_wrong : FnScope N__law_wrong ["one", "other"] (defScope (top 44)) := ⟨rfl, rfl, rfl, by decide +kernel, rfl, by decide +kernel, by decide +kernel⟩
theorem b__law_wrong {P : Program} {w : World} {K : PySem.W.Frag} {mg : Str → Option Value} {base : Heap} {f : Addr} {cdv : Value} {A : Around} {outer : List Env} {s : Shared} {H : Hp} {E : XK} (B : Fx P K mg) (G__law_primes_of : DFn P w K mg base "_law_primes_of" 1 1 F__law_primes_of) (G__law_sign : DFn P w K mg base "_law_sign" 3 3 F__law_sign) (C : Ctx (cxD P w K mg base N__law_wrong "_law_wrong" (top 44) f cdv A outer s H E) (wE E) 3) : DSs (cxD P w K mg base N__law_wrong "_law_wrong" (top 44) f cdv A outer s H E) (wE E) (defBody (top 44)) g__law_wrong := by
  have SC := sc__law_wrong
  exact (ds_cons (ds_set (i := 2) SC.nd rfl (by first | exact .inl rfl | exact .inr rfl) (de_sortSetI (de_add (de_add (de_lst (da_cons (de_int) (da_cons (de_int) da_nil))) (de_call C G__law_primes_of (da_cons (de_callB call_abs cd_abs B.b_abs PyProof.Rows.Boot.«abs» (da_cons (dv 0) da_nil)) da_nil))) (de_call C G__law_primes_of (da_cons (de_callB call_abs cd_abs B.b_abs PyProof.Rows.Boot.«abs» (da_cons (dv 1) da_nil)) da_nil))) B.b_sorted B.b_set))
  (ds_one (ds_ret (de_lc (own := [("p", 3)]) C rfl SC.nd (di_seq (dv 2)) (blkOk (by kernel_rfl)) rfl (fun _ _ _ _ _ C => ⟨(dgx_name (by decide) (pg_name SC.nd rfl (.inl rfl) (by first | exact .inl rfl | exact .inr rfl))), (dts_one (dt_c (cm_eq C) (de_call C G__law_sign (da_cons (dv 0) (da_cons (dv 1) (da_cons (dv 3) da_nil)))) (de_neg (de_int)))), (dv 3)⟩)))))
theorem ok__law_wrong {P : Program} {w : World} {K : PySem.W.Frag} {mg : Str → Option Value} {base : Heap} {a : Addr} {fd : FuncData} (B : Fx P K mg) (U : FunD K "_law_wrong" "_law_wrong" (defArgs (top 44)) (defBody (top 44)) (defScope (top 44)) [] [] a fd) (hm : mg "_law_wrong" = some (.ref a)) (G__law_primes_of : DFn P w K mg base "_law_primes_of" 1 1 F__law_primes_of) (G__law_sign : DFn P w K mg base "_law_sign" 3 3 F__law_sign) : DFn P w K mg base "_law_wrong" 2 4 F__law_wrong :=
  DFn.mk' (fun_of U) hm sc__law_wrong (U.bindsN fun _ _ _ _ _ _ us hl => match us, hl with | [_, _], _ => rfl) rfl (fun cdv A outer s H E C => b__law_wrong B G__law_primes_of G__law_sign C) (fun ds st _ => viaF_sem 4 g__law_wrong Good__law_wrong ds st)
theorem sc__law_barring : FnScope N__law_barring ["conic"] (defScope (top 50)) := ⟨rfl, rfl, rfl, by decide +kernel, rfl, by decide +kernel, by decide +kernel⟩
theorem b__law_barring {P : Program} {w : World} {K : PySem.W.Frag} {mg : Str → Option Value} {base : Heap} {f : Addr} {cdv : Value} {A : Around} {outer : List Env} {s : Shared} {H : Hp} {E : XK} (B : Fx P K mg) (G__law_wrong : DFn P w K mg base "_law_wrong" 2 4 F__law_wrong) (C : Ctx (cxD P w K mg base N__law_barring "_law_barring" (top 50) f cdv A outer s H E) (wE E) 4) : DSs (cxD P w K mg base N__law_barring "_law_barring" (top 50) f cdv A outer s H E) (wE E) (defBody (top 50)) g__law_barring := by
  have SC := sc__law_barring
  exact (ds_one (ds_ret (de_call C G__law_wrong (da_cons (de_sub (de_int) (de_mul (de_ix (dv 0) (de_int)) (de_ix (dv 0) (de_int)))) (da_cons (de_sub (de_int) (de_mul (de_ix (dv 0) (de_int)) (de_ix (dv 0) (de_int)))) da_nil)))))
theorem ok__law_barring {P : Program} {w : World} {K : PySem.W.Frag} {mg : Str → Option Value} {base : Heap} {a : Addr} {fd : FuncData} (B : Fx P K mg) (U : FunD K "_law_barring" "_law_barring" (defArgs (top 50)) (defBody (top 50)) (defScope (top 50)) [] [] a fd) (hm : mg "_law_barring" = some (.ref a)) (G__law_wrong : DFn P w K mg base "_law_wrong" 2 4 F__law_wrong) : DFn P w K mg base "_law_barring" 1 5 F__law_barring :=
  DFn.mk' (fun_of U) hm sc__law_barring (U.bindsN fun _ _ _ _ _ _ us hl => match us, hl with | [_], _ => rfl) rfl (fun cdv A outer s H E C => b__law_barring B G__law_wrong C) (fun ds st _ => viaF_sem 1 g__law_barring Good__law_barring ds st)
theorem sc__law_value : FnScope N__law_value ["conic", "point"] (defScope (top 48)) := ⟨rfl, rfl, rfl, by decide +kernel, rfl, by decide +kernel, by decide +kernel⟩
theorem b__law_value {P : Program} {w : World} {K : PySem.W.Frag} {mg : Str → Option Value} {base : Heap} {f : Addr} {cdv : Value} {A : Around} {outer : List Env} {s : Shared} {H : Hp} {E : XK} (B : Fx P K mg)  (C : Ctx (cxD P w K mg base N__law_value "_law_value" (top 48) f cdv A outer s H E) (wE E) 0) : DSs (cxD P w K mg base N__law_value "_law_value" (top 48) f cdv A outer s H E) (wE E) (defBody (top 48)) g__law_value := by
  have SC := sc__law_value
  exact (ds_one (ds_ret (de_callB (cr_sum rfl) cd_sum B.b_sum PyProof.Rows.boot_sum (da_cons (de_lc (own := [("one", 2), ("part", 3)]) C rfl SC.nd (di_zip B.b_zip (da_cons (dv 0) (da_cons (dv 1) da_nil))) (blkOk (by kernel_rfl)) rfl (fun _ _ _ _ _ C => ⟨(dgx_tup rfl (dgxs_cons (dgx_name (by decide) (pg_name SC.nd rfl (.inl rfl) (by first | exact .inl rfl | exact .inr rfl))) (dgxs_cons (dgx_name (by decide) (pg_name SC.nd rfl (.inl rfl) (by first | exact .inl rfl | exact .inr rfl))) dgxs_nil))), dts_nil, (de_mul (de_mul (dv 2) (dv 3)) (dv 3))⟩)) da_nil))))
theorem ok__law_value {P : Program} {w : World} {K : PySem.W.Frag} {mg : Str → Option Value} {base : Heap} {a : Addr} {fd : FuncData} (B : Fx P K mg) (U : FunD K "_law_value" "_law_value" (defArgs (top 48)) (defBody (top 48)) (defScope (top 48)) [] [] a fd) (hm : mg "_law_value" = some (.ref a))  : DFn P w K mg base "_law_value" 2 1 F__law_value :=
  DFn.mk' (fun_of U) hm sc__law_value (U.bindsN fun _ _ _ _ _ _ us hl => match us, hl with | [_, _], _ => rfl) rfl (fun cdv A outer s H E C => b__law_value B  C) (fun ds st _ => viaF_sem 4 g__law_value Good__law_value ds st)
theorem sc__law_is_point : FnScope N__law_is_point ["conic", "thing"] (defScope (top 49)) := ⟨rfl, rfl, rfl, by decide +kernel, rfl, by decide +kernel, by decide +kernel⟩
theorem b__law_is_point {P : Program} {w : World} {K : PySem.W.Frag} {mg : Str → Option Value} {base : Heap} {f : Addr} {cdv : Value} {A : Around} {outer : List Env} {s : Shared} {H : Hp} {E : XK} (B : Fx P K mg) (G__law_is_whole : DFn P w K mg base "_law_is_whole" 1 1 F__law_is_whole) (G__law_value : DFn P w K mg base "_law_value" 2 1 F__law_value) (C : Ctx (cxD P w K mg base N__law_is_point "_law_is_point" (top 49) f cdv A outer s H E) (wE E) 1) : DSs (cxD P w K mg base N__law_is_point "_law_is_point" (top 49) f cdv A outer s H E) (wE E) (defBody (top 49)) g__law_is_point := by
  have SC := sc__law_is_point
  exact (ds_cons (ds_if (PW.pt (dw_or (dt_not (dt_truth (de_isi .tup B.b_isinstance B.b_tuple PyProof.Rows.boot_tuple (dv 1)))) (dw_or (dt_c (cm_ne C) (de_callB call_len_seq cd_len B.b_len PyProof.Rows.Boot.«len» (da_cons (dv 1) da_nil)) (de_int)) (dw_or1 (dt_not (dt_truth (de_callB (cr_all rfl) cd_all B.b_all PyProof.Rows.boot_all (da_cons (de_lc (own := [("one", 2)]) C rfl SC.nd (di_seq (dv 1)) (blkOk (by kernel_rfl)) rfl (fun _ _ _ _ _ C => ⟨(dgx_name (by decide) (pg_name SC.nd rfl (.inl rfl) (by first | exact .inl rfl | exact .inr rfl))), dts_nil, (de_call C G__law_is_whole (da_cons (dv 2) da_nil))⟩)) da_nil)))))))) (ds_one (ds_ret (de_bl))) ds_nil)
  (ds_one (ds_ret ((de_and (de_callB (cr_any rfl) cd_any B.b_any PyProof.Rows.boot_any (da_cons (de_lc (own := [("one", 2)]) C rfl SC.nd (di_seq (dv 1)) (blkOk (by kernel_rfl)) rfl (fun _ _ _ _ _ C => ⟨(dgx_name (by decide) (pg_name SC.nd rfl (.inl rfl) (by first | exact .inl rfl | exact .inr rfl))), dts_nil, (de_c (cm_ne C) (dv 2) (de_int))⟩)) da_nil)) (de_one (de_c (cm_eq C) (de_call C G__law_value (da_cons (dv 0) (da_cons (dv 1) da_nil))) (de_int))))))))
theorem ok__law_is_point {P : Program} {w : World} {K : PySem.W.Frag} {mg : Str → Option Value} {base : Heap} {a : Addr} {fd : FuncData} (B : Fx P K mg) (U : FunD K "_law_is_point" "_law_is_point" (defArgs (top 49)) (defBody (top 49)) (defScope (top 49)) [] [] a fd) (hm : mg "_law_is_point" = some (.ref a)) (G__law_is_whole : DFn P w K mg base "_law_is_whole" 1 1 F__law_is_whole) (G__law_value : DFn P w K mg base "_law_value" 2 1 F__law_value) : DFn P w K mg base "_law_is_point" 2 2 F__law_is_point :=
  DFn.mk' (fun_of U) hm sc__law_is_point (U.bindsN fun _ _ _ _ _ _ us hl => match us, hl with | [_, _], _ => rfl) rfl (fun cdv A outer s H E C => b__law_is_point B G__law_is_whole G__law_value C) (fun ds st _ => viaF_sem 3 g__law_is_point Good__law_is_point ds st)
theorem sc__law_is_paper : FnScope N__law_is_paper ["conic", "thing"] (defScope (top 53)) := ⟨rfl, rfl, rfl, by decide +kernel, rfl, by decide +kernel, by decide +kernel⟩
theorem b__law_is_paper {P : Program} {w : World} {K : PySem.W.Frag} {mg : Str → Option Value} {base : Heap} {f : Addr} {cdv : Value} {A : Around} {outer : List Env} {s : Shared} {H : Hp} {E : XK} (B : Fx P K mg) (G__law_is_whole : DFn P w K mg base "_law_is_whole" 1 1 F__law_is_whole) (G__law_barring : DFn P w K mg base "_law_barring" 1 5 F__law_barring) (G__law_is_point : DFn P w K mg base "_law_is_point" 2 2 F__law_is_point) (C : Ctx (cxD P w K mg base N__law_is_paper "_law_is_paper" (top 53) f cdv A outer s H E) (wE E) 5) : DSs (cxD P w K mg base N__law_is_paper "_law_is_paper" (top 53) f cdv A outer s H E) (wE E) (defBody (top 53)) g__law_is_paper := by
  have SC := sc__law_is_paper
  exact (ds_cons (ds_if (PW.pt (dw_or (dt_not (dt_truth (de_isi .tup B.b_isinstance B.b_tuple PyProof.Rows.boot_tuple (dv 1)))) (dw_or (dt_c (cm_ne C) (de_callB call_len_seq cd_len B.b_len PyProof.Rows.Boot.«len» (da_cons (dv 1) da_nil)) (de_int)) (dw_or1 (dt_not (dt_truth (de_isi .str B.b_isinstance B.b_str PyProof.Rows.boot_str (de_ix (dv 1) (de_int))))))))) (ds_one (ds_ret (de_bl))) ds_nil)
  (ds_cons (ds_if (dt_c (cm_eq C) (de_ix (dv 1) (de_int)) (de_str)) (ds_one (ds_ret ((de_and (de_call C G__law_is_whole (da_cons (de_ix (dv 1) (de_int)) da_nil)) (de_one (de_c (cm_inV C) (de_ix (dv 1) (de_int)) (de_call C G__law_barring (da_cons (dv 0) da_nil)))))))) ds_nil)
  (ds_one (ds_ret ((de_and (de_c (cm_eq C) (de_ix (dv 1) (de_int)) (de_str)) (de_one (de_call C G__law_is_point (da_cons (dv 0) (da_cons (de_ix (dv 1) (de_int)) da_nil))))))))))
theorem ok__law_is_paper {P : Program} {w : World} {K : PySem.W.Frag} {mg : Str → Option Value} {base : Heap} {a : Addr} {fd : FuncData} (B : Fx P K mg) (U : FunD K "_law_is_paper" "_law_is_paper" (defArgs (top 53)) (defBody (top 53)) (defScope (top 53)) [] [] a fd) (hm : mg "_law_is_paper" = some (.ref a)) (G__law_is_whole : DFn P w K mg base "_law_is_whole" 1 1 F__law_is_whole) (G__law_barring : DFn P w K mg base "_law_barring" 1 5 F__law_barring) (G__law_is_point : DFn P w K mg base "_law_is_point" 2 2 F__law_is_point) : DFn P w K mg base "_law_is_paper" 2 6 F__law_is_paper :=
  DFn.mk' (fun_of U) hm sc__law_is_paper (U.bindsN fun _ _ _ _ _ _ us hl => match us, hl with | [_, _], _ => rfl) rfl (fun cdv A outer s H E C => b__law_is_paper B G__law_is_whole G__law_barring G__law_is_point C) (fun ds st _ => viaF_sem 2 g__law_is_paper Good__law_is_paper ds st)
theorem sc__law_divisor : FnScope N__law_divisor ["some"] (defScope (top 46)) := ⟨rfl, rfl, rfl, by decide +kernel, rfl, by decide +kernel, by decide +kernel⟩
theorem b__law_divisor {P : Program} {w : World} {K : PySem.W.Frag} {mg : Str → Option Value} {base : Heap} {f : Addr} {cdv : Value} {A : Around} {outer : List Env} {s : Shared} {H : Hp} {E : XK} (B : Fx P K mg)  (C : Ctx (cxD P w K mg base N__law_divisor "_law_divisor" (top 46) f cdv A outer s H E) (wE E) 0) : DSs (cxD P w K mg base N__law_divisor "_law_divisor" (top 46) f cdv A outer s H E) (wE E) (defBody (top 46)) g__law_divisor := by
  have SC := sc__law_divisor
  exact (ds_cons (ds_set (i := 1) SC.nd rfl (by first | exact .inl rfl | exact .inr rfl) (de_int))
  (ds_cons (ds_forC C rfl (di_seq (dv 0)) (dg_name SC.nd rfl (by first | exact .inl rfl | exact .inr rfl)) (ds_cons (ds_par (i := 3) (j := 4) rfl SC.nd rfl rfl (by decide) rfl rfl (da_cons (dv 1) (da_cons (de_callB call_abs cd_abs B.b_abs PyProof.Rows.Boot.«abs» (da_cons (dv 2) da_nil)) da_nil)))
  (ds_cons (ds_whileC C (dt_c cm_gt (dv 4) (de_int)) (ds_one (ds_par (i := 3) (j := 4) rfl SC.nd rfl rfl (by decide) rfl rfl (da_cons (dv 4) (da_cons (de_mod (de_callTy call_int1 cd_int B.b_int PyProof.Rows.boot_int (da_cons (dv 3) da_nil)) (dv 4)) da_nil)))))
  (ds_one (ds_set (i := 1) SC.nd rfl (by first | exact .inl rfl | exact .inr rfl) (dv 3))))))
  (ds_one (ds_ret (dv 1)))))
theorem ok__law_divisor {P : Program} {w : World} {K : PySem.W.Frag} {mg : Str → Option Value} {base : Heap} {a : Addr} {fd : FuncData} (B : Fx P K mg) (U : FunD K "_law_divisor" "_law_divisor" (defArgs (top 46)) (defBody (top 46)) (defScope (top 46)) [] [] a fd) (hm : mg "_law_divisor" = some (.ref a))  : DFn P w K mg base "_law_divisor" 1 1 F__law_divisor :=
  DFn.mk' (fun_of U) hm sc__law_divisor (U.bindsN fun _ _ _ _ _ _ us hl => match us, hl with | [_], _ => rfl) rfl (fun cdv A outer s H E C => b__law_divisor B  C) (fun ds st _ => viaF_sem 5 g__law_divisor Good__law_divisor ds st)
theorem sc__law_bent : FnScope N__law_bent ["hand", "conic", "thing"] (defScope (top 55)) := ⟨rfl, rfl, rfl, by decide +kernel, rfl, by decide +kernel, by decide +kernel⟩
theorem b__law_bent {P : Program} {w : World} {K : PySem.W.Frag} {mg : Str → Option Value} {base : Heap} {f : Addr} {cdv : Value} {A : Around} {outer : List Env} {s : Shared} {H : Hp} {E : XK} (B : Fx P K mg) (G__law_any : DFn P w K mg base "_law_any" 2 2 F__law_any) (C : Ctx (cxD P w K mg base N__law_bent "_law_bent" (top 55) f cdv A outer s H E) (wE E) 2) : DSs (cxD P w K mg base N__law_bent "_law_bent" (top 55) f cdv A outer s H E) (wE E) (defBody (top 55)) g__law_bent := by
  have SC := sc__law_bent
  exact (ds_cons (ds_set (i := 3) SC.nd rfl (by first | exact .inl rfl | exact .inr rfl) (de_lst (da_cons (de_non) (da_cons (de_bl) (da_cons (de_int) (da_cons (de_neg (de_int)) (da_cons (de_int) (da_cons (de_str) (da_cons (de_tup (da_cons (de_int) da_nil)) (da_cons (de_add (de_pow (de_int) (de_int)) (de_int)) (da_cons (de_lst (da_cons (de_int) (da_cons (de_int) (da_cons (de_int) da_nil)))) (da_cons (de_tup (da_cons (de_int) (da_cons (de_int) (da_cons (de_int) da_nil)))) (da_cons (de_tup (da_cons (de_int) (da_cons (de_int) da_nil))) (da_cons (de_dic0) (da_cons (de_lst (da_cons (de_lst (da_cons (de_lst (da_cons (de_str) da_nil)) (da_cons (de_non) da_nil))) da_nil)) da_nil)))))))))))))))
  (ds_cons (ds_set (i := 3) SC.nd rfl (by first | exact .inl rfl | exact .inr rfl) (de_call C G__law_any (da_cons (dv 0) (da_cons (dv 3) da_nil))))
  (ds_cons (ds_set (i := 4) SC.nd rfl (by first | exact .inl rfl | exact .inr rfl) (de_lst (da_cons (de_tup (da_cons (de_str) (da_cons (dv 3) da_nil))) (da_cons (de_tup (da_cons (de_str) (da_cons (dv 3) da_nil))) (da_cons (de_tup (da_cons (de_str) (da_cons (de_call C G__law_any (da_cons (dv 0) (da_cons (de_lst (da_cons (de_int) (da_cons (de_int) (da_cons (de_int) (da_cons (de_int) (da_cons (de_int) da_nil)))))) da_nil))) da_nil))) (da_cons (de_tup (da_cons (de_ix (dv 2) (de_int)) da_nil)) (da_cons (de_callTy call_list_of cd_list B.b_list PyProof.Rows.boot_list (da_cons (dv 2) da_nil)) da_nil)))))))
  (ds_cons (ds_set (i := 4) SC.nd rfl (by first | exact .inl rfl | exact .inr rfl) (de_add (dv 4) (de_lst (da_cons (de_non) (da_cons (de_tup da_nil) da_nil)))))
  (ds_cons (ds_set (i := 4) SC.nd rfl (by first | exact .inl rfl | exact .inr rfl) (de_add (dv 4) (de_lst (da_cons (de_tup (da_cons (de_str) (da_cons (de_ix (dv 2) (de_int)) da_nil))) (da_cons (de_tup (da_cons (de_int) (da_cons (de_ix (dv 2) (de_int)) da_nil))) (da_cons (de_add (dv 2) (de_tup (da_cons (de_int) da_nil))) (da_cons (de_tup (da_cons (de_str) (da_cons (de_tup (da_cons (de_int) (da_cons (de_int) (da_cons (de_int) da_nil)))) da_nil))) (da_cons (de_tup (da_cons (de_str) (da_cons (de_tup (da_cons (de_int) (da_cons (de_int) (da_cons (de_int) da_nil)))) da_nil))) da_nil))))))))
  (ds_cons (ds_if (dt_c (cm_eq C) (de_ix (dv 2) (de_int)) (de_str)) (ds_cons (ds_asg (de_ix (dv 2) (de_int)) (dg_tup rfl (dgs_cons (dg_name SC.nd rfl (by first | exact .inl rfl | exact .inr rfl)) (dgs_cons (dg_name SC.nd rfl (by first | exact .inl rfl | exact .inr rfl)) (dgs_cons (dg_name SC.nd rfl (by first | exact .inl rfl | exact .inr rfl)) dgs_nil)))))
  (ds_cons (ds_set (i := 8) SC.nd rfl (by first | exact .inl rfl | exact .inr rfl) (de_lst (da_cons (de_tup (da_cons (de_sub (de_int) (dv 5)) (da_cons (dv 6) (da_cons (dv 7) da_nil)))) (da_cons (de_tup (da_cons (de_mul (de_int) (dv 5)) (da_cons (de_mul (de_int) (dv 6)) (da_cons (de_mul (de_int) (dv 7)) da_nil)))) (da_cons (de_tup (da_cons (dv 6) (da_cons (dv 5) (da_cons (dv 7) da_nil)))) (da_cons (de_tup (da_cons (dv 5) (da_cons (dv 6) (da_cons (de_add (dv 7) (de_int)) da_nil)))) (da_cons (de_lst (da_cons (dv 5) (da_cons (dv 6) (da_cons (dv 7) da_nil)))) da_nil)))))))
  (ds_cons (ds_set (i := 4) SC.nd rfl (by first | exact .inl rfl | exact .inr rfl) (de_add (dv 4) (de_mul (de_lc (own := [("one", 9)]) C rfl SC.nd (di_seq (dv 8)) (blkOk (by kernel_rfl)) rfl (fun _ _ _ _ _ C => ⟨(dgx_name (by decide) (pg_name SC.nd rfl (.inl rfl) (by first | exact .inl rfl | exact .inr rfl))), dts_nil, (de_tup (da_cons (de_str) (da_cons (dv 9) da_nil)))⟩)) (de_int))))
  (ds_one (ds_set (i := 4) SC.nd rfl (by first | exact .inl rfl | exact .inr rfl) (de_add (dv 4) (de_lst (da_cons (de_tup (da_cons (de_str) (da_cons (de_ix (dv 2) (de_int)) da_nil))) (da_cons (de_tup (da_cons (de_str) (da_cons (de_tup (da_cons (dv 5) (da_cons (dv 6) da_nil))) da_nil))) (da_cons (de_tup (da_cons (de_str) (da_cons (de_tup (da_cons (dv 5) (da_cons (dv 6) (da_cons (de_bl) da_nil)))) da_nil))) da_nil)))))))))) ds_nil)
  (ds_one (ds_ret (de_call C G__law_any (da_cons (dv 0) (da_cons (dv 4) da_nil)))))))))))
theorem ok__law_bent {P : Program} {w : World} {K : PySem.W.Frag} {mg : Str → Option Value} {base : Heap} {a : Addr} {fd : FuncData} (B : Fx P K mg) (U : FunD K "_law_bent" "_law_bent" (defArgs (top 55)) (defBody (top 55)) (defScope (top 55)) [] [] a fd) (hm : mg "_law_bent" = some (.ref a)) (G__law_any : DFn P w K mg base "_law_any" 2 2 F__law_any) : DFn P w K mg base "_law_bent" 3 3 F__law_bent :=
  DFn.mk' (fun_of U) hm sc__law_bent (U.bindsN fun _ _ _ _ _ _ us hl => match us, hl with | [_, _, _], _ => rfl) rfl (fun cdv A outer s H E C => b__law_bent B G__law_any C) (fun ds st _ => viaF_sem 10 g__law_bent Good__law_bent ds st)
theorem sc__law_shuffled : FnScope N__law_shuffled ["hand", "some"] (defScope (top 39)) := ⟨rfl, rfl, rfl, by decide +kernel, rfl, by decide +kernel, by decide +kernel⟩
theorem b__law_shuffled {P : Program} {w : World} {K : PySem.W.Frag} {mg : Str → Option Value} {base : Heap} {f : Addr} {cdv : Value} {A : Around} {outer : List Env} {s : Shared} {H : Hp} {E : XK} (B : Fx P K mg) (G__law_draw : DFn P w K mg base "_law_draw" 2 1 F__law_draw) (C : Ctx (cxD P w K mg base N__law_shuffled "_law_shuffled" (top 39) f cdv A outer s H E) (wE E) 1) : DSs (cxD P w K mg base N__law_shuffled "_law_shuffled" (top 39) f cdv A outer s H E) (wE E) (defBody (top 39)) g__law_shuffled := by
  have SC := sc__law_shuffled
  exact (ds_cons (ds_par (i := 2) (j := 3) rfl SC.nd rfl rfl (by decide) rfl rfl (da_cons (de_callTy call_list_of cd_list B.b_list PyProof.Rows.boot_list (da_cons (dv 1) da_nil)) (da_cons (de_lst da_nil) da_nil)))
  (ds_cons (ds_whileC C (dt_c cm_gt (de_callB call_len_seq cd_len B.b_len PyProof.Rows.Boot.«len» (da_cons (dv 2) da_nil)) (de_int)) (ds_one (ds_expr (de_append (dv 3) (da_cons (de_popAt (dv 2) (da_cons (de_call C G__law_draw (da_cons (dv 0) (da_cons (de_callB call_len_seq cd_len B.b_len PyProof.Rows.Boot.«len» (da_cons (dv 2) da_nil)) da_nil))) da_nil)) da_nil)))))
  (ds_one (ds_ret (dv 3)))))
theorem ok__law_shuffled {P : Program} {w : World} {K : PySem.W.Frag} {mg : Str → Option Value} {base : Heap} {a : Addr} {fd : FuncData} (B : Fx P K mg) (U : FunD K "_law_shuffled" "_law_shuffled" (defArgs (top 39)) (defBody (top 39)) (defScope (top 39)) [] [] a fd) (hm : mg "_law_shuffled" = some (.ref a)) (G__law_draw : DFn P w K mg base "_law_draw" 2 1 F__law_draw) : DFn P w K mg base "_law_shuffled" 2 2 F__law_shuffled :=
  DFn.mk' (fun_of U) hm sc__law_shuffled (U.bindsN fun _ _ _ _ _ _ us hl => match us, hl with | [_, _], _ => rfl) rfl (fun cdv A outer s H E C => b__law_shuffled B G__law_draw C) (fun ds st _ => viaF_sem 4 g__law_shuffled Good__law_shuffled ds st)
theorem sc__law_is_right : FnScope N__law_is_right ["hand", "conic", "point"] (defScope (top 56)) := ⟨rfl, rfl, rfl, by decide +kernel, rfl, by decide +kernel, by decide +kernel⟩
theorem b__law_is_right {P : Program} {w : World} {K : PySem.W.Frag} {mg : Str → Option Value} {base : Heap} {f : Addr} {cdv : Value} {A : Around} {outer : List Env} {s : Shared} {H : Hp} {E : XK} (B : Fx P K mg) (G__law_barring : DFn P w K mg base "_law_barring" 1 5 F__law_barring) (G_conic_point : DFn P w K mg base "conic_point" 1 204 F_conic_point) (G__law_is_paper : DFn P w K mg base "_law_is_paper" 2 6 F__law_is_paper) (G__law_divisor : DFn P w K mg base "_law_divisor" 1 1 F__law_divisor) (G__law_any : DFn P w K mg base "_law_any" 2 2 F__law_any) (G__law_primes_of : DFn P w K mg base "_law_primes_of" 1 1 F__law_primes_of) (G_barred_at : DFn P w K mg base "barred_at" 2 4 F_barred_at) (G__law_bent : DFn P w K mg base "_law_bent" 3 3 F__law_bent) (G_is_conic_paper : DFn P w K mg base "is_conic_paper" 2 5 F_is_conic_paper) (G__law_shuffled : DFn P w K mg base "_law_shuffled" 2 2 F__law_shuffled) (G__law_without_squares : DFn P w K mg base "_law_without_squares" 1 2 F__law_without_squares) (C : Ctx (cxD P w K mg base N__law_is_right "_law_is_right" (top 56) f cdv A outer s H E) (wE E) 204) : DSs (cxD P w K mg base N__law_is_right "_law_is_right" (top 56) f cdv A outer s H E) (wE E) (defBody (top 56)) g__law_is_right := by
  have SC := sc__law_is_right
  exact (ds_cons (ds_asg (de_tup (da_cons (de_call C G_conic_point (da_cons (dv 1) da_nil)) (da_cons (de_call C G__law_barring (da_cons (dv 1) da_nil)) da_nil))) (dg_tup rfl (dgs_cons (dg_name SC.nd rfl (by first | exact .inl rfl | exact .inr rfl)) (dgs_cons (dg_name SC.nd rfl (by first | exact .inl rfl | exact .inr rfl)) dgs_nil))))
  (ds_cons (ds_if (PW.pt (dw_or (dt_not (dt_truth (de_call C G__law_is_paper (da_cons (dv 1) (da_cons (dv 3) da_nil))))) (dw_or1 (dt_c (cm_ne C) (de_c (cm_eq C) (de_ix (dv 3) (de_int)) (de_str)) (de_c (cm_eq C) (de_callB call_len_seq cd_len B.b_len PyProof.Rows.Boot.«len» (da_cons (dv 4) da_nil)) (de_int)))))) (ds_one (ds_ret (de_bl))) ds_nil)
  (ds_cons (ds_if (PW.pt (dw_or (PW.pt (dw_and (dt_c (cm_eq C) (de_ix (dv 3) (de_int)) (de_str)) (dw_and1 (dt_c (cm_ne C) (de_call C G__law_divisor (da_cons (de_ix (dv 3) (de_int)) da_nil)) (de_int))))) (dw_or1 (PW.pt (dw_and (dt_c (cm_eq C) (de_ix (dv 3) (de_int)) (de_str)) (dw_and1 (dt_c (cm_ne C) (de_ix (dv 3) (de_int)) (de_ix (dv 4) (de_int))))))))) (ds_one (ds_ret (de_bl))) ds_nil)
  (ds_cons (ds_if (PW.pt (dw_or (PW.pt (dw_and (dt_c cm_notN (dv 2) (de_non)) (dw_and1 (dt_c (cm_ne C) (de_ix (dv 3) (de_int)) (de_str))))) (dw_or1 (dt_c (cm_ne C) (de_callB (call_repr C) cd_repr B.b_repr PyProof.Rows.boot_repr (da_cons (de_call C G_conic_point (da_cons (dv 1) da_nil)) da_nil)) (de_callB (call_repr C) cd_repr B.b_repr PyProof.Rows.boot_repr (da_cons (dv 3) da_nil)))))) (ds_one (ds_ret (de_bl))) ds_nil)
  (ds_cons (ds_forC C rfl (di_seq (de_add (de_lst (da_cons (de_int) (da_cons (de_int) (da_cons (de_int) (da_cons (de_int) (da_cons (de_call C G__law_any (da_cons (dv 0) (da_cons (de_lst (da_cons (de_int) (da_cons (de_int) (da_cons (de_int) (da_cons (de_int) da_nil))))) da_nil))) da_nil)))))) (de_call C G__law_primes_of (da_cons (de_callB call_abs cd_abs B.b_abs PyProof.Rows.Boot.«abs» (da_cons (de_mul (de_ix (dv 1) (de_int)) (de_ix (dv 1) (de_int))) da_nil)) da_nil)))) (dg_name SC.nd rfl (by first | exact .inl rfl | exact .inr rfl)) (ds_one (ds_if (dt_c (cm_ne C) (de_callB (call_repr C) cd_repr B.b_repr PyProof.Rows.boot_repr (da_cons (de_call C G_barred_at (da_cons (dv 1) (da_cons (dv 5) da_nil))) da_nil)) (de_callB (call_repr C) cd_repr B.b_repr PyProof.Rows.boot_repr (da_cons (de_c (cm_inV C) (dv 5) (dv 4)) da_nil))) (ds_one (ds_ret (de_bl))) ds_nil)))
  (ds_cons (ds_set (i := 6) SC.nd rfl (by first | exact .inl rfl | exact .inr rfl) (de_add (de_lst (da_cons (dv 3) da_nil)) (de_lc (own := [("p", 5)]) C rfl SC.nd (di_seq (dv 4)) (blkOk (by kernel_rfl)) rfl (fun _ _ _ _ _ C => ⟨(dgx_name (by decide) (pg_name SC.nd rfl (.inl rfl) (by first | exact .inl rfl | exact .inr rfl))), dts_nil, (de_tup (da_cons (de_str) (da_cons (dv 5) da_nil)))⟩))))
  (ds_cons (ds_set (i := 6) SC.nd rfl (by first | exact .inl rfl | exact .inr rfl) (de_add (dv 6) (de_if (dt_c cm_isN (dv 2) (de_non)) (de_lst da_nil) (de_lst (da_cons (de_tup (da_cons (de_str) (da_cons (dv 2) da_nil))) da_nil)))))
  (ds_cons (ds_forC C rfl (di_seq (de_add (dv 6) (de_lc (own := [("lap", 11)]) C rfl SC.nd (di_range1 B.b_range (da_cons (de_int) da_nil)) (blkOk (by kernel_rfl)) rfl (fun _ _ _ _ _ C => ⟨(dgx_name (by decide) (pg_name SC.nd rfl (.inl rfl) (by first | exact .inl rfl | exact .inr rfl))), dts_nil, (de_call C G__law_bent (da_cons (dv 0) (da_cons (dv 1) (da_cons (dv 3) da_nil))))⟩)))) (dg_name SC.nd rfl (by first | exact .inl rfl | exact .inr rfl)) (ds_one (ds_if (dt_c (cm_ne C) (de_callB (call_repr C) cd_repr B.b_repr PyProof.Rows.boot_repr (da_cons (de_call C G_is_conic_paper (da_cons (dv 1) (da_cons (dv 7) da_nil))) da_nil)) (de_callB (call_repr C) cd_repr B.b_repr PyProof.Rows.boot_repr (da_cons (de_call C G__law_is_paper (da_cons (dv 1) (da_cons (dv 7) da_nil))) da_nil))) (ds_one (ds_ret (de_bl))) ds_nil)))
  (ds_cons (ds_set (i := 8) SC.nd rfl (by first | exact .inl rfl | exact .inr rfl) (de_callTy call_tuple_of cd_tuple B.b_tuple PyProof.Rows.boot_tuple (da_cons (de_call C G__law_shuffled (da_cons (dv 0) (da_cons (dv 1) da_nil))) da_nil)))
  (ds_cons (ds_set (i := 9) SC.nd rfl (by first | exact .inl rfl | exact .inr rfl) (de_callTy call_tuple_of cd_tuple B.b_tuple PyProof.Rows.boot_tuple (da_cons (de_lc (own := [("one", 12)]) C rfl SC.nd (di_seq (dv 1)) (blkOk (by kernel_rfl)) rfl (fun _ _ _ _ _ C => ⟨(dgx_name (by decide) (pg_name SC.nd rfl (.inl rfl) (by first | exact .inl rfl | exact .inr rfl))), dts_nil, (de_call C G__law_without_squares (da_cons (dv 12) da_nil))⟩)) da_nil)))
  (ds_cons (ds_set (i := 10) SC.nd rfl (by first | exact .inl rfl | exact .inr rfl) (de_callTy call_tuple_of cd_tuple B.b_tuple PyProof.Rows.boot_tuple (da_cons (de_lc (own := [("one", 12)]) C rfl SC.nd (di_seq (dv 1)) (blkOk (by kernel_rfl)) rfl (fun _ _ _ _ _ C => ⟨(dgx_name (by decide) (pg_name SC.nd rfl (.inl rfl) (by first | exact .inl rfl | exact .inr rfl))), dts_nil, (de_sub (de_int) (dv 12))⟩)) da_nil)))
  (ds_one (ds_ret (de_c (cm_eq C) (de_lc (own := [("one", 12)]) C rfl SC.nd (di_seq (de_tup (da_cons (dv 8) (da_cons (dv 9) (da_cons (dv 10) da_nil))))) (blkOk (by kernel_rfl)) rfl (fun _ _ _ _ _ C => ⟨(dgx_name (by decide) (pg_name SC.nd rfl (.inl rfl) (by first | exact .inl rfl | exact .inr rfl))), dts_nil, (de_ix (de_call C G_conic_point (da_cons (dv 12) da_nil)) (de_int))⟩)) (de_mul (de_lst (da_cons (de_ix (dv 3) (de_int)) da_nil)) (de_int))))))))))))))))
theorem ok__law_is_right {P : Program} {w : World} {K : PySem.W.Frag} {mg : Str → Option Value} {base : Heap} {a : Addr} {fd : FuncData} (B : Fx P K mg) (U : FunD K "_law_is_right" "_law_is_right" (defArgs (top 56)) (defBody (top 56)) (defScope (top 56)) [] [] a fd) (hm : mg "_law_is_right" = some (.ref a)) (G__law_barring : DFn P w K mg base "_law_barring" 1 5 F__law_barring) (G_conic_point : DFn P w K mg base "conic_point" 1 204 F_conic_point) (G__law_is_paper : DFn P w K mg base "_law_is_paper" 2 6 F__law_is_paper) (G__law_divisor : DFn P w K mg base "_law_divisor" 1 1 F__law_divisor) (G__law_any : DFn P w K mg base "_law_any" 2 2 F__law_any) (G__law_primes_of : DFn P w K mg base "_law_primes_of" 1 1 F__law_primes_of) (G_barred_at : DFn P w K mg base "barred_at" 2 4 F_barred_at) (G__law_bent : DFn P w K mg base "_law_bent" 3 3 F__law_bent) (G_is_conic_paper : DFn P w K mg base "is_conic_paper" 2 5 F_is_conic_paper) (G__law_shuffled : DFn P w K mg base "_law_shuffled" 2 2 F__law_shuffled) (G__law_without_squares : DFn P w K mg base "_law_without_squares" 1 2 F__law_without_squares) : DFn P w K mg base "_law_is_right" 3 205 F__law_is_right :=
  DFn.mk' (fun_of U) hm sc__law_is_right (U.bindsN fun _ _ _ _ _ _ us hl => match us, hl with | [_, _, _], _ => rfl) rfl (fun cdv A outer s H E C => b__law_is_right B G__law_barring G_conic_point G__law_is_paper G__law_divisor G__law_any G__law_primes_of G_barred_at G__law_bent G_is_conic_paper G__law_shuffled G__law_without_squares C) (fun ds st _ => viaF_sem 13 g__law_is_right Good__law_is_right ds st)
theorem sc__law_conic : FnScope N__law_conic ["hand"] (defScope (top 54)) := ⟨rfl, rfl, rfl, by decide +kernel, rfl, by decide +kernel, by decide +kernel⟩
theorem b__law_conic {P : Program} {w : World} {K : PySem.W.Frag} {mg : Str → Option Value} {base : Heap} {f : Addr} {cdv : Value} {A : Around} {outer : List Env} {s : Shared} {H : Hp} {E : XK} (B : Fx P K mg) (G__law_any : DFn P w K mg base "_law_any" 2 2 F__law_any) (G__law_number : DFn P w K mg base "_law_number" 2 3 F__law_number) (C : Ctx (cxD P w K mg base N__law_conic "_law_conic" (top 54) f cdv A outer s H E) (wE E) 3) : DSs (cxD P w K mg base N__law_conic "_law_conic" (top 54) f cdv A outer s H E) (wE E) (defBody (top 54)) g__law_conic := by
  have SC := sc__law_conic
  exact (ds_cons (ds_set (i := 1) SC.nd rfl (by first | exact .inl rfl | exact .inr rfl) (de_call C G__law_any (da_cons (dv 0) (da_cons (de_lst (da_cons (de_int) (da_cons (de_int) (da_cons (de_int) (da_cons (de_int) da_nil))))) da_nil))))
  (ds_one (ds_ret (de_callTy call_tuple_of cd_tuple B.b_tuple PyProof.Rows.boot_tuple (da_cons (de_lc (own := [("part", 2)]) C rfl SC.nd (di_range1 B.b_range (da_cons (de_int) da_nil)) (blkOk (by kernel_rfl)) rfl (fun _ _ _ _ _ C => ⟨(dgx_name (by decide) (pg_name SC.nd rfl (.inl rfl) (by first | exact .inl rfl | exact .inr rfl))), dts_nil, (de_call C G__law_number (da_cons (dv 0) (da_cons (dv 1) da_nil)))⟩)) da_nil)))))
theorem ok__law_conic {P : Program} {w : World} {K : PySem.W.Frag} {mg : Str → Option Value} {base : Heap} {a : Addr} {fd : FuncData} (B : Fx P K mg) (U : FunD K "_law_conic" "_law_conic" (defArgs (top 54)) (defBody (top 54)) (defScope (top 54)) [] [] a fd) (hm : mg "_law_conic" = some (.ref a)) (G__law_any : DFn P w K mg base "_law_any" 2 2 F__law_any) (G__law_number : DFn P w K mg base "_law_number" 2 3 F__law_number) : DFn P w K mg base "_law_conic" 1 4 F__law_conic :=
  DFn.mk' (fun_of U) hm sc__law_conic (U.bindsN fun _ _ _ _ _ _ us hl => match us, hl with | [_], _ => rfl) rfl (fun cdv A outer s H E C => b__law_conic B G__law_any G__law_number C) (fun ds st _ => viaF_sem 3 g__law_conic Good__law_conic ds st)
theorem sc_law : FnScope N_law ["script"] (defScope (top 59)) := ⟨rfl, rfl, rfl, by decide +kernel, rfl, by decide +kernel, by decide +kernel⟩
theorem b_law {P : Program} {w : World} {K : PySem.W.Frag} {mg : Str → Option Value} {base : Heap} {f : Addr} {cdv : Value} {A : Around} {outer : List Env} {s : Shared} {H : Hp} {E : XK} (B : Fx P K mg) (G__law_hand : DFn P w K mg base "_law_hand" 1 1 F__law_hand) (G_conic_point : DFn P w K mg base "conic_point" 1 204 F_conic_point) (G__law_are_refused : DFn P w K mg base "_law_are_refused" 1 206 F__law_are_refused) (G__law_with_point : DFn P w K mg base "_law_with_point" 1 4 F__law_with_point) (G__law_is_right : DFn P w K mg base "_law_is_right" 3 205 F__law_is_right) (G__law_conic : DFn P w K mg base "_law_conic" 1 4 F__law_conic) (C : Ctx (cxD P w K mg base N_law "law" (top 59) f cdv A outer s H E) (wE E) 206) : DSs (cxD P w K mg base N_law "law" (top 59) f cdv A outer s H E) (wE E) (defBody (top 59)) g_law := by
  have SC := sc_law
  exact (ds_cons (ds_set (i := 1) SC.nd rfl (by first | exact .inl rfl | exact .inr rfl) (de_call C G__law_hand (da_cons (dv 0) da_nil)))
  (ds_cons (ds_if (PW.pt (dw_or (dt_c (cm_ne C) (de_call C G_conic_point (da_cons (de_tup (da_cons (de_int) (da_cons (de_int) (da_cons (de_neg (de_int)) da_nil)))) da_nil)) (de_tup (da_cons (de_str) (da_cons (de_int) da_nil)))) (dw_or1 (dt_c (cm_ne C) (de_call C G_conic_point (da_cons (de_tup (da_cons (de_int) (da_cons (de_int) (da_cons (de_int) da_nil)))) da_nil)) (de_tup (da_cons (de_str) (da_cons (de_int) da_nil))))))) (ds_one (ds_ret (de_bl))) ds_nil)
  (ds_cons (ds_if (dt_c (cm_ne C) (de_ix (de_call C G_conic_point (da_cons (de_tup (da_cons (de_int) (da_cons (de_int) (da_cons (de_neg (de_int)) da_nil)))) da_nil)) (de_int)) (de_str)) (ds_one (ds_ret (de_bl))) ds_nil)
  (ds_cons (ds_if (dt_not (dt_truth (de_call C G__law_are_refused (da_cons (dv 1) da_nil)))) (ds_one (ds_ret (de_bl))) ds_nil)
  (ds_cons (ds_forC C rfl (di_range1 B.b_range (da_cons (de_int) da_nil)) (dg_name SC.nd rfl (by first | exact .inl rfl | exact .inr rfl)) (ds_cons (ds_asg (de_call C G__law_with_point (da_cons (dv 1) da_nil)) (dg_tup rfl (dgs_cons (dg_name SC.nd rfl (by first | exact .inl rfl | exact .inr rfl)) (dgs_cons (dg_name SC.nd rfl (by first | exact .inl rfl | exact .inr rfl)) dgs_nil))))
  (ds_one (ds_if (PW.pt (dw_or (dt_not (dt_truth (de_call C G__law_is_right (da_cons (dv 1) (da_cons (dv 3) (da_cons (dv 4) da_nil)))))) (dw_or1 (dt_not (dt_truth (de_call C G__law_is_right (da_cons (dv 1) (da_cons (de_call C G__law_conic (da_cons (dv 1) da_nil)) (da_cons (de_non) da_nil))))))))) (ds_one (ds_ret (de_bl))) ds_nil))))
  (ds_one (ds_ret (de_bl))))))))
theorem ok_law {P : Program} {w : World} {K : PySem.W.Frag} {mg : Str → Option Value} {base : Heap} {a : Addr} {fd : FuncData} (B : Fx P K mg) (U : FunD K "law" "law" (defArgs (top 59)) (defBody (top 59)) (defScope (top 59)) [] [] a fd) (hm : mg "law" = some (.ref a)) (G__law_hand : DFn P w K mg base "_law_hand" 1 1 F__law_hand) (G_conic_point : DFn P w K mg base "conic_point" 1 204 F_conic_point) (G__law_are_refused : DFn P w K mg base "_law_are_refused" 1 206 F__law_are_refused) (G__law_with_point : DFn P w K mg base "_law_with_point" 1 4 F__law_with_point) (G__law_is_right : DFn P w K mg base "_law_is_right" 3 205 F__law_is_right) (G__law_conic : DFn P w K mg base "_law_conic" 1 4 F__law_conic) : DFn P w K mg base "law" 1 207 F_law :=
  DFn.mk' (fun_of U) hm sc_law (U.bindsN fun _ _ _ _ _ _ us hl => match us, hl with | [_], _ => rfl) rfl (fun cdv A outer s H E C => b_law B G__law_hand G_conic_point G__law_are_refused G__law_with_point G__law_is_right G__law_conic C) (fun ds st _ => viaF_sem 5 g_law Good_law ds st)
end K65

set_option maxRecDepth 100000
set_option maxHeartbeats 0
namespace K65
open PySem PySem.Spec PyProof.Rows L2 DD
def dd (x : Str) (i : Nat) : He.DefD := ⟨(x, none), x, x, defArgs (top i), defBody (top i), defScope (top i), [], []⟩
def cd (x : Str) (i : Nat) : CDef := ⟨x, x ++ (".__init__" : Str), defArgs (inClass (top i) 0), defBody (inClass (top i) 0), defScope (inClass (top i) 0)⟩
def fn : List He.DefD := [dd "_law_hand" 36, dd "is_integer" 2, dd "is_conic" 25, dd "check_conic" 26, dd "prime_divisors" 8, dd "places_for" 24, dd "taken_out" 22, dd "by_four" 14, dd "by_eight" 15, dd "power_of" 5, dd "by_prime" 16, dd "sign_at_place" 23, dd "barring_places" 27, dd "free_of_squares" 21, dd "square_root" 28, dd "descended" 30, dd "point_for" 29, dd "common_divisor" 3, dd "divisor_of" 4, dd "solved" 31, dd "conic_point" 32, dd "_law_draw" 37, dd "_law_any" 38, dd "_law_is_whole" 47, dd "_law_is_conic" 52, dd "is_witness" 6, dd "is_prime_number" 7, dd "barred_at" 34, dd "is_conic_paper" 33, dd "_law_word" 57, dd "_law_are_refused" 58, dd "_law_number" 45, dd "_law_with_point" 51, dd "_law_primes_of" 40, dd "_law_without_squares" 41, dd "_law_is_square_rest" 42, dd "_law_sign" 43, dd "_law_wrong" 44, dd "_law_barring" 50, dd "_law_value" 48, dd "_law_is_point" 49, dd "_law_is_paper" 53, dd "_law_divisor" 46, dd "_law_bent" 55, dd "_law_shuffled" 39, dd "_law_is_right" 56, dd "_law_conic" 54, dd "law" 59]
def cn : List CDef := [cd "NoConic" 11, cd "NoPlace" 12]
def fa : List He.Fa := [.glo "_law_hand", .glo "is_integer", .glo "is_conic", .glo "check_conic", .glo "prime_divisors", .glo "places_for", .glo "taken_out", .glo "by_four", .glo "by_eight", .glo "power_of", .glo "by_prime", .glo "sign_at_place", .glo "barring_places", .glo "free_of_squares", .glo "square_root", .glo "descended", .glo "point_for", .glo "common_divisor", .glo "divisor_of", .glo "solved", .glo "conic_point", .glo "_law_draw", .glo "_law_any", .glo "_law_is_whole", .glo "_law_is_conic", .glo "is_witness", .glo "is_prime_number", .glo "barred_at", .glo "is_conic_paper", .glo "_law_word", .glo "_law_are_refused", .glo "_law_number", .glo "_law_with_point", .glo "_law_primes_of", .glo "_law_without_squares", .glo "_law_is_square_rest", .glo "_law_sign", .glo "_law_wrong", .glo "_law_barring", .glo "_law_value", .glo "_law_is_point", .glo "_law_is_paper", .glo "_law_divisor", .glo "_law_bent", .glo "_law_shuffled", .glo "_law_is_right", .glo "_law_conic", .glo "law", .free "ValueError", .free "abs", .free "all", .free "any", .free "bool", .free "int", .free "isinstance", .free "len", .free "list", .free "range", .free "repr", .free "set", .free "sorted", .free "str", .free "sum", .free "super", .free "tuple", .free "zip", .int "MOST" 1000, .int "MOST_SIGN" 1000000000, .int "REAL" 0, .glo "FieldError", .glo "NoConic", .glo "NoPlace", .glo "BASES"]
def ex (K : PySem.W.Frag) : Bool := (["NoConic", "NoPlace"] : List Str).all (fun x => iniB K PySem.Challenge.pw_wholerays_k65_whole_conics_a_point_or_a.main.file x) && (excs.all (fun y => excB K y) && (excs.all (fun y => He.eqO (PySem.W.nsIn K mainGlobals y) (some (some (.ref (He.ga K y))))) && (excs.all (fun y => decide (PySem.W.exmOne K (.ref (He.ga K y)) (.ref (He.ga K "FieldError")) = some true)) && (excs.all (fun y => decide (PySem.W.kitOne K (.ref (He.ga K y)) (.ref (He.ga K "NoConic")) = some (kT y "NoConic"))) && (excs.all (fun y => decide (PySem.W.kitOne K (.ref (He.ga K y)) (.ref (He.ga K "NoPlace")) = some (kT y "NoPlace"))) && (excs.all (fun y => decide (PySem.W.kitOne K (.ref (He.ga K y)) (.type "ValueError") = some (kT y "ValueError"))) && (He.tupB K "BASES" [.int 2, .int 3, .int 5, .int 7, .int 11, .int 13, .int 17, .int 19, .int 23, .int 29, .int 31, .int 37, .int 41])))))))
abbrev R : PySem.W.OpenRow := PySem.W.OpenLaw.row PySem.Challenge.rw_wholerays_k65_whole_conics_a_point_or_a
abbrev hk : PySem.W.Hook := hookF 4 fa fn cn ex
def ob (s : PySem.W.SharedT) : AlF := obsF 4 fa fn cn ex (HandSHeadRun.getT s)
theorem ob_eq (s : PySem.W.SharedT) : ob s = hk.obs s.abs := obsF_eq (HandSHeadRun.getT_eq s)
def names : List Str := [Str.ofString "__name__", Str.ofString "BASES", Str.ofString "is_integer", Str.ofString "common_divisor", Str.ofString "divisor_of", Str.ofString "power_of", Str.ofString "is_witness", Str.ofString "is_prime_number", Str.ofString "prime_divisors", Str.ofString "FieldError", Str.ofString "NoConic", Str.ofString "NoPlace", Str.ofString "by_four", Str.ofString "by_eight", Str.ofString "by_prime", Str.ofString "MOST", Str.ofString "MOST_SIGN", Str.ofString "REAL", Str.ofString "free_of_squares", Str.ofString "taken_out", Str.ofString "sign_at_place", Str.ofString "places_for", Str.ofString "is_conic", Str.ofString "check_conic", Str.ofString "barring_places", Str.ofString "square_root", Str.ofString "point_for", Str.ofString "descended", Str.ofString "solved", Str.ofString "conic_point", Str.ofString "is_conic_paper", Str.ofString "barred_at", Str.ofString "_law_hand", Str.ofString "_law_draw", Str.ofString "_law_any", Str.ofString "_law_shuffled", Str.ofString "_law_primes_of", Str.ofString "_law_without_squares", Str.ofString "_law_is_square_rest", Str.ofString "_law_sign", Str.ofString "_law_wrong", Str.ofString "_law_number", Str.ofString "_law_divisor", Str.ofString "_law_is_whole", Str.ofString "_law_value", Str.ofString "_law_is_point", Str.ofString "_law_barring", Str.ofString "_law_with_point", Str.ofString "_law_is_conic", Str.ofString "_law_is_paper", Str.ofString "_law_conic", Str.ofString "_law_bent", Str.ofString "_law_is_right", Str.ofString "_law_word", Str.ofString "_law_are_refused"]
theorem run (w : World) : HandSHeadRun.RunEq R (PySem.W.view R.prog [59]) hk ob 3000 names w := by
  intro os
  kernel_rfl
theorem it_NoConic : IniText (cd "NoConic" 11).params (cd "NoConic" 11).body (cd "NoConic" 11).scope := ⟨_, _, _, _, _, _, rfl, rfl, fun _ _ _ _ _ _ _ _ _ _ => rfl, by kernel_rfl, by kernel_rfl, by kernel_rfl, by kernel_rfl, by decide +kernel, by kernel_rfl, by kernel_rfl, fun _ h => by rfl, _, fun _ => rfl⟩
theorem it_NoPlace : IniText (cd "NoPlace" 12).params (cd "NoPlace" 12).body (cd "NoPlace" 12).scope := ⟨_, _, _, _, _, _, rfl, rfl, fun _ _ _ _ _ _ _ _ _ _ => rfl, by kernel_rfl, by kernel_rfl, by kernel_rfl, by kernel_rfl, by decide +kernel, by kernel_rfl, by kernel_rfl, fun _ h => by rfl, _, fun _ => rfl⟩
theorem facts {K : PySem.W.Frag} {h : Heap} {mg : Str → Option Value} (X : K.In h) (G : h.Ns mainGlobals mg) (c : SaysF fa fn cn ex K) : Fx PySem.Challenge.pw_wholerays_k65_whole_conics_a_point_or_a K mg := by
  have cx := c.x
  unfold ex at cx
  obtain ⟨e0, cx⟩ := He.ba cx
  obtain ⟨e1, cx⟩ := He.ba cx
  obtain ⟨e2, cx⟩ := He.ba cx
  obtain ⟨e3, cx⟩ := He.ba cx
  obtain ⟨e4, cx⟩ := He.ba cx
  obtain ⟨e5, cx⟩ := He.ba cx
  obtain ⟨e6, cx⟩ := He.ba cx
  have e7 := cx
  exact {
    b_ValueError := He.free_ok X G (c.d.fact 48 rfl)
    b_abs := He.free_ok X G (c.d.fact 49 rfl)
    b_all := He.free_ok X G (c.d.fact 50 rfl)
    b_any := He.free_ok X G (c.d.fact 51 rfl)
    b_bool := He.free_ok X G (c.d.fact 52 rfl)
    b_int := He.free_ok X G (c.d.fact 53 rfl)
    b_isinstance := He.free_ok X G (c.d.fact 54 rfl)
    b_len := He.free_ok X G (c.d.fact 55 rfl)
    b_list := He.free_ok X G (c.d.fact 56 rfl)
    b_range := He.free_ok X G (c.d.fact 57 rfl)
    b_repr := He.free_ok X G (c.d.fact 58 rfl)
    b_set := He.free_ok X G (c.d.fact 59 rfl)
    b_sorted := He.free_ok X G (c.d.fact 60 rfl)
    b_str := He.free_ok X G (c.d.fact 61 rfl)
    b_sum := He.free_ok X G (c.d.fact 62 rfl)
    b_super := He.free_ok X G (c.d.fact 63 rfl)
    b_tuple := He.free_ok X G (c.d.fact 64 rfl)
    b_zip := He.free_ok X G (c.d.fact 65 rfl)
    i_MOST := He.int_ok X G (c.d.fact 66 rfl)
    i_MOST_SIGN := He.int_ok X G (c.d.fact 67 rfl)
    i_REAL := He.int_ok X G (c.d.fact 68 rfl)
    m_FieldError := He.glo_ok X G (c.d.fact 69 rfl)
    m_NoConic := He.glo_ok X G (c.d.fact 70 rfl)
    m_NoPlace := He.glo_ok X G (c.d.fact 71 rfl)
    t_BASES := ⟨He.glo_ok X G (c.d.fact 72 rfl), e7⟩
    x_NoConic := ini_of (d := cd "NoConic" 11) (c.cls 0 rfl) (List.all_eq_true.mp e0 "NoConic" (by decide +kernel)) it_NoConic (by kernel_rfl)
    x_NoPlace := ini_of (d := cd "NoPlace" 12) (c.cls 1 rfl) (List.all_eq_true.mp e0 "NoPlace" (by decide +kernel)) it_NoPlace (by kernel_rfl)
    ms := fun y hy => PySem.W.mg_of X G (He.eqO_ok (List.all_eq_true.mp e2 y hy))
    ec := fun y hy => excB_ok (List.all_eq_true.mp e1 y hy)
    cat := fun y hy => of_decide_eq_true (List.all_eq_true.mp e3 y hy)
    kt := fun y hy => ⟨of_decide_eq_true (List.all_eq_true.mp e4 y hy), of_decide_eq_true (List.all_eq_true.mp e5 y hy), of_decide_eq_true (List.all_eq_true.mp e6 y hy)⟩
  }
end K65

set_option maxRecDepth 100000
set_option maxHeartbeats 0
namespace K65
open PySem PySem.Spec PyProof.Rows L2 DD
theorem facts2 {w : World} {K : PySem.W.Frag} {h : Heap} {mg : Str → Option Value} {f : Addr} (X : K.In h) (G : h.Ns mainGlobals mg) (hfa : mg ("law" : Str) = some (.ref f)) (c : SaysF fa fn cn ex K) :
    ∃ fd : FuncData, (∀ (s : Shared) (v : Value), BindsTo s fd ⟨[v], []⟩ [(("script" : Str), v)]) ∧ ∀ base : Heap, K.In base → base.Ns mainGlobals mg → FnG PySem.Challenge.pw_wholerays_k65_whole_conics_a_point_or_a w K mg base 207 f fd ["script"] (spD K mg 1 F_law) := by
  have B := facts X G c
  obtain ⟨fd0, U0⟩ := c.d.def_ 0 (d := dd "_law_hand" 36) rfl
  obtain ⟨fd1, U1⟩ := c.d.def_ 1 (d := dd "is_integer" 2) rfl
  obtain ⟨fd2, U2⟩ := c.d.def_ 2 (d := dd "is_conic" 25) rfl
  obtain ⟨fd3, U3⟩ := c.d.def_ 3 (d := dd "check_conic" 26) rfl
  obtain ⟨fd4, U4⟩ := c.d.def_ 4 (d := dd "prime_divisors" 8) rfl
  obtain ⟨fd5, U5⟩ := c.d.def_ 5 (d := dd "places_for" 24) rfl
  obtain ⟨fd6, U6⟩ := c.d.def_ 6 (d := dd "taken_out" 22) rfl
  obtain ⟨fd7, U7⟩ := c.d.def_ 7 (d := dd "by_four" 14) rfl
  obtain ⟨fd8, U8⟩ := c.d.def_ 8 (d := dd "by_eight" 15) rfl
  obtain ⟨fd9, U9⟩ := c.d.def_ 9 (d := dd "power_of" 5) rfl
  obtain ⟨fd10, U10⟩ := c.d.def_ 10 (d := dd "by_prime" 16) rfl
  obtain ⟨fd11, U11⟩ := c.d.def_ 11 (d := dd "sign_at_place" 23) rfl
  obtain ⟨fd12, U12⟩ := c.d.def_ 12 (d := dd "barring_places" 27) rfl
  obtain ⟨fd13, U13⟩ := c.d.def_ 13 (d := dd "free_of_squares" 21) rfl
  obtain ⟨fd14, U14⟩ := c.d.def_ 14 (d := dd "square_root" 28) rfl
  obtain ⟨fd15, U15⟩ := c.d.def_ 15 (d := dd "descended" 30) rfl
  obtain ⟨fd16, U16⟩ := c.d.def_ 16 (d := dd "point_for" 29) rfl
  obtain ⟨fd17, U17⟩ := c.d.def_ 17 (d := dd "common_divisor" 3) rfl
  obtain ⟨fd18, U18⟩ := c.d.def_ 18 (d := dd "divisor_of" 4) rfl
  obtain ⟨fd19, U19⟩ := c.d.def_ 19 (d := dd "solved" 31) rfl
  obtain ⟨fd20, U20⟩ := c.d.def_ 20 (d := dd "conic_point" 32) rfl
  obtain ⟨fd21, U21⟩ := c.d.def_ 21 (d := dd "_law_draw" 37) rfl
  obtain ⟨fd22, U22⟩ := c.d.def_ 22 (d := dd "_law_any" 38) rfl
  obtain ⟨fd23, U23⟩ := c.d.def_ 23 (d := dd "_law_is_whole" 47) rfl
  obtain ⟨fd24, U24⟩ := c.d.def_ 24 (d := dd "_law_is_conic" 52) rfl
  obtain ⟨fd25, U25⟩ := c.d.def_ 25 (d := dd "is_witness" 6) rfl
  obtain ⟨fd26, U26⟩ := c.d.def_ 26 (d := dd "is_prime_number" 7) rfl
  obtain ⟨fd27, U27⟩ := c.d.def_ 27 (d := dd "barred_at" 34) rfl
  obtain ⟨fd28, U28⟩ := c.d.def_ 28 (d := dd "is_conic_paper" 33) rfl
  obtain ⟨fd29, U29⟩ := c.d.def_ 29 (d := dd "_law_word" 57) rfl
  obtain ⟨fd30, U30⟩ := c.d.def_ 30 (d := dd "_law_are_refused" 58) rfl
  obtain ⟨fd31, U31⟩ := c.d.def_ 31 (d := dd "_law_number" 45) rfl
  obtain ⟨fd32, U32⟩ := c.d.def_ 32 (d := dd "_law_with_point" 51) rfl
  obtain ⟨fd33, U33⟩ := c.d.def_ 33 (d := dd "_law_primes_of" 40) rfl
  obtain ⟨fd34, U34⟩ := c.d.def_ 34 (d := dd "_law_without_squares" 41) rfl
  obtain ⟨fd35, U35⟩ := c.d.def_ 35 (d := dd "_law_is_square_rest" 42) rfl
  obtain ⟨fd36, U36⟩ := c.d.def_ 36 (d := dd "_law_sign" 43) rfl
  obtain ⟨fd37, U37⟩ := c.d.def_ 37 (d := dd "_law_wrong" 44) rfl
  obtain ⟨fd38, U38⟩ := c.d.def_ 38 (d := dd "_law_barring" 50) rfl
  obtain ⟨fd39, U39⟩ := c.d.def_ 39 (d := dd "_law_value" 48) rfl
  obtain ⟨fd40, U40⟩ := c.d.def_ 40 (d := dd "_law_is_point" 49) rfl
  obtain ⟨fd41, U41⟩ := c.d.def_ 41 (d := dd "_law_is_paper" 53) rfl
  obtain ⟨fd42, U42⟩ := c.d.def_ 42 (d := dd "_law_divisor" 46) rfl
  obtain ⟨fd43, U43⟩ := c.d.def_ 43 (d := dd "_law_bent" 55) rfl
  obtain ⟨fd44, U44⟩ := c.d.def_ 44 (d := dd "_law_shuffled" 39) rfl
  obtain ⟨fd45, U45⟩ := c.d.def_ 45 (d := dd "_law_is_right" 56) rfl
  obtain ⟨fd46, U46⟩ := c.d.def_ 46 (d := dd "_law_conic" 54) rfl
  obtain ⟨fd47, U47⟩ := c.d.def_ 47 (d := dd "law" 59) rfl
  have m0 := He.glo_ok X G (c.d.fact 0 (f := .glo "_law_hand") rfl)
  have m1 := He.glo_ok X G (c.d.fact 1 (f := .glo "is_integer") rfl)
  have m2 := He.glo_ok X G (c.d.fact 2 (f := .glo "is_conic") rfl)
  have m3 := He.glo_ok X G (c.d.fact 3 (f := .glo "check_conic") rfl)
  have m4 := He.glo_ok X G (c.d.fact 4 (f := .glo "prime_divisors") rfl)
  have m5 := He.glo_ok X G (c.d.fact 5 (f := .glo "places_for") rfl)
  have m6 := He.glo_ok X G (c.d.fact 6 (f := .glo "taken_out") rfl)
  have m7 := He.glo_ok X G (c.d.fact 7 (f := .glo "by_four") rfl)
  have m8 := He.glo_ok X G (c.d.fact 8 (f := .glo "by_eight") rfl)
  have m9 := He.glo_ok X G (c.d.fact 9 (f := .glo "power_of") rfl)
  have m10 := He.glo_ok X G (c.d.fact 10 (f := .glo "by_prime") rfl)
  have m11 := He.glo_ok X G (c.d.fact 11 (f := .glo "sign_at_place") rfl)
  have m12 := He.glo_ok X G (c.d.fact 12 (f := .glo "barring_places") rfl)
  have m13 := He.glo_ok X G (c.d.fact 13 (f := .glo "free_of_squares") rfl)
  have m14 := He.glo_ok X G (c.d.fact 14 (f := .glo "square_root") rfl)
  have m15 := He.glo_ok X G (c.d.fact 15 (f := .glo "descended") rfl)
  have m16 := He.glo_ok X G (c.d.fact 16 (f := .glo "point_for") rfl)
  have m17 := He.glo_ok X G (c.d.fact 17 (f := .glo "common_divisor") rfl)
  have m18 := He.glo_ok X G (c.d.fact 18 (f := .glo "divisor_of") rfl)
  have m19 := He.glo_ok X G (c.d.fact 19 (f := .glo "solved") rfl)
  have m20 := He.glo_ok X G (c.d.fact 20 (f := .glo "conic_point") rfl)
  have m21 := He.glo_ok X G (c.d.fact 21 (f := .glo "_law_draw") rfl)
  have m22 := He.glo_ok X G (c.d.fact 22 (f := .glo "_law_any") rfl)
  have m23 := He.glo_ok X G (c.d.fact 23 (f := .glo "_law_is_whole") rfl)
  have m24 := He.glo_ok X G (c.d.fact 24 (f := .glo "_law_is_conic") rfl)
  have m25 := He.glo_ok X G (c.d.fact 25 (f := .glo "is_witness") rfl)
  have m26 := He.glo_ok X G (c.d.fact 26 (f := .glo "is_prime_number") rfl)
  have m27 := He.glo_ok X G (c.d.fact 27 (f := .glo "barred_at") rfl)
  have m28 := He.glo_ok X G (c.d.fact 28 (f := .glo "is_conic_paper") rfl)
  have m29 := He.glo_ok X G (c.d.fact 29 (f := .glo "_law_word") rfl)
  have m30 := He.glo_ok X G (c.d.fact 30 (f := .glo "_law_are_refused") rfl)
  have m31 := He.glo_ok X G (c.d.fact 31 (f := .glo "_law_number") rfl)
  have m32 := He.glo_ok X G (c.d.fact 32 (f := .glo "_law_with_point") rfl)
  have m33 := He.glo_ok X G (c.d.fact 33 (f := .glo "_law_primes_of") rfl)
  have m34 := He.glo_ok X G (c.d.fact 34 (f := .glo "_law_without_squares") rfl)
  have m35 := He.glo_ok X G (c.d.fact 35 (f := .glo "_law_is_square_rest") rfl)
  have m36 := He.glo_ok X G (c.d.fact 36 (f := .glo "_law_sign") rfl)
  have m37 := He.glo_ok X G (c.d.fact 37 (f := .glo "_law_wrong") rfl)
  have m38 := He.glo_ok X G (c.d.fact 38 (f := .glo "_law_barring") rfl)
  have m39 := He.glo_ok X G (c.d.fact 39 (f := .glo "_law_value") rfl)
  have m40 := He.glo_ok X G (c.d.fact 40 (f := .glo "_law_is_point") rfl)
  have m41 := He.glo_ok X G (c.d.fact 41 (f := .glo "_law_is_paper") rfl)
  have m42 := He.glo_ok X G (c.d.fact 42 (f := .glo "_law_divisor") rfl)
  have m43 := He.glo_ok X G (c.d.fact 43 (f := .glo "_law_bent") rfl)
  have m44 := He.glo_ok X G (c.d.fact 44 (f := .glo "_law_shuffled") rfl)
  have m45 := He.glo_ok X G (c.d.fact 45 (f := .glo "_law_is_right") rfl)
  have m46 := He.glo_ok X G (c.d.fact 46 (f := .glo "_law_conic") rfl)
  have m47 := He.glo_ok X G (c.d.fact 47 (f := .glo "law") rfl)
  have e := hfa.symm.trans m47
  cases e
  have b := FunD.bindsA (ps := ["script"]) U47 fun _ _ _ _ _ _ us hl => match us, hl with | [_], _ => rfl
  refine ⟨fd47, fun s v => b s [v] rfl, fun base _ _ => ?_⟩
  have G0 : DFn PySem.Challenge.pw_wholerays_k65_whole_conics_a_point_or_a w K mg base "_law_hand" 1 1 F__law_hand := ok__law_hand B U0 m0 
  have G1 : DFn PySem.Challenge.pw_wholerays_k65_whole_conics_a_point_or_a w K mg base "is_integer" 1 1 F_is_integer := ok_is_integer B U1 m1 
  have G2 : DFn PySem.Challenge.pw_wholerays_k65_whole_conics_a_point_or_a w K mg base "is_conic" 1 2 F_is_conic := ok_is_conic B U2 m2 G1
  have G3 : DFn PySem.Challenge.pw_wholerays_k65_whole_conics_a_point_or_a w K mg base "check_conic" 1 3 F_check_conic := ok_check_conic B U3 m3 G2
  have G4 : DFn PySem.Challenge.pw_wholerays_k65_whole_conics_a_point_or_a w K mg base "prime_divisors" 1 1 F_prime_divisors := ok_prime_divisors B U4 m4 
  have G5 : DFn PySem.Challenge.pw_wholerays_k65_whole_conics_a_point_or_a w K mg base "places_for" 1 2 F_places_for := ok_places_for B U5 m5 G4
  have G6 : DFn PySem.Challenge.pw_wholerays_k65_whole_conics_a_point_or_a w K mg base "taken_out" 2 1 F_taken_out := ok_taken_out B U6 m6 
  have G7 : DFn PySem.Challenge.pw_wholerays_k65_whole_conics_a_point_or_a w K mg base "by_four" 1 1 F_by_four := ok_by_four B U7 m7 
  have G8 : DFn PySem.Challenge.pw_wholerays_k65_whole_conics_a_point_or_a w K mg base "by_eight" 1 1 F_by_eight := ok_by_eight B U8 m8 
  have G9 : DFn PySem.Challenge.pw_wholerays_k65_whole_conics_a_point_or_a w K mg base "power_of" 3 1 F_power_of := ok_power_of B U9 m9 
  have G10 : DFn PySem.Challenge.pw_wholerays_k65_whole_conics_a_point_or_a w K mg base "by_prime" 2 2 F_by_prime := ok_by_prime B U10 m10 G9
  have G11 : DFn PySem.Challenge.pw_wholerays_k65_whole_conics_a_point_or_a w K mg base "sign_at_place" 3 3 F_sign_at_place := ok_sign_at_place B U11 m11 G6 G7 G8 G10
  have G12 : DFn PySem.Challenge.pw_wholerays_k65_whole_conics_a_point_or_a w K mg base "barring_places" 1 4 F_barring_places := ok_barring_places B U12 m12 G5 G11
  have G13 : DFn PySem.Challenge.pw_wholerays_k65_whole_conics_a_point_or_a w K mg base "free_of_squares" 1 2 F_free_of_squares := ok_free_of_squares B U13 m13 G4
  have G14 : DFn PySem.Challenge.pw_wholerays_k65_whole_conics_a_point_or_a w K mg base "square_root" 2 1 F_square_root := ok_square_root B U14 m14 
  have G16 : DFn PySem.Challenge.pw_wholerays_k65_whole_conics_a_point_or_a w K mg base "point_for" 2 202 F_point_for := okR_point_for B U15 m15 U16 m16 G14 G13 100
  have G17 : DFn PySem.Challenge.pw_wholerays_k65_whole_conics_a_point_or_a w K mg base "common_divisor" 2 1 F_common_divisor := ok_common_divisor B U17 m17 
  have G18 : DFn PySem.Challenge.pw_wholerays_k65_whole_conics_a_point_or_a w K mg base "divisor_of" 1 2 F_divisor_of := ok_divisor_of B U18 m18 G17
  have G19 : DFn PySem.Challenge.pw_wholerays_k65_whole_conics_a_point_or_a w K mg base "solved" 1 203 F_solved := ok_solved B U19 m19 G13 G16 G18
  have G20 : DFn PySem.Challenge.pw_wholerays_k65_whole_conics_a_point_or_a w K mg base "conic_point" 1 204 F_conic_point := ok_conic_point B U20 m20 G3 G12 G19
  have G21 : DFn PySem.Challenge.pw_wholerays_k65_whole_conics_a_point_or_a w K mg base "_law_draw" 2 1 F__law_draw := ok__law_draw B U21 m21 
  have G22 : DFn PySem.Challenge.pw_wholerays_k65_whole_conics_a_point_or_a w K mg base "_law_any" 2 2 F__law_any := ok__law_any B U22 m22 G21
  have G23 : DFn PySem.Challenge.pw_wholerays_k65_whole_conics_a_point_or_a w K mg base "_law_is_whole" 1 1 F__law_is_whole := ok__law_is_whole B U23 m23 
  have G24 : DFn PySem.Challenge.pw_wholerays_k65_whole_conics_a_point_or_a w K mg base "_law_is_conic" 1 2 F__law_is_conic := ok__law_is_conic B U24 m24 G23
  have G25 : DFn PySem.Challenge.pw_wholerays_k65_whole_conics_a_point_or_a w K mg base "is_witness" 2 2 F_is_witness := ok_is_witness B U25 m25 G9
  have G26 : DFn PySem.Challenge.pw_wholerays_k65_whole_conics_a_point_or_a w K mg base "is_prime_number" 1 3 F_is_prime_number := ok_is_prime_number B U26 m26 G25
  have G27 : DFn PySem.Challenge.pw_wholerays_k65_whole_conics_a_point_or_a w K mg base "barred_at" 2 4 F_barred_at := ok_barred_at B U27 m27 G3 G1 G26 G11
  have G28 : DFn PySem.Challenge.pw_wholerays_k65_whole_conics_a_point_or_a w K mg base "is_conic_paper" 2 5 F_is_conic_paper := ok_is_conic_paper B U28 m28 G3 G1 G12
  have G29 : DFn PySem.Challenge.pw_wholerays_k65_whole_conics_a_point_or_a w K mg base "_law_word" 3 205 F__law_word := ok__law_word B U29 m29 G27 G20 G28
  have G30 : DFn PySem.Challenge.pw_wholerays_k65_whole_conics_a_point_or_a w K mg base "_law_are_refused" 1 206 F__law_are_refused := ok__law_are_refused B U30 m30 G22 G24 G2 G29
  have G31 : DFn PySem.Challenge.pw_wholerays_k65_whole_conics_a_point_or_a w K mg base "_law_number" 2 3 F__law_number := ok__law_number B U31 m31 G21 G22
  have G32 : DFn PySem.Challenge.pw_wholerays_k65_whole_conics_a_point_or_a w K mg base "_law_with_point" 1 4 F__law_with_point := ok__law_with_point B U32 m32 G31 G21
  have G33 : DFn PySem.Challenge.pw_wholerays_k65_whole_conics_a_point_or_a w K mg base "_law_primes_of" 1 1 F__law_primes_of := ok__law_primes_of B U33 m33 
  have G34 : DFn PySem.Challenge.pw_wholerays_k65_whole_conics_a_point_or_a w K mg base "_law_without_squares" 1 2 F__law_without_squares := ok__law_without_squares B U34 m34 G33
  have G35 : DFn PySem.Challenge.pw_wholerays_k65_whole_conics_a_point_or_a w K mg base "_law_is_square_rest" 2 1 F__law_is_square_rest := ok__law_is_square_rest B U35 m35 
  have G36 : DFn PySem.Challenge.pw_wholerays_k65_whole_conics_a_point_or_a w K mg base "_law_sign" 3 3 F__law_sign := ok__law_sign B U36 m36 G34 G35
  have G37 : DFn PySem.Challenge.pw_wholerays_k65_whole_conics_a_point_or_a w K mg base "_law_wrong" 2 4 F__law_wrong := ok__law_wrong B U37 m37 G33 G36
  have G38 : DFn PySem.Challenge.pw_wholerays_k65_whole_conics_a_point_or_a w K mg base "_law_barring" 1 5 F__law_barring := ok__law_barring B U38 m38 G37
  have G39 : DFn PySem.Challenge.pw_wholerays_k65_whole_conics_a_point_or_a w K mg base "_law_value" 2 1 F__law_value := ok__law_value B U39 m39 
  have G40 : DFn PySem.Challenge.pw_wholerays_k65_whole_conics_a_point_or_a w K mg base "_law_is_point" 2 2 F__law_is_point := ok__law_is_point B U40 m40 G23 G39
  have G41 : DFn PySem.Challenge.pw_wholerays_k65_whole_conics_a_point_or_a w K mg base "_law_is_paper" 2 6 F__law_is_paper := ok__law_is_paper B U41 m41 G23 G38 G40
  have G42 : DFn PySem.Challenge.pw_wholerays_k65_whole_conics_a_point_or_a w K mg base "_law_divisor" 1 1 F__law_divisor := ok__law_divisor B U42 m42 
  have G43 : DFn PySem.Challenge.pw_wholerays_k65_whole_conics_a_point_or_a w K mg base "_law_bent" 3 3 F__law_bent := ok__law_bent B U43 m43 G22
  have G44 : DFn PySem.Challenge.pw_wholerays_k65_whole_conics_a_point_or_a w K mg base "_law_shuffled" 2 2 F__law_shuffled := ok__law_shuffled B U44 m44 G21
  have G45 : DFn PySem.Challenge.pw_wholerays_k65_whole_conics_a_point_or_a w K mg base "_law_is_right" 3 205 F__law_is_right := ok__law_is_right B U45 m45 G38 G20 G41 G42 G22 G33 G27 G43 G28 G44 G34
  have G46 : DFn PySem.Challenge.pw_wholerays_k65_whole_conics_a_point_or_a w K mg base "_law_conic" 1 4 F__law_conic := ok__law_conic B U46 m46 G22 G31
  have G47 : DFn PySem.Challenge.pw_wholerays_k65_whole_conics_a_point_or_a w K mg base "law" 1 207 F_law := ok_law B U47 m47 G0 G20 G30 G32 G45 G46
  exact FnG.mk' (fun_of U47) sc_law rfl (fun cdv A outer s H E C => b_law B G0 G20 G30 G32 G45 G46 C) (fun ds st _ => viaF_sem 5 g_law Good_law ds st)
end K65
open PySem PySem.W PySem.Calls PyProof.Rows in
theorem PySem.Challenge.cw_wholerays_k65_whole_conics_a_point_or_a_holds : PySem.Challenge.rw_wholerays_k65_whole_conics_a_point_or_a.Holds := by
  w_on; o_law
  refine HandSHeadRun.head_any (r := OpenLaw.row PySem.Challenge.rw_wholerays_k65_whole_conics_a_point_or_a) (q := view (OpenLaw.row PySem.Challenge.rw_wholerays_k65_whole_conics_a_point_or_a).prog [59]) (H := K65.hk) (ob := K65.ob) (M := 3000) (loose := K65.names) (d := HandSHeadRun.topDef (OpenLaw.row PySem.Challenge.rw_wholerays_k65_whole_conics_a_point_or_a).prog 59) (kwd := []) K65.ob_eq
    (by kernel_rfl) (fun s => by kernel_rfl) K65.run (by kernel_rfl) (by kernel_rfl) (by kernel_rfl) (by rfl) (by first | assumption | decide +kernel) (by decide +kernel) ⟨rfl, rfl, rfl, rfl, rfl, by decide +kernel⟩ ?hw ?hc
  case hw => w_witness2
  case hc =>
    refine DD.endWalk (l := PySem.Challenge.rw_wholerays_k65_whole_conics_a_point_or_a) (n := 63) (k := 207) (x := "script") rfl (by decide) (by kernel_rfl) ⟨rfl, by decide, by decide⟩ ?F
    intro w mg fa h Y G hmg0
    obtain ⟨K, KX, c⟩ := Y
    have hmg : mg ("law" : PySem.Str) = some (.ref fa) := by
      have e : (HandSHeadRun.topDef (OpenLaw.row PySem.Challenge.rw_wholerays_k65_whole_conics_a_point_or_a).prog 59).name = ("law" : PySem.Str) := by kernel_rfl
      rw [← e]
      exact hmg0
    obtain ⟨fd, hb, hF⟩ := K65.facts2 (w := w) KX G hmg c
    exact ⟨K, fd, K65.F_law, KX, hb, fun ns hl => K65.law_true ns hl, hF⟩

