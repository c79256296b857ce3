import PyProof.Rows.All
import Wide.All
import OpenK.AllK
import Wide.FinOn
import HandS.ForMost
import HandS.ForExc
import HandS.Zip
import HandS.Wide
import HandS.Style
import HandS.TupAny
import HandS.Deep
import HandS.IsInst
import HandS.Dict
import KE.SortData
import KE.DataMinMax
import KE.DataAny
import HandS.SetFor
import HandS.More
import HandS.ExcSuper
import HandS.ExcInit
import HandS.ExcIs
import HandS.ExcOwn
import HandS.TryOnly
import KE.KExcSuper
import KE.KSuper
import HandS.Ends
import HandS.Words
import HandS.Defaults
import HandS.Head0
import HandS.Head1
import HandS.Head2
import HandS.HeadEnd
import HandS.HeadHook1
import HandS.HeadHook2
import KE.KStateDown
import HandS.WordsExc
import PySem.Challenge.RW_wholerays_k72_whole_small_points_and_oth
set_option Elab.async false
set_option linter.all false
set_option maxRecDepth 100000
set_option maxHeartbeats 1000000
/-! DD1: pure data over the hand layer: data D, the store of changing cells, what bears them (RV, RS), how heaps grow (Ext), the readings by plain functions. -/
namespace DD
open PySem PySem.Spec PyProof.Rows L2

/-- a datum: lst is a list that nobody changes any more, cst one of the text's own (or the script), ref a cell of the store, adr any other object -/
inductive D where
  | non
  | bl (b : Bool)
  | int (i : Int)
  | str (x : Str)
  | tup (l : List D)
  | lst (l : List D)
  | cst (l : List D)
  | ref (n : Nat)
  | adr (a : Addr)
inductive Cell where
  | lst (l : List D)
  | dic (kvs : List (Key × D))
abbrev Store := List Cell
abbrev SV := List (Option V)
abbrev LS := List (Option D)
/-- an exception: its class by name, its own fields -/
structure Exc where
  cls : Str
  fs : List (Str × D) := []
inductive Out (α : Type) where
  | ok (a : α) (st : Store)
  | ex (e : Exc) (st : Store)
  | bad
def Out.bind {α β : Type} (o : Out α) (f : α → Store → Out β) : Out β := match o with
  | .ok a st => f a st
  | .ex e st => .ex e st
  | .bad => .bad
@[simp] theorem Out.bind_ok {α β : Type} (a : α) (st : Store) (f : α → Store → Out β) : (Out.ok a st).bind f = f a st := rfl
@[simp] theorem Out.bind_ex {α β : Type} (e : Exc) (st : Store) (f : α → Store → Out β) : (Out.ex e st : Out α).bind f = .ex e st := rfl
@[simp] theorem Out.bind_bad {α β : Type} (f : α → Store → Out β) : (Out.bad : Out α).bind f = .bad := rfl
/-- what a statement comes to -/
inductive SO where
  | nx (ls : LS) (st : Store)
  | rt (d : D) (st : Store)
  | bk (ls : LS) (st : Store)
  | ct (ls : LS) (st : Store)
  | ex (e : Exc) (ls : LS) (st : Store)
  | bad
def getL : LS → Nat → Option D
  | [], _ => none
  | x :: _, 0 => x
  | _ :: r, n + 1 => getL r n
def setL : LS → Nat → D → LS
  | [], _, _ => []
  | _ :: r, 0, d => some d :: r
  | x :: r, n + 1, d => x :: setL r n d
@[simp] theorem getL_zero (x : Option D) (r : LS) : getL (x :: r) 0 = x := rfl
@[simp] theorem getL_succ (x : Option D) (r : LS) (n : Nat) : getL (x :: r) (n + 1) = getL r n := rfl
@[simp] theorem setL_zero (x : Option D) (r : LS) (d : D) : setL (x :: r) 0 d = some d :: r := rfl
@[simp] theorem setL_succ (x : Option D) (r : LS) (n : Nat) (d : D) : setL (x :: r) (n + 1) d = x :: setL r n d := rfl
theorem setL_length : ∀ (l : LS) (n : Nat) (d : D), (setL l n d).length = l.length
  | [], _, _ => rfl
  | _ :: _, 0, _ => rfl
  | x :: r, n + 1, d => congrArg Nat.succ (setL_length r n d)
theorem getL_setL_same : ∀ (l : LS) (n : Nat) (d e : D), getL (setL l n d) n = some e → e = d ∧ n < l.length
  | [], n, d, e, h => by cases h
  | _ :: _, 0, d, e, h => by cases h; exact ⟨rfl, Nat.succ_pos _⟩
  | x :: r, n + 1, d, e, h => let ⟨a, b⟩ := getL_setL_same r n d e h; ⟨a, Nat.succ_lt_succ b⟩
theorem getL_setL_ne : ∀ (l : LS) (n m : Nat) (d : D), n ≠ m → getL (setL l n d) m = getL l m
  | [], _, _, _, _ => rfl
  | _ :: _, 0, 0, _, h => absurd rfl h
  | _ :: _, 0, m + 1, _, _ => rfl
  | _ :: _, n + 1, 0, _, _ => rfl
  | _ :: r, n + 1, m + 1, d, h => getL_setL_ne r n m d fun e => h (congrArg Nat.succ e)

/-! ### what bears a datum -/
section
variable (K : PySem.W.Frag)
def KT (a : Addr) (xs : List V) : Prop := ∃ (o : Obj) (its : Array Value) (n : Nat), K.lookup a = some o ∧ o.cls = .type "tuple" ∧ o.data = .seq its n ∧ its.size ≤ sizeLine ∧ Vals xs its.toList
def FT (H : Hp) (ρ : List Addr) (a : Addr) (xs : List V) : Prop := (H a = some (.tup xs) ∧ a ∉ ρ) ∨ KT K a xs
def KL (a : Addr) (xs : List V) : Prop := ∃ (o : Obj) (its : Array Value) (n : Nat), K.lookup a = some o ∧ o.cls = .type "list" ∧ o.dict = none ∧ o.data = .seq its n ∧ its.size ≤ sizeLine ∧ Vals xs its.toList
def FC (H : Hp) (ρ : List Addr) (a : Addr) (xs : List V) : Prop := ((∃ o, H a = some (.frz o (.lst xs))) ∧ a ∉ ρ) ∨ KL K a xs
mutual
inductive RV (H : Hp) (ρ : List Addr) : V → D → Prop
  | non : RV H ρ .non .non
  | bl (b : Bool) : RV H ρ (.bl b) (.bl b)
  | int (i : Int) : RV H ρ (.int i) (.int i)
  | str (x : Str) : RV H ρ (.str x) (.str x)
  | tup {a : Addr} {vs : List V} {ds : List D} : FT K H ρ a vs → RVs H ρ vs ds → RV H ρ (.ref a) (.tup ds)
  | lst {a : Addr} {vs : List V} {ds : List D} : H a = some (.lst vs) → a ∉ ρ → RVs H ρ vs ds → RV H ρ (.ref a) (.lst ds)
  | cst {a : Addr} {vs : List V} {ds : List D} : FC K H ρ a vs → RVs H ρ vs ds → RV H ρ (.ref a) (.cst ds)
  | ref {a : Addr} {n : Nat} : ρ[n]? = some a → RV H ρ (.ref a) (.ref n)
  | adr {a : Addr} : RV H ρ (.ref a) (.adr a)
inductive RVs (H : Hp) (ρ : List Addr) : List V → List D → Prop
  | nil : RVs H ρ [] []
  | cons {v : V} {vs : List V} {d : D} {ds : List D} : RV H ρ v d → RVs H ρ vs ds → RVs H ρ (v :: vs) (d :: ds)
end
end
section
variable {K : PySem.W.Frag} {H H' H1 H2 : Hp} {ρ ρ' ρ1 ρ2 : List Addr} {a p : Addr} {vs : List V} {ds : List D} {v : V} {d : D}
theorem FT.sq (h : FT K H ρ a vs) : SqT K H a vs := h.elim (fun h => .inl (.inl h.1)) .inr
theorem FC.sq (h : FC K H ρ a vs) : SqL K H a vs := h.elim (fun h => .inl (.inr h.1)) .inr
theorem RVs.length : ∀ {vs : List V} {ds : List D}, RVs K H ρ vs ds → vs.length = ds.length
  | _, _, .nil => rfl
  | _, _, .cons _ t => congrArg Nat.succ (RVs.length t)
theorem RVs.get : ∀ {vs : List V} {ds : List D} {i : Nat} {d : D}, RVs K H ρ vs ds → ds[i]? = some d → ∃ v, vs[i]? = some v ∧ RV K H ρ v d
  | _, _, i, d, .nil, e => by simp at e
  | _, _, 0, d, .cons r _, e => by simp at e; subst e; exact ⟨_, rfl, r⟩
  | _, _, i + 1, d, .cons _ t, e => by
    obtain ⟨v, h1, h2⟩ := RVs.get (i := i) (d := d) t (by simpa using e)
    exact ⟨v, by simpa using h1, h2⟩
theorem RVs.get' {vs : List V} {ds : List D} {i : Nat} {v : V} (h : RVs K H ρ vs ds) (e : vs[i]? = some v) : ∃ d, ds[i]? = some d ∧ RV K H ρ v d := by
  obtain ⟨hi, _⟩ := List.getElem?_eq_some_iff.mp e
  rw [h.length] at hi
  obtain ⟨v', h1, h2⟩ := h.get (i := i) (d := ds[i]) (by simp [hi])
  rw [e] at h1; cases h1
  exact ⟨ds[i], by simp [hi], h2⟩
theorem RVs.append : ∀ {xs ys : List V} {us ws : List D}, RVs K H ρ xs us → RVs K H ρ ys ws → RVs K H ρ (xs ++ ys) (us ++ ws)
  | _, _, _, _, .nil, s => s
  | _, _, _, _, .cons r t, s => .cons r (RVs.append t s)
theorem RVs.take : ∀ {xs : List V} {us : List D} (n : Nat), RVs K H ρ xs us → RVs K H ρ (xs.take n) (us.take n)
  | _, _, 0, _ => .nil
  | _, _, _ + 1, .nil => .nil
  | _, _, n + 1, .cons r t => .cons r (RVs.take n t)
theorem RVs.drop : ∀ {xs : List V} {us : List D} (n : Nat), RVs K H ρ xs us → RVs K H ρ (xs.drop n) (us.drop n)
  | _, _, 0, r => r
  | _, _, _ + 1, .nil => .nil
  | _, _, n + 1, .cons _ t => RVs.drop n t
theorem RVs.set {v : V} {d : D} (r : RV K H ρ v d) : ∀ {xs : List V} {us : List D} (i : Nat), RVs K H ρ xs us → RVs K H ρ (xs.set i v) (us.set i d)
  | _, _, _, .nil => .nil
  | _, _, 0, .cons _ t => .cons r t
  | _, _, i + 1, .cons q t => .cons q (RVs.set r i t)
theorem RVs.snoc (h : RVs K H ρ vs ds) (r : RV K H ρ v d) : RVs K H ρ (vs ++ [v]) (ds ++ [d]) := h.append (.cons r .nil)
theorem RVs.reverse : ∀ {xs : List V} {us : List D}, RVs K H ρ xs us → RVs K H ρ xs.reverse us.reverse
  | _, _, .nil => .nil
  | _, _, .cons r t => by rw [List.reverse_cons, List.reverse_cons]; exact (RVs.reverse t).snoc r
theorem RVs.ints : ∀ {vs : List V} {ns : List Int}, RVs K H ρ vs (ns.map D.int) → vs = ns.map V.int
  | _, [], .nil => rfl
  | _, n :: ns, .cons r t => by cases r; rw [RVs.ints t]; rfl
theorem RVs.of_ints : ∀ (ns : List Int), RVs K H ρ (ns.map V.int) (ns.map D.int)
  | [] => .nil
  | n :: ns => .cons (.int n) (RVs.of_ints ns)
theorem RVs.bls : ∀ {vs : List V} {ns : List Bool}, RVs K H ρ vs (ns.map D.bl) → vs = ns.map V.bl
  | _, [], .nil => rfl
  | _, n :: ns, .cons r t => by cases r; rw [RVs.bls t]; rfl

/-! ### how a heap grows -/
structure Ext (ρ : List Addr) (H : Hp) (ρ' : List Addr) (H' : Hp) : Prop where
  pre : ∃ t, ρ' = ρ ++ t
  keep : ∀ a o, H a = some o → a ∉ ρ → H' a = some o
  new : ∀ a, a ∈ ρ' → a ∉ ρ → H a = none
theorem Ext.refl (ρ : List Addr) (H : Hp) : Ext ρ H ρ H := ⟨⟨[], by simp⟩, fun _ _ h _ => h, fun a h n => absurd h n⟩
theorem Ext.sub (x : Ext ρ H ρ' H') {a : Addr} (h : a ∈ ρ) : a ∈ ρ' := by
  obtain ⟨t, e⟩ := x.pre
  rw [e]; exact List.mem_append_left _ h
theorem Ext.out (x : Ext ρ H ρ' H') {a : Addr} {o : HO} (h : H a = some o) (n : a ∉ ρ) : a ∉ ρ' := fun q => by
  have := x.new a q n
  rw [h] at this; cases this
theorem Ext.trans (x : Ext ρ H ρ1 H1) (y : Ext ρ1 H1 ρ2 H2) : Ext ρ H ρ2 H2 where
  pre := by
    obtain ⟨t, e⟩ := x.pre
    obtain ⟨u, e'⟩ := y.pre
    exact ⟨t ++ u, by rw [e', e, List.append_assoc]⟩
  keep := fun a o h n => y.keep a o (x.keep a o h n) (x.out h n)
  new := fun a h n => by
    by_cases q : a ∈ ρ1
    · exact x.new a q n
    · have h1 := y.new a h q
      cases e : H a with
      | none => rfl
      | some o =>
        have := x.keep a o e n
        rw [this] at h1; cases h1
theorem Ext.at {n : Nat} (x : Ext ρ H ρ' H') (h : ρ[n]? = some a) : ρ'[n]? = some a := by
  obtain ⟨t, e⟩ := x.pre
  obtain ⟨hn, _⟩ := List.getElem?_eq_some_iff.mp h
  rw [e, List.getElem?_append_left hn]; exact h
theorem FT.ext (h : FT K H ρ a vs) (x : Ext ρ H ρ' H') : FT K H' ρ' a vs := h.elim (fun h => .inl ⟨x.keep _ _ h.1 h.2, x.out h.1 h.2⟩) .inr
theorem FC.ext (h : FC K H ρ a vs) (x : Ext ρ H ρ' H') : FC K H' ρ' a vs := h.elim (fun ⟨⟨o, h⟩, n⟩ => .inl ⟨⟨o, x.keep _ _ h n⟩, x.out h n⟩) .inr
mutual
theorem RV.ext (x : Ext ρ H ρ' H') : ∀ (d : D) {v : V}, RV K H ρ v d → RV K H' ρ' v d
  | .non, _, h => by cases h; exact .non
  | .bl b, _, h => by cases h; exact .bl b
  | .int i, _, h => by cases h; exact .int i
  | .str s, _, h => by cases h; exact .str s
  | .tup ds, _, h => by
    cases h with
    | tup h1 h2 => exact .tup (h1.ext x) (RVs.ext x ds h2)
  | .lst ds, _, h => by
    cases h with
    | lst h1 h2 h3 => exact .lst (x.keep _ _ h1 h2) (x.out h1 h2) (RVs.ext x ds h3)
  | .cst ds, _, h => by
    cases h with
    | cst h1 h2 => exact .cst (h1.ext x) (RVs.ext x ds h2)
  | .ref n, _, h => by
    cases h with
    | ref h1 => exact .ref (x.at h1)
  | .adr a, _, h => by cases h; exact .adr
theorem RVs.ext (x : Ext ρ H ρ' H') : ∀ (ds : List D) {vs : List V}, RVs K H ρ vs ds → RVs K H' ρ' vs ds
  | [], _, h => by cases h; exact .nil
  | d :: ds, _, h => by
    cases h with
    | cons h1 h2 => exact .cons (RV.ext x d h1) (RVs.ext x ds h2)
end

/-! ### the store -/
def KVr (K : PySem.W.Frag) (H : Hp) (ρ : List Addr) : List (Key × V) → List (Key × D) → Prop := Paired fun p q => p.1 = q.1 ∧ RV K H ρ p.2 q.2
def CO (K : PySem.W.Frag) (H : Hp) (ρ : List Addr) (a : Addr) : Cell → Prop
  | .lst l => ∃ vs, H a = some (.lst vs) ∧ RVs K H ρ vs l
  | .dic kvs => ∃ ws, H a = some (.dK ws) ∧ KVr K H ρ ws kvs
structure RS (K : PySem.W.Frag) (H : Hp) (ρ : List Addr) (st : Store) : Prop where
  nd : ρ.Nodup
  len : ρ.length = st.length
  cell : ∀ (n : Nat) a c, ρ[n]? = some a → st[n]? = some c → CO K H ρ a c
theorem paired_imp {α β : Type} {F G : α → β → Prop} (f : ∀ a b, F a b → G a b) : ∀ {l : List α} {m : List β}, Paired F l m → Paired G l m
  | _, _, .nil => .nil
  | _, _, .cons r t => .cons (f _ _ r) (paired_imp f t)
theorem CO.ext {c : Cell} (h : CO K H ρ a c) (x : Ext ρ H ρ' H') (e : H' a = H a) : CO K H' ρ' a c := by
  cases c with
  | lst l =>
    obtain ⟨vs, h1, h2⟩ := h
    exact ⟨vs, e.trans h1, h2.ext x⟩
  | dic kvs =>
    obtain ⟨ws, h1, h2⟩ := h
    exact ⟨ws, e.trans h1, paired_imp (fun _ _ r => ⟨r.1, r.2.ext x⟩) h2⟩
theorem CO.there {c : Cell} (h : CO K H ρ a c) : H a ≠ none := by
  cases c with
  | lst l => obtain ⟨vs, h1, h2⟩ := h; rw [h1]; simp
  | dic kvs => obtain ⟨vs, h1, h2⟩ := h; rw [h1]; simp
theorem RS.there {st : Store} (s : RS K H ρ st) (h : a ∈ ρ) : H a ≠ none := by
  obtain ⟨n, hn, e⟩ := List.mem_iff_getElem.mp h
  have h1 : ρ[n]? = some a := by rw [List.getElem?_eq_getElem hn, e]
  have h2 : n < st.length := by rw [← s.len]; exact hn
  exact (s.cell n a st[n] h1 (by simp [h2])).there
theorem RS.out {st : Store} (s : RS K H ρ st) (h : H p = none) : p ∉ ρ := fun q => s.there q h
theorem RS.at {st : Store} {n : Nat} {c : Cell} (s : RS K H ρ st) (h : st[n]? = some c) : ∃ a, ρ[n]? = some a ∧ CO K H ρ a c := by
  obtain ⟨hn, _⟩ := List.getElem?_eq_some_iff.mp h
  rw [← s.len] at hn
  exact ⟨ρ[n], by simp [hn], s.cell n _ c (by simp [hn]) h⟩
/-- a new object, no cell -/
theorem Ext.laid {o : HO} (h : H p = none) : Ext ρ H ρ (upd H p o) := ⟨⟨[], by simp⟩, fun b u e _ => by rw [upd_ne (ne_of_none e h)]; exact e, fun a h n => absurd h n⟩
theorem RS.laid {st : Store} {o : HO} (s : RS K H ρ st) (h : H p = none) : RS K (upd H p o) ρ st :=
  ⟨s.nd, s.len, fun n a c e1 e2 => (s.cell n a c e1 e2).ext (Ext.laid h) (upd_ne fun q => s.out h (q ▸ List.mem_of_getElem? e1))⟩
/-- a new cell -/
theorem Ext.cell {o : HO} (h : H p = none) : Ext ρ H (ρ ++ [p]) (upd H p o) :=
  ⟨⟨[p], rfl⟩, fun b u e _ => by rw [upd_ne (ne_of_none e h)]; exact e, fun a h' n => by
    rcases List.mem_append.mp h' with q | q
    · exact absurd q n
    · rw [List.mem_singleton.mp q]; exact h⟩
theorem RS.new {st : Store} {o : HO} {c : Cell} (s : RS K H ρ st) (h : H p = none) (hc : CO K (upd H p o) (ρ ++ [p]) p c) : RS K (upd H p o) (ρ ++ [p]) (st ++ [c]) := by
  refine ⟨?_, by simp [s.len], fun n a c' e1 e2 => ?_⟩
  · refine List.nodup_append.mpr ⟨s.nd, by simp, fun a ha b hb => ?_⟩
    rw [List.mem_singleton.mp hb]
    rintro rfl
    exact s.out h ha
  · by_cases hn : n < ρ.length
    · rw [List.getElem?_append_left hn] at e1
      rw [List.getElem?_append_left (by rw [← s.len]; exact hn)] at e2
      exact (s.cell n a c' e1 e2).ext (Ext.cell h) (upd_ne fun q => s.out h (q ▸ List.mem_of_getElem? e1))
    · have hn' : n = ρ.length := by
        have := (List.getElem?_eq_some_iff.mp e1).1
        simp at this; omega
      subst hn'
      rw [List.getElem?_append_right (Nat.le_refl _)] at e1
      simp at e1
      rw [s.len, List.getElem?_append_right (Nat.le_refl _)] at e2
      simp at e2
      subst e1; subst e2
      exact hc
theorem RS.newL {st : Store} {l : List D} (s : RS K H ρ st) (h : H p = none) (r : RVs K H ρ vs l) : RS K (upd H p (.lst vs)) (ρ ++ [p]) (st ++ [.lst l]) :=
  s.new h ⟨vs, upd_same, r.ext (Ext.cell h)⟩
/-- a cell changed -/
theorem Ext.write {o : HO} (h : a ∈ ρ) : Ext ρ H ρ (upd H a o) := ⟨⟨[], by simp⟩, fun b u e n => by
  have q : b ≠ a := by rintro rfl; exact n h
  rw [upd_ne q]; exact e, fun a h n => absurd h n⟩
theorem RS.write {st : Store} {n : Nat} {o : HO} {c : Cell} (s : RS K H ρ st) (h : ρ[n]? = some a) (hc : CO K (upd H a o) ρ a c) : RS K (upd H a o) ρ (st.set n c) := by
  have hm : a ∈ ρ := List.mem_of_getElem? h
  refine ⟨s.nd, by simp [s.len], fun m b c' e1 e2 => ?_⟩
  by_cases hnm : m = n
  · subst hnm
    rw [h] at e1; cases e1
    have hl : m < st.length := by rw [← s.len]; exact (List.getElem?_eq_some_iff.mp h).1
    rw [List.getElem?_set_self hl] at e2
    cases e2
    exact hc
  · rw [List.getElem?_set_ne (Ne.symm hnm)] at e2
    refine (s.cell m b c' e1 e2).ext (Ext.write hm) (upd_ne fun q => ?_)
    subst q
    obtain ⟨h1, q1⟩ := List.getElem?_eq_some_iff.mp h
    obtain ⟨h2, q2⟩ := List.getElem?_eq_some_iff.mp e1
    exact hnm ((List.getElem_inj s.nd).mp (q2.trans q1.symm))
theorem RS.writeL {st : Store} {n : Nat} {l : List D} (s : RS K H ρ st) (h : ρ[n]? = some a) (r : RVs K H ρ vs l) : RS K (upd H a (.lst vs)) ρ (st.set n (.lst l)) :=
  s.write h ⟨vs, upd_same, r.ext (Ext.write (List.mem_of_getElem? h))⟩

/-! ### the state at a place -/
structure At (K : PySem.W.Frag) (H : Hp) (ρ : List Addr) (σ : SV) (ls : LS) (st : Store) : Prop where
  len : ls.length = σ.length
  loc : ∀ (i : Nat) d, getL ls i = some d → ∃ v, σ[i]? = some (some v) ∧ RV K H ρ v d
  sto : RS K H ρ st
theorem At.grow {σ : SV} {ls : LS} {st st' : Store} (x : At K H ρ σ ls st) (e : Ext ρ H ρ' H') (s : RS K H' ρ' st') : At K H' ρ' σ ls st' :=
  ⟨x.len, fun i d h => let ⟨v, h1, h2⟩ := x.loc i d h; ⟨v, h1, h2.ext e⟩, s⟩
theorem At.put {σ : SV} {ls : LS} {st : Store} (x : At K H ρ σ ls st) (i : Nat) (r : RV K H ρ v d) : At K H ρ (σ.set i (some v)) (setL ls i d) st := by
  refine ⟨by rw [setL_length, List.length_set]; exact x.len, fun j e h => ?_, x.sto⟩
  by_cases hj : i = j
  · subst hj
    obtain ⟨rfl, hl⟩ := getL_setL_same ls i d e h
    exact ⟨v, by rw [List.getElem?_set_self (by rw [← x.len]; exact hl)], r⟩
  · rw [getL_setL_ne _ _ _ _ hj] at h
    obtain ⟨w, h1, h2⟩ := x.loc j e h
    exact ⟨w, by rw [List.getElem?_set_ne hj]; exact h1, h2⟩
end
end DD

set_option maxRecDepth 100000
set_option maxHeartbeats 1000000
/-! DD2: the judgements over plain functions: expressions, tests, arguments, targets, statements; sequences, ifs, whiles. -/
namespace DD
open PySem PySem.Spec PyProof.Rows L2

theorem pe_imp {X : Cx} {e : Expr} {t t' : TE} (h : PE X e t) (w : ∀ σ H Q, t' σ H Q → t σ H Q) : PE X e t' := ⟨fun pins s σ H Q I q => h.run pins s σ H Q I (w σ H Q q)⟩
theorem pt_imp {X : Cx} {e : Expr} {t t' : TT} (h : PT X e t) (w : ∀ σ H Q, t' σ H Q → t σ H Q) : PT X e t' := ⟨fun pins s σ H Q I q => h.run pins s σ H Q I (w σ H Q q)⟩
theorem pw_imp {X : Cx} {e : Expr} {t t' : TT} (h : PW X e t) (w : ∀ σ H Q, t' σ H Q → t σ H Q) : PW X e t' := ⟨fun wh pins s σ H Q I q => h.run wh pins s σ H Q I (w σ H Q q)⟩
theorem pa_imp {X : Cx} {e : List Expr} {t t' : TA} (h : PA X e t) (w : ∀ σ H Q, t' σ H Q → t σ H Q) : PA X e t' := ⟨fun pos pins s σ H Q I q => h.run pos pins s σ H Q I (w σ H Q q)⟩
theorem ps_imp {X : Cx} {e : Stmt} {t t' : TS} (h : PS X e t) (w : ∀ D σ H, t' D σ H → t D σ H) : PS X e t' := ⟨fun pins s σ H D I q => h.run pins s σ H D I (w D σ H q)⟩
theorem pss_imp {X : Cx} {e : List Stmt} {t t' : TS} (h : PSs X e t) (w : ∀ D σ H, t' D σ H → t D σ H) : PSs X e t' := ⟨fun pins s σ H D I q => h.run pins s σ H D I (w D σ H q)⟩
theorem pg_imp {X : Cx} {e : Expr} {t t' : TG} (h : PG X e t) (w : ∀ v σ H Q, t' v σ H Q → t v σ H Q) : PG X e t' := ⟨fun pins s σ H v u Q I r q => h.run pins s σ H v u Q I r (w v σ H Q q)⟩
theorem pgs_imp {X : Cx} {e : List Expr} {t t' : TGs} (h : PGs X e t) (w : ∀ v σ H Q, t' v σ H Q → t v σ H Q) : PGs X e t' := ⟨fun pins s σ H v u Q I r q => h.run pins s σ H v u Q I r (w v σ H Q q)⟩
theorem pi_imp {X : Cx} {tg e : Expr} {t t' : TI} (h : PI X tg e t) (w : ∀ σ H R, t' σ H R → t σ H R) : PI X tg e t' := ⟨fun pins s σ H R I q => h.run pins s σ H R I (w σ H R q)⟩
theorem po_imp {X : Cx} {e : Option Expr} {t t' : TO} (h : PO X e t) (w : ∀ σ H R, t' σ H R → t σ H R) : PO X e t' := ⟨fun pins s σ H R I q => h.run pins s σ H R I (w σ H R q)⟩

section
variable (K : PySem.W.Frag) (mg : Str → Option Value) (W : WX)
/-- how an exception lies: its class, its own dict -/
def RX (H : Hp) (ρ : List Addr) (cls : Value) (dd : Option Addr) (e : Exc) : Prop :=
  ∃ C, mg e.cls = some (.ref C) ∧ cls = Value.ref C ∧ match e.fs with
    | [] => dd = none
    | f :: fs => ∃ dx vs, dd = some dx ∧ dx ∉ ρ ∧ H dx = some (.xd vs) ∧ Paired (fun p q => p.1 = q.1 ∧ RV K H ρ p.2 q.2) vs (f :: fs)
/-- what an outcome wants of the state behind it -/
def OO {α β : Type} (R : Hp → List Addr → β → α → Prop) (σ : SV) (Q : β → Hp → Prop) (ρ : List Addr) (H : Hp) : Out α → Prop
  | .ok a st' => ∀ ρ' b H', Ext ρ H ρ' H' → RS K H' ρ' st' → R H' ρ' b a → Q b H'
  | .ex e st' => ∀ ρ' cls dd H', Ext ρ H ρ' H' → RS K H' ρ' st' → RX K mg H' ρ' cls dd e → W cls dd σ H'
  | .bad => False
/-- the reading by a function -/
def tF {α β : Type} (R : Hp → List Addr → β → α → Prop) (f : LS → Store → Out α) : SV → Hp → (β → Hp → Prop) → Prop := fun σ H Q =>
  ∃ ρ ls st, At K H ρ σ ls st ∧ OO K mg W R σ Q ρ H (f ls st)
def rV (H : Hp) (ρ : List Addr) (v : V) (d : D) : Prop := RV K H ρ v d
def rVs (H : Hp) (ρ : List Addr) (v : List V) (d : List D) : Prop := RVs K H ρ v d
def rB (H : Hp) (ρ : List Addr) (b : Bool) (d : Bool) : Prop := b = d
def rO (H : Hp) (ρ : List Addr) (b : Option Int) (d : Option Int) : Prop := b = d
abbrev tE (f : LS → Store → Out D) : TE := tF K mg W (rV K) f
abbrev tT (f : LS → Store → Out Bool) : TT := tF K mg W rB f
abbrev tA (f : LS → Store → Out (List D)) : TA := tF K mg W (rVs K) f
abbrev tOp' (f : LS → Store → Out (Option Int)) : TO := tF K mg W rO f
/-- a target -/
def GO (Q : SV → Hp → Prop) (ρ : List Addr) (H : Hp) : Out LS → Prop
  | .ok ls' st' => ∀ ρ' σ' H', Ext ρ H ρ' H' → At K H' ρ' σ' ls' st' → Q σ' H'
  | _ => False
def tG (g : D → LS → Store → Out LS) : TG := fun v σ H Q => ∃ ρ ls st d, At K H ρ σ ls st ∧ RV K H ρ v d ∧ GO K Q ρ H (g d ls st)
def tGs' (g : List D → LS → Store → Out LS) : TGs := fun vs σ H Q => ∃ ρ ls st ds, At K H ρ σ ls st ∧ RVs K H ρ vs ds ∧ GO K Q ρ H (g ds ls st)
/-- a statement -/
def PSO (N : Ends) (ρ : List Addr) (H : Hp) : SO → Prop
  | .nx ls' st' => ∀ ρ' σ' H', Ext ρ H ρ' H' → At K H' ρ' σ' ls' st' → N.nx σ' H'
  | .rt d st' => ∀ ρ' v H', Ext ρ H ρ' H' → RS K H' ρ' st' → RV K H' ρ' v d → N.rt v H'
  | .bk ls' st' => ∀ ρ' σ' H', Ext ρ H ρ' H' → At K H' ρ' σ' ls' st' → N.bk σ' H'
  | .ct ls' st' => ∀ ρ' σ' H', Ext ρ H ρ' H' → At K H' ρ' σ' ls' st' → N.ct σ' H'
  | .ex e ls' st' => ∀ ρ' σ' cls dd H', Ext ρ H ρ' H' → At K H' ρ' σ' ls' st' → RX K mg H' ρ' cls dd e → W cls dd σ' H'
  | .bad => False
def tS (g : LS → Store → SO) : TS := fun N σ H => ∃ ρ ls st, At K H ρ σ ls st ∧ PSO K mg W N ρ H (g ls st)
end
abbrev DE (X : Cx) (W : WX) (e : Expr) (f : LS → Store → Out D) : Prop := PE X e (tE X.K X.mg W f)
abbrev DT (X : Cx) (W : WX) (e : Expr) (f : LS → Store → Out Bool) : Prop := PT X e (tT X.K X.mg W f)
abbrev DW (X : Cx) (W : WX) (e : Expr) (f : LS → Store → Out Bool) : Prop := PW X e (tT X.K X.mg W f)
abbrev DA (X : Cx) (W : WX) (es : List Expr) (f : LS → Store → Out (List D)) : Prop := PA X es (tA X.K X.mg W f)
abbrev DP (X : Cx) (W : WX) (e : Option Expr) (f : LS → Store → Out (Option Int)) : Prop := PO X e (tOp' X.K X.mg W f)
abbrev DG (X : Cx) (tg : Expr) (g : D → LS → Store → Out LS) : Prop := PG X tg (tG X.K g)
abbrev DGs (X : Cx) (tg : List Expr) (g : List D → LS → Store → Out LS) : Prop := PGs X tg (tGs' X.K g)
abbrev DS (X : Cx) (W : WX) (s : Stmt) (g : LS → Store → SO) : Prop := PS X s (tS X.K X.mg W g)
abbrev DSs (X : Cx) (W : WX) (s : List Stmt) (g : LS → Store → SO) : Prop := PSs X s (tS X.K X.mg W g)

section
variable {K : PySem.W.Frag} {mg : Str → Option Value} {W : WX} {α β γ δ : Type} {R : Hp → List Addr → β → α → Prop} {R2 : Hp → List Addr → δ → γ → Prop} {σ : SV} {Q Q' : β → Hp → Prop} {ρ ρ' : List Addr} {H H' : Hp}
theorem RX.keepx {H : Hp} {ρ : List Addr} {cls : Value} {dd : Option Addr} {e : Exc} (h : RX K mg H ρ cls dd e) : True := trivial
theorem OO.mono {o : Out α} (h : OO K mg W R σ Q ρ H o) (w : ∀ b H, Q b H → Q' b H) : OO K mg W R σ Q' ρ H o := by
  cases o with
  | ok a st => exact fun ρ' b H' e s r => w _ _ (h ρ' b H' e s r)
  | ex e st => exact h
  | bad => exact h
theorem OO.grow {o : Out α} (h : OO K mg W R σ Q ρ H o) (e : Ext ρ H ρ' H') : OO K mg W R σ Q ρ' H' o := by
  cases o with
  | ok a st => exact fun ρ2 b H2 e2 s r => h ρ2 b H2 (e.trans e2) s r
  | ex x st => exact fun ρ2 cls dd H2 e2 s r => h ρ2 cls dd H2 (e.trans e2) s r
  | bad => exact h
theorem OO.bind {o : Out α} {f : α → Store → Out γ} {Q2 : δ → Hp → Prop} (h : OO K mg W R2 σ Q2 ρ H (o.bind f)) :
    OO K mg W R σ (fun b H1 => ∃ ρ1 a st1, Ext ρ H ρ1 H1 ∧ RS K H1 ρ1 st1 ∧ R H1 ρ1 b a ∧ OO K mg W R2 σ Q2 ρ1 H1 (f a st1)) ρ H o := by
  cases o with
  | ok a st => exact fun ρ1 b H1 e s r => ⟨ρ1, a, st, e, s, r, OO.grow h e⟩
  | ex x st => exact h
  | bad => exact h
/-- a reading by the first of two functions, then the rest -/
theorem tF_bind {o : LS → Store → Out α} {f : LS → α → Store → Out γ} {ls : LS} {st : Store} {Q2 : δ → Hp → Prop} (A : At K H ρ σ ls st) (h : OO K mg W R2 σ Q2 ρ H ((o ls st).bind (f ls)))
    {R1 : β → Hp → Prop} (k : ∀ ρ1 b H1 a st1, Ext ρ H ρ1 H1 → At K H1 ρ1 σ ls st1 → R H1 ρ1 b a → OO K mg W R2 σ Q2 ρ1 H1 (f ls a st1) → R1 b H1) : tF K mg W R o σ H R1 :=
  ⟨ρ, ls, st, A, (OO.bind h).mono fun b H1 ⟨ρ1, a, st1, e, s, r, q⟩ => k ρ1 b H1 a st1 e (A.grow e s) r q⟩
/-- at an end -/
theorem OO.done {a : α} {b : β} {st : Store} (h : OO K mg W R σ Q ρ H (.ok a st)) (s : RS K H ρ st) (r : R H ρ b a) : Q b H := h ρ b H (Ext.refl _ _) s r
theorem OO.here {a : α} {b : β} {st : Store} (h : OO K mg W R σ Q ρ H (.ok a st)) (e : Ext ρ H ρ' H') (s : RS K H' ρ' st) (r : R H' ρ' b a) : Q b H' := h ρ' b H' e s r
end

section
variable {X : Cx} {W : WX} {a b c e : Expr} {es : List Expr} {fa fb fc f : LS → Store → Out D} {pos : Pos}
/-! ### names, constants -/
def varD (i : Nat) : LS → Store → Out D := fun ls st => match getL ls i with
  | some d => .ok d st
  | none => .bad
def litD (d : D) : LS → Store → Out D := fun _ st => .ok d st
theorem de_var {i : Nat} {x : Str} {t : TE} (h : PE X (.Name x pos) (tVar i)) : DE X W (.Name x pos) (varD i) := pe_imp h fun σ H Q ⟨ρ, ls, st, A, p⟩ => by
  unfold varD at p
  cases e : getL ls i with
  | none => rw [e] at p; exact p.elim
  | some d =>
    rw [e] at p
    obtain ⟨v, h1, h2⟩ := A.loc i d e
    exact ⟨v, h1, OO.done p A.sto h2⟩
theorem de_lit {d : D} {v : V} (h : PE X e (tC v)) (r : ∀ H ρ, RV X.K H ρ v d) : DE X W e (litD d) := pe_imp h fun σ H Q ⟨ρ, ls, st, A, p⟩ => OO.done p A.sto (r H ρ)
theorem de_int {i : Int} {j : Nat} : DE X W (.Constant (.int i) j pos) (litD (.int i)) := de_lit pe_int fun _ _ => .int i
theorem de_bl {i : Bool} {j : Nat} : DE X W (.Constant (.bool i) j pos) (litD (.bl i)) := de_lit pe_bl fun _ _ => .bl i
theorem de_non {j : Nat} : DE X W (.Constant .none j pos) (litD .non) := de_lit pe_non fun _ _ => .non
theorem de_str {x : Str} {j : Nat} : DE X W (.Constant (.str x) j pos) (litD (.str x)) := de_lit pe_str fun _ _ => .str x
/-- the name that stands in the i-th slot -/
theorem dv (i : Nat) {x : Str} {pos : Pos} (hN : X.N[i]? = some x := by rfl) (hv : Vis X.env.scope x := by first | exact Or.inl rfl | exact Or.inr (Or.inl rfl) | exact Or.inr (Or.inr rfl)) (hd : (x == ("__debug__" : Str)) = false := by decide)
    (hcd : (x == ("__classdict__" : Str)) = false := by decide) : DE X W (.Name x pos) (varD i) := de_var (t := tVar i) (pe_var hN hv hd hcd)

/-! ### two operands -/
def bin2 (F : D → D → Store → Out D) (fa fb : LS → Store → Out D) : LS → Store → Out D := fun ls st => (fa ls st).bind fun x st1 => (fb ls st1).bind fun y st2 => F x y st2
def un1 (F : D → Store → Out D) (fa : LS → Store → Out D) : LS → Store → Out D := fun ls st => (fa ls st).bind fun x st1 => F x st1
/-- what an operator's rule asks is what F gives -/
def OpD (X : Cx) (W : WX) (r : R2) (F : D → D → Store → Out D) : Prop := ∀ (σ : SV) (ρ : List Addr) (H : Hp) (st : Store) (x y : V) (dx dy : D) (Q : VK),
  RS X.K H ρ st → RV X.K H ρ x dx → RV X.K H ρ y dy → OO X.K X.mg W (rV X.K) σ Q ρ H (F dx dy st) → r x y H Q
def UnD (X : Cx) (W : WX) (r : V → Hp → VK → Prop) (F : D → Store → Out D) : Prop := ∀ (σ : SV) (ρ : List Addr) (H : Hp) (st : Store) (x : V) (dx : D) (Q : VK),
  RS X.K H ρ st → RV X.K H ρ x dx → OO X.K X.mg W (rV X.K) σ Q ρ H (F dx st) → r x H Q
def CallD (X : Cx) (W : WX) (r : List V → Hp → VK → Prop) (F : List D → Store → Out D) : Prop := ∀ (σ : SV) (ρ : List Addr) (H : Hp) (st : Store) (xs : List V) (ds : List D) (Q : VK),
  RS X.K H ρ st → RVs X.K H ρ xs ds → OO X.K X.mg W (rV X.K) σ Q ρ H (F ds st) → r xs H Q
theorem bin_read {r : R2} {F : D → D → Store → Out D} (hd : OpD X W r F) {σ : SV} {H : Hp} {Q : VK} (h : tE X.K X.mg W (bin2 F fa fb) σ H Q) : tOp r (tE X.K X.mg W fa) (tE X.K X.mg W fb) σ H Q := by
  obtain ⟨ρ, ls, st, A, p⟩ := h
  refine tF_bind (R2 := rV X.K) (f := fun ls x st1 => (fb ls st1).bind fun y st2 => F x y st2) A p fun ρ1 x H1 dx st1 e1 A1 r1 q1 => ?_
  refine tF_bind (R2 := rV X.K) (f := fun _ y st2 => F dx y st2) A1 q1 fun ρ2 y H2 dy st2 e2 A2 r2 q2 => ?_
  exact hd σ ρ2 H2 st2 x y dx dy Q A2.sto (RV.ext e2 _ r1) r2 q2
theorem de_bin {op : Operator} {r : R2} {F : D → D → Store → Out D} (ho : OpR X (binaryOp op) r) (hd : OpD X W r F) (ha : DE X W a fa) (hb : DE X W b fb) : DE X W (.BinOp a op b pos) (bin2 F fa fb) :=
  pe_imp (pe_op ho ha hb) fun _ _ _ h => bin_read hd h
theorem de_cmp {op : CmpOp} {r : R2} {F : D → D → Store → Out D} (ho : OpR X (compareOp op) r) (hd : OpD X W r F) (ha : DE X W a fa) (hb : DE X W b fb) (hm : behindInMarks op b = false) : DE X W (.Compare a [op] [b] pos) (bin2 F fa fb) :=
  pe_imp (pe_cmpR ho ha hb hm) fun _ _ _ h => bin_read hd h
/-- an outcome that is to be a bool -/
def asB (o : Out D) : Out Bool := match o with
  | .ok (.bl b) st => .ok b st
  | .ex e st => .ex e st
  | _ => .bad
@[simp] theorem asB_ok (b : Bool) (st : Store) : asB (.ok (.bl b) st) = .ok b st := rfl
@[simp] theorem asB_ex (e : Exc) (st : Store) : asB (.ex e st) = .ex e st := rfl
@[simp] theorem asB_bad : asB .bad = .bad := rfl
def boolD (f : LS → Store → Out D) : LS → Store → Out Bool := fun ls st => asB (f ls st)
theorem asB_read {o : Out D} {σ : SV} {Q : Bool → Hp → Prop} {ρ : List Addr} {H : Hp} {K : PySem.W.Frag} {mg : Str → Option Value} (h : OO K mg W rB σ Q ρ H (asB o)) : OO K mg W (rV K) σ (fun x H' => ∃ k, x = .bl k ∧ Q k H') ρ H o := by
  cases o with
  | bad => exact h
  | ex e st => exact h
  | ok d st =>
    cases d with
    | bl b =>
      intro ρ' v H' e s r
      cases r
      exact ⟨b, rfl, h ρ' b H' e s rfl⟩
    | _ => exact h.elim
theorem dt_cmp {op : CmpOp} {r : R2} {F : D → D → Store → Out D} (ho : OpR X (compareOp op) r) (hd : OpD X W r F) (ha : DE X W a fa) (hb : DE X W b fb) (hm : behindInMarks op b = false) : DT X W (.Compare a [op] [b] pos) (boolD (bin2 F fa fb)) :=
  pt_imp (pt_cmpR ho ha hb hm) fun σ H Q h => by
    obtain ⟨ρ, ls, st, A, p⟩ := h
    exact bin_read hd ⟨ρ, ls, st, A, asB_read p⟩
theorem de_un {op : UnaryOp} {r : V → Hp → VK → Prop} {F : D → Store → Out D} (ho : UnR X (unaryOp op) r) (hd : UnD X W r F) (ha : DE X W a fa) : DE X W (.UnaryOp op a pos) (un1 F fa) :=
  pe_imp (pe_un ho ha) fun σ H Q ⟨ρ, ls, st, A, p⟩ => tF_bind (R2 := rV X.K) (f := fun _ x st1 => F x st1) A p fun ρ1 x H1 dx st1 e1 A1 r1 q1 => hd σ ρ1 H1 st1 x dx Q A1.sto r1 q1

/-! ### arguments, displays -/
def nilA : LS → Store → Out (List D) := fun _ st => .ok [] st
def consA (fa : LS → Store → Out D) (fr : LS → Store → Out (List D)) : LS → Store → Out (List D) := fun ls st => (fa ls st).bind fun x st1 => (fr ls st1).bind fun xs st2 => .ok (x :: xs) st2
theorem da_nil : DA X W [] nilA := pa_imp pa_nil fun σ H Q ⟨ρ, ls, st, A, p⟩ => OO.done p A.sto RVs.nil
theorem da_cons {fr : LS → Store → Out (List D)} (ha : DE X W a fa) (hr : DA X W es fr) (hs : starEach (a :: es) X.env = (false, eval a X.env) :: starEach es X.env := by rfl) : DA X W (a :: es) (consA fa fr) :=
  pa_imp (pa_cons ha hr hs) fun σ H Q ⟨ρ, ls, st, A, p⟩ => by
    refine tF_bind (R2 := rVs X.K) (f := fun ls x st1 => (fr ls st1).bind fun xs st2 => .ok (x :: xs) st2) A p fun ρ1 x H1 dx st1 e1 A1 r1 q1 => ?_
    refine tF_bind (R2 := rVs X.K) (f := fun _ xs st2 => .ok (dx :: xs) st2) A1 q1 fun ρ2 xs H2 ds st2 e2 A2 r2 q2 => ?_
    exact OO.done q2 A2.sto (RVs.cons (RV.ext e2 _ r1) r2)
def tupD (fr : LS → Store → Out (List D)) : LS → Store → Out D := fun ls st => (fr ls st).bind fun xs st1 => if xs.length ≤ 16777216 then .ok (.tup xs) st1 else .bad
def lstD (fr : LS → Store → Out (List D)) : LS → Store → Out D := fun ls st => (fr ls st).bind fun xs st1 => if xs.length ≤ 16777216 then .ok (.ref st1.length) (st1 ++ [.lst xs]) else .bad
theorem de_tup {fr : LS → Store → Out (List D)} {x1 : Nat} (h : DA X W es fr) : DE X W (.Tuple es x1 pos) (tupD fr) := pe_imp (pe_tup h) fun σ H Q ⟨ρ, ls, st, A, p⟩ => by
  refine tF_bind (R2 := rV X.K) (f := fun _ xs st1 => if xs.length ≤ 16777216 then .ok (.tup xs) st1 else .bad) A p fun ρ1 xs H1 ds st1 e1 A1 r1 q1 => ?_
  by_cases hl : ds.length ≤ 16777216
  · have q2 : OO X.K X.mg W (rV X.K) σ Q ρ1 H1 (.ok (.tup ds) st1) := by simpa only [if_pos hl] using q1
    refine ⟨by rw [RVs.length r1, sizeLine_eq]; exact hl, fun p hp => ?_⟩
    have x := Ext.laid (ρ := ρ1) (o := .tup xs) hp
    exact OO.here q2 x (A1.sto.laid hp) (.tup (.inl ⟨upd_same, A1.sto.out hp⟩) (RVs.ext x _ r1))
  · rw [if_neg hl] at q1; exact q1.elim
theorem de_lst {fr : LS → Store → Out (List D)} (h : DA X W es fr) : DE X W (.List es pos) (lstD fr) := pe_imp (pe_lst h) fun σ H Q ⟨ρ, ls, st, A, p⟩ => by
  refine tF_bind (R2 := rV X.K) (f := fun _ xs st1 => if xs.length ≤ 16777216 then .ok (.ref st1.length) (st1 ++ [.lst xs]) else .bad) A p fun ρ1 xs H1 ds st1 e1 A1 r1 q1 => ?_
  by_cases hl : ds.length ≤ 16777216
  · have q2 : OO X.K X.mg W (rV X.K) σ Q ρ1 H1 (.ok (.ref st1.length) (st1 ++ [.lst ds])) := by simpa only [if_pos hl] using q1
    refine ⟨by rw [RVs.length r1, sizeLine_eq]; exact hl, fun p hp => ?_⟩
    exact OO.here q2 (Ext.cell hp) (A1.sto.newL hp r1) (.ref (by rw [← A1.sto.len, List.getElem?_append_right (Nat.le_refl _)]; simp))
  · rw [if_neg hl] at q1; exact q1.elim

/-! ### tests -/
def truD (st : Store) : D → Option Bool
  | .non => some false
  | .bl b => some b
  | .int i => some (i != 0)
  | .tup l => some (!l.isEmpty)
  | .lst l => some (!l.isEmpty)
  | .cst l => some (!l.isEmpty)
  | .ref n => (match st[n]? with
    | some (.lst l) => some (!l.isEmpty)
    | some (.dic l) => some (!l.isEmpty)
    | none => none)
  | .str _ => none
  | .adr _ => none
def testD (f : LS → Store → Out D) : LS → Store → Out Bool := fun ls st => (f ls st).bind fun d st1 => match truD st1 d with
  | some b => .ok b st1
  | none => .bad
theorem RVs.isEmpty {K : PySem.W.Frag} {H : Hp} {ρ : List Addr} {vs : List V} {ds : List D} (h : RVs K H ρ vs ds) : vs.isEmpty = ds.isEmpty := by cases h <;> rfl
theorem tru_read {K : PySem.W.Frag} {H : Hp} {ρ : List Addr} {st : Store} {v : V} {d : D} {b : Bool} (s : RS K H ρ st) (r : RV K H ρ v d) (h : truD st d = some b) : TruV K v H b := by
  cases r with
  | non => cases h; rfl
  | bl b => cases h; rfl
  | int i => cases h; rfl
  | str x => cases h
  | adr => cases h
  | tup h1 h2 => cases h; exact .inr (.inl ⟨_, h1.sq, by rw [h2.isEmpty]⟩)
  | lst h1 h2 h3 => cases h; exact .inl ⟨_, .inl (.inl h1), by rw [h3.isEmpty]⟩
  | cst h1 h2 => cases h; exact .inl ⟨_, h1.sq, by rw [h2.isEmpty]⟩
  | ref h1 =>
    rename_i a n
    unfold truD at h
    cases e : st[n]? with
    | none => simp [e] at h
    | some c =>
      have hc := s.cell n a c h1 e
      cases c with
      | lst l =>
        simp only [e] at h
        have h : some (!l.isEmpty) = some b := h
        cases h
        obtain ⟨vs, h2, h3⟩ := hc
        exact .inl ⟨vs, .inl (.inl h2), by rw [h3.isEmpty]⟩
      | dic l =>
        simp only [e] at h
        have h : some (!l.isEmpty) = some b := h
        cases h
        obtain ⟨vs, h2, h3⟩ := hc
        refine .inr (.inr ⟨vs, h2, ?_⟩)
        cases h3 <;> rfl
theorem dt_truth (ha : DE X W a fa) (he : ∀ whole, isTrue a X.env whole = (do let v ← whole; standAt a.pos; holding [v] (truthy v)) := by intro _; rfl) : DT X W a (testD fa) :=
  pt_imp (pt_truth ha he) fun σ H Q ⟨ρ, ls, st, A, p⟩ => by
    refine tF_bind (R2 := rB) (f := fun _ d st1 => match truD st1 d with | some b => .ok b st1 | none => .bad) A p fun ρ1 x H1 dx st1 e1 A1 r1 q1 => ?_
    cases e : truD st1 dx with
    | none => simp only [e] at q1; exact q1.elim
    | some b =>
      simp only [e] at q1
      exact ⟨b, tru_read A1.sto r1 e, OO.done q1 A1.sto rfl⟩
def notT (f : LS → Store → Out Bool) : LS → Store → Out Bool := fun ls st => (f ls st).bind fun b st1 => .ok (!b) st1
def andT (f g : LS → Store → Out Bool) : LS → Store → Out Bool := fun ls st => (f ls st).bind fun b st1 => if b = true then g ls st1 else .ok false st1
def orT (f g : LS → Store → Out Bool) : LS → Store → Out Bool := fun ls st => (f ls st).bind fun b st1 => if b = true then .ok true st1 else g ls st1
variable {ta tb tc : LS → Store → Out Bool} {rest : List Expr}
theorem dt_not (ha : DT X W a ta) : DT X W (.UnaryOp .Not a pos) (notT ta) := pt_imp (pt_not ha) fun σ H Q ⟨ρ, ls, st, A, p⟩ =>
  tF_bind (R2 := rB) (f := fun _ b st1 => .ok (!b) st1) A p fun ρ1 x H1 dx st1 e1 A1 r1 q1 => by
    obtain rfl : x = dx := r1
    exact OO.done q1 A1.sto rfl
theorem dw_and1 (ha : DT X W a ta) : DW X W (.BoolOp .And [a] pos) ta := pw_and1 ha
theorem dw_or1 (ha : DT X W a ta) : DW X W (.BoolOp .Or [a] pos) ta := pw_or1 ha
theorem dw_and (ha : DT X W a ta) (hb : DW X W (.BoolOp .And (b :: rest) pos) tb) : DW X W (.BoolOp .And (a :: b :: rest) pos) (andT ta tb) := pw_imp (pw_and ha hb) fun σ H Q ⟨ρ, ls, st, A, p⟩ =>
  tF_bind (R2 := rB) (f := fun ls b st1 => if b = true then tb ls st1 else .ok false st1) A p fun ρ1 x H1 dx st1 e1 A1 r1 q1 => by
    obtain rfl : x = dx := r1
    cases x with
    | true => exact ⟨ρ1, ls, st1, A1, q1⟩
    | false => exact OO.done q1 A1.sto rfl
theorem dw_or (ha : DT X W a ta) (hb : DW X W (.BoolOp .Or (b :: rest) pos) tb) : DW X W (.BoolOp .Or (a :: b :: rest) pos) (orT ta tb) := pw_imp (pw_or ha hb) fun σ H Q ⟨ρ, ls, st, A, p⟩ =>
  tF_bind (R2 := rB) (f := fun ls b st1 => if b = true then .ok true st1 else tb ls st1) A p fun ρ1 x H1 dx st1 e1 A1 r1 q1 => by
    obtain rfl : x = dx := r1
    cases x with
    | false => exact ⟨ρ1, ls, st1, A1, q1⟩
    | true => exact OO.done q1 A1.sto rfl
/-! .. as values (bools) -/
def andV (f g : LS → Store → Out D) : LS → Store → Out D := fun ls st => (asB (f ls st)).bind fun b st1 => if b = true then g ls st1 else .ok (.bl false) st1
def orV (f g : LS → Store → Out D) : LS → Store → Out D := fun ls st => (asB (f ls st)).bind fun b st1 => if b = true then .ok (.bl true) st1 else g ls st1
def notV (f : LS → Store → Out D) : LS → Store → Out D := fun ls st => (asB (f ls st)).bind fun b st1 => .ok (.bl (!b)) st1
theorem asB_bind {o : LS → Store → Out D} {f : LS → Bool → Store → Out D} {ls : LS} {st : Store} {σ : SV} {Q2 : VK} {ρ : List Addr} {H : Hp} {K : PySem.W.Frag} {mg : Str → Option Value} (A : At K H ρ σ ls st) (h : OO K mg W (rV K) σ Q2 ρ H ((asB (o ls st)).bind (f ls)))
    {R1 : VK} (k : ∀ ρ1 b H1 st1, Ext ρ H ρ1 H1 → At K H1 ρ1 σ ls st1 → OO K mg W (rV K) σ Q2 ρ1 H1 (f ls b st1) → R1 (.bl b) H1) : tE K mg W o σ H R1 :=
  ⟨ρ, ls, st, A, (asB_read (OO.bind (R := rB) h)).mono fun x H1 ⟨b, ex, ρ1, b', st1, e, s, r, q⟩ => by
    obtain rfl : b = b' := r
    subst ex
    exact k ρ1 b H1 st1 e (A.grow e s) q⟩
theorem de_one {op : BoolOp} (ha : DE X W a fa) : DE X W (.BoolOp op [a] pos) fa := pe_one ha
theorem de_and (ha : DE X W a fa) (hb : DE X W (.BoolOp .And (b :: rest) pos) fb) : DE X W (.BoolOp .And (a :: b :: rest) pos) (andV fa fb) := pe_imp (pe_and ha hb) fun σ H Q ⟨ρ, ls, st, A, p⟩ =>
  asB_bind (f := fun ls b st1 => if b = true then fb ls st1 else .ok (.bl false) st1) A p fun ρ1 x H1 st1 e1 A1 q1 => ⟨x, rfl, by
    cases x with
    | true => exact ⟨ρ1, ls, st1, A1, q1⟩
    | false => exact OO.done q1 A1.sto (RV.bl false)⟩
theorem de_or (ha : DE X W a fa) (hb : DE X W (.BoolOp .Or (b :: rest) pos) fb) : DE X W (.BoolOp .Or (a :: b :: rest) pos) (orV fa fb) := pe_imp (pe_or ha hb) fun σ H Q ⟨ρ, ls, st, A, p⟩ =>
  asB_bind (f := fun ls b st1 => if b = true then .ok (.bl true) st1 else fb ls st1) A p fun ρ1 x H1 st1 e1 A1 q1 => ⟨x, rfl, by
    cases x with
    | false => exact ⟨ρ1, ls, st1, A1, q1⟩
    | true => exact OO.done q1 A1.sto (RV.bl true)⟩
theorem de_not (ha : DE X W a fa) : DE X W (.UnaryOp .Not a pos) (notV fa) := pe_imp (pe_not ha) fun σ H Q ⟨ρ, ls, st, A, p⟩ =>
  asB_bind (f := fun _ b st1 => .ok (.bl (!b)) st1) A p fun ρ1 x H1 st1 e1 A1 q1 => ⟨x, rfl, OO.done q1 A1.sto (RV.bl _)⟩
def ifE (t : LS → Store → Out Bool) (f g : LS → Store → Out D) : LS → Store → Out D := fun ls st => (t ls st).bind fun b st1 => if b = true then f ls st1 else g ls st1
theorem de_if (hc : DT X W c tc) (ha : DE X W a fa) (hb : DE X W b fb) : DE X W (.IfExp c a b pos) (ifE tc fa fb) := pe_imp (pe_ifExp hc ha hb) fun σ H Q ⟨ρ, ls, st, A, p⟩ =>
  tF_bind (R2 := rV X.K) (f := fun ls b st1 => if b = true then fa ls st1 else fb ls st1) A p fun ρ1 x H1 dx st1 e1 A1 r1 q1 => by
    obtain rfl : x = dx := r1
    cases x with
    | true => exact ⟨ρ1, ls, st1, A1, q1⟩
    | false => exact ⟨ρ1, ls, st1, A1, q1⟩
end

/-! ### statements -/
section
variable {K : PySem.W.Frag} {mg : Str → Option Value} {W : WX} {N N' : Ends} {ρ ρ' : List Addr} {H H' : Hp} {σ : SV} {ls : LS} {st : Store}
theorem PSO.grow {o : SO} (h : PSO K mg W N ρ H o) (e : Ext ρ H ρ' H') : PSO K mg W N ρ' H' o := by
  cases o with
  | nx l s => exact fun ρ2 σ' H2 e2 a => h ρ2 σ' H2 (e.trans e2) a
  | rt d s => exact fun ρ2 v H2 e2 a r => h ρ2 v H2 (e.trans e2) a r
  | bk l s => exact fun ρ2 σ' H2 e2 a => h ρ2 σ' H2 (e.trans e2) a
  | ct l s => exact fun ρ2 σ' H2 e2 a => h ρ2 σ' H2 (e.trans e2) a
  | ex x l s => exact fun ρ2 σ' c d H2 e2 a r => h ρ2 σ' c d H2 (e.trans e2) a r
  | bad => exact h
def ofE {α : Type} (o : Out α) (ls : LS) (k : α → Store → SO) : SO := match o with
  | .ok a st => k a st
  | .ex e st => .ex e ls st
  | .bad => .bad
@[simp] theorem ofE_ok {α : Type} (a : α) (st : Store) (ls : LS) (k : α → Store → SO) : ofE (.ok a st) ls k = k a st := rfl
@[simp] theorem ofE_ex {α : Type} (e : Exc) (st : Store) (ls : LS) (k : α → Store → SO) : ofE (.ex e st : Out α) ls k = .ex e ls st := rfl
@[simp] theorem ofE_bad {α : Type} (ls : LS) (k : α → Store → SO) : ofE (.bad : Out α) ls k = .bad := rfl
theorem ofE_read {α β : Type} {R : Hp → List Addr → β → α → Prop} {o : LS → Store → Out α} {k : LS → α → Store → SO} (A : At K H ρ σ ls st) (h : PSO K mg W N ρ H (ofE (o ls st) ls (k ls)))
    {R1 : β → Hp → Prop} (f : ∀ ρ1 b H1 a st1, Ext ρ H ρ1 H1 → At K H1 ρ1 σ ls st1 → R H1 ρ1 b a → PSO K mg W N ρ1 H1 (k ls a st1) → R1 b H1) : tF K mg W R o σ H R1 := by
  refine ⟨ρ, ls, st, A, ?_⟩
  cases e : o ls st with
  | ok a s1 => rw [e] at h; exact fun ρ1 b H1 x s r => f ρ1 b H1 a s1 x (A.grow x s) r (PSO.grow h x)
  | ex x s1 => rw [e] at h; exact fun ρ1 c d H1 y s r => h ρ1 σ c d H1 y (A.grow y s) r
  | bad => rw [e] at h; exact h
theorem PSO.doneNx (h : PSO K mg W N ρ H (.nx ls st)) (A : At K H ρ σ ls st) : N.nx σ H := h ρ σ H (Ext.refl _ _) A
end
section
variable {X : Cx} {W : WX} {st : Stmt} {rest : List Stmt} {g1 g2 g : LS → Store → SO} {e : Expr} {fe : LS → Store → Out D} {pos : Pos}
def skipD : LS → Store → SO := fun ls st => .nx ls st
def seqD (g1 g2 : LS → Store → SO) : LS → Store → SO := fun ls st => match g1 ls st with
  | .nx ls' st' => g2 ls' st'
  | o => o
theorem ds_nil : DSs X W [] skipD := pss_imp pss_nil fun N σ H ⟨ρ, ls, st, A, p⟩ => PSO.doneNx p A
theorem ds_cons (h1 : DS X W st g1) (h2 : DSs X W rest g2) : DSs X W (st :: rest) (seqD g1 g2) := pss_imp (pss_cons h1 h2) fun N σ H ⟨ρ, ls, st, A, p⟩ => by
  refine ⟨ρ, ls, st, A, ?_⟩
  unfold seqD at p
  cases e : g1 ls st with
  | nx l s => rw [e] at p; exact fun ρ1 σ1 H1 x A1 => ⟨ρ1, l, s, A1, PSO.grow p x⟩
  | rt d s => rw [e] at p; exact p
  | bk l s => rw [e] at p; exact p
  | ct l s => rw [e] at p; exact p
  | ex x l s => rw [e] at p; exact p
  | bad => rw [e] at p; exact p
theorem ds_one (h1 : DS X W st g1) : DSs X W [st] g1 := pss_one h1
theorem ds_pass : DS X W (.Pass pos) skipD := ps_imp ps_pass fun N σ H ⟨ρ, ls, st, A, p⟩ => PSO.doneNx p A
theorem ds_break : DS X W (.Break pos) (fun ls st => .bk ls st) := ps_imp ps_break fun N σ H ⟨ρ, ls, st, A, p⟩ => p ρ σ H (Ext.refl _ _) A
theorem ds_continue : DS X W (.Continue pos) (fun ls st => .ct ls st) := ps_imp ps_continue fun N σ H ⟨ρ, ls, st, A, p⟩ => p ρ σ H (Ext.refl _ _) A
def dropD (fe : LS → Store → Out D) : LS → Store → SO := fun ls st => ofE (fe ls st) ls fun _ st1 => .nx ls st1
theorem ds_expr (he : DE X W e fe) (hs : swapsWith e none pos.line X.env = pure false := by rfl) : DS X W (.Expr e pos) (dropD fe) := ps_imp (ps_expr he hs) fun N σ H ⟨ρ, ls, st, A, p⟩ =>
  ofE_read (k := fun ls _ st1 => .nx ls st1) A p fun ρ1 v H1 d st1 x A1 r q => PSO.doneNx q A1
def retD (fe : LS → Store → Out D) : LS → Store → SO := fun ls st => ofE (fe ls st) ls fun d st1 => .rt d st1
theorem ds_ret (he : DE X W e fe) : DS X W (.Return (some e) pos) (retD fe) := ps_imp (ps_ret he) fun N σ H ⟨ρ, ls, st, A, p⟩ =>
  ofE_read (k := fun _ d st1 => .rt d st1) A p fun ρ1 v H1 d st1 x A1 r q => q ρ1 v H1 (Ext.refl _ _) A1.sto r
def ifS (t : LS → Store → Out Bool) (g1 g2 : LS → Store → SO) : LS → Store → SO := fun ls st => ofE (t ls st) ls fun b st1 => if b = true then g1 ls st1 else g2 ls st1
theorem ds_if {c : Expr} {sa sb : List Stmt} {tc : LS → Store → Out Bool} (hc : DT X W c tc) (ha : DSs X W sa g1) (hb : DSs X W sb g2) : DS X W (.If c sa sb pos) (ifS tc g1 g2) := ps_imp (ps_if hc ha hb) fun N σ H ⟨ρ, ls, st, A, p⟩ =>
  ofE_read (R := rB) (k := fun ls b st1 => if b = true then g1 ls st1 else g2 ls st1) A p fun ρ1 v H1 d st1 x A1 r q => by
    obtain rfl : v = d := r
    cases v with
    | true => exact ⟨ρ1, ls, st1, A1, q⟩
    | false => exact ⟨ρ1, ls, st1, A1, q⟩
/-- code that is not reached -/
def neverD : LS → Store → SO := fun _ _ => .bad
theorem ds_never : DS X W st neverD := ⟨fun _ _ _ _ _ _ ⟨_, _, _, _, p⟩ => p.elim⟩
theorem dss_never {sts : List Stmt} : DSs X W sts neverD := ⟨fun _ _ _ _ _ _ ⟨_, _, _, _, p⟩ => p.elim⟩

/-! ### targets, stores -/
def nameG (i : Nat) : D → LS → Store → Out LS := fun d ls st => .ok (setL ls i d) st
theorem dg_name {i : Nat} {x : Str} (hN : X.N.Nodup) (hi : X.N[i]? = some x) (hx : Loc X.env.scope x) (hf : X.fn x = true ∨ X.env.scope.names.lookup x = some .local := by first | exact .inl rfl | exact .inr rfl | assumption) : DG X (.Name x pos) (nameG i) :=
  pg_imp (pg_name hN hi hx hf) fun v σ H Q ⟨ρ, ls, st, d, A, r, p⟩ => p ρ _ H (Ext.refl _ _) (A.put i r)
def nilG : List D → LS → Store → Out LS := fun ds ls st => match ds with
  | [] => .ok ls st
  | _ => .bad
def consG (g : D → LS → Store → Out LS) (gs : List D → LS → Store → Out LS) : List D → LS → Store → Out LS := fun ds ls st => match ds with
  | d :: ds => (match g d ls st with
    | .ok ls1 st1 => gs ds ls1 st1
    | _ => .bad)
  | [] => .bad
theorem dgs_nil : DGs X [] nilG := pgs_imp pgs_nil fun vs σ H Q ⟨ρ, ls, st, ds, A, r, p⟩ => by
  cases r with
  | nil => exact ⟨rfl, p ρ σ H (Ext.refl _ _) A⟩
  | cons _ _ => exact p.elim
theorem dgs_cons {es : List Expr} {gg : D → LS → Store → Out LS} {gs : List D → LS → Store → Out LS} (h1 : DG X e gg) (h2 : DGs X es gs)
    (hs : (assignEach (e :: es) X.env).map (·.2) = assign e X.env :: (assignEach es X.env).map (·.2) := by rfl) : DGs X (e :: es) (consG gg gs) := pgs_imp (pgs_cons h1 h2 hs) fun vs σ H Q ⟨ρ, ls, st, ds, A, r, p⟩ => by
  cases r with
  | nil => exact p.elim
  | @cons v vs d ds r1 r2 =>
    have p : GO X.K Q ρ H (match gg d ls st with | .ok ls1 st1 => gs ds ls1 st1 | _ => .bad) := p
    refine ⟨v, vs, rfl, ρ, ls, st, d, A, r1, ?_⟩
    cases e1 : gg d ls st with
    | bad => rw [e1] at p; exact p.elim
    | ex x s => rw [e1] at p; exact p.elim
    | ok l1 s1 =>
      rw [e1] at p
      have p : GO X.K Q ρ H (gs ds l1 s1) := p
      refine fun ρ1 σ1 H1 x A1 => ⟨ρ1, l1, s1, ds, A1, RVs.ext x _ r2, ?_⟩
      cases e2 : gs ds l1 s1 with
      | bad => rw [e2] at p; exact p.elim
      | ex _ _ => rw [e2] at p; exact p.elim
      | ok l2 s2 => rw [e2] at p; exact fun ρ2 σ2 H2 y A2 => p ρ2 σ2 H2 (x.trans y) A2
def tupG (n : Nat) (gs : List D → LS → Store → Out LS) : D → LS → Store → Out LS := fun d ls st => match d with
  | .tup l => if l.length = n then gs l ls st else .bad
  | _ => .bad
theorem dg_tup {es : List Expr} {k : Nat} {gs : List D → LS → Store → Out LS} {n : Nat} (hc : X.calm = true) (h : DGs X es gs)
    (hn : (assignEach es X.env).length = n := by rfl) (hst : (assignEach es X.env).findIdx? (·.1) = none := by rfl) : DG X (.Tuple es k pos) (tupG n gs) :=
  pg_imp (pg_tup hc h hn hst) fun v σ H Q ⟨ρ, ls, st, d, A, r, p⟩ => by
    cases r with
    | @tup a vs ds h1 h2 =>
      unfold tupG at p
      by_cases hl : ds.length = n
      · simp only [if_pos hl] at p
        exact ⟨a, vs, rfl, h1.sq, by rw [h2.length]; exact hl, ρ, ls, st, ds, A, h2, p⟩
      · simp only [if_neg hl] at p; exact p.elim
    | _ => exact p.elim
def asgD (fe : LS → Store → Out D) (g : D → LS → Store → Out LS) : LS → Store → SO := fun ls st => ofE (fe ls st) ls fun d st1 => match g d ls st1 with
  | .ok ls' st' => .nx ls' st'
  | _ => .bad
theorem GO.ofPSO {K : PySem.W.Frag} {mg : Str → Option Value} {N : Ends} {ρ : List Addr} {H : Hp} {o : Out LS} (h : PSO K mg W N ρ H (match o with | .ok ls' st' => .nx ls' st' | _ => .bad)) : GO K N.nx ρ H o := by
  cases o with
  | ok l s => exact h
  | ex _ _ => exact h.elim
  | bad => exact h.elim
theorem ds_asg {tg : Expr} {gg : D → LS → Store → Out LS} (he : DE X W e fe) (hg : DG X tg gg) (hs : swapsWithSole [tg] e pos.line X.env = pure false := by rfl) (hw : swappedStores [tg] e X.env = pure none := by rfl)
    (h1 : (assignEach [tg] X.env).map (·.2) = [assign tg X.env] := by rfl) : DS X W (.Assign [tg] e pos) (asgD fe gg) := ps_imp (ps_asg he hg hs hw h1) fun N σ H ⟨ρ, ls, st, A, p⟩ =>
  ofE_read (k := fun ls d st1 => match gg d ls st1 with | .ok ls' st' => .nx ls' st' | _ => .bad) A p fun ρ1 v H1 d st1 x A1 r q => ⟨ρ1, ls, st1, d, A1, r, GO.ofPSO q⟩
theorem ds_set {i : Nat} {x : Str} {pos' : Pos} (hN : X.N.Nodup) (hi : X.N[i]? = some x) (hx : Loc X.env.scope x) (he : DE X W e fe) (hs : swapsWith e (some (.Name x pos')) pos.line X.env = pure false := by rfl)
    (hf : X.fn x = true ∨ X.env.scope.names.lookup x = some .local := by first | exact .inl rfl | exact .inr rfl | assumption) : DS X W (.Assign [.Name x pos'] e pos) (asgD fe (nameG i)) := ps_imp (ps_set hN hi hx he hs hf) fun N σ H ⟨ρ, ls, st, A, p⟩ =>
  ofE_read (k := fun ls d st1 => match nameG i d ls st1 with | .ok ls' st' => .nx ls' st' | _ => .bad) A p fun ρ1 v H1 d st1 x A1 r q => PSO.doneNx q (A1.put i r)
/-- a, b = x, y with plain local names -/
def parD (i j : Nat) (fr : LS → Store → Out (List D)) : LS → Store → SO := fun ls st => ofE (fr ls st) ls fun ds st1 => match ds with
  | [d, e] => .nx (setL (setL ls i d) j e) st1
  | _ => .bad
theorem ds_par {i j : Nat} {x y : Str} {a b : Expr} {fr : LS → Store → Out (List D)} {px py pt : Pos} {kt k2 pt2} (hc : X.calm = true) (hN : X.N.Nodup) (hi : X.N[i]? = some x) (hj : X.N[j]? = some y) (hij : i ≠ j)
    (hx : X.env.scope.names.lookup x = some .local) (hy : X.env.scope.names.lookup y = some .local) (ha : DA X W [a, b] fr)
    (hw : swappedStores [.Tuple [.Name x px, .Name y py] kt pt] (.Tuple [a, b] k2 pt2) X.env = pure (some [x, y]) := by rfl)
    (hs : swapsWithSole [.Tuple [.Name x px, .Name y py] kt pt] (.Tuple [a, b] k2 pt2) pos.line X.env = pure false := by rfl) :
    DS X W (.Assign [.Tuple [.Name x px, .Name y py] kt pt] (.Tuple [a, b] k2 pt2) pos) (parD i j fr) := ps_imp (ps_par hc hN hi hj hij hx hy ha hw hs) fun N σ H ⟨ρ, ls, st, A, p⟩ =>
  ofE_read (R := rVs X.K) (k := fun ls ds st1 => match ds with | [d, e] => .nx (setL (setL ls i d) j e) st1 | _ => .bad) A p fun ρ1 vs H1 ds st1 x A1 r q => by
    cases r with
    | nil => exact q.elim
    | cons r1 r2 =>
      cases r2 with
      | nil => exact q.elim
      | cons r2 r3 =>
        cases r3 with
        | nil => exact ⟨_, _, rfl, PSO.doneNx q ((A1.put i r1).put j r2)⟩
        | cons _ _ => exact q.elim
end

/-! ### while -/
section
variable {α β : Type}
def runN (f : α → α ⊕ β) : Nat → α → Option β
  | 0, _ => none
  | n + 1, s => match f s with
    | .inl s' => runN f n s'
    | .inr r => some r
theorem runN_mono (f : α → α ⊕ β) : ∀ {n m : Nat} {s : α} {r : β}, runN f n s = some r → n ≤ m → runN f m s = some r
  | n + 1, m + 1, s, r, h, l => by
    unfold runN at h ⊢
    cases e : f s with
    | inl s' => rw [e] at h; exact runN_mono f h (Nat.le_of_succ_le_succ l)
    | inr r' => rw [e] at h; exact h
/-- a loop's end, dflt where there is none -/
noncomputable def loop (f : α → α ⊕ β) (dflt : β) (s : α) : β := open Classical in if h : ∃ r n, runN f n s = some r then Classical.choose h else dflt
theorem loop_of (f : α → α ⊕ β) (dflt : β) {s : α} {n : Nat} {r : β} (h : runN f n s = some r) : loop f dflt s = r := by
  have ex : ∃ r n, runN f n s = some r := ⟨r, n, h⟩
  unfold loop
  rw [dif_pos ex]
  obtain ⟨m, hm⟩ := Classical.choose_spec ex
  have h1 := runN_mono f h (Nat.le_max_left n m)
  have h2 := runN_mono f hm (Nat.le_max_right n m)
  rw [h1] at h2
  exact (Option.some.inj h2).symm
theorem loop_step (f : α → α ⊕ β) (dflt : β) (s : α) : loop f dflt s = match f s with
  | .inl s' => loop f dflt s'
  | .inr r => r := by
  cases e : f s with
  | inr r => exact loop_of (n := 1) f dflt (by unfold runN; rw [e])
  | inl s' =>
    show loop f dflt s = loop f dflt s'
    by_cases ex : ∃ r n, runN f n s' = some r
    · obtain ⟨r, n, h⟩ := ex
      rw [loop_of f dflt h]
      exact loop_of (n := n + 1) f dflt (by unfold runN; rw [e]; exact h)
    · have ex2 : ¬ ∃ r n, runN f n s = some r := fun ⟨r, n, h⟩ => by
        cases n with
        | zero => cases h
        | succ n => unfold runN at h; rw [e] at h; exact ex ⟨r, n, h⟩
      unfold loop
      rw [dif_neg ex, dif_neg ex2]
theorem loop_run (f : α → α ⊕ β) (dflt : β) (s : α) : (∃ n, runN f n s = some (loop f dflt s)) ∨ loop f dflt s = dflt := by
  by_cases ex : ∃ r n, runN f n s = some r
  · obtain ⟨r, n, h⟩ := ex
    exact .inl ⟨n, by rw [loop_of f dflt h]; exact h⟩
  · exact .inr (by unfold loop; rw [dif_neg ex])
end
/-- one turn of a while -/
def whStep (t : LS → Store → Out Bool) (b : LS → Store → SO) (s : LS × Store) : (LS × Store) ⊕ SO := match t s.1 s.2 with
  | .ok true st1 => (match b s.1 st1 with
    | .nx ls' st' => .inl (ls', st')
    | .ct ls' st' => .inl (ls', st')
    | .bk ls' st' => .inr (.nx ls' st')
    | o => .inr o)
  | .ok false st1 => .inr (.nx s.1 st1)
  | .ex e st1 => .inr (.ex e s.1 st1)
  | .bad => .inr .bad
noncomputable def whileD (t : LS → Store → Out Bool) (b : LS → Store → SO) : LS → Store → SO := fun ls st => loop (whStep t b) .bad (ls, st)
section
variable {X : Cx} {W : WX} {pos : Pos} {c : Expr} {body : List Stmt} {tc : LS → Store → Out Bool} {g : LS → Store → SO}
theorem ds_while (hp : PassesOwn (model X.prog X.w) X.A X.env X.xe) (hc : DT X W c tc) (hb : DSs X W body g) : DS X W (.While c body [] pos) (whileD tc g) := ps_imp (ps_while hp hc hb) fun N σ H ⟨ρ, ls, st, A, p⟩ => by
  unfold whileD at p
  rcases loop_run (whStep tc g) .bad (ls, st) with ⟨n, hn⟩ | hn
  · refine ⟨fun m σ H => ∃ ρ ls st r, At X.K H ρ σ ls st ∧ runN (whStep tc g) m (ls, st) = some r ∧ PSO X.K X.mg W N ρ H r, ⟨n, ρ, ls, st, _, A, hn, p⟩, ?_⟩
    rintro m σ H ⟨ρ, ls, st, r, A, hr, p⟩
    cases m with
    | zero => cases hr
    | succ m =>
      unfold runN whStep at hr
      refine ⟨ρ, ls, st, A, ?_⟩
      cases e : tc ls st with
      | bad => simp only [e] at hr; cases hr; exact p
      | ex x s1 => simp only [e] at hr; cases hr; exact fun ρ1 c d H1 y s r => p ρ1 σ c d H1 y (A.grow y s) r
      | ok b s1 =>
        rintro ρ1 b' H1 x s ⟨⟩
        have A1 := A.grow x s
        cases b with
        | false => simp only [e] at hr; cases hr; exact PSO.doneNx (PSO.grow p x) A1
        | true =>
          refine ⟨fun σ' H' => ∃ ρ ls st, At X.K H' ρ σ' ls st ∧ runN (whStep tc g) m (ls, st) = some r ∧ PSO X.K X.mg W N ρ H' r, fun σ' H' ⟨ρ, ls, st, A, hr, p⟩ => ⟨m, Nat.lt_succ_self m, ρ, ls, st, r, A, hr, p⟩, ρ1, ls, s1, A1, ?_⟩
          cases eb : g ls s1 with
          | nx l s2 => simp only [e, eb] at hr; exact fun ρ2 σ2 H2 y A2 => ⟨ρ2, l, s2, A2, hr, PSO.grow p (x.trans y)⟩
          | ct l s2 => simp only [e, eb] at hr; exact fun ρ2 σ2 H2 y A2 => ⟨ρ2, l, s2, A2, hr, PSO.grow p (x.trans y)⟩
          | bk l s2 => simp only [e, eb] at hr; cases hr; exact PSO.grow p x
          | rt d s2 => simp only [e, eb] at hr; cases hr; exact PSO.grow p x
          | ex y l s2 => simp only [e, eb] at hr; cases hr; exact PSO.grow p x
          | bad => simp only [e, eb] at hr; cases hr; exact p.elim
  · rw [hn] at p; exact p.elim
end
end DD

set_option maxRecDepth 100000
set_option maxHeartbeats 1000000
/-! DD3: defs as plain functions: promises by a function (spD), what a def leaves behind is packed (Pk), calls, the law's end. -/
namespace DD
open PySem PySem.Spec PyProof.Rows L2

/-! ### packing: cells that are no more wanted are dropped, lists that nobody holds as a cell are frozen -/
mutual
def ltD (k : Nat) : D → Bool
  | .ref m => decide (m < k)
  | .tup l => ltDs k l
  | .lst l => ltDs k l
  | .cst l => ltDs k l
  | _ => true
def ltDs (k : Nat) : List D → Bool
  | [] => true
  | d :: ds => ltD k d && ltDs k ds
end
def ltC (k : Nat) : Cell → Bool
  | .lst l => ltDs k l
  | .dic kvs => ltDs k (kvs.map (·.2))
def ltS (k : Nat) (st : Store) : Bool := st.all (ltC k)
section
variable (st : Store) (keep : List Nat)
mutual
inductive Fz : D → D → Prop
  | non : Fz .non .non
  | bl (b : Bool) : Fz (.bl b) (.bl b)
  | int (i : Int) : Fz (.int i) (.int i)
  | str (x : Str) : Fz (.str x) (.str x)
  | adr (a : Addr) : Fz (.adr a) (.adr a)
  | tup {l l' : List D} : Fzs l l' → Fz (.tup l) (.tup l')
  | lst {l l' : List D} : Fzs l l' → Fz (.lst l) (.lst l')
  | cst {l l' : List D} : Fzs l l' → Fz (.cst l) (.cst l')
  | kept {m k : Nat} : keep[k]? = some m → Fz (.ref m) (.ref k)
  | froz {m : Nat} {l l' : List D} : m ∉ keep → st[m]? = some (.lst l) → Fzs l l' → Fz (.ref m) (.lst l')
inductive Fzs : List D → List D → Prop
  | nil : Fzs [] []
  | cons {d d' : D} {l l' : List D} : Fz d d' → Fzs l l' → Fzs (d :: l) (d' :: l')
end
def FzC : Cell → Cell → Prop
  | .lst l, .lst l' => Fzs st keep l l'
  | .dic kvs, .dic kvs' => kvs.map (·.1) = kvs'.map (·.1) ∧ Fzs st keep (kvs.map (·.2)) (kvs'.map (·.2))
  | _, _ => False
end
structure Pack (n : Nat) (st : Store) (d : D) (st' : Store) (d' : D) : Prop where
  ex : ∃ keep : List Nat, (∃ t, keep = List.range n ++ t) ∧ keep.Nodup ∧ st'.length = keep.length ∧
    (∀ (k m : Nat), keep[k]? = some m → ∃ c c', st[m]? = some c ∧ st'[k]? = some c' ∧ FzC st keep c c') ∧ Fz st keep d d'
section
variable {K : PySem.W.Frag} {H : Hp} {ρ ρ' : List Addr} {st st' : Store} {keep : List Nat}
mutual
theorem Fz.rv (s : RS K H ρ st) (hk : ∀ (k m : Nat), keep[k]? = some m → ρ'[k]? = ρ[m]?) (hs : ∀ a ∈ ρ', ∃ k m : Nat, keep[k]? = some m ∧ ρ[m]? = some a) : ∀ {d d' : D}, Fz st keep d d' → ∀ {v : V}, RV K H ρ v d → RV K H ρ' v d'
  | _, _, .non, _, r => by cases r; exact .non
  | _, _, .bl b, _, r => by cases r; exact .bl b
  | _, _, .int i, _, r => by cases r; exact .int i
  | _, _, .str x, _, r => by cases r; exact .str x
  | _, _, .adr a, _, r => by cases r; exact .adr
  | _, _, .tup h, _, r => by
    cases r with
    | tup h1 h2 => exact .tup (h1.elim (fun q => .inl ⟨q.1, fun z => let ⟨_, _, _, e⟩ := hs _ z; q.2 (List.mem_of_getElem? e)⟩) .inr) (Fzs.rv s hk hs h h2)
  | _, _, .lst h, _, r => by
    cases r with
    | lst h1 h2 h3 => exact .lst h1 (fun z => let ⟨_, _, _, e⟩ := hs _ z; h2 (List.mem_of_getElem? e)) (Fzs.rv s hk hs h h3)
  | _, _, .cst h, _, r => by
    cases r with
    | cst h1 h2 => exact .cst (h1.elim (fun q => .inl ⟨q.1, fun z => let ⟨_, _, _, e⟩ := hs _ z; q.2 (List.mem_of_getElem? e)⟩) .inr) (Fzs.rv s hk hs h h2)
  | _, _, .kept h, _, r => by
    cases r with
    | ref h1 => exact .ref (by rw [hk _ _ h]; exact h1)
  | _, _, .froz (m := m) hm h h2, _, r => by
    cases r with
    | ref h1 =>
      obtain ⟨vs, q1, q2⟩ := s.cell m _ _ h1 h
      refine .lst q1 (fun z => ?_) (Fzs.rv s hk hs h2 q2)
      obtain ⟨k, m', e1, e2⟩ := hs _ z
      obtain ⟨l1, z1⟩ := List.getElem?_eq_some_iff.mp h1
      obtain ⟨l2, z2⟩ := List.getElem?_eq_some_iff.mp e2
      have e : m = m' := (List.getElem_inj s.nd).mp (z1.trans z2.symm)
      exact hm (e ▸ List.mem_of_getElem? e1)
theorem Fzs.rv (s : RS K H ρ st) (hk : ∀ (k m : Nat), keep[k]? = some m → ρ'[k]? = ρ[m]?) (hs : ∀ a ∈ ρ', ∃ k m : Nat, keep[k]? = some m ∧ ρ[m]? = some a) : ∀ {l l' : List D}, Fzs st keep l l' → ∀ {vs : List V}, RVs K H ρ vs l → RVs K H ρ' vs l'
  | _, _, .nil, _, r => by cases r; exact .nil
  | _, _, .cons h t, _, r => by
    cases r with
    | cons h1 h2 => exact .cons (Fz.rv s hk hs h h1) (Fzs.rv s hk hs t h2)
end
end

section
variable {K : PySem.W.Frag} {H H0 : Hp} {ρ ρ0 : List Addr} {st st' : Store} {keep : List Nat}
theorem FzC.co (s : RS K H ρ st) {ρ' : List Addr} (hk : ∀ (k m : Nat), keep[k]? = some m → ρ'[k]? = ρ[m]?) (hs : ∀ a ∈ ρ', ∃ k m : Nat, keep[k]? = some m ∧ ρ[m]? = some a) {a : Addr} {c c' : Cell} (h : FzC st keep c c') (x : CO K H ρ a c) : CO K H ρ' a c' := by
  cases c with
  | lst l =>
    cases c' with
    | lst l' =>
      obtain ⟨vs, h1, h2⟩ := x
      exact ⟨vs, h1, Fzs.rv s hk hs h h2⟩
    | dic _ => exact h.elim
  | dic kvs =>
    cases c' with
    | lst _ => exact h.elim
    | dic kvs' =>
      obtain ⟨ws, h1, h2⟩ := x
      obtain ⟨e1, e2⟩ := h
      refine ⟨ws, h1, ?_⟩
      have key : ∀ {ws : List (Key × V)} {kvs kvs' : List (Key × D)}, KVr K H ρ ws kvs → kvs.map (·.1) = kvs'.map (·.1) → Fzs st keep (kvs.map (·.2)) (kvs'.map (·.2)) → KVr K H ρ' ws kvs' := by
        intro ws kvs kvs' h2
        induction h2 generalizing kvs' with
        | nil =>
          intro e1 e2
          cases kvs' with
          | nil => exact .nil
          | cons _ _ => cases e1
        | cons r t ih =>
          intro e1 e2
          cases kvs' with
          | nil => cases e1
          | cons q qs =>
            simp only [List.map_cons, List.cons.injEq] at e1
            simp only [List.map_cons] at e2
            cases e2 with
            | cons f1 f2 => exact .cons ⟨r.1.trans e1.1, Fz.rv s hk hs f1 r.2⟩ (ih e1.2 f2)
      exact key h2 e1 e2
theorem Pack.sound {d d' : D} {v : V} {n : Nat} (P : Pack n st d st' d') (s : RS K H ρ st) (r : RV K H ρ v d) (x : Ext ρ0 H0 ρ H) (hn : ρ0.length = n) : ∃ ρ', Ext ρ0 H0 ρ' H ∧ RS K H ρ' st' ∧ RV K H ρ' v d' := by
  obtain ⟨keep, ⟨t, ht⟩, nd, hl, hc, hf⟩ := P.ex
  have inb : ∀ (k m : Nat), keep[k]? = some m → m < ρ.length := fun k m e => by
    obtain ⟨c, c', h1, _, _⟩ := hc k m e
    rw [s.len]; exact (List.getElem?_eq_some_iff.mp h1).1
  have hk : ∀ (k m : Nat), keep[k]? = some m → (keep.map fun m => ρ.getD m 0)[k]? = ρ[m]? := fun k m e => by
    have lt := inb k m e
    rw [List.getElem?_map, e]
    simp [List.getD, lt]
  have hs : ∀ a ∈ keep.map (fun m => ρ.getD m 0), ∃ k m : Nat, keep[k]? = some m ∧ ρ[m]? = some a := fun a ha => by
    obtain ⟨k, hk', e⟩ := List.mem_iff_getElem.mp ha
    have hkl : k < keep.length := by simpa using hk'
    have e1 : keep[k]? = some keep[k] := by simp [hkl]
    refine ⟨k, keep[k], e1, ?_⟩
    rw [← hk _ _ e1]
    rw [List.getElem?_eq_getElem hk', e]
  obtain ⟨u, hu⟩ := x.pre
  refine ⟨keep.map fun m => ρ.getD m 0, ⟨⟨t.map fun m => ρ.getD m 0, ?_⟩, x.keep, fun a ha na => ?_⟩, ⟨?_, by rw [List.length_map, hl], fun k a c' h1 h2 => ?_⟩, Fz.rv s hk hs hf r⟩
  · rw [ht, List.map_append]
    congr 1
    refine List.ext_getElem? fun i => ?_
    by_cases hi : i < n
    · rw [List.getElem?_map, List.getElem?_range hi, hu]
      have h0 : i < ρ0.length := by omega
      simp [List.getD, List.getElem?_append_left h0, h0]
    · rw [List.getElem?_eq_none (by simp; omega), List.getElem?_eq_none (by omega)]
  · obtain ⟨k, m, _, e⟩ := hs a ha
    exact x.new a (List.mem_of_getElem? e) na
  · refine List.Pairwise.map _ (fun a b hab => ?_) (List.pairwise_iff_getElem.mpr (fun i j hi hj hij => ?_) : keep.Pairwise fun a b => ρ.getD a 0 ≠ ρ.getD b 0)
    · exact hab
    · intro e
      have l1 := inb i keep[i] (by simp [hi])
      have l2 := inb j keep[j] (by simp [hj])
      simp only [List.getD, List.getElem?_eq_getElem l1, List.getElem?_eq_getElem l2, Option.getD_some] at e
      have e2 := (List.getElem_inj s.nd).mp e
      have e3 := (List.getElem_inj nd).mp e2
      omega
  · have hk1 : k < keep.length := by
      have := (List.getElem?_eq_some_iff.mp h1).1
      simpa using this
    have e1 : keep[k]? = some keep[k] := by simp [hk1]
    obtain ⟨c, c2, q1, q2, q3⟩ := hc k _ e1
    rw [h2] at q2; cases q2
    rw [hk _ _ e1] at h1
    exact FzC.co s hk hs q3 (s.cell _ _ _ h1 q1)
end
mutual
theorem fz_refl {st : Store} {keep : List Nat} {n : Nat} (h : ∀ m, m < n → keep[m]? = some m) : ∀ d : D, ltD n d = true → Fz st keep d d
  | .non, _ => .non
  | .bl b, _ => .bl b
  | .int i, _ => .int i
  | .str x, _ => .str x
  | .adr a, _ => .adr a
  | .tup l, e => .tup (fzs_refl h l (by simpa [ltD] using e))
  | .lst l, e => .lst (fzs_refl h l (by simpa [ltD] using e))
  | .cst l, e => .cst (fzs_refl h l (by simpa [ltD] using e))
  | .ref m, e => .kept (h m (by simpa [ltD] using e))
theorem fzs_refl {st : Store} {keep : List Nat} {n : Nat} (h : ∀ m, m < n → keep[m]? = some m) : ∀ l : List D, ltDs n l = true → Fzs st keep l l
  | [], _ => .nil
  | d :: l, e => by
    have e : ltD n d = true ∧ ltDs n l = true := by simpa [ltDs] using e
    exact .cons (fz_refl h d e.1) (fzs_refl h l e.2)
end
theorem fzC_refl {st : Store} {keep : List Nat} {n : Nat} (h : ∀ m, m < n → keep[m]? = some m) : ∀ c : Cell, ltC n c = true → FzC st keep c c
  | .lst l, e => fzs_refl h l e
  | .dic kvs, e => ⟨rfl, fzs_refl h _ e⟩
theorem range_get {n m : Nat} (h : m < n) : (List.range n)[m]? = some m := by simp [h]
/-- cells behind st' are dropped -/
theorem Pack.drop {n : Nat} {st' : Store} {d : D} (g : Store) (hn : n ≤ st'.length) (h1 : ltS st'.length st' = true) (h2 : ltD st'.length d = true) : Pack n (st' ++ g) d st' d where
  ex := by
    refine ⟨List.range st'.length, ⟨List.range' n (st'.length - n), ?_⟩, List.nodup_range, by simp, fun k m e => ?_, fz_refl (fun m hm => range_get hm) d h2⟩
    · rw [List.range_eq_range', List.range_eq_range']
      have e : st'.length = n + (st'.length - n) := by omega
      conv => lhs; rw [e, ← List.range'_append]
      simp
    · have hk : k < st'.length := by
        have := (List.getElem?_eq_some_iff.mp e).1
        simpa using this
      rw [range_get hk] at e; cases e
      refine ⟨st'[k], st'[k], by rw [List.getElem?_append_left hk]; simp [hk], by simp [hk], fzC_refl (fun m hm => range_get hm) _ (List.all_eq_true.mp h1 _ (List.getElem_mem hk))⟩
/-- a new list comes back: cell m, which stands behind the callers' cells -/
theorem Pack.fresh {n m : Nat} {st st0 : Store} {c c' : Cell} (hn : st0.length = n) (h0 : st.take n = st0) (hm : n ≤ m) (hc : st[m]? = some c) (h1 : ltS n st0 = true) (h2 : FzC st (List.range n ++ [m]) c c') : Pack n st (.ref m) (st0 ++ [c']) (.ref n) where
  ex := by
    have hr : ∀ i, i < n → (List.range n ++ [m])[i]? = some i := fun i hi => by rw [List.getElem?_append_left (by simpa using hi)]; exact range_get hi
    have hl : (List.range n ++ [m])[n]? = some m := by rw [List.getElem?_append_right (by simp)]; simp
    refine ⟨List.range n ++ [m], ⟨[m], rfl⟩, ?_, by simp [hn], fun k i e => ?_, .kept hl⟩
    · refine List.nodup_append.mpr ⟨List.nodup_range, by simp, fun a ha b hb => ?_⟩
      have := List.mem_range.mp ha
      rw [List.mem_singleton.mp hb]
      omega
    · have hk : k < n + 1 := by
        have := (List.getElem?_eq_some_iff.mp e).1
        simpa using this
      by_cases hkn : k < n
      · rw [hr k hkn] at e; cases e
        have hk0 : k < st0.length := by omega
        refine ⟨st0[k], st0[k], ?_, by rw [List.getElem?_append_left hk0]; simp [hk0], fzC_refl hr _ (List.all_eq_true.mp h1 _ (List.getElem_mem hk0))⟩
        have : (st.take n)[k]? = some st0[k] := by rw [h0]; simp [hk0]
        rw [List.getElem?_take_of_lt hkn] at this
        exact this
      · have e2 : k = n := by omega
        subst e2
        rw [hl] at e; cases e
        exact ⟨c, c', hc, by rw [← hn, List.getElem?_append_right (Nat.le_refl _)]; simp, h2⟩
inductive Pk (n : Nat) : Out D → Out D → Prop
  | same (o : Out D) : Pk n o o
  | ok {st st' : Store} {d d' : D} : Pack n st d st' d' → Pk n (.ok d st) (.ok d' st')
  | ex {st st' : Store} {c : Str} : Pack n st .non st' .non → Pk n (.ex ⟨c, []⟩ st) (.ex ⟨c, []⟩ st')

/-! ### promises -/
def spD (K : PySem.W.Frag) (mg : Str → Option Value) (n : Nat) (F : List D → Store → Out D) : Sp := fun vs H Q E =>
  ∃ ρ ds st, ds.length = n ∧ RS K H ρ st ∧ RVs K H ρ vs ds ∧ OO K mg (fun c d _ H => E c d H) (rV K) [] Q ρ H (F ds st)
theorem OO.re {K : PySem.W.Frag} {mg : Str → Option Value} {W W' : WX} {α β : Type} {R : Hp → List Addr → β → α → Prop} {σ σ' : SV} {Q : β → Hp → Prop} {ρ : List Addr} {H : Hp} {o : Out α} (h : OO K mg W R σ Q ρ H o)
    (w : ∀ c d H, W c d σ H → W' c d σ' H) : OO K mg W' R σ' Q ρ H o := by
  cases o with
  | ok a st => exact h
  | ex e st => exact fun ρ' c d H' x s r => w _ _ _ (h ρ' c d H' x s r)
  | bad => exact h
/-- what a def promises where no list or tuple is being shown -/
structure FnG (P : Program) (w : World) (K : PySem.W.Frag) (mg : Str → Option Value) (base : Heap) (k : Nat) (f : Addr) (fd : FuncData) (ps : List Str) (sp : Sp) : Prop where
  len : ∀ vs H Q E, sp vs H Q E → vs.length = ps.length
  run : ∀ (A : Around) (outer : List Env) (s : Shared) (H : Hp) (args : Args) (us : List Value) (vs : List V) (Q : VK) (E : XK), Room k A → A.guards = some [] → Env0 P w K mg base A outer s H → BindsTo s fd args (ps.zip us) →
    Vals vs us → sp vs H Q E → codeAny (model P w) A (.call (.ref f) args) (CR (L2.CX P w) outer P w H s Q E) s
structure DFn (P : Program) (w : World) (K : PySem.W.Frag) (mg : Str → Option Value) (base : Heap) (x : Str) (n k : Nat) (F : List D → Store → Out D) : Prop where
  ex : ∃ f fd ps, mg x = some (.ref f) ∧ PySem.W.keepIn K (.ref f) = true ∧ Binds K fd ps [] ∧ ps.length = n ∧ FnG P w K mg base k f fd ps (spD K mg n F)
/-- what every rule may lean on -/
structure Ctx (X : Cx) (W : WX) (k : Nat) : Prop where
  tk : Takes X W
  rm : Room k X.A
  gd : X.A.guards = some []
  po : PassesOwn (model X.prog X.w) X.A X.env X.xe
section
variable {X : Cx} {W : WX} {k j n : Nat} {x : Str} {p pos : Pos} {e : Expr} {es : List Expr} {F : List D → Store → Out D} {fr : LS → Store → Out (List D)}
structure LenA (n : Nat) (fr : LS → Store → Out (List D)) : Prop where
  ok : ∀ ls st ds st', fr ls st = .ok ds st' → ds.length = n
theorem LenA.nil : LenA 0 nilA := ⟨fun ls st ds st' h => by cases h; rfl⟩
theorem LenA.cons {fa : LS → Store → Out D} (h : LenA n fr) : LenA (n + 1) (consA fa fr) := ⟨fun ls st ds st' e => by
  unfold consA at e
  cases e1 : fa ls st with
  | bad => rw [e1] at e; cases e
  | ex _ _ => rw [e1] at e; cases e
  | ok d s1 =>
    rw [e1] at e
    have e : (fr ls s1).bind (fun xs st2 => .ok (d :: xs) st2) = .ok ds st' := e
    cases e2 : fr ls s1 with
    | bad => rw [e2] at e; cases e
    | ex _ _ => rw [e2] at e; cases e
    | ok l s2 =>
      rw [e2] at e
      cases e
      exact congrArg Nat.succ (h.ok _ _ _ _ e2)⟩
def callD (F : List D → Store → Out D) (fr : LS → Store → Out (List D)) : LS → Store → Out D := fun ls st => (fr ls st).bind fun ds st1 => F ds st1
theorem run_fnD {f : Addr} {fd : FuncData} {ps : List Str} {pins : List (Addr × Obj)} {σ : SV} {H : Hp} {s : Shared} {Q : VK} {us : List Value} {vs : List V} (G : FnG X.prog X.w X.K X.mg X.base j f fd ps (spD X.K X.mg n F)) (C : Ctx X W k) (hj : j ≤ k) (hb : Binds X.K fd ps [])
    (I : Inv X pins σ H s) (r : Vals vs us) (h : spD X.K X.mg n F vs H Q (WE W σ)) : wpAny (model X.prog X.w) X.A (call (.ref f) us) (EP X pins σ Q) X.xe s := by
  have hl : us.length = ps.length := by rw [← r.length]; exact G.len _ _ _ _ h
  have b := hb s us I.kIn (by rw [List.append_nil]; exact hl)
  rw [List.append_nil] at b
  refine wpAny_call (codeAny_mono (G.run X.A X.stack s H ⟨us, []⟩ us vs Q (WE W σ) (C.rm.mono hj) C.gd I.env0 b r h) fun r s' hq => ?_)
  cases r with
  | error e => exact passAt C.tk σ pins H s e s' I hq
  | ok fl =>
    cases fl with
    | ret u => exact I.after hq
    | next => exact hq.elim
    | brk => exact hq.elim
    | cont => exact hq.elim
/-- f(e, ..) -/
theorem de_call (C : Ctx X W k) (G : DFn X.prog X.w X.K X.mg X.base x n j F) (ha : DA X W (e :: es) fr) (hj : j ≤ k := by decide) (hn : (e :: es).length = n := by rfl) (hg : Gl X x := by rfl) (hdb : (x == ("__debug__" : Str)) = false := by decide)
    (he : starEach (e :: es) X.env = (false, eval e X.env) :: starEach es X.env := by rfl) (hpl : (backTo pos (starEach es X.env)).any (·.1) = false := by rfl) (hlen : LenA n fr := by repeat (first | exact LenA.nil | apply LenA.cons)) :
    DE X W (.Call (.Name x p) (e :: es) [] pos) (callD F fr) := by
  refine ⟨fun pins s σ H Q I ⟨ρ, ls, st, A, h⟩ => ?_⟩
  obtain ⟨f, fd, ps, hm, hk, hb, hp, hf⟩ := G.ex
  refine wpAny_Call_Name_kw (ld_glob I hg hm ?_ hdb)
  have h1 : tA X.K X.mg W fr σ H fun vs H1 => spD X.K X.mg n F vs H1 Q (WE W σ) := by
    refine ⟨ρ, ls, st, A, ?_⟩
    unfold callD at h
    cases e1 : fr ls st with
    | bad => rw [e1] at h; exact h
    | ex y s1 => rw [e1] at h; exact h
    | ok ds s1 =>
      rw [e1] at h
      exact fun ρ1 vs H1 x1 s r => ⟨ρ1, ds, s1, hlen.ok _ _ _ _ e1, s, r, OO.re (OO.grow h x1) fun _ _ _ z => z⟩
  refine PySem.W.callWith_K (h₀ := X.base) I.ok.mod.kin hk (thn (ha.run pos pins s σ H _ I h1) fun us s1 ⟨vs, H1, I1, r, q⟩ => ⟨I1.kIn, ?_⟩) he hpl
  exact run_fnD hf C hj hb I1 r q
/-- f() -/
theorem de_call0 (C : Ctx X W k) (G : DFn X.prog X.w X.K X.mg X.base x 0 j F) (hj : j ≤ k := by decide) (hg : Gl X x := by rfl) (hdb : (x == ("__debug__" : Str)) = false := by decide) : DE X W (.Call (.Name x p) [] [] pos) (callD F nilA) := by
  refine ⟨fun pins s σ H Q I ⟨ρ, ls, st, A, h⟩ => ?_⟩
  obtain ⟨f, fd, ps, hm, hk, hb, hp, hf⟩ := G.ex
  refine wpAny_Call_Name_kw (ld_glob I hg hm ?_ hdb)
  exact PySem.W.callWith_K0 I.kIn hk (run_fnD (us := []) (vs := []) hf C hj hb I .nil ⟨ρ, [], st, rfl, A.sto, .nil, OO.re (by exact h) fun _ _ _ z => z⟩)
end
/-! ### a def's body -/
def startD (m : Nat) (ds : List D) : LS := ds.map some ++ List.replicate (m - ds.length) none
theorem getL_eq : ∀ (l : LS) (i : Nat), getL l i = (l[i]?).join
  | [], _ => by simp [getL]
  | x :: _, 0 => by cases x <;> simp [getL]
  | _ :: r, n + 1 => by rw [getL_succ, getL_eq r n]; simp
theorem At.start {K : PySem.W.Frag} {H : Hp} {ρ : List Addr} {st : Store} {vs : List V} {ds : List D} (N : List Str) (s : RS K H ρ st) (r : RVs K H ρ vs ds) : At K H ρ (L2.start N vs) (startD N.length ds) st := by
  have hl := r.length
  refine ⟨by simp [startD, L2.start, hl], fun i d e => ?_, s⟩
  rw [getL_eq] at e
  unfold startD at e
  by_cases hi : i < ds.length
  · rw [List.getElem?_append_left (by simpa using hi), List.getElem?_map] at e
    have h1 : ds[i]? = some d := by
      rw [List.getElem?_eq_getElem hi] at e ⊢
      simpa using e
    obtain ⟨v, q1, q2⟩ := r.get h1
    refine ⟨v, ?_, q2⟩
    unfold L2.start
    rw [List.getElem?_append_left (by simpa [hl] using hi), List.getElem?_map, q1]
    rfl
  · rw [List.getElem?_append_right (by simpa using hi), List.getElem?_replicate] at e
    split at e <;> cases e
/-- a body's outcome as the call's -/
def endO : SO → Out D
  | .rt d st => .ok d st
  | .nx _ st => .ok .non st
  | .ex e _ st => .ex e st
  | _ => .bad
section
mutual
theorem RV.lt {K : PySem.W.Frag} {H : Hp} {ρ : List Addr} : ∀ (d : D) {v : V}, RV K H ρ v d → ltD ρ.length d = true
  | .non, _, _ => rfl
  | .bl _, _, _ => rfl
  | .int _, _, _ => rfl
  | .str _, _, _ => rfl
  | .adr _, _, _ => rfl
  | .tup l, _, h => by
    cases h with
    | tup _ h2 => simpa [ltD] using RVs.lt l h2
  | .lst l, _, h => by
    cases h with
    | lst _ _ h2 => simpa [ltD] using RVs.lt l h2
  | .cst l, _, h => by
    cases h with
    | cst _ h2 => simpa [ltD] using RVs.lt l h2
  | .ref m, _, h => by
    cases h with
    | ref h1 => simpa [ltD] using (List.getElem?_eq_some_iff.mp h1).1
theorem RVs.lt {K : PySem.W.Frag} {H : Hp} {ρ : List Addr} : ∀ (l : List D) {vs : List V}, RVs K H ρ vs l → ltDs ρ.length l = true
  | [], _, _ => rfl
  | d :: l, _, h => by
    cases h with
    | cons h1 h2 => simp only [ltDs, Bool.and_eq_true]; exact ⟨RV.lt d h1, RVs.lt l h2⟩
end
theorem KVr.rvs {K : PySem.W.Frag} {H : Hp} {ρ : List Addr} : ∀ {ws : List (Key × V)} {kvs : List (Key × D)}, KVr K H ρ ws kvs → RVs K H ρ (ws.map (·.2)) (kvs.map (·.2))
  | _, _, .nil => .nil
  | _, _, .cons r t => .cons r.2 (KVr.rvs t)
theorem RS.lt {K : PySem.W.Frag} {H : Hp} {ρ : List Addr} {st : Store} (s : RS K H ρ st) : ltS st.length st = true := List.all_eq_true.mpr fun c hc => by
  obtain ⟨n, hn, e⟩ := List.mem_iff_getElem.mp hc
  have h2 : st[n]? = some c := by rw [List.getElem?_eq_getElem hn, e]
  obtain ⟨a, h1, x⟩ := s.at h2
  rw [← s.len]
  cases c with
  | lst l => obtain ⟨vs, _, r⟩ := x; exact RVs.lt l r
  | dic kvs => obtain ⟨ws, _, r⟩ := x; exact RVs.lt _ r.rvs
end
section
variable {P : Program} {w : World} {K : PySem.W.Frag} {mg : Str → Option Value} {base : Heap}
theorem Pk.read {W : WX} {n : Nat} {o o' : Out D} (p : Pk n o o') {Q : VK} {ρ0 : List Addr} {H0 : Hp} (hn : ρ0.length = n) (h : OO K mg W (rV K) [] Q ρ0 H0 o') : OO K mg W (rV K) [] Q ρ0 H0 o := by
  cases p with
  | same => exact h
  | ok p => exact fun ρ v H x s r => let ⟨ρ', x', s', r'⟩ := p.sound s r x hn; h ρ' v H x' s' r'
  | ex p =>
      intro ρ c d H x s r
      obtain ⟨ρ', x', s', _⟩ := p.sound s (v := .non) .non x hn
      obtain ⟨C, h1, h2, h3⟩ := r
      exact h ρ' c d H x' s' ⟨C, h1, h2, h3⟩
/-- a def's own function, from its body's -/
theorem FnG.mk' {x qual : Str} {st : Stmt} {f : Addr} {fd : FuncData} {N ps : List Str} {n k : Nat} {F : List D → Store → Out D} {g : LS → Store → SO} (Fn : Fun K x qual st f fd) (S : FnScope N ps (defScope st)) (hn : ps.length = n)
    (body : ∀ (cdv : Value) (A : Around) (outer : List Env) (s : Shared) (H : Hp) (E : XK), Ctx (cxOf (L2.CX P w) P w K mg base N qual (defScope st) f cdv A outer s H E) (fun c d _ H => E c d H) k →
      DSs (cxOf (L2.CX P w) P w K mg base N qual (defScope st) f cdv A outer s H E) (fun c d _ H => E c d H) (defBody st) g)
    (sem : ∀ (ds : List D) (st : Store), ds.length = n → ltS st.length st = true → ltDs st.length ds = true → Pk st.length (endO (g (startD N.length ds) st)) (F ds st) ∨ F ds st = .bad) : FnG P w K mg base (k + 1) f fd ps (spD K mg n F) := by
  obtain ⟨oc, od, kV, doc, pm, an, cdv, ct, osl, rfl, lk, hcd⟩ := Fn.ex
  refine ⟨fun vs H Q E h => ?_, fun A outer s H args us vs Q E hr hg e0 hbt r hsp => ?_⟩
  · obtain ⟨ρ, ds, st, h1, _, h2, _⟩ := h
    rw [h2.length, h1, hn]
  · have hl : vs.length = ps.length := by
      obtain ⟨ρ, ds, st, h1, _, h2, _⟩ := hsp
      rw [h2.length, h1, hn]
    have KX : K.In s.heap := e0.mod.kin.keeps fun b o e => (e0.bs b o e).1
    have lim : s.heap.NoLimit := e0.mod.nolimit.keeps fun b o e => (e0.bs b o e).1
    have hkind : ∀ y ∈ ps.zip us, (defScope st).names.lookup y.1 = some .local ∨ ((defScope st).names.lookup y.1 = some .cell ∧ ((cellsFrom (s.heap.objs.size + 1) (defScope st).names []).lookup y.1).isSome = true) := fun y hy => by
      rcases S.par y.1 (List.of_mem_zip hy).1 with q | q
      · exact .inl q
      · exact .inr ⟨q, PySem.W.cellsFrom_some _ _ _ (.inl q)⟩
    refine codeAny_call_function hr.depth (KX _ _ lk) rfl S.co S.gen rfl (PySem.W.codeRec_of KX hcd) (hbt _ _ _ _ ?_)
    refine wpAny_newFunctionEnv_cells S.kind hkind fun env he s1 x1 => ?_
    subst he
    refine ⟨lim.keeps x1.toInCall.keep, codeAny_func ?_⟩
    have C : Ctx (cxOf (L2.CX P w) P w K mg base N qual (defScope st) f cdv A outer s H E) (fun c d _ H => E c d H) k := ⟨takes_of rfl rfl rfl rfl, hr.deeper _, hg, passes_of rfl⟩
    have ht := body cdv A outer s H E C
    have I : Inv (cxOf (L2.CX P w) P w K mg base N qual (defScope st) f cdv A outer s H E) [] (L2.start N vs) H s1 := inv_start S hr.hd e0 hl r x1
    obtain ⟨ρ, ds, st0, h1, h2, h3, h4⟩ := hsp
    have a0 := At.start N h2 h3
    have p : OO K mg (fun c d _ H => E c d H) (rV K) [] Q ρ H (endO (g (startD N.length ds) st0)) := by
      rcases sem ds st0 h1 h2.lt (by rw [← h2.len]; exact RVs.lt ds h3) with q | q
      · exact q.read h2.len h4
      · rw [q] at h4; exact h4.elim
    have q : tS K mg (fun c d _ H => E c d H) g { nx := fun _ H' => Q .non H', rt := Q } (L2.start N vs) H := by
      refine ⟨ρ, _, st0, a0, ?_⟩
      cases e : g (startD N.length ds) st0 with
      | nx l s2 => rw [e] at p; exact fun ρ' σ' H' x A' => p ρ' .non H' x A'.sto .non
      | rt d s2 => rw [e] at p; exact p
      | bk l s2 => rw [e] at p; exact p.elim
      | ct l s2 => rw [e] at p; exact p.elim
      | ex c l s2 => rw [e] at p; exact fun ρ' σ' c d H' x A' r => p ρ' c d H' x A'.sto r
      | bad => rw [e] at p; exact p
    refine wpAny_mono (ht.run [] s1 (L2.start N vs) H _ I q) (fun fl s' hs => ?_) fun e s' hs => hs
    have fin : ∀ {σ' : SV} {H' : Hp} {v : V} {u : Value}, Inv (cxOf (L2.CX P w) P w K mg base N qual (defScope st) f cdv A outer s H E) [] σ' H' s' → RelV v u → Q v H' → CE outer P w H s Q u s' :=
      fun {σ' H' v u} J rv q => ⟨v, H', J.os, J.bare, J.base, J.hok, rv, q⟩
    cases fl with
    | ret u =>
      obtain ⟨v, σ', H', J, rv, q⟩ := hs
      exact fin J rv q
    | next =>
      obtain ⟨σ', H', J, q⟩ := hs
      exact fin (v := V.non) (u := Value.none) J rfl q
    | brk =>
      obtain ⟨_, _, _, q⟩ := hs
      exact q.elim
    | cont =>
      obtain ⟨_, _, _, q⟩ := hs
      exact q.elim
theorem DFn.mk' {x qual : Str} {st : Stmt} {f : Addr} {fd : FuncData} {N ps : List Str} {n k : Nat} {F : List D → Store → Out D} {g : LS → Store → SO} (Fn : Fun K x qual st f fd) (gm : mg x = some (.ref f)) (S : FnScope N ps (defScope st)) (b : Binds K fd ps []) (hn : ps.length = n)
    (body : ∀ (cdv : Value) (A : Around) (outer : List Env) (s : Shared) (H : Hp) (E : XK), Ctx (cxOf (L2.CX P w) P w K mg base N qual (defScope st) f cdv A outer s H E) (fun c d _ H => E c d H) k →
      DSs (cxOf (L2.CX P w) P w K mg base N qual (defScope st) f cdv A outer s H E) (fun c d _ H => E c d H) (defBody st) g)
    (sem : ∀ (ds : List D) (st : Store), ds.length = n → ltS st.length st = true → ltDs st.length ds = true → Pk st.length (endO (g (startD N.length ds) st)) (F ds st) ∨ F ds st = .bad) : DFn P w K mg base x n (k + 1) F := ⟨f, fd, ps, gm, Fn.kp, b, hn, FnG.mk' Fn S hn body sem⟩
end
end DD

set_option maxRecDepth 100000
set_option maxHeartbeats 1000000
/-! DD4: what loops walk, for, list comprehensions. -/
namespace DD
open PySem PySem.Spec PyProof.Rows L2

/-- what a loop walks: the items; cells that are to stay as they are -/
structure Its where
  l : List D
  chk : List (Nat × List D)
noncomputable def okB (its : Its) (st : Store) : Bool := open Classical in its.chk.all fun p => decide (st[p.1]? = some (.lst p.2))
@[simp] theorem okB_none (l : List D) (st : Store) : okB ⟨l, []⟩ st = true := rfl
theorem okB_some {l m : List D} {n : Nat} {st : Store} (h : st[n]? = some (.lst m)) : okB ⟨l, [(n, m)]⟩ st = true := by
  simp [okB, h]
theorem okB_at {its : Its} {st : Store} {n : Nat} {l : List D} (h : okB its st = true) (e : (n, l) ∈ its.chk) : st[n]? = some (.lst l) := by
  unfold okB at h
  simpa using List.all_eq_true.mp h _ e
theorem okB_iff {its : Its} {st : Store} : okB its st = true ↔ ∀ p ∈ its.chk, st[p.1]? = some (.lst p.2) := by
  unfold okB
  rw [List.all_eq_true]
  simp
section
variable {K : PySem.W.Frag} {H H' : Hp} {ρ : List Addr} {σ : SV} {ls : LS} {st : Store}
theorem Ext.same (h : L2.Same H H') : Ext ρ H ρ H' := ⟨⟨[], by simp⟩, fun a o e _ => h a o e, fun a h n => absurd h n⟩
theorem RS.same (s : RS K H ρ st) (h : L2.Same H H') : RS K H' ρ st := ⟨s.nd, s.len, fun n a c e1 e2 => (s.cell n a c e1 e2).ext (Ext.same h) (by
  have t := (s.cell n a c e1 e2).there
  cases e : H a with
  | none => exact absurd e t
  | some o => exact h a o e)⟩
end
/-- the iterator J yields these items -/
def WalkI (K : PySem.W.Frag) (H : Hp) (ρ : List Addr) (J : It) (its : Its) : Prop := ∀ (ρ' : List Addr) (H' : Hp) (st' : Store), Ext ρ H ρ' H' → RS K H' ρ' st' → okB its st' = true →
  (∀ (i : Nat) (d : D), its.l[i]? = some d → J.go i H' ∧ ∀ x H'', J.yld i H' x H'' → L2.Same H' H'' ∧ RV K H'' ρ' x d) ∧ ∀ i, its.l.length ≤ i → J.stop i H'
abbrev tI (K : PySem.W.Frag) (mg : Str → Option Value) (W : WX) (fi : LS → Store → Out Its) : TI := tF K mg W (WalkI K) fi
abbrev DI (X : Cx) (W : WX) (tg e : Expr) (fi : LS → Store → Out Its) : Prop := PI X tg e (tI X.K X.mg W fi)
noncomputable def forL (ok : Store → Bool) (g : D → LS → Store → Out LS) (b : LS → Store → SO) : List D → LS → Store → SO
  | [], ls, st => if ok st = true then .nx ls st else .bad
  | d :: r, ls, st => if ok st = true then (match g d ls st with
    | .ok ls1 st1 => (match b ls1 st1 with
      | .nx ls' st' => forL ok g b r ls' st'
      | .ct ls' st' => forL ok g b r ls' st'
      | .bk ls' st' => .nx ls' st'
      | o => o)
    | _ => .bad) else .bad
noncomputable def forD (fi : LS → Store → Out Its) (g : D → LS → Store → Out LS) (b : LS → Store → SO) : LS → Store → SO := fun ls st => ofE (fi ls st) ls fun its st1 => forL (okB its) g b its.l ls st1
section
variable {X : Cx} {W : WX} {pos : Pos} {tg iter : Expr} {body : List Stmt} {fi : LS → Store → Out Its} {g : D → LS → Store → Out LS} {b : LS → Store → SO}
theorem ds_for (hp : PassesOwn (model X.prog X.w) X.A X.env X.xe) (hc : X.calm = true) (hi : DI X W tg iter fi) (hg : DG X tg g) (hb : DSs X W body b)
    (hs : ∀ x, foldedSetIterable iter X.env x = pure x := by intro _; rfl) : DS X W (.For tg iter body [] pos) (forD fi g b) := ps_imp (ps_for hp hc hi hg hb hs) fun N σ H ⟨ρ, ls, st, A, p⟩ => by
  refine ofE_read (R := WalkI X.K) (k := fun ls its st1 => forL (okB its) g b its.l ls st1) A p fun ρ1 J H1 its st1 x1 A1 wk p1 => ?_
  refine ⟨fun i m σ H => m = its.l.length - i ∧ i ≤ its.l.length ∧ ∃ ρ ls st, Ext ρ1 H1 ρ H ∧ At X.K H ρ σ ls st ∧ PSO X.K X.mg W N ρ H (forL (okB its) g b (its.l.drop i) ls st), ⟨its.l.length, by simp, Nat.zero_le _, ρ1, ls, st1, Ext.refl _ _, A1, by simpa using p1⟩, ?_⟩
  rintro i m σ2 H2 ⟨rfl, hi, ρ2, ls2, st2, x2, A2, p2⟩
  by_cases hlt : i < its.l.length
  · rw [List.drop_eq_getElem_cons hlt] at p2
    unfold forL at p2
    by_cases hok : okB its st2 = true
    · rw [if_pos hok] at p2
      obtain ⟨q1, _⟩ := wk ρ2 H2 st2 x2 A2.sto hok
      obtain ⟨go, yl⟩ := q1 i its.l[i] (by simp [hlt])
      refine .inr ⟨go, fun σ' H' => ∃ ρ ls st, Ext ρ1 H1 ρ H' ∧ At X.K H' ρ σ' ls st ∧ PSO X.K X.mg W N ρ H' (forL (okB its) g b (its.l.drop (i + 1)) ls st),
        fun σ' H' ⟨ρ, ls, st, y1, y2, y3⟩ => ⟨its.l.length - (i + 1), by omega, rfl, hlt, ρ, ls, st, y1, y2, y3⟩, fun x H' y => ?_⟩
      obtain ⟨sm, rv⟩ := yl x H' y
      have x3 : Ext ρ2 H2 ρ2 H' := Ext.same sm
      refine ⟨ρ2, ls2, st2, its.l[i], A2.grow x3 (A2.sto.same sm), rv, ?_⟩
      cases eg : g its.l[i] ls2 st2 with
      | bad => rw [eg] at p2; exact p2.elim
      | ex _ _ => rw [eg] at p2; exact p2.elim
      | ok l3 s3 =>
        rw [eg] at p2
        refine fun ρ4 σ4 H4 x4 A4 => ⟨ρ4, l3, s3, A4, ?_⟩
        have x14 : Ext ρ1 H1 ρ4 H4 := (x2.trans x3).trans x4
        have x24 : Ext ρ2 H2 ρ4 H4 := x3.trans x4
        cases eb : b l3 s3 with
        | nx l5 s5 => simp only [eb] at p2; exact fun ρ5 σ5 H5 x5 A5 => ⟨ρ5, l5, s5, x14.trans x5, A5, PSO.grow p2 (x24.trans x5)⟩
        | ct l5 s5 => simp only [eb] at p2; exact fun ρ5 σ5 H5 x5 A5 => ⟨ρ5, l5, s5, x14.trans x5, A5, PSO.grow p2 (x24.trans x5)⟩
        | bk l5 s5 => simp only [eb] at p2; exact PSO.grow p2 x24
        | rt d s5 => simp only [eb] at p2; exact PSO.grow p2 x24
        | ex e l5 s5 => simp only [eb] at p2; exact PSO.grow p2 x24
        | bad => simp only [eb] at p2; exact p2
    · rw [if_neg hok] at p2; exact p2.elim
  · have e : i = its.l.length := by omega
    subst e
    rw [List.drop_length] at p2
    unfold forL at p2
    by_cases hok : okB its st2 = true
    · rw [if_pos hok] at p2
      exact .inl ⟨(wk ρ2 H2 st2 x2 A2.sto hok).2 _ (Nat.le_refl _), PSO.doneNx p2 A2⟩
    · rw [if_neg hok] at p2; exact p2.elim
end

/-! ### what is walked -/
def itsOf (d : D) (st : Store) : Option Its := match d with
  | .tup l => some ⟨l, []⟩
  | .lst l => some ⟨l, []⟩
  | .cst l => some ⟨l, []⟩
  | .ref n => (match st[n]? with
    | some (.lst l) => some ⟨l, [(n, l)]⟩
    | _ => none)
  | _ => none
def isTup : D → Bool
  | .tup _ => true
  | _ => false
def seqI (f : LS → Store → Out D) : LS → Store → Out Its := fun ls st => (f ls st).bind fun d st1 => match itsOf d st1 with
  | some its => .ok its st1
  | none => .bad
/-- what bears a list that is walked or read -/
theorem list_of {K : PySem.W.Frag} {H H' : Hp} {ρ ρ' : List Addr} {st st' : Store} {v : V} {d : D} {its : Its} (h : itsOf d st = some its) (r : RV K H ρ v d) (x : Ext ρ H ρ' H') (s : RS K H' ρ' st') (hok : okB its st' = true) :
    ∃ a vs, v = .ref a ∧ RVs K H' ρ' vs its.l ∧ ((isTup d = true ∧ SqT K H' a vs) ∨ (isTup d = false ∧ SqL K H' a vs)) := by
  cases r with
  | @tup a vs ds h1 h2 => cases h; exact ⟨a, vs, rfl, RVs.ext x _ h2, .inl ⟨rfl, (h1.ext x).sq⟩⟩
  | @lst a vs ds h1 h2 h3 => cases h; exact ⟨a, vs, rfl, RVs.ext x _ h3, .inr ⟨rfl, .inl (.inl (x.keep _ _ h1 h2))⟩⟩
  | @cst a vs ds h1 h2 => cases h; exact ⟨a, vs, rfl, RVs.ext x _ h2, .inr ⟨rfl, (h1.ext x).sq⟩⟩
  | @ref a n h1 =>
    have h : (match st[n]? with | some (.lst l) => some (⟨l, [(n, l)]⟩ : Its) | _ => none) = some its := h
    cases e : st[n]? with
    | none => simp only [e] at h; cases h
    | some c =>
      cases c with
      | dic _ => simp only [e] at h; cases h
      | lst l =>
        simp only [e] at h; cases h
        obtain ⟨vs, q1, q2⟩ := s.cell n a _ (x.at h1) (okB_at hok (List.mem_singleton.mpr rfl))
        exact ⟨a, vs, rfl, q2, .inr ⟨rfl, .inl (.inl q1)⟩⟩
  | _ => cases h
theorem okB_now {d : D} {st : Store} {its : Its} (h : itsOf d st = some its) : okB its st = true := by
  unfold itsOf at h
  cases d with
  | tup l => cases h; rfl
  | lst l => cases h; rfl
  | cst l => cases h; rfl
  | ref n =>
    cases e : st[n]? with
    | none => simp only [e] at h; cases h
    | some c =>
      cases c with
      | dic _ => simp only [e] at h; cases h
      | lst l => simp only [e] at h; cases h; exact okB_some e
  | _ => cases h
section
variable {X : Cx} {W : WX} {pos p : Pos} {tg iter e e2 : Expr} {f : LS → Store → Out D} {fr : LS → Store → Out (List D)}
theorem pi_or {t t' : TI} (h : PI X tg e t) (h' : PI X tg e t') : PI X tg e (fun σ H R => t σ H R ∨ t' σ H R) := ⟨fun pins s σ H R I q => q.elim (h.run pins s σ H R I) (h'.run pins s σ H R I)⟩
theorem walk_list {K : PySem.W.Frag} {H : Hp} {ρ : List Addr} {st : Store} {a : Addr} {d : D} {its : Its} (h : itsOf d st = some its) (r : RV K H ρ (.ref a) d) (hl : isTup d = false) : WalkI K H ρ (Itl K a) its := by
  intro ρ' H' st' x s hok
  obtain ⟨a', vs, e, rs, q⟩ := list_of h r x s hok
  cases e
  have q : SqL K H' a vs := by
    rcases q with ⟨q, _⟩ | ⟨_, q⟩
    · rw [hl] at q; cases q
    · exact q
  refine ⟨fun i d hd => ?_, fun i hi => ⟨vs, q, by rw [rs.length]; exact hi⟩⟩
  obtain ⟨v, h1, h2⟩ := rs.get hd
  exact ⟨⟨vs, v, q, h1⟩, fun x H'' ⟨e, y⟩ => by
    subst e
    have := y vs q
    rw [h1] at this; cases this
    exact ⟨L2.Same.refl _, h2⟩⟩
theorem walk_tup {K : PySem.W.Frag} {H : Hp} {ρ : List Addr} {st : Store} {a : Addr} {d : D} {its : Its} (h : itsOf d st = some its) (r : RV K H ρ (.ref a) d) (hl : isTup d = true) : WalkI K H ρ (Itt K a) its := by
  intro ρ' H' st' x s hok
  obtain ⟨a', vs, e, rs, q⟩ := list_of h r x s hok
  cases e
  have q : SqT K H' a vs := by
    rcases q with ⟨_, q⟩ | ⟨q, _⟩
    · exact q
    · rw [hl] at q; cases q
  refine ⟨fun i d hd => ?_, fun i hi => ⟨vs, q, by rw [rs.length]; exact hi⟩⟩
  obtain ⟨v, h1, h2⟩ := rs.get hd
  exact ⟨⟨vs, v, q, h1⟩, fun x H'' ⟨e, y⟩ => by
    subst e
    have := y vs q
    rw [h1] at this; cases this
    exact ⟨L2.Same.refl _, h2⟩⟩
/-- over a list or a tuple -/
theorem di_seq (he : DE X W e f) : DI X W tg e (seqI f) := pi_imp (pi_or (pi_list he) (pi_tup he)) fun σ H R ⟨ρ, ls, st, A, p⟩ => by
  have two : ∀ b : Bool, (∀ d st1, f ls st = .ok d st1 → isTup d = b) → (∀ ρ1 x H1 d st1 its, Ext ρ H ρ1 H1 → At X.K H1 ρ1 σ ls st1 → RV X.K H1 ρ1 x d → isTup d = b → itsOf d st1 = some its → OO X.K X.mg W (WalkI X.K) σ R ρ1 H1 (.ok its st1) →
      (if b = true then (∃ a, x = V.ref a ∧ (∃ xs, SqT X.K H1 a xs) ∧ R (Itt X.K a) H1) else ∃ a, x = V.ref a ∧ (∃ xs, SqL X.K H1 a xs) ∧ R (Itl X.K a) H1)) := by
    intro b _ ρ1 x H1 d st1 its x1 A1 r1 hb e1 q1
    obtain ⟨a, vs, rfl, rs, q⟩ := list_of e1 r1 (Ext.refl _ _) A1.sto (okB_now e1)
    cases b with
    | true =>
      rw [if_pos rfl]
      rcases q with ⟨_, q⟩ | ⟨q, _⟩
      · exact ⟨a, rfl, ⟨vs, q⟩, OO.done q1 A1.sto (walk_tup e1 r1 hb)⟩
      · rw [hb] at q; cases q
    | false =>
      rw [if_neg Bool.false_ne_true]
      rcases q with ⟨q, _⟩ | ⟨_, q⟩
      · rw [hb] at q; cases q
      · exact ⟨a, rfl, ⟨vs, q⟩, OO.done q1 A1.sto (walk_list e1 r1 hb)⟩
  have go : ∀ b : Bool, (∀ d st1, f ls st = .ok d st1 → isTup d = b) → tE X.K X.mg W f σ H (fun x H1 => if b = true then (∃ a, x = V.ref a ∧ (∃ xs, SqT X.K H1 a xs) ∧ R (Itt X.K a) H1) else ∃ a, x = V.ref a ∧ (∃ xs, SqL X.K H1 a xs) ∧ R (Itl X.K a) H1) := by
    intro b hb
    refine ⟨ρ, ls, st, A, ?_⟩
    have p : OO X.K X.mg W (WalkI X.K) σ R ρ H ((f ls st).bind fun d st1 => match itsOf d st1 with | some its => .ok its st1 | none => .bad) := p
    cases ef : f ls st with
    | bad => rw [ef] at p; exact p
    | ex _ _ => rw [ef] at p; exact p
    | ok d st1 =>
      rw [ef] at p
      intro ρ1 x H1 x1 s1 r1
      have p : OO X.K X.mg W (WalkI X.K) σ R ρ H (match itsOf d st1 with | some its => .ok its st1 | none => .bad) := p
      cases e1 : itsOf d st1 with
      | none => rw [e1] at p; exact p.elim
      | some its =>
        rw [e1] at p
        exact two b hb ρ1 x H1 d st1 its x1 (A.grow x1 s1) r1 (hb d st1 ef) e1 (OO.grow p x1)
  cases ef : f ls st with
  | bad => exact .inl (by unfold iList; simpa using go false (fun d st1 e => by rw [ef] at e; cases e))
  | ex _ _ => exact .inl (by unfold iList; simpa using go false (fun d st1 e => by rw [ef] at e; cases e))
  | ok d st1 =>
    cases hb : isTup d with
    | true => exact .inr (by unfold iTup; simpa using go true (fun d' st1' e => by rw [ef] at e; cases e; exact hb))
    | false => exact .inl (by unfold iList; simpa using go false (fun d' st1' e => by rw [ef] at e; cases e; exact hb))
/-- a condition that nothing computes (the kernel is not to look into it) -/
noncomputable def okP (p : Prop) : Bool := open Classical in decide p
@[simp] theorem okP_iff {p : Prop} : okP p = true ↔ p := by unfold okP; simp
theorem okP_of {p : Prop} (h : p) : okP p = true := okP_iff.mpr h
/-- over range(n), range(a, b) -/
def rangeL (lo : Int) (n : Nat) : List D := (List.range n).map fun (i : Nat) => D.int (lo + (i : Int))
noncomputable def rng1 (fr : LS → Store → Out (List D)) : LS → Store → Out Its := fun ls st => (fr ls st).bind fun ds st1 => match ds with
  | [.int j] => if okP (-4611686018427387904 ≤ j ∧ j < 4611686018427387904) = true then .ok ⟨rangeL 0 j.toNat, []⟩ st1 else .bad
  | _ => .bad
noncomputable def rng2 (fr : LS → Store → Out (List D)) : LS → Store → Out Its := fun ls st => (fr ls st).bind fun ds st1 => match ds with
  | [.int i, .int j] => if okP (-4611686018427387904 ≤ i ∧ i < 4611686018427387904 ∧ -4611686018427387904 ≤ j ∧ j < 4611686018427387904) = true then .ok ⟨rangeL i (j - i).toNat, []⟩ st1 else .bad
  | _ => .bad
theorem walk_range {K : PySem.W.Frag} {H : Hp} {ρ : List Addr} (lo : Int) (n : Nat) : WalkI K H ρ (Itr lo n) ⟨rangeL lo n, []⟩ := fun ρ' H' st' x s hok => by
  refine ⟨fun i d hd => ?_, fun i hi => by simpa [rangeL, Itr] using hi⟩
  have hi : i < n := by
    have := (List.getElem?_eq_some_iff.mp hd).1
    simpa [rangeL] using this
  have e : d = .int (lo + i) := by
    simp only [rangeL, List.getElem?_map, List.getElem?_range hi, Option.map_some] at hd
    cases hd; rfl
  subst e
  refine ⟨hi, fun x H'' ⟨e, y⟩ => ?_⟩
  subst e y
  exact ⟨L2.Same.refl _, .int _⟩
theorem di_range1 {a : Expr} (hm : X.mg "range" = none) (ha : DA X W [a] fr) (hg : Gl X "range" := by rfl) (hs : starEach [a] X.env = [(false, eval a X.env)] := by rfl) : DI X W tg (.Call (.Name "range" p) [a] [] pos) (rng1 fr) :=
  pi_imp (pi_range1 hg hm ha hs) fun σ H R ⟨ρ, ls, st, A, q⟩ => by
    refine tF_bind (R2 := WalkI X.K) (f := fun _ ds st1 => match ds with | [.int j] => if okP (-4611686018427387904 ≤ j ∧ j < 4611686018427387904) = true then .ok ⟨rangeL 0 j.toNat, []⟩ st1 else .bad | _ => .bad) A q fun ρ1 vs H1 ds st1 x1 A1 r1 q1 => ?_
    split at q1
    · cases r1 with
      | cons r1 r2 =>
        cases r2
        cases r1
        split at q1
        · rename_i h
          have h := okP_iff.mp h
          exact ⟨_, rfl, by omega, by omega, OO.done q1 A1.sto (walk_range 0 _)⟩
        · exact q1.elim
    · exact q1.elim
theorem di_range2 {a b : Expr} (hm : X.mg "range" = none) (ha : DA X W [a, b] fr) (hg : Gl X "range" := by rfl) (hs : starEach [a, b] X.env = [(false, eval a X.env), (false, eval b X.env)] := by rfl) (hs2 : starEach [b] X.env = [(false, eval b X.env)] := by rfl) :
    DI X W tg (.Call (.Name "range" p) [a, b] [] pos) (rng2 fr) :=
  pi_imp (pi_range2 hg hm ha hs hs2) fun σ H R ⟨ρ, ls, st, A, q⟩ => by
    refine tF_bind (R2 := WalkI X.K) (f := fun _ ds st1 => match ds with | [.int i, .int j] => if okP (-4611686018427387904 ≤ i ∧ i < 4611686018427387904 ∧ -4611686018427387904 ≤ j ∧ j < 4611686018427387904) = true then .ok ⟨rangeL i (j - i).toNat, []⟩ st1 else .bad | _ => .bad) A q fun ρ1 vs H1 ds st1 x1 A1 r1 q1 => ?_
    split at q1
    · cases r1 with
      | cons r1 r2 =>
        cases r2 with
        | cons r2 r3 =>
          cases r3
          cases r1; cases r2
          split at q1
          · rename_i h
            have h := okP_iff.mp h
            exact ⟨_, _, rfl, ⟨by omega, by omega, by omega, by omega⟩, OO.done q1 A1.sto (walk_range _ _)⟩
          · exact q1.elim
    · exact q1.elim
/-- over enumerate(a list), zip of two lists or of two tuples: new pairs -/
def enumL : Nat → List D → List D
  | _, [] => []
  | n, d :: ds => .tup [.int n, d] :: enumL (n + 1) ds
theorem enumL_get : ∀ (l : List D) (n i : Nat), (enumL n l)[i]? = (l[i]?).map fun d => .tup [.int ((n + i : Nat) : Int), d]
  | [], n, i => by simp [enumL]
  | d :: ds, n, 0 => by simp [enumL]
  | d :: ds, n, i + 1 => by
    rw [enumL, List.getElem?_cons_succ, enumL_get ds (n + 1) i, List.getElem?_cons_succ]
    congr 1
    funext d
    congr 4
    omega
theorem enumL_length : ∀ (l : List D) (n : Nat), (enumL n l).length = l.length
  | [], _ => rfl
  | _ :: ds, n => congrArg Nat.succ (enumL_length ds (n + 1))
def zipL (l m : List D) : List D := (l.zip m).map fun p => .tup [p.1, p.2]
theorem zipL_get {l m : List D} {i : Nat} {d : D} (h : (zipL l m)[i]? = some d) : ∃ a b, l[i]? = some a ∧ m[i]? = some b ∧ d = .tup [a, b] := by
  unfold zipL at h
  rw [List.getElem?_map] at h
  cases e : (l.zip m)[i]? with
  | none => rw [e] at h; cases h
  | some p =>
    rw [e] at h
    have h : some (D.tup [p.1, p.2]) = some d := h
    cases h
    obtain ⟨h1, h2⟩ := List.getElem?_zip_eq_some.mp e
    exact ⟨p.1, p.2, h1, h2, rfl⟩
theorem zipL_length (l m : List D) : (zipL l m).length = min l.length m.length := by simp [zipL]
/-- two sequences of one kind -/
def zipI (fr : LS → Store → Out (List D)) : LS → Store → Out Its := fun ls st => (fr ls st).bind fun ds st1 => match ds with
  | [d, e] => (match itsOf d st1, itsOf e st1 with
    | some i, some j => if isTup d = isTup e then .ok ⟨zipL i.l j.l, i.chk ++ j.chk⟩ st1 else .bad
    | _, _ => .bad)
  | _ => .bad
theorem RV.two {K : PySem.W.Frag} {H : Hp} {ρ : List Addr} {T : Addr} {x y : V} {d e : D} {st : Store} (s : RS K H ρ st) (hT : H T = none) (r1 : RV K H ρ x d) (r2 : RV K H ρ y e) : L2.Same H (upd H T (.tup [x, y])) ∧ RV K (upd H T (.tup [x, y])) ρ (.ref T) (.tup [d, e]) := by
  have sm : L2.Same H (upd H T (.tup [x, y])) := fun b o h => by rw [upd_ne (ne_of_none h hT)]; exact h
  have x := Ext.same (ρ := ρ) sm
  exact ⟨sm, .tup (.inl ⟨upd_same, s.out hT⟩) (.cons (RV.ext x _ r1) (.cons (RV.ext x _ r2) .nil))⟩
theorem okB_app {l l1 l2 : List D} {c1 c2 : List (Nat × List D)} {st : Store} (h : okB ⟨l, c1 ++ c2⟩ st = true) : okB ⟨l1, c1⟩ st = true ∧ okB ⟨l2, c2⟩ st = true := by
  rw [okB_iff] at h
  exact ⟨okB_iff.mpr fun p hp => h p (List.mem_append_left _ hp), okB_iff.mpr fun p hp => h p (List.mem_append_right _ hp)⟩
theorem di_zip {tpos : Pos} {elts : List Expr} {kk : Nat} (hm : X.mg "zip" = none) (ha : DA X W [e, e2] fr) (hg : Gl X "zip" := by rfl)
    (hs : starEach [e, e2] X.env = (false, eval e X.env) :: starEach [e2] X.env := by rfl) (hpl : (backTo pos (starEach [e2] X.env)).any (·.1) = false := by rfl) :
    DI X W (.Tuple elts kk tpos) (.Call (.Name "zip" p) [e, e2] [] pos) (zipI fr) := pi_imp (RZ.pi_zipA hg hm ha hs hpl) fun σ H R ⟨ρ, ls, st, A, q⟩ => by
  refine tF_bind (R2 := WalkI X.K) (f := fun _ ds st1 => match ds with
    | [d, e] => (match itsOf d st1, itsOf e st1 with
      | some i, some j => if isTup d = isTup e then .ok ⟨zipL i.l j.l, i.chk ++ j.chk⟩ st1 else .bad
      | _, _ => .bad)
    | _ => .bad) A q fun ρ1 vs H1 ds st1 x1 A1 r1 q1 => ?_
  split at q1
  · rename_i d e
    cases r1 with
    | cons r1 r2 =>
      cases r2 with
      | cons r2 r3 =>
        cases r3
        split at q1
        · rename_i i j ei ej
          split at q1
          · rename_i hk
            obtain ⟨a, us, rfl, ra, qa⟩ := list_of ei r1 (Ext.refl _ _) A1.sto (okB_now ei)
            obtain ⟨b, ws, rfl, rb, qb⟩ := list_of ej r2 (Ext.refl _ _) A1.sto (okB_now ej)
            refine ⟨a, b, us, ws, rfl, ?_⟩
            cases hd : isTup d with
            | false =>
              have hd2 : isTup e = false := hk ▸ hd
              have qa : SqL X.K H1 a us := by
                rcases qa with ⟨z, _⟩ | ⟨_, z⟩
                · rw [hd] at z; cases z
                · exact z
              have qb : SqL X.K H1 b ws := by
                rcases qb with ⟨z, _⟩ | ⟨_, z⟩
                · rw [hd2] at z; cases z
                · exact z
              refine .inl ⟨qa, qb, OO.done q1 A1.sto ?_⟩
              intro ρ' H' st' x s hok
              obtain ⟨o1, o2⟩ := okB_app (l1 := i.l) (l2 := j.l) hok
              obtain ⟨_, vs1, e1, s1, k1⟩ := list_of ei r1 x s o1
              obtain ⟨_, vs2, e2, s2, k2⟩ := list_of ej r2 x s o2
              cases e1; cases e2
              have k1 : SqL X.K H' a vs1 := by
                rcases k1 with ⟨z, _⟩ | ⟨_, z⟩
                · rw [hd] at z; cases z
                · exact z
              have k2 : SqL X.K H' b vs2 := by
                rcases k2 with ⟨z, _⟩ | ⟨_, z⟩
                · rw [hd2] at z; cases z
                · exact z
              refine ⟨fun n d hn => ?_, fun n hn => ⟨vs1, vs2, k1, k2, ?_⟩⟩
              · obtain ⟨da, db, h1, h2, rfl⟩ := zipL_get hn
                obtain ⟨xa, g1, g2⟩ := s1.get h1
                obtain ⟨xb, g3, g4⟩ := s2.get h2
                refine ⟨⟨vs1, vs2, xa, xb, k1, k2, g1, g3⟩, fun y H'' ⟨T, y1, y2, ey, hT, eH, w1, w2⟩ => ?_⟩
                have z1 := w1 _ k1
                have z2 := w2 _ k2
                rw [g1] at z1; rw [g3] at z2
                cases z1; cases z2
                subst ey; subst eH
                exact RV.two s hT g2 g4
              · have hn : (zipL i.l j.l).length ≤ n := hn
                rw [zipL_length] at hn
                rw [s1.length, s2.length]
                omega
            | true =>
              have hd2 : isTup e = true := hk ▸ hd
              have qa : SqT X.K H1 a us := by
                rcases qa with ⟨_, z⟩ | ⟨z, _⟩
                · exact z
                · rw [hd] at z; cases z
              have qb : SqT X.K H1 b ws := by
                rcases qb with ⟨_, z⟩ | ⟨z, _⟩
                · exact z
                · rw [hd2] at z; cases z
              refine .inr ⟨qa, qb, OO.done q1 A1.sto ?_⟩
              intro ρ' H' st' x s hok
              obtain ⟨o1, o2⟩ := okB_app (l1 := i.l) (l2 := j.l) hok
              obtain ⟨_, vs1, e1, s1, k1⟩ := list_of ei r1 x s o1
              obtain ⟨_, vs2, e2, s2, k2⟩ := list_of ej r2 x s o2
              cases e1; cases e2
              have k1 : SqT X.K H' a vs1 := by
                rcases k1 with ⟨_, z⟩ | ⟨z, _⟩
                · exact z
                · rw [hd] at z; cases z
              have k2 : SqT X.K H' b vs2 := by
                rcases k2 with ⟨_, z⟩ | ⟨z, _⟩
                · exact z
                · rw [hd2] at z; cases z
              refine ⟨fun n d hn => ?_, fun n hn => ⟨vs1, vs2, k1, k2, ?_⟩⟩
              · obtain ⟨da, db, h1, h2, rfl⟩ := zipL_get hn
                obtain ⟨xa, g1, g2⟩ := s1.get h1
                obtain ⟨xb, g3, g4⟩ := s2.get h2
                refine ⟨⟨vs1, vs2, xa, xb, k1, k2, g1, g3⟩, fun y H'' ⟨T, y1, y2, ey, hT, eH, w1, w2⟩ => ?_⟩
                have z1 := w1 _ k1
                have z2 := w2 _ k2
                rw [g1] at z1; rw [g3] at z2
                cases z1; cases z2
                subst ey; subst eH
                exact RV.two s hT g2 g4
              · have hn : (zipL i.l j.l).length ≤ n := hn
                rw [zipL_length] at hn
                rw [s1.length, s2.length]
                omega
          · exact q1.elim
        · exact q1.elim
  · exact q1.elim
/-- enumerate of a list -/
def enumI (fr : LS → Store → Out (List D)) : LS → Store → Out Its := fun ls st => (fr ls st).bind fun ds st1 => match ds with
  | [d] => (match itsOf d st1 with
    | some i => if isTup d = false then .ok ⟨enumL 0 i.l, i.chk⟩ st1 else .bad
    | _ => .bad)
  | _ => .bad
theorem di_enum {tpos : Pos} {elts : List Expr} {kk : Nat} (hm : X.mg "enumerate" = none) (ha : DA X W [e] fr) (hg : Gl X "enumerate" := by rfl) (hs : starEach [e] X.env = [(false, eval e X.env)] := by rfl) :
    DI X W (.Tuple elts kk tpos) (.Call (.Name "enumerate" p) [e] [] pos) (enumI fr) := pi_imp (pi_enum hg hm ha hs) fun σ H R ⟨ρ, ls, st, A, q⟩ => by
  refine tF_bind (R2 := WalkI X.K) (f := fun _ ds st1 => match ds with
    | [d] => (match itsOf d st1 with
      | some i => if isTup d = false then .ok ⟨enumL 0 i.l, i.chk⟩ st1 else .bad
      | _ => .bad)
    | _ => .bad) A q fun ρ1 vs H1 ds st1 x1 A1 r1 q1 => ?_
  split at q1
  · rename_i d
    cases r1 with
    | cons r1 r2 =>
      cases r2
      split at q1
      · rename_i i ei
        split at q1
        · rename_i hd
          obtain ⟨a, us, rfl, ra, qa⟩ := list_of ei r1 (Ext.refl _ _) A1.sto (okB_now ei)
          have qa : SqL X.K H1 a us := by
            rcases qa with ⟨z, _⟩ | ⟨_, z⟩
            · rw [hd] at z; cases z
            · exact z
          refine ⟨a, us, rfl, qa, OO.done q1 A1.sto ?_⟩
          intro ρ' H' st' x s hok
          have hok : okB i st' = true := okB_iff.mpr (okB_iff.mp hok)
          obtain ⟨_, vs1, e1, s1, k1⟩ := list_of ei r1 x s hok
          cases e1
          have k1 : SqL X.K H' a vs1 := by
            rcases k1 with ⟨z, _⟩ | ⟨_, z⟩
            · rw [hd] at z; cases z
            · exact z
          refine ⟨fun n d hn => ?_, fun n hn => ⟨vs1, k1, ?_⟩⟩
          · have hn : (enumL 0 i.l)[n]? = some d := hn
            rw [enumL_get] at hn
            cases e2 : i.l[n]? with
            | none => rw [e2] at hn; cases hn
            | some da =>
              rw [e2] at hn
              have hn : some (D.tup [.int ((0 + n : Nat) : Int), da]) = some d := hn
              cases hn
              obtain ⟨xa, g1, g2⟩ := s1.get e2
              refine ⟨⟨vs1, xa, k1, g1⟩, fun y H'' ⟨T, y1, ey, hT, eH, w1⟩ => ?_⟩
              have z1 := w1 _ k1
              rw [g1] at z1
              cases z1
              subst ey; subst eH
              rw [Nat.zero_add]
              exact RV.two s hT (.int _) g2
          · have hn : (enumL 0 i.l).length ≤ n := hn
            rw [enumL_length] at hn
            rw [s1.length]
            exact hn
        · exact q1.elim
      · exact q1.elim
  · exact q1.elim
end

/-! ### list comprehensions -/
def delL : LS → Nat → LS
  | [], _ => []
  | _ :: r, 0 => none :: r
  | x :: r, n + 1 => x :: delL r n
@[simp] theorem delL_zero (x : Option D) (r : LS) : delL (x :: r) 0 = none :: r := rfl
@[simp] theorem delL_succ (x : Option D) (r : LS) (n : Nat) : delL (x :: r) (n + 1) = x :: delL r n := rfl
def wipeL (ls : LS) : List Nat → LS
  | [] => ls
  | v :: vs => delL (wipeL ls vs) v
theorem delL_length : ∀ (l : LS) (n : Nat), (delL l n).length = l.length
  | [], _ => rfl
  | _ :: _, 0 => rfl
  | x :: r, n + 1 => congrArg Nat.succ (delL_length r n)
theorem getL_delL : ∀ (l : LS) (n m : Nat) (d : D), getL (delL l n) m = some d → getL l m = some d ∧ m ≠ n
  | [], _, _, _, h => by cases h
  | _ :: _, 0, 0, _, h => by cases h
  | _ :: _, 0, m + 1, _, h => ⟨h, by simp⟩
  | _ :: _, n + 1, 0, _, h => ⟨h, by simp⟩
  | _ :: r, n + 1, m + 1, d, h => let ⟨a, b⟩ := getL_delL r n m d h; ⟨a, fun e => b (Nat.succ.inj e)⟩
theorem wipe_get {σ : SV} {i : Nat} {x : Option V} : ∀ {vs : List Nat}, i ∉ vs → σ[i]? = some x → (wipe σ vs)[i]? = some x
  | [], _, h => h
  | v :: vs, hn, h => by
    unfold wipe
    rw [List.getElem?_set_ne (fun e => hn (by rw [e]; exact List.mem_cons_self))]
    exact wipe_get (fun z => hn (List.mem_cons_of_mem _ z)) h
theorem At.wipe {K : PySem.W.Frag} {H : Hp} {ρ : List Addr} {σ : SV} {ls : LS} {st : Store} (A : At K H ρ σ ls st) (vs : List Nat) : At K H ρ (L2.wipe σ vs) (wipeL ls vs) st := by
  refine ⟨?_, fun i d h => ?_, A.sto⟩
  · rw [wipe_length]
    have : ∀ vs, (wipeL ls vs).length = ls.length := by
      intro vs
      induction vs with
      | nil => rfl
      | cons v vs ih => unfold wipeL; rw [delL_length]; exact ih
    rw [this, A.len]
  · have key : ∀ vs, getL (wipeL ls vs) i = some d → getL ls i = some d ∧ i ∉ vs := by
      intro vs
      induction vs with
      | nil => intro h; exact ⟨h, by simp⟩
      | cons v vs ih =>
        intro h
        obtain ⟨h1, h2⟩ := getL_delL _ _ _ _ h
        obtain ⟨h3, h4⟩ := ih h1
        exact ⟨h3, by simp only [List.mem_cons, not_or]; exact ⟨h2, h4⟩⟩
    obtain ⟨h1, h2⟩ := key vs h
    obtain ⟨v, h3, h4⟩ := A.loc i d h1
    exact ⟨v, wipe_get h2 h3, h4⟩
/-- a target within a comprehension: only the slots vs are changed -/
def tGx (K : PySem.W.Frag) (vs : List Nat) (g : D → LS → Store → Out LS) : TG := fun v σ H Q => ∃ ρ ls st d, At K H ρ σ ls st ∧ RV K H ρ v d ∧ GO K (fun σ' H' => L2.wipe σ' vs = L2.wipe σ vs → H' = H → Q σ' H') ρ H (g d ls st)
def tGxs (K : PySem.W.Frag) (vs : List Nat) (g : List D → LS → Store → Out LS) : TGs := fun v σ H Q => ∃ ρ ls st d, At K H ρ σ ls st ∧ RVs K H ρ v d ∧ GO K (fun σ' H' => L2.wipe σ' vs = L2.wipe σ vs → H' = H → Q σ' H') ρ H (g d ls st)
abbrev DGx (X : Cx) (vs : List Nat) (tg : Expr) (g : D → LS → Store → Out LS) : Prop := PG X tg (tGx X.K vs g)
abbrev DGxs (X : Cx) (vs : List Nat) (tg : List Expr) (g : List D → LS → Store → Out LS) : Prop := PGs X tg (tGxs X.K vs g)
theorem wipe_set {σ : SV} {i : Nat} {x : Option V} : ∀ {vs : List Nat}, i ∈ vs → L2.wipe (σ.set i x) vs = L2.wipe σ vs
  | [], h => by cases h
  | v :: vs, h => by
    have comm : ∀ (vs : List Nat) (τ : SV), L2.wipe (τ.set i x) vs = (L2.wipe τ vs).set i x ∨ i ∈ vs := by
      intro vs
      induction vs with
      | nil => intro τ; exact .inl rfl
      | cons w ws ih =>
        intro τ
        by_cases hw : i = w
        · exact .inr (by rw [hw]; exact List.mem_cons_self)
        · rcases ih τ with e | e
          · refine .inl ?_
            show (L2.wipe (τ.set i x) ws).set w none = ((L2.wipe τ ws).set w none).set i x
            rw [e, List.set_comm _ _ hw]
          · exact .inr (List.mem_cons_of_mem _ e)
    show (L2.wipe (σ.set i x) vs).set v none = (L2.wipe σ vs).set v none
    by_cases hi : i ∈ vs
    · rw [wipe_set hi]
    · have hv : i = v := (List.mem_cons.mp h).resolve_right hi
      rcases comm vs σ with e | e
      · rw [e, hv, List.set_set]
      · exact absurd e hi
section
variable {X : Cx} {W : WX} {pos : Pos} {vs : List Nat} {e : Expr}
theorem dgx_name {i : Nat} {x : Str} (hi : i ∈ vs) (h : PG X (.Name x pos) (gName i)) : DGx X vs (.Name x pos) (nameG i) := pg_imp h fun v σ H Q ⟨ρ, ls, st, d, A, r, p⟩ => p ρ _ H (Ext.refl _ _) (A.put i r) (wipe_set hi) rfl
theorem dgxs_nil : DGxs X vs [] nilG := pgs_imp pgs_nil fun us σ H Q ⟨ρ, ls, st, ds, A, r, p⟩ => by
  cases r with
  | nil => exact ⟨rfl, p ρ σ H (Ext.refl _ _) A rfl rfl⟩
  | cons _ _ => exact p.elim
theorem dgxs_cons {es : List Expr} {gg : D → LS → Store → Out LS} {gs : List D → LS → Store → Out LS} (h1 : DGx X vs e gg) (h2 : DGxs X vs es gs)
    (hs : (assignEach (e :: es) X.env).map (·.2) = assign e X.env :: (assignEach es X.env).map (·.2) := by rfl) : DGxs X vs (e :: es) (consG gg gs) := pgs_imp (pgs_cons h1 h2 hs) fun us σ H Q ⟨ρ, ls, st, ds, A, r, p⟩ => by
  cases r with
  | nil => exact p.elim
  | @cons v us d ds r1 r2 =>
    have p : GO X.K (fun σ' H' => L2.wipe σ' vs = L2.wipe σ vs → H' = H → Q σ' H') ρ H (match gg d ls st with | .ok ls1 st1 => gs ds ls1 st1 | _ => .bad) := p
    refine ⟨v, us, rfl, ρ, ls, st, d, A, r1, ?_⟩
    cases e1 : gg d ls st with
    | bad => rw [e1] at p; exact p.elim
    | ex x s => rw [e1] at p; exact p.elim
    | ok l1 s1 =>
      rw [e1] at p
      have p : GO X.K (fun σ' H' => L2.wipe σ' vs = L2.wipe σ vs → H' = H → Q σ' H') ρ H (gs ds l1 s1) := p
      refine fun ρ1 σ1 H1 x A1 w1 hh1 => ⟨ρ1, l1, s1, ds, A1, RVs.ext x _ r2, ?_⟩
      cases e2 : gs ds l1 s1 with
      | bad => rw [e2] at p; exact p.elim
      | ex _ _ => rw [e2] at p; exact p.elim
      | ok l2 s2 => rw [e2] at p; exact fun ρ2 σ2 H2 y A2 w2 hh2 => p ρ2 σ2 H2 (x.trans y) A2 (w2.trans w1) (hh2.trans hh1)
theorem dgx_tup {es : List Expr} {k : Nat} {gs : List D → LS → Store → Out LS} {n : Nat} (hc : X.calm = true) (h : DGxs X vs es gs)
    (hn : (assignEach es X.env).length = n := by rfl) (hst : (assignEach es X.env).findIdx? (·.1) = none := by rfl) : DGx X vs (.Tuple es k pos) (tupG n gs) :=
  pg_imp (pg_tup hc h hn hst) fun v σ H Q ⟨ρ, ls, st, d, A, r, p⟩ => by
    cases r with
    | @tup a us ds h1 h2 =>
      unfold tupG at p
      by_cases hl : ds.length = n
      · simp only [if_pos hl] at p
        exact ⟨a, us, rfl, h1.sq, by rw [h2.length]; exact hl, ρ, ls, st, ds, A, h2, p⟩
      · simp only [if_neg hl] at p; exact p.elim
    | _ => exact p.elim
abbrev DTs (X : Cx) (W : WX) (ifs : List Expr) (f : LS → Store → Out Bool) : Prop := PTs X ifs (tT X.K X.mg W f)
def yesT : LS → Store → Out Bool := fun _ st => .ok true st
theorem dts_nil : DTs X W [] yesT := ⟨fun pins s σ H Q I ⟨ρ, ls, st, A, p⟩ => (pts_nil (X := X)).run pins s σ H Q I (OO.done p A.sto rfl)⟩
theorem dts_one {c : Expr} {f : LS → Store → Out Bool} (h : DT X W c f) : DTs X W [c] f := pts_one h
end
theorem wipe_idem (σ : SV) (vs : List Nat) : L2.wipe (L2.wipe σ vs) vs = L2.wipe σ vs := by
  have key : ∀ (us vs : List Nat), (∀ u ∈ us, u ∈ vs) → L2.wipe (L2.wipe σ us) vs = L2.wipe σ vs := by
    intro us
    induction us with
    | nil => intro vs _; rfl
    | cons u us ih =>
      intro vs h
      show L2.wipe ((L2.wipe σ us).set u none) vs = _
      rw [wipe_set (h u List.mem_cons_self)]
      exact ih vs fun x hx => h x (List.mem_cons_of_mem _ hx)
  exact key vs vs fun _ h => h
/-- within a comprehension nothing is raised -/
abbrev W0 : WX := fun _ _ _ _ => False
noncomputable def lcL (ok : Store → Bool) (n : Nat) (g : D → LS → Store → Out LS) (ft : LS → Store → Out Bool) (fe : LS → Store → Out D) (lsw : LS) : List D → Store → Out D
  | [], st => if ok st = true then .ok (.ref n) st else .bad
  | d :: r, st => if ok st = true then (match g d lsw st with
    | .ok ls1 st1 => (match ft ls1 st1 with
      | .ok b st2 => if b = true then (match fe ls1 st2 with
          | .ok y st3 => (match st3[n]? with
            | some (.lst acc) => if acc.length < 16777216 then lcL ok n g ft fe lsw r (st3.set n (.lst (acc ++ [y]))) else .bad
            | _ => .bad)
          | _ => .bad) else lcL ok n g ft fe lsw r st2
      | _ => .bad)
    | _ => .bad) else .bad
noncomputable def lcD (fi : LS → Store → Out Its) (g : D → LS → Store → Out LS) (ft : LS → Store → Out Bool) (fe : LS → Store → Out D) (vs : List Nat) : LS → Store → Out D := fun ls st =>
  (fi ls st).bind fun its st1 => lcL (okB its) st1.length g ft fe (wipeL ls vs) its.l (st1 ++ [.lst []])
theorem OO.noEx {K : PySem.W.Frag} {mg : Str → Option Value} {α β : Type} {R : Hp → List Addr → β → α → Prop} {σ : SV} {Q : β → Hp → Prop} {ρ : List Addr} {H : Hp} {a : α} {st : Store} (W : WX)
    (h : ∀ ρ' b H', Ext ρ H ρ' H' → RS K H' ρ' st → R H' ρ' b a → Q b H') : OO K mg W R σ Q ρ H (.ok a st) := h
theorem lc_read {K : PySem.W.Frag} {mg : Str → Option Value} {W : WX} {fi : LS → Store → Out Its} {g : D → LS → Store → Out LS} {ft : LS → Store → Out Bool} {fe : LS → Store → Out D} {vs : List Nat} {σ : SV} {H : Hp} {Q : VK}
    (h : tE K mg W (lcD fi g ft fe vs) σ H Q) : tLc (tI K mg W fi) (tGx K vs g) (tT K mg W0 ft) (tE K mg W0 fe) vs σ H Q := by
  obtain ⟨ρ, ls, st, A, p⟩ := h
  refine tF_bind (R := WalkI K) (R2 := rV K) (f := fun ls its st1 => lcL (okB its) st1.length g ft fe (wipeL ls vs) its.l (st1 ++ [.lst []])) A p fun ρ1 J H1 its st1 x1 A1 wk p1 => ?_
  intro Dn hD
  have xc := Ext.cell (ρ := ρ1) (o := .lst []) hD
  have s0 := A1.sto.newL hD (vs := []) (l := []) .nil
  have hn : (ρ1 ++ [Dn])[st1.length]? = some Dn := by rw [← A1.sto.len, List.getElem?_append_right (Nat.le_refl _)]; simp
  refine ⟨fun i m H => m = its.l.length - i ∧ i ≤ its.l.length ∧ ∃ ρ st, Ext (ρ1 ++ [Dn]) (upd H1 Dn (.lst [])) ρ H ∧ RS K H ρ st ∧ OO K mg W (rV K) σ Q ρ H (lcL (okB its) st1.length g ft fe (wipeL ls vs) (its.l.drop i) st),
    ⟨its.l.length, by simp, Nat.zero_le _, ρ1 ++ [Dn], st1 ++ [.lst []], Ext.refl _ _, s0, by simpa using OO.grow p1 xc⟩, ?_⟩
  rintro i m H2 ⟨rfl, hi, ρ2, st2, x2, s2, p2⟩
  have x12 : Ext ρ1 H1 ρ2 H2 := xc.trans x2
  have hn2 : ρ2[st1.length]? = some Dn := x2.at hn
  by_cases hlt : i < its.l.length
  · rw [List.drop_eq_getElem_cons hlt] at p2
    unfold lcL at p2
    by_cases hok : okB its st2 = true
    · rw [if_pos hok] at p2
      obtain ⟨q1, _⟩ := wk ρ2 H2 st2 x12 s2 hok
      obtain ⟨go, yl⟩ := q1 i its.l[i] (by simp [hlt])
      refine .inr ⟨go, fun H' => ∃ ρ st, Ext (ρ1 ++ [Dn]) (upd H1 Dn (.lst [])) ρ H' ∧ RS K H' ρ st ∧ OO K mg W (rV K) σ Q ρ H' (lcL (okB its) st1.length g ft fe (wipeL ls vs) (its.l.drop (i + 1)) st),
        fun H' ⟨ρ, st, y1, y2, y3⟩ => ⟨its.l.length - (i + 1), by omega, rfl, hlt, ρ, st, y1, y2, y3⟩, fun x H' y => ?_⟩
      obtain ⟨sm, rv⟩ := yl x H' y
      have x3 : Ext ρ2 H2 ρ2 H' := Ext.same sm
      have Aw : At K H' ρ2 (L2.wipe σ vs) (wipeL ls vs) st2 := (A1.grow (x12.trans x3) (s2.same sm)).wipe vs
      refine ⟨ρ2, wipeL ls vs, st2, its.l[i], Aw, rv, ?_⟩
      cases eg : g its.l[i] (wipeL ls vs) st2 with
      | bad => rw [eg] at p2; exact p2.elim
      | ex _ _ => rw [eg] at p2; exact p2.elim
      | ok l3 s3 =>
        simp only [eg] at p2
        intro ρ4 σ4 H4 x4 A4 hw hh
        have x24 : Ext ρ2 H2 ρ4 H4 := x3.trans x4
        refine ⟨by rw [hw]; exact wipe_idem σ vs, ρ4, l3, s3, A4, ?_⟩
        cases et : ft l3 s3 with
        | bad => rw [et] at p2; exact p2.elim
        | ex _ _ => rw [et] at p2; exact p2.elim
        | ok b s5 =>
          simp only [et] at p2
          rintro ρ5 b' H5 x5 S5 ⟨⟩
          have x25 : Ext ρ2 H2 ρ5 H5 := x24.trans x5
          cases b with
          | false =>
            rw [if_neg Bool.false_ne_true] at p2 ⊢
            exact ⟨ρ5, s5, x2.trans x25, S5, OO.grow p2 x25⟩
          | true =>
            rw [if_pos rfl] at p2 ⊢
            refine ⟨ρ5, l3, s5, A4.grow x5 S5, ?_⟩
            cases ee : fe l3 s5 with
            | bad => rw [ee] at p2; exact p2.elim
            | ex _ _ => rw [ee] at p2; exact p2.elim
            | ok yd s6 =>
              simp only [ee] at p2
              intro ρ6 yv H6 x6 S6 r6
              have x26 : Ext ρ2 H2 ρ6 H6 := x25.trans x6
              cases ea : s6[st1.length]? with
              | none => simp only [ea] at p2; exact p2.elim
              | some c =>
                cases c with
                | dic _ => simp only [ea] at p2; exact p2.elim
                | lst acc =>
                  simp only [ea] at p2
                  by_cases hl : acc.length < 16777216
                  · rw [if_pos hl] at p2
                    have h6 := x26.at hn2
                    obtain ⟨va, g1, g2⟩ := S6.cell _ _ _ h6 ea
                    refine ⟨va, g1, by rw [g2.length, sizeLine_eq]; exact hl, ρ6, s6.set st1.length (.lst (acc ++ [yd])), ?_, S6.writeL h6 (g2.snoc r6), ?_⟩
                    · exact (x2.trans x26).trans (Ext.write (List.mem_of_getElem? h6))
                    · exact OO.grow p2 (x26.trans (Ext.write (List.mem_of_getElem? h6)))
                  · rw [if_neg hl] at p2; exact p2.elim
    · rw [if_neg hok] at p2; exact p2.elim
  · have e : i = its.l.length := by omega
    subst e
    rw [List.drop_length] at p2
    unfold lcL at p2
    by_cases hok : okB its st2 = true
    · rw [if_pos hok] at p2
      exact .inl ⟨(wk ρ2 H2 st2 x12 s2 hok).2 _ (Nat.le_refl _), OO.done p2 s2 (.ref hn2)⟩
    · rw [if_neg hok] at p2; exact p2.elim
end DD

set_option maxRecDepth 100000
set_option maxHeartbeats 1000000
/-! DD5: operators, comparisons, subscripts, slices, built-ins over data. -/
namespace DD
open PySem PySem.Spec PyProof.Rows L2

section
variable {X : Cx} {W : WX}
/-! ### ints -/
/-- F gives g of two ints where C holds, else nothing -/
theorem opd_int {C : Int → Int → Prop} {g : Int → Int → V} {gd : Int → Int → D} {F : D → D → Store → Out D} (hg : ∀ i j (H : Hp) (ρ : List Addr), RV X.K H ρ (g i j) (gd i j))
    (hF : ∀ dx dy st, (∃ i j, dx = .int i ∧ dy = .int j ∧ C i j ∧ F dx dy st = .ok (gd i j) st) ∨ F dx dy st = .bad) : OpD X W (rI C g) F := by
  intro σ ρ H st x y dx dy Q s rx ry h
  rcases hF dx dy st with ⟨i, j, rfl, rfl, c, e⟩ | e
  · cases rx; cases ry
    rw [e] at h
    exact ⟨i, j, rfl, rfl, c, OO.done h s (hg i j H ρ)⟩
  · rw [e] at h; exact h.elim
theorem opd_int0 {g : Int → Int → V} {gd : Int → Int → D} {F : D → D → Store → Out D} (hg : ∀ i j (H : Hp) (ρ : List Addr), RV X.K H ρ (g i j) (gd i j))
    (hF : ∀ dx dy st, (∃ i j, dx = .int i ∧ dy = .int j ∧ F dx dy st = .ok (gd i j) st) ∨ F dx dy st = .bad) : OpD X W (rI0 g) F := by
  intro σ ρ H st x y dx dy Q s rx ry h
  rcases hF dx dy st with ⟨i, j, rfl, rfl, e⟩ | e
  · cases rx; cases ry
    rw [e] at h
    exact ⟨i, j, rfl, rfl, OO.done h s (hg i j H ρ)⟩
  · rw [e] at h; exact h.elim
theorem opd_or {r r' : R2} {F F' : D → D → Store → Out D} (h1 : OpD X W r F) (h2 : OpD X W r' F') {G : D → D → Store → Out D} (hG : ∀ dx dy st, G dx dy st = F dx dy st ∨ G dx dy st = F' dx dy st) : OpD X W (fun x y H Q => r x y H Q ∨ r' x y H Q) G := by
  intro σ ρ H st x y dx dy Q s rx ry h
  rcases hG dx dy st with e | e
  · rw [e] at h; exact .inl (h1 σ ρ H st x y dx dy Q s rx ry h)
  · rw [e] at h; exact .inr (h2 σ ρ H st x y dx dy Q s rx ry h)
def subV : D → D → Store → Out D
  | .int i, .int j, st => .ok (.int (i - j)) st
  | _, _, _ => .bad
theorem od_sub : OpD X W (rI0 fun i j => .int (i - j)) subV := opd_int0 (fun _ _ _ _ => .int _) fun dx dy st => by
  unfold subV; split
  · exact .inl ⟨_, _, rfl, rfl, rfl⟩
  · exact .inr rfl
/-- the tracked list that a datum is -/
def lstOf (st : Store) : D → Option (List D)
  | .lst l => some l
  | .ref n => (match st[n]? with
    | some (.lst l) => some l
    | _ => none)
  | _ => none
theorem lstOf_read {K : PySem.W.Frag} {H : Hp} {ρ : List Addr} {st : Store} {v : V} {d : D} {l : List D} (s : RS K H ρ st) (r : RV K H ρ v d) (h : lstOf st d = some l) : ∃ a vs, v = .ref a ∧ H a = some (.lst vs) ∧ RVs K H ρ vs l := by
  cases r with
  | lst h1 h2 h3 => cases h; exact ⟨_, _, rfl, h1, h3⟩
  | @ref a n h1 =>
    have h : (match st[n]? with | some (.lst l) => some l | _ => none) = some l := h
    cases e : st[n]? with
    | none => simp only [e] at h; cases h
    | some c =>
      cases c with
      | dic _ => simp only [e] at h; cases h
      | lst l =>
        simp only [e] at h; cases h
        obtain ⟨vs, q1, q2⟩ := s.cell n a _ h1 e
        exact ⟨a, vs, rfl, q1, q2⟩
  | _ => cases h
def catL (d e : D) (st : Store) : Out D := match lstOf st d, lstOf st e with
  | some l, some m => if l.length + m.length ≤ 16777216 then .ok (.ref st.length) (st ++ [.lst (l ++ m)]) else .bad
  | _, _ => .bad
def addI (d e : D) (st : Store) : Out D := match d, e with
  | .int i, .int j => .ok (.int (i + j)) st
  | _, _ => .bad
def addS (d e : D) (st : Store) : Out D := match d, e with
  | .str x, .str y => if x.length + y.length ≤ 16777216 then .ok (.str (x ++ y)) st else .bad
  | _, _ => .bad
def addT (d e : D) (st : Store) : Out D := match d, e with
  | .tup l, .tup m => if l.length + m.length ≤ 16777216 then .ok (.tup (l ++ m)) st else .bad
  | _, _ => .bad
def addV (d e : D) (st : Store) : Out D := match d with
  | .int _ => addI d e st
  | .str _ => addS d e st
  | .tup _ => addT d e st
  | _ => catL d e st
theorem ref_new {K : PySem.W.Frag} {H : Hp} {ρ : List Addr} {st : Store} (s : RS K H ρ st) (p : Addr) : (ρ ++ [p])[st.length]? = some p := by rw [← s.len, List.getElem?_append_right (Nat.le_refl _)]; simp
theorem od_cat : OpD X W rCat catL := by
  intro σ ρ H st x y dx dy Q s rx ry h
  unfold catL at h
  split at h
  · rename_i l m e1 e2
    split at h
    · rename_i hl
      obtain ⟨a, vs, rfl, h1, r1⟩ := lstOf_read s rx e1
      obtain ⟨b, ws, rfl, h2, r2⟩ := lstOf_read s ry e2
      refine ⟨a, b, vs, ws, rfl, rfl, h1, h2, by rw [r1.length, r2.length, sizeLine_eq]; exact hl, fun p hp => ?_⟩
      exact OO.here h (Ext.cell hp) (s.newL hp (r1.append r2)) (.ref (ref_new s p))
    · exact h.elim
  · exact h.elim
theorem od_addS : OpD X W (fun x y H Q => ∃ i j, x = .str i ∧ y = .str j ∧ i.length + j.length ≤ sizeLine ∧ Q (.str (i ++ j)) H) addS := by
  intro σ ρ H st x y dx dy Q s rx ry h
  unfold addS at h
  split at h
  · split at h
    · rename_i hl
      cases rx; cases ry
      exact ⟨_, _, rfl, rfl, by rw [sizeLine_eq]; exact hl, OO.done h s (.str _)⟩
    · exact h.elim
  · exact h.elim
theorem od_addT : OpD X W (rCatA X.K) addT := by
  intro σ ρ H st x y dx dy Q s rx ry h
  unfold addT at h
  split at h
  · split at h
    · rename_i l m hl
      cases rx with
      | @tup a vs ds h1 r1 =>
        cases ry with
        | @tup b ws es h2 r2 =>
          refine ⟨a, b, vs, ws, rfl, rfl, h1.sq, h2.sq, by rw [r1.length, r2.length, sizeLine_eq]; exact hl, fun e => ?_, fun n e => ?_, fun n n' p hp => ?_⟩
          · subst e
            cases r1
            exact OO.done h s (.tup h2 r2)
          · subst e
            cases r2
            rw [List.append_nil] at h
            exact OO.done h s (.tup h1 r1)
          · have x := Ext.laid (ρ := ρ) (o := .tup (vs ++ ws)) hp
            exact OO.here h x (s.laid hp) (.tup (.inl ⟨upd_same, s.out hp⟩) (RVs.ext x _ (r1.append r2)))
    · exact h.elim
  · exact h.elim
theorem od_addI : OpD X W (rI0 fun i j => .int (i + j)) addI := opd_int0 (fun _ _ _ _ => .int _) fun dx dy st => by
  unfold addI; split
  · exact .inl ⟨_, _, rfl, rfl, rfl⟩
  · exact .inr rfl
variable {a b c e : Expr} {es : List Expr} {fa fb fc f : LS → Store → Out D} {fr : LS → Store → Out (List D)} {pos p : Pos}
theorem de_add (ha : DE X W a fa) (hb : DE X W b fb) : DE X W (.BinOp a .Add b pos) (bin2 addV fa fb) :=
  de_bin (op_add.or (op_add_str.or (op_catA.or op_cat))) (opd_or od_addI (opd_or od_addS (opd_or (G := fun d e st => match d with | .tup _ => addT d e st | _ => catL d e st) od_addT od_cat (fun dx dy st => by cases dx <;> first | exact .inl rfl | exact .inr rfl))
    (G := fun d e st => match d with | .str _ => addS d e st | .tup _ => addT d e st | _ => catL d e st) (fun dx dy st => by cases dx <;> first | exact .inl rfl | exact .inr rfl)) (fun dx dy st => by cases dx <;> first | exact .inl rfl | exact .inr rfl)) ha hb
theorem de_sub (ha : DE X W a fa) (hb : DE X W b fb) : DE X W (.BinOp a .Sub b pos) (bin2 subV fa fb) := de_bin op_sub od_sub ha hb
/-- a product: one factor small, or both not too long -/
noncomputable def mulOk (i j : Int) : Bool := okP ((-18446744073709551616 < i ∧ i < 18446744073709551616) ∨ (-18446744073709551616 < j ∧ j < 18446744073709551616) ∨ i.natAbs.log2 + j.natAbs.log2 < 1000000)
noncomputable def mulI (d e : D) (st : Store) : Out D := match d, e with
  | .int i, .int j => if mulOk i j = true then .ok (.int (i * j)) st else .bad
  | _, _ => .bad
noncomputable def repL (d e : D) (st : Store) : Out D := match lstOf st d, e with
  | some l, .int k => if okP (k ≤ 1000 ∧ -1000 ≤ k ∧ l.length ≤ 1000) = true then .ok (.ref st.length) (st ++ [.lst (List.replicate k.toNat l).flatten]) else .bad
  | _, _ => .bad
noncomputable def mulV (d e : D) (st : Store) : Out D := match d with
  | .int _ => mulI d e st
  | _ => repL d e st
theorem mulOk_l {i j : Int} (h : -18446744073709551616 < i) (h' : i < 18446744073709551616) : mulOk i j = true := okP_of (.inl ⟨h, h'⟩)
theorem mulOk_r {i j : Int} (h : -18446744073709551616 < j) (h' : j < 18446744073709551616) : mulOk i j = true := okP_of (.inr (.inl ⟨h, h'⟩))
theorem mulOk_ok {i j : Int} (h : mulOk i j = true) : IntMulOk i j := by
  rcases okP_iff.mp h with h | h | h
  · exact CMul.ok (.inl ⟨by omega, by omega⟩)
  · exact CMul.ok (.inr ⟨by omega, by omega⟩)
  · exact CMulW.ok h
theorem op_mulG : OpR X (binaryOp .Mult) (rI (fun i j => IntMulOk i j) fun i j => .int (i * j)) := opI fun _ _ _ _ _ _ _ hc q => mul_int q hc
theorem od_mul : OpD X W (rI (fun i j => IntMulOk i j) fun i j => .int (i * j)) mulI := opd_int (fun _ _ _ _ => .int _) fun dx dy st => by
  unfold mulI; split
  · split
    · rename_i h
      exact .inl ⟨_, _, rfl, rfl, mulOk_ok h, rfl⟩
    · exact .inr rfl
  · exact .inr rfl
theorem RVs.rep {K : PySem.W.Frag} {H : Hp} {ρ : List Addr} {vs : List V} {l : List D} (r : RVs K H ρ vs l) : ∀ k : Nat, RVs K H ρ (List.replicate k vs).flatten (List.replicate k l).flatten
  | 0 => .nil
  | k + 1 => by
    rw [List.replicate_succ, List.replicate_succ, List.flatten_cons, List.flatten_cons]
    exact r.append (RVs.rep r k)
theorem od_rep : OpD X W rRep repL := by
  intro σ ρ H st x y dx dy Q s rx ry h
  unfold repL at h
  split at h
  · rename_i l k e1
    split at h
    · rename_i hl
      have hl := okP_iff.mp hl
      obtain ⟨a, vs, rfl, h1, r1⟩ := lstOf_read s rx e1
      cases ry
      refine ⟨a, k, vs, rfl, rfl, h1, by omega, by omega, ?_, fun p hp => ?_⟩
      · rw [r1.length, sizeLine_eq]
        have h2 : k.toNat ≤ 1000 := by omega
        calc l.length * k.toNat ≤ 1000 * 1000 := Nat.mul_le_mul hl.2.2 h2
          _ ≤ 16777216 := by decide
      · exact OO.here h (Ext.cell hp) (s.newL hp (r1.rep _)) (.ref (ref_new s p))
    · exact h.elim
  · exact h.elim
theorem de_mul (ha : DE X W a fa) (hb : DE X W b fb) : DE X W (.BinOp a .Mult b pos) (bin2 mulV fa fb) :=
  de_bin (op_mulG.or op_rep) (opd_or od_mul od_rep fun dx dy st => by cases dx <;> first | exact .inl rfl | exact .inr rfl) ha hb
/-- division by what is not 0, not too long -/
noncomputable def divOk (j : Int) : Bool := okP (j ≠ 0 ∧ ((-18446744073709551616 < j ∧ j < 18446744073709551616) ∨ j.natAbs.log2 < 9000))
noncomputable def fdivV (d e : D) (st : Store) : Out D := match d, e with
  | .int i, .int j => if divOk j = true then .ok (.int (i.fdiv j)) st else .bad
  | _, _ => .bad
theorem divOk_small {j : Int} (h : j ≠ 0) (h0 : -18446744073709551616 < j) (h' : j < 18446744073709551616) : divOk j = true := okP_of ⟨h, .inl ⟨h0, h'⟩⟩
theorem divOk_log {j : Int} (h : divOk j = true) : j ≠ 0 ∧ j.natAbs.log2 < 9000 := by
  obtain ⟨h1, h2⟩ := okP_iff.mp h
  refine ⟨h1, ?_⟩
  rcases h2 with h2 | h2
  · have : j.natAbs.log2 < 64 := by
      by_cases hz : j.natAbs = 0
      · rw [hz]; decide
      · rw [Nat.log2_lt hz]; omega
    omega
  · exact h2
theorem op_fdivG : OpR X (binaryOp .FloorDiv) (rI (fun _ j => j ≠ 0 ∧ j.natAbs.log2 < 9000) fun i j => .int (i.fdiv j)) := opI fun i j _ _ _ _ _ hc q => floordiv_int hc.1 q (.inl (PyProof.noPylong_of_log2 hc.2))
theorem od_fdiv : OpD X W (rI (fun _ j => j ≠ 0 ∧ j.natAbs.log2 < 9000) fun i j => .int (i.fdiv j)) fdivV := opd_int (gd := fun i j => .int (i.fdiv j)) (fun _ _ _ _ => .int _) fun dx dy st => by
  unfold fdivV; split
  · split
    · rename_i i j h
      exact .inl ⟨_, _, rfl, rfl, divOk_log h, rfl⟩
    · exact .inr rfl
  · exact .inr rfl
theorem de_fdiv (ha : DE X W a fa) (hb : DE X W b fb) : DE X W (.BinOp a .FloorDiv b pos) (bin2 fdivV fa fb) := de_bin op_fdivG od_fdiv ha hb
def modV (d e : D) (st : Store) : Out D := match d, e with
  | .int i, .int j => if j = 0 then .bad else .ok (.int (i.fmod j)) st
  | _, _ => .bad
theorem od_mod : OpD X W (rI (fun _ j => j ≠ 0) fun i j => .int (i.fmod j)) modV := opd_int (gd := fun i j => .int (i.fmod j)) (fun _ _ _ _ => .int _) fun dx dy st => by
  unfold modV; split
  · split
    · exact .inr rfl
    · rename_i i j h
      exact .inl ⟨_, _, rfl, rfl, h, rfl⟩
  · exact .inr rfl
theorem de_mod (ha : DE X W a fa) (hb : DE X W b fb) : DE X W (.BinOp a .Mod b pos) (bin2 modV fa fb) := de_bin op_modN od_mod ha hb
noncomputable def powV (d e : D) (st : Store) : Out D := match d, e with
  | .int i, .int j => if okP (0 ≤ j ∧ j ≤ 1000 ∧ -18446744073709551616 < i ∧ i < 18446744073709551616) = true then .ok (.int (i ^ j.toNat)) st else .bad
  | _, _ => .bad
theorem od_pow : OpD X W (rI CPow fun i j => .int (i ^ j.toNat)) powV := opd_int (fun _ _ _ _ => .int _) fun dx dy st => by
  unfold powV; split
  · split
    · rename_i h
      have h := okP_iff.mp h
      exact .inl ⟨_, _, rfl, rfl, ⟨h.1, by omega, by omega⟩, rfl⟩
    · exact .inr rfl
  · exact .inr rfl
theorem de_pow (ha : DE X W a fa) (hb : DE X W b fb) : DE X W (.BinOp a .Pow b pos) (bin2 powV fa fb) := de_bin op_pow od_pow ha hb
def negV (d : D) (st : Store) : Out D := match d with
  | .int i => .ok (.int (-i)) st
  | _ => .bad
theorem ud_neg : UnD X W (rU fun i => .int (-i)) negV := by
  intro σ ρ H st x dx Q s rx h
  unfold negV at h
  split at h
  · cases rx
    exact ⟨_, rfl, OO.done h s (.int _)⟩
  · exact h.elim
theorem de_neg (ha : DE X W a fa) : DE X W (.UnaryOp .USub a pos) (un1 negV fa) := de_un un_neg ud_neg ha

/-! ### comparisons -/
def ltV (d e : D) (st : Store) : Out D := match d, e with
  | .int i, .int j => .ok (.bl (decide (i < j))) st
  | _, _ => .bad
def leV (d e : D) (st : Store) : Out D := match d, e with
  | .int i, .int j => .ok (.bl (decide (i ≤ j))) st
  | _, _ => .bad
def gtV (d e : D) (st : Store) : Out D := match d, e with
  | .int i, .int j => .ok (.bl (decide (j < i))) st
  | _, _ => .bad
def geV (d e : D) (st : Store) : Out D := match d, e with
  | .int i, .int j => .ok (.bl (decide (j ≤ i))) st
  | _, _ => .bad
theorem od_lt : OpD X W (rI0 fun i j => .bl (decide (i < j))) ltV := opd_int0 (fun _ _ _ _ => .bl _) fun dx dy st => by
  unfold ltV; split
  · exact .inl ⟨_, _, rfl, rfl, rfl⟩
  · exact .inr rfl
theorem od_le : OpD X W (rI0 fun i j => .bl (decide (i ≤ j))) leV := opd_int0 (fun _ _ _ _ => .bl _) fun dx dy st => by
  unfold leV; split
  · exact .inl ⟨_, _, rfl, rfl, rfl⟩
  · exact .inr rfl
theorem od_gt : OpD X W (rI0 fun i j => .bl (decide (j < i))) gtV := opd_int0 (fun _ _ _ _ => .bl _) fun dx dy st => by
  unfold gtV; split
  · exact .inl ⟨_, _, rfl, rfl, rfl⟩
  · exact .inr rfl
theorem od_ge : OpD X W (rI0 fun i j => .bl (decide (j ≤ i))) geV := opd_int0 (fun _ _ _ _ => .bl _) fun dx dy st => by
  unfold geV; split
  · exact .inl ⟨_, _, rfl, rfl, rfl⟩
  · exact .inr rfl
/-- data as data -/
def toP (st : Store) : Nat → D → Option PyData
  | 0, _ => none
  | _ + 1, .non => some .none
  | _ + 1, .bl b => some (.bool b)
  | _ + 1, .int i => some (.int i)
  | _ + 1, .str x => some (.str x)
  | n + 1, .tup l => (l.mapM (toP st n)).map .tuple
  | n + 1, .lst l => (l.mapM (toP st n)).map .list
  | n + 1, .cst l => (l.mapM (toP st n)).map .list
  | n + 1, .ref m => (match st[m]? with
    | some (.lst l) => (l.mapM (toP st n)).map .list
    | _ => none)
  | _ + 1, .adr _ => none
theorem mapM_read {K : PySem.W.Frag} {H : Hp} {ρ : List Addr} {f : D → Option PyData} (hf : ∀ d v p, RV K H ρ v d → f d = some p → Dp K H v p) : ∀ {l : List D} {vs : List V} {ps : List PyData}, RVs K H ρ vs l → l.mapM f = some ps → DpAll K H vs ps
  | [], _, _, .nil, h => by
    simp at h; subst h; exact .nil
  | d :: l, _, _, .cons r t, h => by
    simp only [List.mapM_cons] at h
    cases e1 : f d with
    | none => rw [e1] at h; simp at h
    | some p =>
      rw [e1] at h
      cases e2 : l.mapM f with
      | none => rw [e2] at h; simp at h
      | some ps' =>
        rw [e2] at h
        simp at h
        subst h
        exact .cons (hf d _ p r e1) (mapM_read hf t e2)
theorem toP_read {K : PySem.W.Frag} {H : Hp} {ρ : List Addr} {st : Store} (s : RS K H ρ st) : ∀ (n : Nat) (d : D) (v : V) (p : PyData), RV K H ρ v d → toP st n d = some p → Dp K H v p
  | 0, _, _, _, _, h => by cases h
  | n + 1, d, v, p, r, h => by
    have ih := toP_read s n
    have key : ∀ {l : List D} {vs : List V} {g : List PyData → PyData}, RVs K H ρ vs l → (l.mapM (toP st n)).map g = some p → ∃ ps, p = g ps ∧ DpAll K H vs ps := by
      intro l vs g rs hh
      cases e : l.mapM (toP st n) with
      | none => rw [e] at hh; cases hh
      | some ps =>
        rw [e] at hh
        exact ⟨ps, (Option.some.inj hh).symm, mapM_read (fun d v p r h => ih d v p r h) rs e⟩
    cases r with
    | non => cases h; exact .non
    | bl b => cases h; exact .bl b
    | int i => cases h; exact .int i
    | str x => cases h; exact .str x
    | tup h1 h2 =>
      obtain ⟨ps, rfl, q⟩ := key (g := .tuple) h2 h
      exact .tup h1.sq q
    | lst h1 _ h2 =>
      obtain ⟨ps, rfl, q⟩ := key (g := .list) h2 h
      exact .lst (.inl (.inl h1)) q
    | cst h1 h2 =>
      obtain ⟨ps, rfl, q⟩ := key (g := .list) h2 h
      exact .lst h1.sq q
    | @ref a m h1 =>
      have h : (match st[m]? with | some (.lst l) => (l.mapM (toP st n)).map PyData.list | _ => none) = some p := h
      cases e : st[m]? with
      | none => simp only [e] at h; cases h
      | some c =>
        cases c with
        | dic _ => simp only [e] at h; cases h
        | lst l =>
          simp only [e] at h
          obtain ⟨vs, q1, q2⟩ := s.cell m a _ h1 e
          obtain ⟨ps, rfl, q⟩ := key (g := .list) q2 h
          exact .lst (.inl (.inl q1)) q
    | adr => cases h
def eqG (neg : Bool) (d e : D) (st : Store) : Out D := match toP st 60 d, toP st 60 e with
  | some p, some q => if SeqAt.shaped p = true ∧ SeqAt.shaped q = true then .ok (.bl (if neg then !PyData.eqv p q else PyData.eqv p q)) st else .bad
  | _, _ => .bad
def twoS : D → D → Option (Str × Str)
  | .str x, .str y => some (x, y)
  | _, _ => none
def eqS (neg : Bool) (d e : D) (st : Store) : Out D := match twoS d e with
  | some p => .ok (.bl (if neg then !decide (p.1 = p.2) else decide (p.1 = p.2))) st
  | none => .bad
def eqF (neg : Bool) (d e : D) (st : Store) : Out D := if (twoS d e).isSome = true then eqS neg d e st else eqG neg d e st
abbrev eqV := eqF false
abbrev neV := eqF true
theorem od_eqG : OpD X W (rEqD X.K) (eqG false) := by
  intro σ ρ H st x y dx dy Q s rx ry h
  unfold eqG at h
  split at h
  · rename_i p q e1 e2
    split at h
    · rename_i hl
      exact ⟨p, q, toP_read s _ _ _ _ rx e1, toP_read s _ _ _ _ ry e2, hl.1, hl.2, OO.done h s (.bl _)⟩
    · exact h.elim
  · exact h.elim
theorem od_neG : OpD X W (rNeD X.K) (eqG true) := by
  intro σ ρ H st x y dx dy Q s rx ry h
  unfold eqG at h
  split at h
  · rename_i p q e1 e2
    split at h
    · rename_i hl
      exact ⟨p, q, toP_read s _ _ _ _ rx e1, toP_read s _ _ _ _ ry e2, hl.1, hl.2, OO.done h s (.bl _)⟩
    · exact h.elim
  · exact h.elim
theorem twoS_some {d e : D} {p : Str × Str} (h : twoS d e = some p) : d = .str p.1 ∧ e = .str p.2 := by
  unfold twoS at h
  split at h
  · cases h; exact ⟨rfl, rfl⟩
  · cases h
theorem od_eqS : OpD X W rEq (eqS false) := by
  intro σ ρ H st x y dx dy Q s rx ry h
  unfold eqS at h
  cases e : twoS dx dy with
  | none => rw [e] at h; exact h.elim
  | some p =>
    simp only [e] at h
    obtain ⟨rfl, rfl⟩ := twoS_some e
    cases rx; cases ry
    refine ⟨rfl, ?_⟩
    have q : decide (V.str p.1 = V.str p.2) = decide (p.1 = p.2) := by simp
    rw [q]
    exact OO.done h s (.bl _)
theorem od_neS : OpD X W rNe (eqS true) := by
  intro σ ρ H st x y dx dy Q s rx ry h
  unfold eqS at h
  cases e : twoS dx dy with
  | none => rw [e] at h; exact h.elim
  | some p =>
    simp only [e] at h
    obtain ⟨rfl, rfl⟩ := twoS_some e
    cases rx; cases ry
    refine ⟨rfl, ?_⟩
    have q : decide (V.str p.1 = V.str p.2) = decide (p.1 = p.2) := by simp
    rw [q]
    exact OO.done h s (.bl _)
theorem eqF_or (neg : Bool) (d e : D) (st : Store) : eqF neg d e st = eqS neg d e st ∨ eqF neg d e st = eqG neg d e st := by
  unfold eqF
  split
  · exact .inl rfl
  · exact .inr rfl
/-- in, not in, over a list or a tuple -/
def inF (neg : Bool) (d e : D) (st : Store) : Out D := match toP st 60 d, toP st 60 e with
  | some p, some (.list qs) => if SeqAt.shaped p = true ∧ SeqAt.shaped (.list qs) = true then .ok (.bl (if neg then !qs.any fun z => PyData.eqv z p else qs.any fun z => PyData.eqv z p)) st else .bad
  | _, _ => .bad
theorem od_in : OpD X W (rInD X.K) (inF false) := by
  intro σ ρ H st x y dx dy Q s rx ry h
  unfold inF at h
  split at h
  · rename_i p q e1 e2
    split at h
    · rename_i hl
      exact ⟨p, q, toP_read s _ _ _ _ rx e1, toP_read s _ _ _ _ ry e2, hl.1, hl.2, OO.done h s (.bl _)⟩
    · exact h.elim
  · exact h.elim
theorem od_notIn : OpD X W (rNotInD X.K) (inF true) := by
  intro σ ρ H st x y dx dy Q s rx ry h
  unfold inF at h
  split at h
  · rename_i p q e1 e2
    split at h
    · rename_i hl
      exact ⟨p, q, toP_read s _ _ _ _ rx e1, toP_read s _ _ _ _ ry e2, hl.1, hl.2, OO.done h s (.bl _)⟩
    · exact h.elim
  · exact h.elim
/-- is None, is not None -/
def isNonF (neg : Bool) (d e : D) (st : Store) : Out D := match d, e with
  | .non, .non => .ok (.bl (!neg)) st
  | _, .non => .ok (.bl neg) st
  | _, _ => .bad
theorem od_isN : OpD X W (fun x y H Q => y = .non ∧ Q (.bl (decide (x = .non))) H) (isNonF false) := by
  intro σ ρ H st x y dx dy Q s rx ry h
  cases ry <;> try (cases rx <;> exact h.elim)
  cases rx <;> exact ⟨rfl, OO.done h s (show RV X.K H ρ _ _ from by simpa using RV.bl _)⟩
theorem od_notN : OpD X W (fun x y H Q => y = .non ∧ Q (.bl (!decide (x = .non))) H) (isNonF true) := by
  intro σ ρ H st x y dx dy Q s rx ry h
  cases ry <;> try (cases rx <;> exact h.elim)
  cases rx <;> exact ⟨rfl, OO.done h s (show RV X.K H ρ _ _ from by simpa using RV.bl _)⟩
def isBlF (neg : Bool) (d e : D) (st : Store) : Out D := match d, e with
  | .bl x, .bl y => .ok (.bl (if neg then !decide (x = y) else decide (x = y))) st
  | _, _ => .bad
theorem od_isB : OpD X W rIsB (isBlF false) := by
  intro σ ρ H st x y dx dy Q s rx ry h
  unfold isBlF at h
  split at h
  · cases rx; cases ry
    exact ⟨_, _, rfl, rfl, OO.done h s (.bl _)⟩
  · exact h.elim
theorem od_notB : OpD X W rNotB (isBlF true) := by
  intro σ ρ H st x y dx dy Q s rx ry h
  unfold isBlF at h
  split at h
  · cases rx; cases ry
    exact ⟨_, _, rfl, rfl, OO.done h s (.bl _)⟩
  · exact h.elim
/-- the operators that a comparison may hold, each with its function -/
structure CmpD (X : Cx) (W : WX) (op : CmpOp) (F : D → D → Store → Out D) : Prop where
  ex : ∃ r : R2, OpR X (compareOp op) r ∧ OpD X W r F
variable {k : Nat}
theorem cm_lt : CmpD X W .Lt ltV := ⟨_, op_lt, od_lt⟩
theorem cm_le : CmpD X W .LtE leV := ⟨_, op_le, od_le⟩
theorem cm_gt : CmpD X W .Gt gtV := ⟨_, op_gt, od_gt⟩
theorem cm_ge : CmpD X W .GtE geV := ⟨_, op_ge, od_ge⟩
theorem cm_eq (C : Ctx X W k) : CmpD X W .Eq eqV := ⟨_, op_eq.or (op_eqD C.rm.units), opd_or od_eqS od_eqG (eqF_or false)⟩
theorem cm_ne (C : Ctx X W k) : CmpD X W .NotEq neV := ⟨_, op_ne.or (op_neD C.rm.units), opd_or od_neS od_neG (eqF_or true)⟩
theorem cm_isN : CmpD X W .Is (isNonF false) := ⟨_, op_isN, od_isN⟩
theorem cm_notN : CmpD X W .IsNot (isNonF true) := ⟨_, op_notN, od_notN⟩
theorem cm_isB : CmpD X W .Is (isBlF false) := ⟨_, op_isBl, od_isB⟩
theorem cm_notB : CmpD X W .IsNot (isBlF true) := ⟨_, op_notBl, od_notB⟩
theorem cm_in (C : Ctx X W k) : CmpD X W .In (inF false) := ⟨_, op_inD (by have := C.rm.un; omega), od_in⟩
theorem cm_notIn (C : Ctx X W k) : CmpD X W .NotIn (inF true) := ⟨_, op_notInD (by have := C.rm.un; omega), od_notIn⟩
variable {F G : D → D → Store → Out D} {op op' : CmpOp}
theorem de_c (hc : CmpD X W op F) (ha : DE X W a fa) (hb : DE X W b fb) (hm : behindInMarks op b = false := by first | exact nobehind _ (by decide) (by decide) | rfl) : DE X W (.Compare a [op] [b] pos) (bin2 F fa fb) :=
  let ⟨_, h1, h2⟩ := hc.ex; de_cmp h1 h2 ha hb hm
theorem dt_c (hc : CmpD X W op F) (ha : DE X W a fa) (hb : DE X W b fb) (hm : behindInMarks op b = false := by first | exact nobehind _ (by decide) (by decide) | rfl) : DT X W (.Compare a [op] [b] pos) (boolD (bin2 F fa fb)) :=
  let ⟨_, h1, h2⟩ := hc.ex; dt_cmp h1 h2 ha hb hm
/-- a < b < c -/
def chainD (F G : D → D → Store → Out D) (fa fb fc : LS → Store → Out D) : LS → Store → Out D := fun ls st => (fa ls st).bind fun x st1 => (fb ls st1).bind fun y st2 => (asB (F x y st2)).bind fun k st3 =>
  if k = true then (fc ls st3).bind fun z st4 => G y z st4 else .ok (.bl false) st3
theorem asB_OO {o : Out D} {f : Bool → Store → Out D} {σ : SV} {Q : VK} {ρ : List Addr} {H : Hp} {K : PySem.W.Frag} {mg : Str → Option Value} (h : OO K mg W (rV K) σ Q ρ H ((asB o).bind f)) :
    OO K mg W (rV K) σ (fun v H1 => ∃ b ρ1 st1, v = .bl b ∧ Ext ρ H ρ1 H1 ∧ RS K H1 ρ1 st1 ∧ OO K mg W (rV K) σ Q ρ1 H1 (f b st1)) ρ H o := by
  cases o with
  | bad => exact h
  | ex _ _ => exact h
  | ok d st =>
    cases d with
    | bl b =>
      intro ρ1 v H1 x s r
      cases r
      exact ⟨b, ρ1, st, rfl, x, s, OO.grow (by exact h) x⟩
    | _ => exact h.elim
theorem chain_read {r r' : R2} (hd : OpD X W r F) (hd' : OpD X W r' G) {σ : SV} {H : Hp} {Q : VK} (h : tE X.K X.mg W (chainD F G fa fb fc) σ H Q) : tChain r r' (tE X.K X.mg W fa) (tE X.K X.mg W fb) (tE X.K X.mg W fc) σ H Q := by
  obtain ⟨ρ, ls, st, A, q⟩ := h
  refine tF_bind (R2 := rV X.K) (f := fun ls x st1 => (fb ls st1).bind fun y st2 => (asB (F x y st2)).bind fun k st3 => if k = true then (fc ls st3).bind fun z st4 => G y z st4 else .ok (.bl false) st3) A q fun ρ1 x H1 dx st1 e1 A1 r1 q1 => ?_
  refine tF_bind (R2 := rV X.K) (f := fun ls y st2 => (asB (F dx y st2)).bind fun k st3 => if k = true then (fc ls st3).bind fun z st4 => G y z st4 else .ok (.bl false) st3) A1 q1 fun ρ2 y H2 dy st2 e2 A2 r2 q2 => ?_
  refine hd σ ρ2 H2 st2 x y dx dy _ A2.sto (RV.ext e2 _ r1) r2 ((asB_OO q2).mono ?_)
  rintro v H3 ⟨k, ρ3, st3, rfl, e3, s3, q3⟩
  refine ⟨k, rfl, ?_⟩
  cases k with
  | true =>
    rw [if_pos rfl] at q3 ⊢
    exact tF_bind (R2 := rV X.K) (f := fun _ z st4 => G dy z st4) (A2.grow e3 s3) q3 fun ρ4 z H4 dz st4 e4 A4 r4 q4 => hd' σ ρ4 H4 st4 y z dy dz Q A4.sto (RV.ext (e3.trans e4) _ r2) r4 q4
  | false =>
    rw [if_neg Bool.false_ne_true] at q3 ⊢
    exact OO.done q3 s3 (.bl false)
theorem de_chain (h1 : CmpD X W op F) (h2 : CmpD X W op' G) (ha : DE X W a fa) (hb : DE X W b fb) (hc : DE X W c fc) (hm : lastMarks [op, op'] [b, c] = false := by with_unfolding_all rfl) : DE X W (.Compare a [op, op'] [b, c] pos) (chainD F G fa fb fc) :=
  let ⟨_, o1, d1⟩ := h1.ex
  let ⟨_, o2, d2⟩ := h2.ex
  pe_imp (pe_chain o1 o2 ha hb hc hm) fun _ _ _ h => chain_read d1 d2 h
theorem dt_chain (h1 : CmpD X W op F) (h2 : CmpD X W op' G) (ha : DE X W a fa) (hb : DE X W b fb) (hc : DE X W c fc) (hm : lastMarks [op, op'] [b, c] = false := by with_unfolding_all rfl) : DT X W (.Compare a [op, op'] [b, c] pos) (boolD (chainD F G fa fb fc)) :=
  let ⟨_, o1, d1⟩ := h1.ex
  let ⟨_, o2, d2⟩ := h2.ex
  pt_imp (pt_chain o1 o2 ha hb hc hm) fun σ H Q h => by
    obtain ⟨ρ, ls, st, A, q⟩ := h
    exact chain_read d1 d2 ⟨ρ, ls, st, A, asB_read q⟩

/-! ### subscripts -/
def ixD (d e : D) (st : Store) : Out D := match itsOf d st, e with
  | some its, .int i => (match atI its.l i with
    | some v => .ok v st
    | none => .bad)
  | _, _ => .bad
theorem RVs.atI {K : PySem.W.Frag} {H : Hp} {ρ : List Addr} {vs : List V} {l : List D} {i : Int} {d : D} (r : RVs K H ρ vs l) (h : L2.atI l i = some d) : ∃ v, L2.atI vs i = some v ∧ RV K H ρ v d := by
  unfold L2.atI at h ⊢
  rw [r.length]
  cases e : ixN l.length i with
  | none => rw [e] at h; cases h
  | some j =>
    rw [e] at h
    exact r.get h
theorem od_ix : OpD X W (rIx X.K) ixD := by
  intro σ ρ H st x y dx dy Q s rx ry h
  unfold ixD at h
  split at h
  · rename_i its i e1
    split at h
    · rename_i v e2
      obtain ⟨a, vs, rfl, r1, q⟩ := list_of e1 rx (Ext.refl _ _) s (okB_now e1)
      cases ry
      obtain ⟨w, e3, r3⟩ := r1.atI e2
      rcases q with ⟨_, q⟩ | ⟨_, q⟩
      · exact .inr (.inl ⟨a, vs, _, w, rfl, rfl, q, e3, OO.done h s r3⟩)
      · exact .inl ⟨a, vs, _, w, rfl, rfl, q, e3, OO.done h s r3⟩
    · exact h.elim
  · exact h.elim
theorem de_ix (ha : DE X W a fa) (hb : DE X W b fb) (hs : PlainIx b := by exact (fun _ _ => rfl)) : DE X W (.Subscript a b pos) (bin2 ixD fa fb) := pe_imp (pe_ix ix_seq ha hb hs) fun _ _ _ h => bin_read od_ix h
/-- o[i] = v, o a list that is a cell -/
def setIx (o i v : D) (st : Store) : Out Unit := match o, i with
  | .ref n, .int k => (match st[n]? with
    | some (.lst l) => (match ixN l.length k with
      | some j => .ok () (st.set n (.lst (l.set j v)))
      | none => .bad)
    | _ => .bad)
  | _, _ => .bad
def subG (fo fi : LS → Store → Out D) : D → LS → Store → Out LS := fun d ls st => (fo ls st).bind fun o st1 => (fi ls st1).bind fun i st2 => (setIx o i d st2).bind fun _ st3 => .ok ls st3
theorem GO.bind1 {K : PySem.W.Frag} {mg : Str → Option Value} {W : WX} {o : LS → Store → Out D} {k : LS → D → Store → Out LS} {ls : LS} {st : Store} {σ : SV} {Q : SV → Hp → Prop} {ρ : List Addr} {H : Hp} (A : At K H ρ σ ls st)
    (h : GO K Q ρ H ((o ls st).bind (k ls))) {R1 : VK} (f : ∀ ρ1 v H1 d st1, Ext ρ H ρ1 H1 → At K H1 ρ1 σ ls st1 → RV K H1 ρ1 v d → GO K Q ρ1 H1 (k ls d st1) → R1 v H1) : tE K mg W o σ H R1 := by
  refine ⟨ρ, ls, st, A, ?_⟩
  cases e : o ls st with
  | bad => rw [e] at h; exact h.elim
  | ex _ _ => rw [e] at h; exact h.elim
  | ok d s1 =>
    rw [e] at h
    intro ρ1 v H1 x s r
    refine f ρ1 v H1 d s1 x (A.grow x s) r ?_
    have h : GO K Q ρ H (k ls d s1) := h
    cases e2 : k ls d s1 with
    | bad => rw [e2] at h; exact h.elim
    | ex _ _ => rw [e2] at h; exact h.elim
    | ok l2 s2 => rw [e2] at h; exact fun ρ2 σ2 H2 y A2 => h ρ2 σ2 H2 (x.trans y) A2
theorem dg_sub {o i : Expr} {fo fi : LS → Store → Out D} (ho : DE X W o fo) (hi : DE X W i fi)
    (ha : ∀ v, assign (.Subscript o i pos) X.env v = (do
      let ov ← holding [v] (eval o X.env)
      let iv ← holding [v, ov] (eval i X.env)
      standAt pos
      holding [v, ov, iv] (setItem ov iv v)
      release [v, ov, iv] []) := by intro _; rfl) : DG X (.Subscript o i pos) (subG fo fi) := pg_imp (pg_sub ho hi set_list ha) fun v σ H Q ⟨ρ, ls, st, d, A, r, q⟩ => by
  refine GO.bind1 (W := W) (k := fun ls o st1 => (fi ls st1).bind fun i st2 => (setIx o i d st2).bind fun _ st3 => .ok ls st3) A q fun ρ1 vo H1 dO st1 x1 A1 r1 q1 => ?_
  refine GO.bind1 (W := W) (k := fun ls i st2 => (setIx dO i d st2).bind fun _ st3 => .ok ls st3) A1 q1 fun ρ2 vi H2 di st2 x2 A2 r2 q2 => ?_
  unfold setIx at q2
  split at q2
  · rename_i n k
    split at q2
    · rename_i l el
      split at q2
      · rename_i j ej
        cases r2
        have r1' := RV.ext x2 _ r1
        cases r1' with
        | @ref a _ hr =>
          obtain ⟨ws, g1, g2⟩ := A2.sto.cell n a _ hr el
          refine ⟨a, ws, k, j, rfl, rfl, g1, by rw [g2.length]; exact ej, ?_⟩
          have rd := RV.ext (x1.trans x2) _ r
          exact q2 ρ2 σ _ (Ext.write (List.mem_of_getElem? hr)) (A2.grow (Ext.write (List.mem_of_getElem? hr)) (A2.sto.writeL hr (g2.set rd j)))
      · exact q2.elim
    · exact q2.elim
  · exact q2.elim

/-! ### slices -/
def noP : LS → Store → Out (Option Int) := fun _ st => .ok none st
def someP (f : LS → Store → Out D) : LS → Store → Out (Option Int) := fun ls st => (f ls st).bind fun d st1 => match d with
  | .int i => .ok (some i) st1
  | _ => .bad
theorem dp_none : DP X W none noP := po_imp po_none fun σ H R ⟨ρ, ls, st, A, q⟩ => OO.done q A.sto rfl
theorem dp_some (he : DE X W e f) : DP X W (some e) (someP f) := po_imp (po_some he) fun σ H R ⟨ρ, ls, st, A, q⟩ =>
  tF_bind (R2 := rO) (f := fun _ d st1 => match d with | .int i => .ok (some i) st1 | _ => .bad) A q fun ρ1 x H1 d st1 x1 A1 r1 q1 => by
    cases r1 with
    | int i => exact ⟨i, rfl, OO.done q1 A1.sto rfl⟩
    | _ => exact q1.elim
/-- l[lo:hi] -/
def cutD (l : List D) (lo hi : Option Int) : List D := (l.drop (HT.sIx l.length 0 lo)).take (HT.sIx l.length l.length hi - HT.sIx l.length 0 lo)
def slV (d : D) (lo hi : Option Int) (st : Store) : Out D := match itsOf d st with
  | some its => if isTup d = true then .ok (.tup (cutD its.l lo hi)) st else .ok (.ref st.length) (st ++ [.lst (cutD its.l lo hi)])
  | none => .bad
def slD (f : LS → Store → Out D) (fl fh : LS → Store → Out (Option Int)) : LS → Store → Out D := fun ls st => (f ls st).bind fun d st1 => (fl ls st1).bind fun lo st2 => (fh ls st2).bind fun hi st3 => slV d lo hi st3
theorem RVs.cut {K : PySem.W.Frag} {H : Hp} {ρ : List Addr} {vs : List V} {l : List D} (r : RVs K H ρ vs l) (lo hi : Option Int) : RVs K H ρ (cutV vs lo hi) (cutD l lo hi) := by
  unfold cutV cutD
  rw [r.length]
  exact (r.drop _).take _
theorem cut_whole {l : List D} {lo hi : Option Int} (h : HT.sIx l.length 0 lo = 0 ∧ HT.sIx l.length l.length hi = l.length) : cutD l lo hi = l := by
  unfold cutD
  rw [h.1, h.2]
  simp
theorem de_slice {lo hi : Option Expr} {fl fh : LS → Store → Out (Option Int)} {p2 : Pos} (he : DE X W e f) (hl : DP X W lo fl) (hh : DP X W hi fh) : DE X W (.Subscript e (.Slice lo hi none p2) pos) (slD f fl fh) :=
  pe_imp (pe_slice (sl_list.or sl_tupA) he hl hh) fun σ H Q ⟨ρ, ls, st, A, q⟩ => by
    refine tF_bind (R2 := rV X.K) (f := fun ls d st1 => (fl ls st1).bind fun lo st2 => (fh ls st2).bind fun hi st3 => slV d lo hi st3) A q fun ρ1 x H1 d st1 x1 A1 r1 q1 => ?_
    refine tF_bind (R := rO) (R2 := rV X.K) (f := fun ls lo st2 => (fh ls st2).bind fun hi st3 => slV d lo hi st3) A1 q1 fun ρ2 l H2 dl st2 x2 A2 r2 q2 => ?_
    obtain rfl : l = dl := r2
    refine tF_bind (R := rO) (R2 := rV X.K) (f := fun _ hi st3 => slV d l hi st3) A2 q2 fun ρ3 h H3 dh st3 x3 A3 r3 q3 => ?_
    obtain rfl : h = dh := r3
    have rx := RV.ext (x2.trans x3) _ r1
    unfold slV at q3
    cases e1 : itsOf d st3 with
    | none => rw [e1] at q3; exact q3.elim
    | some its =>
      simp only [e1] at q3
      obtain ⟨a, vs, rfl, rs, k⟩ := list_of e1 rx (Ext.refl _ _) A3.sto (okB_now e1)
      rcases k with ⟨hd, k⟩ | ⟨hd, k⟩
      · rw [if_pos hd] at q3
        refine .inr ⟨a, vs, rfl, k, fun hw => ?_, fun _ p hp => ?_⟩
        · rw [rs.length] at hw
          rw [cut_whole hw] at q3
          refine OO.done q3 A3.sto ?_
          cases rx with
          | tup g1 g2 => cases e1; exact .tup g1 g2
          | _ => cases hd
        · have xx := Ext.laid (ρ := ρ3) (o := .tup (cutV vs l h)) hp
          exact OO.here q3 xx (A3.sto.laid hp) (.tup (.inl ⟨upd_same, A3.sto.out hp⟩) (RVs.ext xx _ (rs.cut l h)))
      · rw [if_neg (by rw [hd]; exact Bool.false_ne_true)] at q3
        exact .inl ⟨a, vs, rfl, k, fun p hp => OO.here q3 (Ext.cell hp) (A3.sto.newL hp (rs.cut l h)) (.ref (ref_new A3.sto p))⟩

/-! ### built-ins -/
/-- f(e, ..) by its rule -/
theorem call_read {r : List V → Hp → VK → Prop} {F : List D → Store → Out D} (hd : CallD X W r F) {σ : SV} {H : Hp} {Q : VK} (h : tE X.K X.mg W (callD F fr) σ H Q) : tCB r (tA X.K X.mg W fr) σ H Q := by
  obtain ⟨ρ, ls, st, A, q⟩ := h
  exact tF_bind (R := rVs X.K) (R2 := rV X.K) (f := fun _ ds st1 => F ds st1) A q fun ρ1 vs H1 ds st1 x1 A1 r1 q1 => hd σ ρ1 H1 st1 vs ds Q A1.sto r1 q1
theorem de_callB {x : Str} {id : String} {r : List V → Hp → VK → Prop} {G : List D → Store → Out D} (hc : CallR X (.builtin id) r) (hd : CallD X W r G) (hm : X.mg x = none) (hv : bootBuiltins x = some (.builtin id)) (ha : DA X W (e :: es) fr) (hg : Gl X x := by rfl) (hn : x ≠ "__name__" := by decide) (hdb : (x == ("__debug__" : Str)) = false := by decide)
    (he : starEach (e :: es) X.env = (false, eval e X.env) :: starEach es X.env := by rfl) (hpl : (backTo pos (starEach es X.env)).any (·.1) = false := by rfl) : DE X W (.Call (.Name x p) (e :: es) [] pos) (callD G fr) :=
  pe_imp (pe_callB hc hg hm hv ha hn hdb he hpl) fun _ _ _ h => call_read hd h
theorem de_callTy {x : Str} {T : String} {r : List V → Hp → VK → Prop} {G : List D → Store → Out D} (hc : CallR X (.type T) r) (hd : CallD X W r G) (hm : X.mg x = none) (hv : bootBuiltins x = some (.type T)) (ha : DA X W (e :: es) fr) (hg : Gl X x := by rfl) (hn : x ≠ "__name__" := by decide) (hdb : (x == ("__debug__" : Str)) = false := by decide)
    (he : starEach (e :: es) X.env = (false, eval e X.env) :: starEach es X.env := by rfl) (hpl : (backTo pos (starEach es X.env)).any (·.1) = false := by rfl) : DE X W (.Call (.Name x p) (e :: es) [] pos) (callD G fr) :=
  pe_imp (pe_callTy hc hg hm hv ha hn hdb he hpl) fun _ _ _ h => call_read hd h
def lenV (ds : List D) (st : Store) : Out D := match ds with
  | [d] => (match itsOf d st with
    | some its => .ok (.int its.l.length) st
    | none => .bad)
  | _ => .bad
theorem cd_len : CallD X W (fun xs H Q => ∃ p ys, xs = [.ref p] ∧ (SqL X.K H p ys ∨ SqT X.K H p ys) ∧ Q (.int ys.length) H) lenV := by
  intro σ ρ H st xs ds Q s r h
  unfold lenV at h
  split at h
  · rename_i d
    cases r with
    | cons r1 r2 =>
      cases r2
      cases e1 : itsOf d st with
      | none => rw [e1] at h; exact h.elim
      | some its =>
        rw [e1] at h
        obtain ⟨a, vs, rfl, rs, k⟩ := list_of e1 r1 (Ext.refl _ _) s (okB_now e1)
        refine ⟨a, vs, rfl, k.elim (fun k => .inr k.2) (fun k => .inl k.2), OO.done h s ?_⟩
        rw [rs.length]; exact .int _
  · exact h.elim
def absV' (ds : List D) (st : Store) : Out D := match ds with
  | [.int i] => .ok (.int (if i < 0 then -i else i)) st
  | _ => .bad
theorem cd_abs : CallD X W (fun xs H Q => ∃ i, xs = [.int i] ∧ Q (.int (if i < 0 then -i else i)) H) absV' := by
  intro σ ρ H st xs ds Q s r h
  unfold absV' at h
  split at h
  · cases r with
    | cons r1 r2 => cases r2; cases r1; exact ⟨_, rfl, OO.done h s (.int _)⟩
  · exact h.elim
def intV (ds : List D) (st : Store) : Out D := match ds with
  | [.int i] => .ok (.int i) st
  | [.bl b] => .ok (.int (if b then 1 else 0)) st
  | _ => .bad
theorem cd_int : CallD X W (fun xs H Q => (∃ i, xs = [.int i] ∧ Q (.int i) H) ∨ ∃ k, xs = [.bl k] ∧ Q (.int (if k then 1 else 0)) H) intV := by
  intro σ ρ H st xs ds Q s r h
  unfold intV at h
  split at h
  · cases r with
    | cons r1 r2 => cases r2; cases r1; exact .inl ⟨_, rfl, OO.done h s (.int _)⟩
  · cases r with
    | cons r1 r2 => cases r2; cases r1; exact .inr ⟨_, rfl, OO.done h s (.int _)⟩
  · exact h.elim
/-- list(x), tuple(x) -/
def listV (ds : List D) (st : Store) : Out D := match ds with
  | [d] => (match itsOf d st with
    | some its => .ok (.ref st.length) (st ++ [.lst its.l])
    | none => .bad)
  | _ => .bad
theorem cd_list : CallD X W (fun xs H Q => ∃ p ys, xs = [.ref p] ∧ (SqL X.K H p ys ∨ SqT X.K H p ys) ∧ ∀ l, H l = none → Q (.ref l) (upd H l (.lst ys))) listV := by
  intro σ ρ H st xs ds Q s r h
  unfold listV at h
  split at h
  · rename_i d
    cases r with
    | cons r1 r2 =>
      cases r2
      cases e1 : itsOf d st with
      | none => rw [e1] at h; exact h.elim
      | some its =>
        rw [e1] at h
        obtain ⟨a, vs, rfl, rs, k⟩ := list_of e1 r1 (Ext.refl _ _) s (okB_now e1)
        exact ⟨a, vs, rfl, k.elim (fun k => .inr k.2) (fun k => .inl k.2), fun p hp => OO.here h (Ext.cell hp) (s.newL hp rs) (.ref (ref_new s p))⟩
  · exact h.elim
def tupleV (ds : List D) (st : Store) : Out D := match ds with
  | [d] => (match itsOf d st with
    | some its => .ok (.tup its.l) st
    | none => .bad)
  | _ => .bad
theorem cd_tuple : CallD X W (fun xs H Q => ∃ p ys, xs = [.ref p] ∧ ((SqL X.K H p ys ∧ ∀ l, H l = none → Q (.ref l) (upd H l (.tup ys))) ∨ (SqT X.K H p ys ∧ Q (.ref p) H))) tupleV := by
  intro σ ρ H st xs ds Q s r h
  unfold tupleV at h
  split at h
  · rename_i d
    cases r with
    | cons r1 r2 =>
      cases r2
      cases e1 : itsOf d st with
      | none => rw [e1] at h; exact h.elim
      | some its =>
        rw [e1] at h
        obtain ⟨a, vs, rfl, rs, k⟩ := list_of e1 r1 (Ext.refl _ _) s (okB_now e1)
        refine ⟨a, vs, rfl, ?_⟩
        rcases k with ⟨hd, k⟩ | ⟨hd, k⟩
        · refine .inr ⟨k, OO.done h s ?_⟩
          cases r1 with
          | tup g1 g2 => cases e1; exact .tup g1 g2
          | _ => cases hd
        · refine .inl ⟨k, fun p hp => ?_⟩
          have xx := Ext.laid (ρ := ρ) (o := .tup vs) hp
          exact OO.here h xx (s.laid hp) (.tup (.inl ⟨upd_same, s.out hp⟩) (RVs.ext xx _ rs))
  · exact h.elim
/-- ints, bools of a list -/
def intsOf : List D → Option (List Int)
  | [] => some []
  | .int i :: l => (intsOf l).map (i :: ·)
  | _ => none
theorem intsOf_eq : ∀ {l : List D} {ns : List Int}, intsOf l = some ns → l = ns.map D.int
  | [], ns, h => by cases h; rfl
  | .int i :: l, ns, h => by
    have h : (intsOf l).map (i :: ·) = some ns := h
    cases e : intsOf l with
    | none => rw [e] at h; cases h
    | some ms => rw [e] at h; cases h; rw [List.map_cons, intsOf_eq e]
  | .non :: _, _, h => by cases h
  | .bl _ :: _, _, h => by cases h
  | .str _ :: _, _, h => by cases h
  | .tup _ :: _, _, h => by cases h
  | .lst _ :: _, _, h => by cases h
  | .cst _ :: _, _, h => by cases h
  | .ref _ :: _, _, h => by cases h
  | .adr _ :: _, _, h => by cases h
theorem intsOf_map : ∀ ns : List Int, intsOf (ns.map D.int) = some ns
  | [] => rfl
  | n :: ns => by rw [List.map_cons]; show (intsOf (ns.map D.int)).map (n :: ·) = _; rw [intsOf_map ns]; rfl
def boolsOf : List D → Option (List Bool)
  | [] => some []
  | .bl i :: l => (boolsOf l).map (i :: ·)
  | _ => none
theorem boolsOf_eq : ∀ {l : List D} {ns : List Bool}, boolsOf l = some ns → l = ns.map D.bl
  | [], ns, h => by cases h; rfl
  | .bl i :: l, ns, h => by
    have h : (boolsOf l).map (i :: ·) = some ns := h
    cases e : boolsOf l with
    | none => rw [e] at h; cases h
    | some ms => rw [e] at h; cases h; rw [List.map_cons, boolsOf_eq e]
  | .non :: _, _, h => by cases h
  | .int _ :: _, _, h => by cases h
  | .str _ :: _, _, h => by cases h
  | .tup _ :: _, _, h => by cases h
  | .lst _ :: _, _, h => by cases h
  | .cst _ :: _, _, h => by cases h
  | .ref _ :: _, _, h => by cases h
  | .adr _ :: _, _, h => by cases h
theorem boolsOf_map : ∀ ns : List Bool, boolsOf (ns.map D.bl) = some ns
  | [] => rfl
  | n :: ns => by rw [List.map_cons]; show (boolsOf (ns.map D.bl)).map (n :: ·) = _; rw [boolsOf_map ns]; rfl
/-- a built-in over a list (no tuple) -/
def onL (k : List D → Store → Out D) (ds : List D) (st : Store) : Out D := match ds with
  | [d] => (match itsOf d st with
    | some its => if isTup d = true then .bad else k its.l st
    | none => .bad)
  | _ => .bad
theorem onL_read {k : List D → Store → Out D} {σ : SV} {ρ : List Addr} {H : Hp} {st : Store} {xs : List V} {ds : List D} {Q : VK} (s : RS X.K H ρ st) (r : RVs X.K H ρ xs ds) (h : OO X.K X.mg W (rV X.K) σ Q ρ H (onL k ds st)) :
    ∃ a vs l, xs = [.ref a] ∧ SqL X.K H a vs ∧ RVs X.K H ρ vs l ∧ OO X.K X.mg W (rV X.K) σ Q ρ H (k l st) := by
  unfold onL at h
  split at h
  · rename_i d
    cases r with
    | cons r1 r2 =>
      cases r2
      cases e1 : itsOf d st with
      | none => rw [e1] at h; exact h.elim
      | some its =>
        simp only [e1] at h
        obtain ⟨a, vs, rfl, rs, q⟩ := list_of e1 r1 (Ext.refl _ _) s (okB_now e1)
        rcases q with ⟨hd, q⟩ | ⟨hd, q⟩
        · rw [if_pos hd] at h; exact h.elim
        · rw [if_neg (by rw [hd]; exact Bool.false_ne_true)] at h
          exact ⟨a, vs, its.l, rfl, q, rs, h⟩
  · exact h.elim
def sumL (l : List D) (st : Store) : Out D := match intsOf l with
  | some ns => .ok (.int ns.sum) st
  | none => .bad
def anyL (l : List D) (st : Store) : Out D := match boolsOf l with
  | some ns => .ok (.bl (ns.any id)) st
  | none => .bad
def allL (l : List D) (st : Store) : Out D := match boolsOf l with
  | some ns => .ok (.bl (ns.all id)) st
  | none => .bad
theorem cd_sum : CallD X W (rSum X.K) (onL sumL) := by
  intro σ ρ H st xs ds Q s r h
  obtain ⟨a, vs, l, rfl, q, rs, h⟩ := onL_read s r h
  unfold sumL at h
  split at h
  · rename_i ns e
    rw [intsOf_eq e] at rs
    rw [rs.ints] at q
    exact ⟨a, ns, rfl, q, OO.done h s (.int _)⟩
  · exact h.elim
theorem cd_any : CallD X W (rAny X.K) (onL anyL) := by
  intro σ ρ H st xs ds Q s r h
  obtain ⟨a, vs, l, rfl, q, rs, h⟩ := onL_read s r h
  unfold anyL at h
  split at h
  · rename_i ns e
    rw [boolsOf_eq e] at rs
    rw [rs.bls] at q
    exact ⟨a, ns, rfl, q, OO.done h s (.bl _)⟩
  · exact h.elim
theorem cd_all : CallD X W (rAll X.K) (onL allL) := by
  intro σ ρ H st xs ds Q s r h
  obtain ⟨a, vs, l, rfl, q, rs, h⟩ := onL_read s r h
  unfold allL at h
  split at h
  · rename_i ns e
    rw [boolsOf_eq e] at rs
    rw [rs.bls] at q
    exact ⟨a, ns, rfl, q, OO.done h s (.bl _)⟩
  · exact h.elim
end
end DD

set_option maxRecDepth 100000
set_option maxHeartbeats 1000000
/-! DD6: isinstance, repr, sorted, min, methods of lists, dicts. -/
namespace DD
open PySem PySem.Spec PyProof.Rows L2

/-! ### isinstance with a built-in class -/
inductive Ty where
  | non | bl | int | str | tup | lst | dic
  deriving DecidableEq
def Ty.nm : Ty → String
  | .non => "NoneType" | .bl => "bool" | .int => "int" | .str => "str" | .tup => "tuple" | .lst => "list" | .dic => "dict"
def tyD (st : Store) : D → Option Ty
  | .non => some .non
  | .bl _ => some .bl
  | .int _ => some .int
  | .str _ => some .str
  | .tup _ => some .tup
  | .lst _ => some .lst
  | .cst _ => some .lst
  | .ref n => (match st[n]? with
    | some (.lst _) => some .lst
    | some (.dic _) => some .dic
    | none => none)
  | .adr _ => none
/-- a is b or a class below it -/
def Ty.isA (a b : Ty) : Bool := decide (a = b) || (decide (a = .bl) && decide (b = .int))
theorem kit_isA (a b : Ty) (hb : b ≠ .non) : kitB a.nm b.nm = some (a.isA b) := by
  cases a <;> cases b <;> first | exact absurd rfl hb | decide +kernel
theorem tyD_read {K : PySem.W.Frag} {H : Hp} {ρ : List Addr} {st : Store} {v : V} {d : D} {t : Ty} (s : RS K H ρ st) (r : RV K H ρ v d) (h : tyD st d = some t) : TyX K H v (.type t.nm) := by
  cases r with
  | non => cases h; exact .base .non
  | bl b => cases h; exact .base (.bl b)
  | int i => cases h; exact .base (.int i)
  | str x => cases h; exact .base (.str x)
  | tup h1 h2 =>
    cases h
    rcases h1 with ⟨h1, _⟩ | ⟨o, its, n, e, c, _⟩
    · exact .base (.tup h1)
    · exact .kTuple e c
  | lst h1 h2 h3 => cases h; exact .base (.lst h1)
  | cst h1 h2 =>
    cases h
    rcases h1 with ⟨⟨o, h1⟩, _⟩ | ⟨o, its, n, e, c, _⟩
    · exact .base (.frz h1)
    · exact .kList e c
  | @ref a n h1 =>
    have h : (match st[n]? with | some (.lst _) => some Ty.lst | some (.dic _) => some Ty.dic | none => none) = some t := h
    cases e : st[n]? with
    | none => simp only [e] at h; cases h
    | some c =>
      cases c with
      | lst l =>
        simp only [e] at h; cases h
        obtain ⟨vs, q1, q2⟩ := s.cell n a _ h1 e
        exact .base (.lst q1)
      | dic l =>
        simp only [e] at h; cases h
        obtain ⟨vs, q1, q2⟩ := s.cell n a _ h1 e
        exact .base (.dK q1)
  | adr => cases h
section
variable {X : Cx} {W : WX} {k : Nat} {a b c e : Expr} {es : List Expr} {fa fb fc f : LS → Store → Out D} {fr : LS → Store → Out (List D)} {pos p p2 : Pos}
def isiV (t : Ty) (d : D) (st : Store) : Out D := match tyD st d with
  | some u => .ok (.bl (u.isA t)) st
  | none => .bad
theorem de_isi {x : Str} (t : Ty) (hm : X.mg "isinstance" = none) (hx : X.mg x = none) (hv : bootBuiltins x = some (.type t.nm)) (he : DE X W e f) (ht : t ≠ .non := by decide) (hg : Gl X "isinstance" := by rfl) (hgx : Gl X x := by rfl) (hn : x ≠ "__name__" := by decide) (hd : (x == ("__debug__" : Str)) = false := by decide)
    (hs : starEach [e, .Name x p2] X.env = (false, eval e X.env) :: starEach [.Name x p2] X.env := by rfl) (hpl : (backTo pos (starEach [.Name x p2] X.env)).any (·.1) = false := by rfl)
    (hs2 : starEach [.Name x p2] X.env = (false, eval (.Name x p2) X.env) :: starEach [] X.env := by rfl) :
    DE X W (.Call (.Name "isinstance" p) [e, .Name x p2] [] pos) (un1 (isiV t) f) :=
  pe_imp (pe_callB call_isi hg hm boot_isinstance (pa_cons he (pa_cons (pe_bltn (v := .ty t.nm) hgx hx hv rfl hn hd) pa_nil hs2) hs) (by decide) (by decide) hs hpl) fun σ H Q ⟨ρ, ls, st, A, q⟩ =>
    tF_bind (R2 := rV X.K) (f := fun _ d st1 => isiV t d st1) A q fun ρ1 v H1 d st1 x1 A1 r1 q1 => by
      unfold isiV at q1
      cases e1 : tyD st1 d with
      | none => rw [e1] at q1; exact q1.elim
      | some u =>
        rw [e1] at q1
        exact ⟨v, .ty t.nm, .type u.nm, .type t.nm, u.isA t, rfl, .ty _, tyD_read A1.sto r1 e1, kit_ty (kit_isA u t ht), OO.done q1 A1.sto (RV.bl _)⟩

/-! ### repr -/
def rRepr (K : PySem.W.Frag) : List V → Hp → VK → Prop := fun xs H Q => ∃ (x : V) (d : PyData), xs = [x] ∧ Dp K H x d ∧ d.showable = true ∧ d.hasDict = false ∧ d.depth ≤ 64 ∧ d.shown.length ≤ sizeLine ∧ Q (.str d.shown) H
theorem call_repr (C : Ctx X W k) : CallR X (.builtin "repr") (rRepr X.K) := by
  intro pins s σ H xs us Q I r h
  obtain ⟨x, d, rfl, hd, hs, hnd, hdp, hsz, q⟩ := h
  obtain ⟨u, rfl, ru⟩ := vals1 r
  have hun := C.rm.un
  obtain ⟨as, rd⟩ := Dp.reads I d x u hd ru
  by_cases hD : isDisplay d = true
  · obtain ⟨a, rfl⟩ := isRef_of_reads rd hD
    exact repr_of_reads' rd hs (PyData.noDict_hsm hnd) C.gd (by omega) (fun _ _ e => e) (fun h' u' tk hk => ⟨.str d.shown, H, I.kept (t' := tk) hk, ⟨_, rfl⟩, q⟩) hsz
  · cases d with
    | none =>
      cases rd
      refine PySem.P.repr_of_none ⟨.str PyData.none.shown, H, I.tok _, ⟨s.toks, ?_⟩, q⟩
      rw [PyData.shown_none]
    | bool b =>
      cases rd
      refine PySem.P.repr_of_bool ⟨.str (PyData.bool b).shown, H, I.tok _, ⟨s.toks, ?_⟩, q⟩
      rw [PyData.shown_bool]
    | int i =>
      cases rd
      refine PySem.P.repr_of_int (of_decide_eq_true (show decide (i.natAbs.log2 < 1920) = true from hs)) ⟨.str (PyData.int i).shown, H, I.tok _, ⟨s.toks, ?_⟩, q⟩
      rw [PyData.shown_int]
    | str y =>
      cases rd
      rw [PyData.shown_str] at hsz
      refine PySem.P.repr_of_str ⟨.str (PyData.str y).shown, H, I.tok _, ⟨s.toks, ?_⟩, q⟩ hsz
      rw [PyData.shown_str]
    | list _ => exact absurd rfl hD
    | tuple _ => exact absurd rfl hD
    | dict _ => cases hnd
def reprV (ds : List D) (st : Store) : Out D := match ds with
  | [d] => (match toP st 60 d with
    | some p => if p.showable = true ∧ p.hasDict = false ∧ p.depth ≤ 64 ∧ p.shown.length ≤ 16777216 then .ok (.str p.shown) st else .bad
    | none => .bad)
  | _ => .bad
theorem cd_repr : CallD X W (rRepr X.K) reprV := by
  intro σ ρ H st xs ds Q s r h
  unfold reprV at h
  split at h
  · rename_i d
    cases r with
    | cons r1 r2 =>
      cases r2
      cases e1 : toP st 60 d with
      | none => rw [e1] at h; exact h.elim
      | some p =>
        simp only [e1] at h
        split at h
        · rename_i hc
          exact ⟨_, p, rfl, toP_read s _ _ _ _ r1 e1, hc.1, hc.2.1, hc.2.2.1, by rw [sizeLine_eq]; exact hc.2.2.2, OO.done h s (.str _)⟩
        · exact h.elim
  · exact h.elim

/-! ### sorted of alike data -/
def encD (st : Store) (d : D) : PyData := (toP st 60 d).getD .none
structure SortOk (st : Store) (l : List D) : Prop where
  some : ∀ d ∈ l, ∃ p, toP st 60 d = some p ∧ p.depth ≤ 64
  alike : PySem.W.AllAlike (l.map (encD st))
  kind : PySem.W.Sortable (l.map (encD st))
  len : l.length ≤ 16777216
noncomputable def sortedL (l : List D) (st : Store) : Out D := open Classical in if SortOk st l then .ok (.ref st.length) (st ++ [.lst (l.mergeSort (PySem.W.dataLe false (encD st)))]) else .bad
theorem sortedL_ok {l : List D} {st : Store} (h : SortOk st l) : sortedL l st = .ok (.ref st.length) (st ++ [.lst (l.mergeSort (PySem.W.dataLe false (encD st)))]) := by
  unfold sortedL
  rw [if_pos h]
def rSortedD (K : PySem.W.Frag) : List V → Hp → VK → Prop := fun xs H Q => ∃ (a : Addr) (vs : List V) (l : List D) (enc : D → PyData) (R : V → D → Prop), xs = [.ref a] ∧ SqL K H a vs ∧ PySem.W.EachIs R vs l ∧ PySem.W.EachIs (fun v d => Dp K H v (enc d) ∧ (enc d).depth ≤ 64) vs l ∧
  PySem.W.AllAlike (l.map enc) ∧ PySem.W.Sortable (l.map enc) ∧ ∀ p ws, PySem.W.EachIs R ws (l.mergeSort (PySem.W.dataLe false enc)) → H p = none → Q (.ref p) (upd H p (.lst ws))
theorem each_vals {R : V → D → Prop} : ∀ {vs : List V} {us : List Value} {l : List D}, Vals vs us → PySem.W.EachIs R vs l → PySem.W.EachIs (fun u d => ∃ v, RelV v u ∧ R v d) us l
  | _, _, _, .nil, .nil => .nil
  | _, _, _, .cons r t, .cons e es => .cons ⟨_, r, e⟩ (each_vals t es)
theorem each_back {R : V → D → Prop} : ∀ {us : List Value} {l : List D}, PySem.W.EachIs (fun u d => ∃ v, RelV v u ∧ R v d) us l → ∃ vs, Vals vs us ∧ PySem.W.EachIs R vs l
  | _, _, .nil => ⟨[], .nil, .nil⟩
  | _, _, .cons ⟨v, r, e⟩ es => let ⟨vs, h1, h2⟩ := each_back es; ⟨v :: vs, .cons r h1, .cons e h2⟩
theorem each_len {α β : Type} {R : α → β → Prop} : ∀ {l : List α} {m : List β}, PySem.W.EachIs R l m → l.length = m.length
  | _, _, .nil => rfl
  | _, _, .cons _ t => congrArg Nat.succ (each_len t)
theorem each_get {R : Value → D → Prop} {S : D → Prop} : ∀ {l : List Value} {m : List D}, PySem.W.EachIs R l m → (∀ u d, R u d → S d) → ∀ d ∈ m, S d
  | _, _, .nil, _, _, h => by cases h
  | _, _, .cons r t, f, d, h => by
    rcases List.mem_cons.mp h with rfl | h
    · exact f _ _ r
    · exact each_get t f d h
theorem call_sortedD (C : Ctx X W k) : CallR X (.builtin "sorted") (rSortedD X.K) := by
  intro pins s σ H xs us Q I r h
  obtain ⟨a, vs, l, enc, R, rfl, hq, e1, e2, hal, hk, q⟩ := h
  obtain ⟨u, rfl, ru⟩ := vals1 r
  obtain rfl : u = Value.ref a := ru
  obtain ⟨its, rv, hl, hz⟩ := I.list hq
  have hun := C.rm.un
  have er := each_vals rv e2
  have er2 : PySem.W.EachIs (fun v d => ∃ as, Reads s.heap v (enc d) as) its l := er.mono fun u d ⟨v, r1, r2, _⟩ => Dp.reads I _ v u r2 r1
  have hb : ∀ d ∈ l, (enc d).depth ≤ 64 := each_get er fun u d ⟨_, _, _, z⟩ => z
  have hlen : l.length ≤ sizeLine := by rw [← each_len e1]; exact hz
  refine PySem.W.sorted_data hl.isList (each_vals rv e1) er2 hal hk hlen (fun d hd => by have := hb d hd; omega) fun out ho he => ?_
  obtain ⟨ws, hw, he2⟩ := each_back he
  obtain ⟨n, hn⟩ := sortedAll_at s.heap its (List.toArray out)
  refine ⟨.ref (s.heap.objs.size + 1), upd H (s.heap.objs.size + 1) (.lst ws), I.laid (t' := s.toks) (fun b o e => sortedAll_old e) (Nat.le_succ _) ⟨?_, out, n, hw, by simpa using hn⟩, rfl, q _ ws he2 (I.hok.fresh (Nat.le_succ _))⟩
  rw [hw.length, ho]
  exact hlen
theorem rvs_each {K : PySem.W.Frag} {H : Hp} {ρ : List Addr} : ∀ {vs : List V} {l : List D}, RVs K H ρ vs l → PySem.W.EachIs (RV K H ρ) vs l
  | _, _, .nil => .nil
  | _, _, .cons r t => .cons r (rvs_each t)
theorem each_rvs {K : PySem.W.Frag} {H : Hp} {ρ : List Addr} : ∀ {vs : List V} {l : List D}, PySem.W.EachIs (RV K H ρ) vs l → RVs K H ρ vs l
  | _, _, .nil => .nil
  | _, _, .cons r t => .cons r (each_rvs t)
theorem rvs_enc {K : PySem.W.Frag} {H : Hp} {ρ : List Addr} {st : Store} (s : RS K H ρ st) : ∀ {vs : List V} {l : List D}, RVs K H ρ vs l → (∀ d ∈ l, ∃ p, toP st 60 d = some p ∧ p.depth ≤ 64) → PySem.W.EachIs (fun v d => Dp K H v (encD st d) ∧ (encD st d).depth ≤ 64) vs l
  | _, _, .nil, _ => .nil
  | _, _, .cons (d := d) r t, h => by
    refine .cons ?_ (rvs_enc s t fun x hx => h x (List.mem_cons_of_mem _ hx))
    obtain ⟨p, h1, h2⟩ := h d List.mem_cons_self
    unfold encD
    rw [h1]
    exact ⟨toP_read s _ _ _ _ r h1, h2⟩
theorem cd_sorted : CallD X W (rSortedD X.K) (onL sortedL) := by
  intro σ ρ H st xs ds Q s r h
  obtain ⟨a, vs, l, rfl, q, rs, h⟩ := onL_read s r h
  unfold sortedL at h
  split at h
  · rename_i hc
    exact ⟨a, vs, l, encD st, RV X.K H ρ, rfl, q, rvs_each rs, rvs_enc s rs hc.some, hc.alike, hc.kind, fun p ws hw hp => OO.here h (Ext.cell hp) (s.newL hp (each_rvs hw)) (.ref (ref_new s p))⟩
  · exact h.elim

/-! ### methods -/
theorem tyV_of {K : PySem.W.Frag} {H : Hp} {ρ : List Addr} {st : Store} {v : V} {d : D} {t : Ty} (s : RS K H ρ st) (r : RV K H ρ v d) (h : tyD st d = some t) (ht : t = .lst ∨ t = .dic ∨ t = .str ∨ t = .int) : tyV K t.nm v H := by
  cases r with
  | non => cases h; simp at ht
  | bl b => cases h; simp at ht
  | int i => cases h; rfl
  | str x => cases h; rfl
  | tup h1 h2 => cases h; simp at ht
  | lst h1 h2 h3 => cases h; exact .inl ⟨rfl, _, .inl (.inl h1)⟩
  | cst h1 h2 => cases h; exact .inl ⟨rfl, _, h1.sq⟩
  | @ref a n h1 =>
    have h : (match st[n]? with | some (.lst _) => some Ty.lst | some (.dic _) => some Ty.dic | none => none) = some t := h
    cases e : st[n]? with
    | none => simp only [e] at h; cases h
    | some c =>
      cases c with
      | lst l =>
        simp only [e] at h; cases h
        obtain ⟨vs, q1, q2⟩ := s.cell n a _ h1 e
        exact .inl ⟨rfl, _, .inl (.inl q1)⟩
      | dic l =>
        simp only [e] at h; cases h
        obtain ⟨vs, q1, q2⟩ := s.cell n a _ h1 e
        exact .inr (.inr (.inl ⟨rfl, .inl ⟨_, q1⟩⟩))
  | adr => cases h
/-- what a method's rule asks is what F gives -/
def MethD (X : Cx) (W : WX) (r : V → List V → Hp → VK → Prop) (F : D → List D → Store → Out D) : Prop := ∀ (σ : SV) (ρ : List Addr) (H : Hp) (st : Store) (x : V) (d : D) (xs : List V) (ds : List D) (Q : VK),
  RS X.K H ρ st → RV X.K H ρ x d → RVs X.K H ρ xs ds → OO X.K X.mg W (rV X.K) σ Q ρ H (F d ds st) → r x xs H Q
def methD (T : Ty) (F : D → List D → Store → Out D) (fo : LS → Store → Out D) (fr : LS → Store → Out (List D)) : LS → Store → Out D := fun ls st => (fo ls st).bind fun d st1 => if tyD st1 d = some T then (fr ls st1).bind fun ds st2 => F d ds st2 else .bad
theorem meth_read {r : V → List V → Hp → VK → Prop} {F : D → List D → Store → Out D} {T : Ty} {fo : LS → Store → Out D} (hd : MethD X W r F) (ht : T = .lst ∨ T = .dic ∨ T = .str ∨ T = .int) {σ : SV} {H : Hp} {Q : VK} (h : tE X.K X.mg W (methD T F fo fr) σ H Q) :
    tBM X.K T.nm r (tE X.K X.mg W fo) (tA X.K X.mg W fr) σ H Q := by
  obtain ⟨ρ, ls, st, A, q⟩ := h
  refine tF_bind (R := rV X.K) (R2 := rV X.K) (f := fun ls d st1 => if tyD st1 d = some T then (fr ls st1).bind fun ds st2 => F d ds st2 else .bad) A q fun ρ1 x H1 d st1 x1 A1 r1 q1 => ?_
  split at q1
  · rename_i hc
    refine ⟨tyV_of A1.sto r1 hc ht, ?_⟩
    exact tF_bind (R := rVs X.K) (R2 := rV X.K) (f := fun _ ds st2 => F d ds st2) A1 q1 fun ρ2 xs H2 ds st2 x2 A2 r2 q2 => hd σ ρ2 H2 st2 x d xs ds Q A2.sto (RV.ext x2 _ r1) r2 q2
  · exact q1.elim
section
variable {o : Expr} {fo : LS → Store → Out D} {name : Str} {apos cpos : Pos} {id : String}
theorem de_meth (T : Ty) (ht : T = .lst ∨ T = .dic ∨ T = .str ∨ T = .int) {r : V → List V → Hp → VK → Prop} {F : D → List D → Store → Out D} (pa : PlainAttrs T.nm) (slot : Slot T.nm name id) (hty : typeOf (.builtin id) = pure (.type "method_descriptor")) (hm : MtR X id r) (hd : MethD X W r F) (ho : DE X W o fo) (ha : DA X W (e :: es) fr)
    (hbase : attributeBase o name X.env (eval o X.env) = eval o X.env := by rfl)
    (hfew : ((backTo cpos (starEach (e :: es) X.env)).all (fun x => !x.1) && (backToKw cpos (keywordEach [] X.env)).all (fun x => x.1.isSome)
      && decide ((e :: es).length + ([] : List Keyword).length + (if ([] : List Keyword).isEmpty then 0 else 1) < 30)) = true := by rfl)
    (hline : (apos.endLine == cpos.line) = true := by rfl) (hs : starEach (e :: es) X.env = (false, eval e X.env) :: starEach es X.env := by rfl) (hplain : (backTo cpos (starEach es X.env)).any (·.1) = false := by rfl) :
    DE X W (.Call (.Attribute o name apos) (e :: es) [] cpos) (methD T F fo fr) :=
  pe_imp (pe_bm pa slot hty hm ho ha hbase hfew hline hs hplain) fun _ _ _ h => meth_read hd ht h
theorem de_meth0 (T : Ty) (ht : T = .lst ∨ T = .dic ∨ T = .str ∨ T = .int) {r : V → List V → Hp → VK → Prop} {F : D → List D → Store → Out D} (pa : PlainAttrs T.nm) (slot : Slot T.nm name id) (hty : typeOf (.builtin id) = pure (.type "method_descriptor")) (hm : MtR X id r) (hd : MethD X W r F) (ho : DE X W o fo)
    (hbase : attributeBase o name X.env (eval o X.env) = eval o X.env := by rfl) (hline : (apos.endLine == cpos.line) = true := by rfl) : DE X W (.Call (.Attribute o name apos) [] [] cpos) (methD T F fo nilA) :=
  pe_imp (pe_bm0 pa slot hty hm ho hbase hline) fun σ H Q h => by
    obtain ⟨ρ, ls, st, A, q⟩ := h
    refine tF_bind (R := rV X.K) (R2 := rV X.K) (f := fun ls d st1 => if tyD st1 d = some T then (nilA ls st1).bind fun ds st2 => F d ds st2 else .bad) A q fun ρ1 x H1 d st1 x1 A1 r1 q1 => ?_
    split at q1
    · rename_i hc
      exact ⟨tyV_of A1.sto r1 hc ht, hd σ ρ1 H1 st1 x d [] [] Q A1.sto r1 .nil q1⟩
    · exact q1.elim
end
/-- the list of a cell -/
def cellL (st : Store) (n : Nat) : Option (List D) := match st[n]? with
  | some (.lst l) => some l
  | _ => none
theorem cellL_eq {st : Store} {n : Nat} {l : List D} (h : cellL st n = some l) : st[n]? = some (.lst l) := by
  unfold cellL at h
  cases e : st[n]? with
  | none => rw [e] at h; cases h
  | some c =>
    rw [e] at h
    cases c with
    | lst l => cases h; rfl
    | dic _ => cases h
def appV (d : D) (ds : List D) (st : Store) : Out D := match d, ds with
  | .ref n, [e] => (match cellL st n with
    | some l => if l.length < 16777216 then .ok .non (st.set n (.lst (l ++ [e]))) else .bad
    | none => .bad)
  | _, _ => .bad
theorem md_append : MethD X W rAppend appV := by
  intro σ ρ H st x d xs ds Q s rx rs h
  unfold appV at h
  split at h
  · rename_i n e
    split at h
    · rename_i l el
      split at h
      · rename_i hl
        cases rx with
        | @ref a _ hr =>
          cases rs with
          | @cons v _ _ _ r1 r2 =>
            cases r2
            obtain ⟨vs, g1, g2⟩ := s.cell n a _ hr (cellL_eq el)
            refine ⟨a, vs, v, rfl, rfl, g1, by rw [g2.length, sizeLine_eq]; exact hl, ?_⟩
            exact OO.here h (Ext.write (List.mem_of_getElem? hr)) (s.writeL hr (g2.snoc r1)) .non
      · exact h.elim
    · exact h.elim
  · exact h.elim
theorem de_append {o : Expr} {fo : LS → Store → Out D} {apos cpos : Pos} (ho : DE X W o fo) (ha : DA X W [e] fr) (hbase : attributeBase o "append" X.env (eval o X.env) = eval o X.env := by rfl)
    (hfew : ((backTo cpos (starEach [e] X.env)).all (fun x => !x.1) && (backToKw cpos (keywordEach [] X.env)).all (fun x => x.1.isSome)
      && decide ([e].length + ([] : List Keyword).length + (if ([] : List Keyword).isEmpty then 0 else 1) < 30)) = true := by rfl)
    (hline : (apos.endLine == cpos.line) = true := by rfl) (hs : starEach [e] X.env = (false, eval e X.env) :: starEach [] X.env := by rfl) (hplain : (backTo cpos (starEach [] X.env)).any (·.1) = false := by rfl) :
    DE X W (.Call (.Attribute o "append" apos) [e] [] cpos) (methD .lst appV fo fr) :=
  de_meth .lst (.inl rfl) PySem.F.plainAttrs_list PySem.F.slot_list_append PySem.F.type_list_append mt_append md_append ho ha hbase hfew hline hs hplain

/-! ### in over tuples of any data; any, all over any data -/
def rInT (K : PySem.W.Frag) (neg : Bool) : R2 := fun x y H Q => ∃ d ds, Dp K H x d ∧ Dp K H y (.tuple ds) ∧ SeqAt.shaped d = true ∧ SeqAt.shaped (.tuple ds) = true ∧ Q (.bl (if neg then !ds.any fun z => PyData.eqv z d else ds.any fun z => PyData.eqv z d)) H
theorem op_inT (hu : X.A.units + 65 < cLine) : OpR X (compareOp .In) (rInT X.K false) := by
  intro pins s σ H x y v u Q I rx ry h
  obtain ⟨d, ds, hd, he, sd, se, q⟩ := h
  obtain ⟨as, r1⟩ := Dp.reads I d x v hd rx
  obtain ⟨bs, r2⟩ := Dp.reads I (.tuple ds) y u he ry
  exact SeqAt.in_tuple_reads r2 r1 (SeqAt.canLay_of_shaped se) (SeqAt.canLay_of_shaped sd) (room_in_shaped sd hu) ⟨.bl _, H, I, rfl, q⟩
theorem op_notInT (hu : X.A.units + 65 < cLine) : OpR X (compareOp .NotIn) (rInT X.K true) := by
  intro pins s σ H x y v u Q I rx ry h
  obtain ⟨d, ds, hd, he, sd, se, q⟩ := h
  obtain ⟨as, r1⟩ := Dp.reads I d x v hd rx
  obtain ⟨bs, r2⟩ := Dp.reads I (.tuple ds) y u he ry
  exact SeqAt.notIn_tuple_reads r2 r1 (SeqAt.canLay_of_shaped se) (SeqAt.canLay_of_shaped sd) (room_in_shaped sd hu) ⟨.bl _, H, I, rfl, q⟩
def inTF (neg : Bool) (d e : D) (st : Store) : Out D := match toP st 60 d, toP st 60 e with
  | some p, some (.tuple qs) => if SeqAt.shaped p = true ∧ SeqAt.shaped (.tuple qs) = true then .ok (.bl (if neg then !qs.any fun z => PyData.eqv z p else qs.any fun z => PyData.eqv z p)) st else .bad
  | _, _ => .bad
theorem od_inT (neg : Bool) : OpD X W (rInT X.K neg) (inTF neg) := by
  intro σ ρ H st x y dx dy Q s rx ry h
  unfold inTF at h
  split at h
  · rename_i p q e1 e2
    split at h
    · rename_i hl
      exact ⟨p, q, toP_read s _ _ _ _ rx e1, toP_read s _ _ _ _ ry e2, hl.1, hl.2, OO.done h s (.bl _)⟩
    · exact h.elim
  · exact h.elim
theorem cm_inT (C : Ctx X W k) : CmpD X W .In (inTF false) := ⟨_, op_inT (by have := C.rm.un; omega), od_inT false⟩
theorem cm_notInT (C : Ctx X W k) : CmpD X W .NotIn (inTF true) := ⟨_, op_notInT (by have := C.rm.un; omega), od_inT true⟩
/-- in, over a list or a tuple -/
def inV (neg : Bool) (d e : D) (st : Store) : Out D := if isTup e = true then inTF neg d e st else inF neg d e st
theorem cm_inV (C : Ctx X W k) : CmpD X W .In (inV false) := ⟨_, (op_inD (by have := C.rm.un; omega)).or (op_inT (by have := C.rm.un; omega)), opd_or od_in (od_inT false) fun dx dy st => by
  unfold inV; split
  · exact .inr rfl
  · exact .inl rfl⟩
theorem cm_notInV (C : Ctx X W k) : CmpD X W .NotIn (inV true) := ⟨_, (op_notInD (by have := C.rm.un; omega)).or (op_notInT (by have := C.rm.un; omega)), opd_or od_notIn (od_inT true) fun dx dy st => by
  unfold inV; split
  · exact .inr rfl
  · exact .inl rfl⟩
end
end DD

set_option maxRecDepth 100000
set_option maxHeartbeats 2000000
/-! DD7: own exceptions whose __init__ says super().__init__(): made, raised, caught. -/
namespace DD
open PySem PySem.Spec PyProof.Rows L2

/-- a class of exceptions below ValueError, as the written part has it -/
structure XC (K : PySem.W.Frag) (C : Addr) : Prop where
  cls : PySem.W.excInitIn K C PySem.HandSPX.veTail "ValueError.__new__" = true
  exC : PySem.W.subIn K (.ref C) (.type "BaseException") = some true
  tyC : PySem.W.typeIn K (.ref C) = some (.type "type")
  kC : PySem.W.keepIn K (.ref C) = true
/-- super().__init__() and nothing else -/
abbrev iniBody (p0 p1 p2 p3 p4 : Pos) : List Stmt := [.Expr (.Call (.Attribute (.Call (.Name "super" p0) [] [] p1) "__init__" p2) [] [] p3) p4]
structure Ini0 (prog : Program) (K : PySem.W.Frag) (C : Addr) : Prop where
  xc : XC K C
  ex : ∃ (fI cda cc : Addr) (oc : Value) (od : Option Addr) (osl : Array (Option Value)) (nm q : Str) (params : Arguments) (scope : Scope) (kV doc pm ct : Value) (an : Option Addr) (ar : Arg) (p0 p1 p2 p3 p4 : Pos),
    PySem.W.findIn K (.ref C) "__init__" = some (some (.ref fI)) ∧ PySem.W.typeIn K (.ref fI) = some (.type "function") ∧
    K.lookup fI = some ⟨oc, od, .func (PySem.W.ksFn nm q params (iniBody p0 p1 p2 p3 p4) scope .none kV doc pm an (.ref cda) ct cc), osl⟩ ∧
    PySem.W.codeIn K (.ref cda) q = true ∧ (∃ ccl cdd vs ccs file tf, K.lookup cda = some ⟨ccl, cdd, .fields vs, ccs⟩ ∧ vs[2]? = some (.str file tf) ∧ (prog.main.file == file) = true) ∧
    (∃ cl cld csl, K.lookup cc = some ⟨cl, cld, .cell (some (.ref C)), csl⟩) ∧
    (params.posonlyargs ++ params.args).head? = some ar ∧ (∀ u : Value, bindArgs (PySem.W.ksFn nm q params (iniBody p0 p1 p2 p3 p4) scope .none kV doc pm an (.ref cda) ct cc) ⟨[u], []⟩ = pure [(ar.arg, u)]) ∧
    scope.names.lookup ("super" : Str) = some .globalImplicit ∧ scope.names.lookup ("__class__" : Str) = some .free ∧ scope.names.lookup ar.arg = some .local ∧ scope.kind = .function ∧
    (∀ x ∈ scope.names, x.2 ≠ .cell) ∧ scope.isCoroutine = false ∧ scope.isGenerator = false ∧
    (∀ env : Env, env.scope = scope → swapsWith (.Call (.Attribute (.Call (.Name "super" p0) [] [] p1) "__init__" p2) [] [] p3) none p4.line env = pure false) ∧
    (∃ pl : Sem Bool, ∀ env : Env, eval (.Call (.Attribute (.Call (.Name "super" p0) [] [] p1) "__init__" p2) [] [] p3) env = (do
      let ov ← attributeBase (.Call (.Name "super" p0) [] [] p1) "__init__" env (eval (.Call (.Name "super" p0) [] [] p1) env)
      standAt p2.atName
      let (f, first) ← holding [ov] (getMethod ov "__init__" pl)
      callWith p3 f first (backTo p3 (starEach [] env)) []))
  sup : PySem.W.ks_superIn K C C "__init__" = some (some (.builtin "ValueError.__init__"))
  sub : PySem.W.subIn K (.ref C) (.type "ValueError") = some true
  own : PySem.W.mroIn K C (.ref C) = some true
  opq : PySem.W.nsIn K cStatics "thirdparty.any" = some none
  top : (prog.main.scope.names.lookup ("super" : Str)).isSome = false
section
open PySem.W PySem.Calls
variable {prog : Program} {w : World} {A : Around} {K : PySem.W.Frag} {C : Addr}
theorem call_bwV {E : Value → Shared → Prop} {h : Heap} {g : Array GenState} {d : Drawn} {t : Nat} {os : OsState} {nm q : Str} {N : Addr} {bs bm : List Value} {hdct : Bool} {sn : List Str} {sub : List Value} {ab : Bool} {col : Option Bool} {dd : Option Addr} {k0 k1 k2 k3 k5 : Option Value}
    {u e t0 : Addr} {rest : List Value} {Q : Value → Shared → Prop}
    (hC : h.get? C = some (excClassObj nm q C N bs bm hdct sn sub ab col dd k0 k1 k2 k3 k5 "ValueError.__new__")) (he : h.get? e = some (HandSPX.excO C t0)) (hu : h.get? u = some (kxs_mw "ValueError.__init__" e)) (hrest : rest.length ≤ sizeLine)
    (hq : ∀ h' t1, (∀ b o, b ≠ e → h.get? b = some o → h'.get? b = some o) → h'.get? e = some (HandSPX.excO C t1) → Q .none ⟨h', g, d, t, os⟩) :
    wpAny (model prog w) A (call (.ref u) rest) Q E ⟨h, g, d, t, os⟩ := by
  refine wpAny_call (codeAny_of_tree ?_)
  show wpAny _ A.in1 (callAny (.ref u) ⟨rest, []⟩) _ _ _
  simp only [callAny]
  refine wpAny_bind (wpAny_load hu ?_)
  simp only [kxs_mw, show (Value.type "method-wrapper" == Value.type "method" || Value.type "method-wrapper" == Value.type "builtin_function_or_method" || Value.type "method-wrapper" == Value.type "method-wrapper") = true by decide, if_true]
  refine W.KFB.if_so (by decide) ?_
  refine wpAny_bind (check_bound_init F.excBase_ValueError.toExcCallFacts hC he rfl ?_)
  refine wpAny_bind (wpAny_pure (wpAny_pure ?_))
  refine ⟨plainId_quiet F.excBase_ValueError.init.plain _, codeAny_builtin F.excBase_ValueError.initEntry ?_⟩
  rw [Around.under_plainId F.excBase_ValueError.init.plain _]
  wp_walk
  refine hq _ h.objs.size (fun b o hb ho => ?_) ?_
  · rw [Heap.get?_update_other _ _ (Ne.symm hb)]
    exact Heap.get?_push_of_some _ ho
  · rw [Heap.get?_update_self _ (Heap.get?_push_of_some _ he) rfl]
    rfl
theorem ini_call {h : Heap} {g : Array GenState} {d : Drawn} {t : Nat} {os : OsState} {mg mb : Str → Option Value} {R : Result → Shared → Prop} (I : Ini0 prog K C) (X : K.In h) (G : h.Ns mainGlobals mg) (hsup : mg "super" = none) (B : h.Ns builtinsNs mb)
    (hmb : ∀ x : Str, x ≠ "__name__" → mb x = bootBuiltins x) (hlim : h.NoLimit) (hroom : (A.under (.builtin "type.__call__" ⟨[.ref C], []⟩)).depth < recursionLimit)
    (hR : ∀ e h' t' t1, (∀ b o, h.get? b = some o → h'.get? b = some o) → h.get? e = none → h.objs.size ≤ e → h'.get? e = some (HandSPX.excO C t1) → R (.ok (.ret (.ref e))) ⟨h', g, d, t', os⟩) :
    codeAny (model prog w) A (.call (.ref C) ⟨[], []⟩) R ⟨h, g, d, t, os⟩ := by
  obtain ⟨nm, N, q, bs, bm, hdct, sn, sub, ab, col, dd, k0, k1, k2, k3, k5, hC, hT⟩ := excInit_of X I.xc.cls
  obtain ⟨fI, cda, cc, oc, od, osl, fnm, fq, params, scope, kV, doc, pm, ct, an, ar, p0, p1, p2, p3, p4, iC, tI, lk, hcd, ⟨ccl, cdd, cvs, ccs, file, tf, lkc, hvs, hfile⟩, ⟨cl, cld, csl, lkcell⟩, hp, hbnd, s1, s2, s3, s4, s5, s6, s7, s8, pl, s9⟩ := I.ex
  refine HandSPX.call_own F.excBase_ValueError hT hC (looks_findIn X iC) (fun self => bind_fn X self tI) (Nat.zero_le _) ?_
  have up1 : ∀ b o, h.get? b = some o → ((h.push (W.kdv_tup [])).push (HandSPX.excO C h.objs.size)).get? b = some o := fun b o e => Heap.get?_push_of_some _ (Heap.get?_push_of_some _ e)
  have hget : ((h.push (kdv_tup [])).push (HandSPX.excO C h.objs.size)).get? (h.objs.size + 1) = some (HandSPX.excO C h.objs.size) := by heap_get
  refine ks_codeAny_call_defAt (fd := ksFn fnm fq params (iniBody p0 p1 p2 p3 p4) scope .none kV doc pm an (.ref cda) ct cc) (body := iniBody p0 p1 p2 p3 p4) (binds := [(ar.arg, .ref (h.objs.size + 1))]) hroom (up1 _ _ (X _ _ lk)) rfl (hlim.keeps up1) (codeRec_of (X.keeps up1) hcd) rfl (.of_eq (hbnd _)) s5 (fun x hx => by rw [List.mem_singleton.mp hx]; exact s3) (fun h2 hns up2 => ?_) s6 s7 s4
  have up : ∀ b o, h.get? b = some o → h2.get? b = some o := fun b o e => up2 _ _ (up1 _ _ e)
  have X2 := X.keeps up
  have he2 := up2 _ _ hget
  obtain ⟨cdD, hD⟩ : ∃ cdD, clsIn K C = some cdD := by 
    have hm := I.sup
    unfold ks_superIn at hm
    cases hc : clsIn K C with
    | none => rw [hc] at hm; cases hm
    | some cd => exact ⟨cd, rfl⟩
  have hC2 := up _ _ hC
  refine ks_wpAt_execs_cons (ks_wpAt_Expr_any (ks_wpAt_MethodCall (c := .func (iniBody p0 p1 p2 p3 p4) (callEnv (ksFn fnm fq params (iniBody p0 p1 p2 p3 p4) scope .none kV doc pm an (.ref cda) ct cc) ((h.push (kdv_tup [])).push (HandSPX.excO C h.objs.size)).objs.size fI)) ?_ (s9 _)) (by show (scope.kind == .module && _) = false; rw [s4]; rfl) (s8 _ rfl))
  refine ks_wpAt_super_base s1 s2 rfl rfl (X2 _ _ lk) rfl hp rfl (X2 _ _ lkc) rfl hvs hfile I.top ?_
  refine ks_loadName_global s4 s1 (loadGlobal_builtin (G.keeps up) hsup (B.keeps up) (v := .type "super") ((hmb _ (by decide +kernel)).trans (by kernel_rfl)) ⟨rfl, ?_⟩)
  refine wpAny_loadName_free s4 s2 rfl ⟨_, X2 _ _ lkcell, rfl⟩ ?_
  refine wpAny_loadName_local s4 s3 hns (v := .ref (h.objs.size + 1)) (by show List.lookup ar.arg [(ar.arg, Value.ref (h.objs.size + 1))] = _; unfold List.lookup; rw [beq_self_eq_true]) ?_
  refine ks_wpAny_isType_cls hC2 rfl ⟨rfl, ?_⟩
  refine ks_wpAny_call_super hC2 rfl he2 rfl (fun c e => nomatch e) (looks_mroIn X2 I.own) (fun h3 e3 up3 => ?_)
  have X3 := X2.keeps up3
  have he3 := up3 _ _ he2
  have J3 : InstAt h3 (h.objs.size + 1) (HandSPX.excO C h.objs.size) C none := ⟨he3, rfl, rfl, trivial⟩
  have hI : Looks (model prog w) h3 (isInstance (.ref (h.objs.size + 1)) (.type "ValueError")) true := J3.type.andThen (looks_subIn X3 I.sub)
  have hm := I.sup
  unfold ks_superIn at hm
  rw [hD] at hm
  refine kxs_getMethod kxs_ValueError e3 (looks_opaque X3 I.opq) (l₀ := cdD.mro) (fun A Q E s k q => wpAny_bind ((looks_clsIn X3 hD) A _ E s k (wpAny_pure q))) rfl X3 hm hI (ks_ne X3 J3 hD) (by decide) ?_
  have e4 : (h3.push (kxs_mw "ValueError.__init__" (h.objs.size + 1))).get? h3.objs.size = some (kxs_mw "ValueError.__init__" (h.objs.size + 1)) := Heap.get?_push_at rfl rfl
  have up4 : ∀ b o, h3.get? b = some o → (h3.push (kxs_mw "ValueError.__init__" (h.objs.size + 1))).get? b = some o := fun b o e => Heap.get?_push_of_some _ e
  refine kxs_callWith (i := "ValueError.__init__") (x := h.objs.size + 1) rfl (evalArgs_empty ⟨e4, ?_⟩)
  refine call_bwV (up4 _ _ (up3 _ _ hC2)) (up4 _ _ he3) e4 (Nat.zero_le _) (fun h5 t1 k5 e5 => ?_)
  refine wpAt_of_wpAny (wpAny_execs_nil ?_)
  refine ⟨rfl, hR _ _ _ _ (fun b o e => k5 b o (fun z => ?_) (up4 _ _ (up3 _ _ (up _ _ e)))) ?_ (Nat.le_succ _) e5⟩
  · rw [z] at e
    exact absurd (Nat.lt_trans (Nat.lt_succ_self _) (Heap.lt_size e)) (Nat.lt_irrefl _)
  · cases z : h.get? (h.objs.size + 1) with
    | none => rfl
    | some o => exact absurd (Nat.lt_trans (Nat.lt_succ_self _) (Heap.lt_size z)) (Nat.lt_irrefl _)
end
section
variable {X : Cx} {W : WX} {k : Nat} {x : Str} {C0 : Addr} {p pos pos' : Pos}
/-- C() -/
theorem pmk_ini (C : Ctx X W k) (I : Ini0 X.prog X.K C0) (hm : X.mg x = some (.ref C0)) (hsup : X.mg "super" = none) (hk : 1 ≤ k) (hg : Gl X x := by rfl) (hdb : (x == ("__debug__" : Str)) = false := by decide) :
    PMk X (.Call (.Name x p) [] [] pos) (fun σ H Q => Q (.ref C0) none H) := by
  intro pins s σ H Q J h
  refine wpAny_Call_Name_kw (ld_glob J hg hm ?_ hdb)
  refine PySem.W.callWith_K0 J.kIn I.xc.kC ?_
  obtain ⟨hp, g, dr, tk, os⟩ := s
  obtain ⟨mb, b1, b2⟩ := J.mod.blt
  obtain ⟨k', rfl⟩ : ∃ k', k = k' + 1 := ⟨k - 1, by omega⟩
  refine wpAny_call (ini_call I J.kIn (J.mod.glob.keeps J.bk) hsup (b1.keeps J.bk) b2 (J.mod.nolimit.keeps J.bk) (C.rm.make C0 [] []).depth fun e h' t' t1 k1 hn hsz he => ?_)
  exact ⟨e, _, _, ⟨hp, g, dr, tk, os⟩, H, .ref C0, none, rfl, J, k1, hn, he, ⟨rfl, rfl⟩, rfl, rfl, J.hok.fresh hsz, rfl, J.bare, raises_own I.xc.exC I.xc.tyC, h⟩
def raiseD (x : Str) : LS → Store → SO := fun ls st => .ex ⟨x, []⟩ ls st
/-- raise C() -/
theorem ds_raise (C : Ctx X W k) (I : Ini0 X.prog X.K C0) (hm : X.mg x = some (.ref C0)) (hsup : X.mg "super" = none) (hk : 1 ≤ k := by decide) (hc : X.calm = true := by rfl) (hg : Gl X x := by rfl) (hdb : (x == ("__debug__" : Str)) = false := by decide) :
    DS X W (.Raise (some (.Call (.Name x p) [] [] pos)) none pos') (raiseD x) :=
  ps_imp (ps_raise hc C.tk (pmk_ini C I hm hsup hk hg hdb)) fun N σ H ⟨ρ, ls, st, A, q⟩ => q ρ σ (.ref C0) none H (Ext.refl _ _) A ⟨C0, hm, rfl, rfl⟩
/-- slot i is emptied behind a suite -/
def unS (i : Nat) : SO → SO
  | .nx ls st => .nx (delL ls i) st
  | .bk ls st => .bk (delL ls i) st
  | .ct ls st => .ct (delL ls i) st
  | .ex _ _ _ => .bad
  | o => o
/-- try: b / except C as n: g; cat tells what the clause takes, n is slot i; a stands for the exception -/
noncomputable def tryD (i : Nat) (cat : Exc → Option Bool) (b : LS → Store → SO) (g : Exc → Addr → LS → Store → SO) : LS → Store → SO := fun ls st => match b ls st with
  | .ex e ls1 st1 => (match cat e with
    | some true => open Classical in if ∀ a, unS i (g e a (setL ls1 i (.adr a)) st1) = unS i (g e 0 (setL ls1 i (.adr 0)) st1) then unS i (g e 0 (setL ls1 i (.adr 0)) st1) else .bad
    | some false => .ex e ls1 st1
    | none => .bad)
  | o => o
theorem At.del {K : PySem.W.Frag} {H : Hp} {ρ : List Addr} {σ : SV} {ls : LS} {st : Store} (A : At K H ρ σ ls st) (i : Nat) : At K H ρ (σ.set i none) (delL ls i) st := A.wipe [i]
abbrev suX (X : Cx) (a : Addr) (oe : Obj) (pn : List (Addr × Obj)) : Cx := X.suite a ((a, oe) :: pn)
/-- what is known within a suite -/
structure CtxS (X : Cx) : Prop where
  un : X.A.units + 64 < cLine
  un2 : X.A.units + 65 < cLine
theorem ds_try_as {i : Nat} {x n : Str} {c : Value} {body suite : List Stmt} {b0 : Stmt} {np hpos tpos : Pos} {gb : LS → Store → SO} {g : Exc → Addr → LS → Store → SO} {cat : Exc → Option Bool}
    (C : Ctx X W k) (hs : X.stack = X.env :: X.outer) (hf : X.env.frame = some X.env.locals) (hN : X.N.Nodup) (hi : X.N[i]? = some n) (hln : X.env.kindOf n = some .local) (hc : Names X x c)
    (hcat : ∀ e b D, cat e = some b → X.mg e.cls = some (.ref D) → PySem.W.exmOne X.K (.ref D) c = some b)
    (hb : ∀ (W : WX) (pn : List (Addr × Obj)) (xe : Value → Shared → Prop), Ctx (X.tr pn xe) W k → DSs (X.tr pn xe) W body gb)
    (hsu : ∀ (e : Exc) (a : Addr) (oe : Obj) (D : Addr) (d : Option Addr) (pn : List (Addr × Obj)), cat e = some true → X.mg e.cls = some (.ref D) → (e.fs = [] → d = none) → Zc (.ref D) d oe → (∃ vs, oe.data = .fields vs) → CtxS (suX X a oe pn) →
      DSs (suX X a oe pn) W0 (b0 :: suite) (g e a)) :
    DS X W (.Try body [.ExceptHandler (some (.Name x np)) (some n) (b0 :: suite) hpos] [] [] tpos) (tryD i cat gb g) := by
  let ts : Addr → Value → Option Addr → TS := fun a cls d N σ H => ∃ (e : Exc) (D : Addr), cat e = some true ∧ X.mg e.cls = some (.ref D) ∧ cls = .ref D ∧ (e.fs = [] → d = none) ∧ tS X.K X.mg W0 (g e a) N σ H
  have hun := C.rm.un
  refine ps_imp (ps_try_as (tb := fun W => tS X.K X.mg W gb) (ts := ts) hs hf hN hi hln hc C.tk (fun W pn xe tk po => hb W pn xe ⟨tk, C.rm, C.gd, po⟩) fun a oe cls d pn hz hfl => ?_) fun N σ H ⟨ρ, ls, st, A, q⟩ => ?_
  · refine ⟨fun pins s σ H N J h => ?_⟩
    obtain ⟨e, D, h1, h2, rfl, h3, h4⟩ := h
    exact (hsu e a oe D d pn h1 h2 h3 hz hfl ⟨by show X.A.units + 64 < cLine; omega, by show X.A.units + 65 < cLine; omega⟩).run pins s σ H N J h4
  · refine ⟨ρ, ls, st, A, ?_⟩
    unfold tryD at q
    cases eb : gb ls st with
    | nx l s => rw [eb] at q; exact q
    | rt d s => rw [eb] at q; exact q
    | bk l s => rw [eb] at q; exact q
    | ct l s => rw [eb] at q; exact q
    | bad => rw [eb] at q; exact q
    | ex e l1 s1 =>
      simp only [eb] at q
      intro ρ1 σ1 cls d H1 x1 A1 rx
      obtain ⟨D, m1, rfl, m2⟩ := rx
      have hdn : e.fs = [] → d = none := fun z => by rw [z] at m2; exact m2
      cases ec : cat e with
      | none => simp only [ec] at q; exact q.elim
      | some b =>
        refine ⟨b, hcat _ b D ec m1, fun hb1 a ha => ?_, fun hb1 => ?_⟩
        · subst hb1
          simp only [ec] at q
          split at q
          · rename_i hind
            refine ⟨e, D, ec, m1, rfl, hdn, ρ1, _, s1, A1.put i .adr, ?_⟩
            rw [← hind a] at q
            have q := PSO.grow q x1
            cases eg : g e a (setL l1 i (.adr a)) s1 with
            | nx l s => rw [eg] at q; exact fun ρ' σ' H' y A' => q ρ' _ H' y (A'.del i)
            | rt d s => rw [eg] at q; exact q
            | bk l s => rw [eg] at q; exact fun ρ' σ' H' y A' => q ρ' _ H' y (A'.del i)
            | ct l s => rw [eg] at q; exact fun ρ' σ' H' y A' => q ρ' _ H' y (A'.del i)
            | bad => rw [eg] at q; exact q.elim
            | ex x l s => rw [eg] at q; exact q.elim
          · exact q.elim
        · subst hb1
          simp only [ec] at q
          exact q ρ1 σ1 (.ref D) d H1 x1 A1 ⟨D, m1, rfl, m2⟩
end
end DD

set_option maxRecDepth 100000
set_option maxHeartbeats 2000000
/-! DD8: comprehensions as rules, isinstance in a suite, dicts, any over a tuple, three at once, whiles in a context. -/
namespace DD
open PySem PySem.Spec PyProof.Rows L2

section
variable {X : Cx} {W : WX} {k : Nat} {pos p p2 spos : Pos} {e : Expr} {es : List Expr} {f : LS → Store → Out D} {fr : LS → Store → Out (List D)}
theorem Ctx.blk (C : Ctx X W k) (s : Shared) (H : Hp) (scope : Scope) (ce : Env) (fp : List Addr) : Ctx (X.blk s H scope ce fp) W0 k :=
  ⟨fun u s' ⟨a, B, sI, pins, σ, H, cls, d, e, I, nb, up, sky, na, os, ag, w⟩ => w.elim, C.rm, C.gd, PassesOwn.never⟩
theorem de_lc {elt tg iter : Expr} {ifs : List Expr} {scope : Scope} {own : List (Str × Nat)} {vs : List Nat} {fi : LS → Store → Out Its} {g : D → LS → Store → Out LS} {ft : LS → Store → Out Bool} {fe : LS → Store → Out D} (C : Ctx X W k) (hc : X.calm = true) (hN : X.N.Nodup)
    (hi : DI X W tg iter fi) (ok : BlkOk X.N X.env.scope scope own) (hvs : own.map (·.2) = vs)
    (h : ∀ (s : Shared) (H : Hp) (C' : Addr) (cl : List (Str × Addr)) (fp : List Addr), Ctx (X.blk s H scope (compEnvC scope cl C' X.env) fp) W0 k →
      DGx (X.blk s H scope (compEnvC scope cl C' X.env) fp) vs tg g ∧ DTs (X.blk s H scope (compEnvC scope cl C' X.env) fp) W0 ifs ft ∧ DE (X.blk s H scope (compEnvC scope cl C' X.env) fp) W0 elt fe)
    (hs : ∀ x, foldedSetIterable iter X.env x = pure x := by intro _; rfl) :
    DE X W (.ListComp elt [⟨tg, iter, ifs, 0⟩] scope pos) (lcD fi g ft fe vs) := by
  subst hvs
  exact pe_imp (pe_lc hc hN hi ok (fun s H C' cl fp => (h s H C' cl fp (C.blk s H scope _ fp)).1) (fun s H C' cl fp => (h s H C' cl fp (C.blk s H scope _ fp)).2.1) (fun s H C' cl fp => (h s H C' cl fp (C.blk s H scope _ fp)).2.2) hs) fun _ _ _ q => lc_read q
theorem ds_setLc {i : Nat} {y : Str} {py : Pos} {elt tg iter : Expr} {ifs : List Expr} {scope : Scope} {own : List (Str × Nat)} {vs : List Nat} {fi : LS → Store → Out Its} {g : D → LS → Store → Out LS} {ft : LS → Store → Out Bool} {fe : LS → Store → Out D} (C : Ctx X W k) (hc : X.calm = true) (hN : X.N.Nodup)
    (hy : X.N[i]? = some y) (hyl : X.env.scope.names.lookup y = some .local) (hsw : swapsWith (.ListComp elt [⟨tg, iter, ifs, 0⟩] scope pos) (some (.Name y py)) spos.line X.env = pure true)
    (hi : DI X W tg iter fi) (ok : BlkOk X.N X.env.scope scope own) (hvs : own.map (·.2) = vs)
    (h : ∀ (s : Shared) (H : Hp) (C' : Addr) (cl : List (Str × Addr)) (fp : List Addr), Ctx (X.blk s H scope (compEnvC scope cl C' X.env) fp) W0 k →
      DGx (X.blk s H scope (compEnvC scope cl C' X.env) fp) vs tg g ∧ DTs (X.blk s H scope (compEnvC scope cl C' X.env) fp) W0 ifs ft ∧ DE (X.blk s H scope (compEnvC scope cl C' X.env) fp) W0 elt fe)
    (hs : ∀ x, foldedSetIterable iter X.env x = pure x := by intro _; rfl) :
    DS X W (.Assign [.Name y py] (.ListComp elt [⟨tg, iter, ifs, 0⟩] scope pos) spos) (asgD (lcD fi g ft fe vs) (nameG i)) := by
  subst hvs
  exact ps_imp (ps_setLc hc hN hy hyl hsw hi ok (fun s H C' cl fp => (h s H C' cl fp (C.blk s H scope _ fp)).1) (fun s H C' cl fp => (h s H C' cl fp (C.blk s H scope _ fp)).2.1) (fun s H C' cl fp => (h s H C' cl fp (C.blk s H scope _ fp)).2.2) hs) fun N σ H ⟨ρ, ls, st, A, q⟩ =>
    lc_read (ofE_read (k := fun ls d st1 => match nameG i d ls st1 with | .ok ls' st' => .nx ls' st' | _ => .bad) A q fun ρ1 v H1 d st1 x A1 r q => PSO.doneNx q (A1.put i r))
theorem ds_whileC {c : Expr} {body : List Stmt} {tc : LS → Store → Out Bool} {g : LS → Store → SO} (C : Ctx X W k) (hc : DT X W c tc) (hb : DSs X W body g) : DS X W (.While c body [] pos) (whileD tc g) := ds_while C.po hc hb
theorem ds_forC {tg iter : Expr} {body : List Stmt} {fi : LS → Store → Out Its} {g : D → LS → Store → Out LS} {b : LS → Store → SO} (C : Ctx X W k) (hc : X.calm = true) (hi : DI X W tg iter fi) (hg : DG X tg g) (hb : DSs X W body b)
    (hs : ∀ x, foldedSetIterable iter X.env x = pure x := by intro _; rfl) : DS X W (.For tg iter body [] pos) (forD fi g b) := ds_for C.po hc hi hg hb hs

/-! ### three at once -/
def parD3 (i j l : Nat) (fr : LS → Store → Out (List D)) : LS → Store → SO := fun ls st => ofE (fr ls st) ls fun ds st1 => match ds with
  | [d, e, f] => .nx (setL (setL (setL ls i d) j e) l f) st1
  | _ => .bad
theorem ds_par3 {i j l : Nat} {x y z : Str} {a b c : Expr} {px py pz pt : Pos} {kt k2 pt2} (hc : X.calm = true) (hN : X.N.Nodup) (hi : X.N[i]? = some x) (hj : X.N[j]? = some y) (hl : X.N[l]? = some z) (hij : i ≠ j) (hil : i ≠ l) (hjl : j ≠ l)
    (hx : X.env.scope.names.lookup x = some .local) (hy : X.env.scope.names.lookup y = some .local) (hz : X.env.scope.names.lookup z = some .local) (ha : DA X W [a, b, c] fr)
    (hw : swappedStores [.Tuple [.Name x px, .Name y py, .Name z pz] kt pt] (.Tuple [a, b, c] k2 pt2) X.env = pure (some [x, y, z]) := by rfl)
    (hs : swapsWithSole [.Tuple [.Name x px, .Name y py, .Name z pz] kt pt] (.Tuple [a, b, c] k2 pt2) pos.line X.env = pure false := by rfl) :
    DS X W (.Assign [.Tuple [.Name x px, .Name y py, .Name z pz] kt pt] (.Tuple [a, b, c] k2 pt2) pos) (parD3 i j l fr) := ps_imp (ps_par3 hc hN hi hj hl hij hil hjl hx hy hz ha hw hs) fun N σ H ⟨ρ, ls, st, A, p⟩ =>
  ofE_read (R := rVs X.K) (k := fun ls ds st1 => match ds with | [d, e, f] => .nx (setL (setL (setL ls i d) j e) l f) st1 | _ => .bad) A p fun ρ1 vs H1 ds st1 x A1 r q => by
    cases r with
    | nil => exact q.elim
    | cons r1 r2 =>
      cases r2 with
      | nil => exact q.elim
      | cons r2 r3 =>
        cases r3 with
        | nil => exact q.elim
        | cons r3 r4 =>
          cases r4 with
          | nil => exact ⟨_, _, _, rfl, PSO.doneNx q (((A1.put i r1).put j r2).put l r3)⟩
          | cons _ _ => exact q.elim

/-! ### constants of the module -/
theorem de_glob {x : Str} {v : V} {u : Value} {d : D} (hm : X.mg x = some u) (r : RelV v u) (rd : ∀ H ρ, RV X.K H ρ v d) (hg : Gl X x := by rfl) (hd : (x == ("__debug__" : Str)) = false := by decide) : DE X W (.Name x pos) (litD d) := de_lit (pe_glob hg hm r hd) rd
theorem de_globI {x : Str} {i : Int} (hm : ∃ t, X.mg x = some (.int i t)) (hg : Gl X x := by rfl) (hd : (x == ("__debug__" : Str)) = false := by decide) : DE X W (.Name x pos) (litD (.int i)) := by
  obtain ⟨t, h⟩ := hm
  exact de_glob h (v := .int i) ⟨t, rfl⟩ (fun _ _ => .int i) hg hd

/-! ### isinstance in a suite -/
def isED (i : Nat) (a : Addr) (b : Bool) : LS → Store → Out D := fun ls st => match getL ls i with
  | some (.adr c) => if c = a then .ok (.bl b) st else .bad
  | _ => .bad
theorem isE_read {i : Nat} {a DA : Addr} {b : Bool} {cv : Value} {c : V} (hcv : ∀ u, RelV c u → u = cv) (hk : PySem.W.kitOne X.K (.ref DA) cv = some b) {σ : SV} {H : Hp} {Q : VK} (h : tE X.K X.mg W (isED i a b) σ H Q) :
    tCB (rIsE X.K DA a) (tCons (tVar i) (tCons (tC c) tNil)) σ H Q := by
  obtain ⟨ρ, ls, st, A, q⟩ := h
  unfold isED at q
  split at q
  · rename_i c' e1
    split at q
    · rename_i e2
      subst e2
      obtain ⟨v, h1, h2⟩ := A.loc i _ e1
      cases h2
      exact ⟨_, h1, c, cv, b, rfl, hcv, hk, OO.done q A.sto (.bl b)⟩
    · exact q.elim
  · exact q.elim
/-- isinstance(e, D2), D2 a class of the text -/
theorem de_isC {i : Nat} {a DA T : Addr} {oe : Obj} {pn : List (Addr × Obj)} {b : Bool} {n x : Str} {pe : Pos} (E : ExcC X.K DA) (hz : Zc (.ref DA) none oe) (hfl : ∃ vs, oe.data = .fields vs) (hk : PySem.W.kitOne X.K (.ref DA) (.ref T) = some b)
    (hx : X.mg x = some (.ref T)) (hm0 : X.mg "isinstance" = none) (hN : X.N[i]? = some n := by rfl) (hv : Vis X.env.scope n := by first | exact Or.inl rfl | exact Or.inr (Or.inl rfl) | exact Or.inr (Or.inr rfl))
    (hg : Gl X "isinstance" := by rfl) (hgx : Gl X x := by rfl) (hd : (x == ("__debug__" : Str)) = false := by decide) (hdn : (n == ("__debug__" : Str)) = false := by decide) (hcd : (n == ("__classdict__" : Str)) = false := by decide)
    (hs : starEach [.Name n pe, .Name x p2] X.env = (false, eval (.Name n pe) X.env) :: starEach [.Name x p2] X.env := by rfl) (hpl : (backTo pos (starEach [.Name x p2] X.env)).any (·.1) = false := by rfl)
    (hs2 : starEach [.Name x p2] X.env = (false, eval (.Name x p2) X.env) :: starEach [] X.env := by rfl) :
    DE (suX X a oe pn) W (.Call (.Name "isinstance" p) [.Name n pe, .Name x p2] [] pos) (isED i a b) :=
  pe_imp (pe_callB (call_isE E hz hfl) hg hm0 boot_isinstance (pa_cons (pe_var (X := suX X a oe pn) hN hv hdn hcd) (pa_cons (pe_glob (X := suX X a oe pn) hgx hx (v := .ref T) rfl hd) pa_nil hs2) hs) (by decide) (by decide) hs hpl) fun _ _ _ h => isE_read (c := .ref T) (cv := .ref T) (fun u hu => hu) hk h
/-- isinstance(e, T), T a class of the language -/
theorem de_isB {i : Nat} {a DA : Addr} {oe : Obj} {pn : List (Addr × Obj)} {b : Bool} {n x : Str} {T : String} {pe : Pos} (E : ExcC X.K DA) (hz : Zc (.ref DA) none oe) (hfl : ∃ vs, oe.data = .fields vs) (hk : PySem.W.kitOne X.K (.ref DA) (.type T) = some b)
    (hx : X.mg x = none) (hbt : bootBuiltins x = some (.type T)) (hm0 : X.mg "isinstance" = none) (hN : X.N[i]? = some n := by rfl) (hv : Vis X.env.scope n := by first | exact Or.inl rfl | exact Or.inr (Or.inl rfl) | exact Or.inr (Or.inr rfl))
    (hg : Gl X "isinstance" := by rfl) (hgx : Gl X x := by rfl) (hnn : x ≠ "__name__" := by decide) (hd : (x == ("__debug__" : Str)) = false := by decide) (hdn : (n == ("__debug__" : Str)) = false := by decide) (hcd : (n == ("__classdict__" : Str)) = false := by decide)
    (hs : starEach [.Name n pe, .Name x p2] X.env = (false, eval (.Name n pe) X.env) :: starEach [.Name x p2] X.env := by rfl) (hpl : (backTo pos (starEach [.Name x p2] X.env)).any (·.1) = false := by rfl)
    (hs2 : starEach [.Name x p2] X.env = (false, eval (.Name x p2) X.env) :: starEach [] X.env := by rfl) :
    DE (suX X a oe pn) W (.Call (.Name "isinstance" p) [.Name n pe, .Name x p2] [] pos) (isED i a b) :=
  pe_imp (pe_callB (call_isE E hz hfl) hg hm0 boot_isinstance (pa_cons (pe_var (X := suX X a oe pn) hN hv hdn hcd) (pa_cons (pe_bltn (X := suX X a oe pn) (v := .ty T) hgx hx hbt rfl hnn hd) pa_nil hs2) hs) (by decide) (by decide) hs hpl) fun _ _ _ h => isE_read (c := .ty T) (cv := .type T) (fun u hu => hu) hk h
/-! .. and its comparisons -/
theorem cms_eq (C : CtxS X) : CmpD X W .Eq eqV := ⟨_, op_eq.or (op_eqD C.un), opd_or od_eqS od_eqG (eqF_or false)⟩
theorem cms_ne (C : CtxS X) : CmpD X W .NotEq neV := ⟨_, op_ne.or (op_neD C.un), opd_or od_neS od_neG (eqF_or true)⟩

/-! ### any over a tuple of ints -/
def flatP : PyData → Bool
  | .none => true
  | .bool _ => true
  | .int _ => true
  | _ => false
def rAnyT (K : PySem.W.Frag) : List V → Hp → VK → Prop := fun xs H Q => ∃ (a : Addr) (ps : List PyData), xs = [.ref a] ∧ Dp K H (.ref a) (.tuple ps) ∧ ps.all flatP = true ∧ Q (.bl (ps.any PyData.truthy)) H
theorem flat_plain : ∀ {ps : List PyData}, ps.all flatP = true → PyData.plainAll ps = true
  | [], _ => rfl
  | p :: ps, h => by
    rw [List.all_cons, Bool.and_eq_true] at h
    rw [PyData.plainAll, flat_plain h.2, Bool.and_true]
    cases p <;> first | rfl | cases h.1
theorem call_anyT (C : Ctx X W k) : CallR X (.builtin "any") (rAnyT X.K) := by
  intro pins s σ H xs us Q I r h
  obtain ⟨a, ps, rfl, hd, hf, q⟩ := h
  obtain ⟨u, rfl, ru⟩ := vals1 r
  obtain rfl : u = Value.ref a := ru
  cases hd with
  | tup hs ha =>
    obtain ⟨its, rv, pl, hz⟩ := I.tuple hs
    obtain ⟨as, h4⟩ := Dp.readsAll I ps _ its ha rv
    refine PySem.W.any_tuple_data (xs := ps) (as := as) C.rm.hd pl (by simpa using h4) (flat_plain hf) (fun x hx => ?_) (fun h' tk hk => ⟨.bl _, H, I.kept (t' := tk) hk, rfl, q⟩)
    have := List.all_eq_true.mp hf x hx
    cases x <;> first | exact trivial | cases this
def anyTV (ds : List D) (st : Store) : Out D := match ds with
  | [d] => (match toP st 60 d with
    | some (.tuple ps) => if ps.all flatP = true then .ok (.bl (ps.any PyData.truthy)) st else .bad
    | _ => .bad)
  | _ => .bad
theorem cd_anyT : CallD X W (rAnyT X.K) anyTV := by
  intro σ ρ H st xs ds Q s r h
  unfold anyTV at h
  split at h
  · rename_i d
    cases r with
    | cons r1 r2 =>
      cases r2
      split at h
      · rename_i ps e1
        split at h
        · rename_i hf
          have hd := toP_read s _ _ _ _ r1 e1
          cases hd with
          | tup h1 h2 => exact ⟨_, ps, rfl, .tup h1 h2, hf, OO.done h s (.bl _)⟩
        · exact h.elim
      · exact h.elim
  · exact h.elim

/-! ### dicts with ints and texts as keys -/
def keyD : D → Option Key
  | .int i => some (.inl i)
  | .str x => some (.inr x)
  | _ => none
theorem keyD_read {K : PySem.W.Frag} {H : Hp} {ρ : List Addr} {v : V} {d : D} {c : Key} (r : RV K H ρ v d) (h : keyD d = some c) : v = kV c := by
  cases r <;> first | (cases h; rfl) | cases h
def valD (kvs : List (Key × D)) (c : Key) : Option D := (kvs.find? fun kv => decide (kv.1 = c)).map (·.2)
def putD (kvs : List (Key × D)) (c : Key) (d : D) : List (Key × D) :=
  if (kvs.any fun kv => decide (kv.1 = c)) = true then kvs.map (fun kv => if kv.1 = c then (kv.1, d) else kv) else kvs ++ [(c, d)]
theorem KVr.val {K : PySem.W.Frag} {H : Hp} {ρ : List Addr} (c : Key) : ∀ {ws : List (Key × V)} {kvs : List (Key × D)}, KVr K H ρ ws kvs → (valV ws c = none ∧ valD kvs c = none) ∨ ∃ v d, valV ws c = some v ∧ valD kvs c = some d ∧ RV K H ρ v d
  | _, _, .nil => .inl ⟨rfl, rfl⟩
  | _, _, .cons (a := p) (b := q) r t => by
    by_cases e : p.1 = c
    · exact .inr ⟨p.2, q.2, by simp [valV, List.find?_cons, e], by simp [valD, List.find?_cons, ← r.1, e], r.2⟩
    · rcases KVr.val c t with ⟨h1, h2⟩ | ⟨v, d, h1, h2, h3⟩
      · exact .inl ⟨by simpa [valV, List.find?_cons, e] using h1, by simpa [valD, List.find?_cons, ← r.1, e] using h2⟩
      · exact .inr ⟨v, d, by simpa [valV, List.find?_cons, e] using h1, by simpa [valD, List.find?_cons, ← r.1, e] using h2, h3⟩
theorem KVr.anyK {K : PySem.W.Frag} {H : Hp} {ρ : List Addr} (c : Key) : ∀ {ws : List (Key × V)} {kvs : List (Key × D)}, KVr K H ρ ws kvs → (ws.any fun kv => decide (kv.1 = c)) = kvs.any fun kv => decide (kv.1 = c)
  | _, _, .nil => rfl
  | _, _, .cons r t => by rw [List.any_cons, List.any_cons, KVr.anyK c t, r.1]
theorem KVr.app {K : PySem.W.Frag} {H : Hp} {ρ : List Addr} : ∀ {ws ws' : List (Key × V)} {kvs kvs' : List (Key × D)}, KVr K H ρ ws kvs → KVr K H ρ ws' kvs' → KVr K H ρ (ws ++ ws') (kvs ++ kvs')
  | _, _, _, _, .nil, s => s
  | _, _, _, _, .cons r t, s => .cons r (KVr.app t s)
theorem KVr.upd' {K : PySem.W.Frag} {H : Hp} {ρ : List Addr} {c : Key} {v : V} {d : D} (rv : RV K H ρ v d) : ∀ {ws : List (Key × V)} {kvs : List (Key × D)}, KVr K H ρ ws kvs → KVr K H ρ (ws.map fun kv => if kv.1 = c then (kv.1, v) else kv) (kvs.map fun kv => if kv.1 = c then (kv.1, d) else kv)
  | _, _, .nil => .nil
  | _, _, .cons (a := p) (b := q) r t => by
    refine .cons ?_ (KVr.upd' rv t)
    dsimp only
    by_cases e : p.1 = c
    · rw [if_pos e, if_pos (r.1 ▸ e)]; exact ⟨r.1, rv⟩
    · rw [if_neg e, if_neg (fun z => e (r.1.trans z))]; exact r
theorem KVr.put {K : PySem.W.Frag} {H : Hp} {ρ : List Addr} {c : Key} {v : V} {d : D} (rv : RV K H ρ v d) {ws : List (Key × V)} {kvs : List (Key × D)} (h : KVr K H ρ ws kvs) : KVr K H ρ (putK ws c v) (putD kvs c d) := by
  unfold putK putD
  rw [h.anyK c]
  split
  · exact h.upd' rv
  · exact h.app (.cons ⟨rfl, rv⟩ .nil)
theorem KVr.length {K : PySem.W.Frag} {H : Hp} {ρ : List Addr} : ∀ {ws : List (Key × V)} {kvs : List (Key × D)}, KVr K H ρ ws kvs → ws.length = kvs.length
  | _, _, .nil => rfl
  | _, _, .cons _ t => congrArg Nat.succ (KVr.length t)
theorem KVr.ext {K : PySem.W.Frag} {H H' : Hp} {ρ ρ' : List Addr} (x : Ext ρ H ρ' H') {ws : List (Key × V)} {kvs : List (Key × D)} (h : KVr K H ρ ws kvs) : KVr K H' ρ' ws kvs := paired_imp (fun _ _ r => ⟨r.1, r.2.ext x⟩) h
/-- the dict of a cell -/
def cellK (st : Store) (n : Nat) : Option (List (Key × D)) := match st[n]? with
  | some (.dic l) => some l
  | _ => none
theorem cellK_eq {st : Store} {n : Nat} {l : List (Key × D)} (h : cellK st n = some l) : st[n]? = some (.dic l) := by
  unfold cellK at h
  cases e : st[n]? with
  | none => rw [e] at h; cases h
  | some c =>
    rw [e] at h
    cases c with
    | dic l => cases h; rfl
    | lst _ => cases h
def dic0D : LS → Store → Out D := fun _ st => .ok (.ref st.length) (st ++ [.dic []])
theorem RS.newK {K : PySem.W.Frag} {H : Hp} {ρ : List Addr} {st : Store} {a : Addr} {ws : List (Key × V)} {kvs : List (Key × D)} (s : RS K H ρ st) (h : H a = none) (r : KVr K H ρ ws kvs) : RS K (upd H a (.dK ws)) (ρ ++ [a]) (st ++ [.dic kvs]) :=
  s.new h ⟨ws, upd_same, r.ext (Ext.cell h)⟩
theorem RS.writeK {K : PySem.W.Frag} {H : Hp} {ρ : List Addr} {st : Store} {a : Addr} {n : Nat} {ws : List (Key × V)} {kvs : List (Key × D)} (s : RS K H ρ st) (h : ρ[n]? = some a) (r : KVr K H ρ ws kvs) : RS K (upd H a (.dK ws)) ρ (st.set n (.dic kvs)) :=
  s.write h ⟨ws, upd_same, r.ext (Ext.write (List.mem_of_getElem? h))⟩
theorem de_dic0 : DE X W (.Dict [] [] pos) dic0D := pe_imp pe_dnewK fun σ H Q ⟨ρ, ls, st, A, q⟩ p hp => OO.here q (Ext.cell hp) (A.sto.newK hp .nil) (.ref (ref_new A.sto p))
/-- o[i] = v, o a dict -/
def putV (o i v : D) (st : Store) : Option Store := match o, keyD i with
  | .ref n, some c => (match cellK st n with
    | some kvs => if kvs.length < 16777216 then some (st.set n (.dic (putD kvs c v))) else none
    | none => none)
  | _, _ => none
def dputD (fo fi fe : LS → Store → Out D) : LS → Store → SO := fun ls st => ofE (fe ls st) ls fun v st1 => ofE (fo ls st1) ls fun o st2 => ofE (fi ls st2) ls fun i st3 => match putV o i v st3 with
  | some st4 => .nx ls st4
  | none => .bad
theorem ds_dput {o i : Expr} {fo fi : LS → Store → Out D} {pos' : Pos} (C : Ctx X W k) (ho : DE X W o fo) (hi : DE X W i fi) (he : DE X W e f) (hs : swapsWith e (some (.Subscript o i pos')) pos.line X.env = pure false := by rfl) :
    DS X W (.Assign [.Subscript o i pos'] e pos) (dputD fo fi f) := ps_imp (ps_dput (by have := C.rm.un; omega) ho hi he hs) fun N σ H ⟨ρ, ls, st, A, q⟩ => by
  refine ofE_read (R := rV X.K) (k := fun ls v st1 => ofE (fo ls st1) ls fun o st2 => ofE (fi ls st2) ls fun i st3 => match putV o i v st3 with | some st4 => .nx ls st4 | none => .bad) A q fun ρ1 v H1 d st1 x1 A1 r1 q1 => ?_
  refine ofE_read (R := rV X.K) (k := fun ls o st2 => ofE (fi ls st2) ls fun i st3 => match putV o i d st3 with | some st4 => .nx ls st4 | none => .bad) A1 q1 fun ρ2 vo H2 dO st2 x2 A2 r2 q2 => ?_
  refine ofE_read (R := rV X.K) (k := fun ls i st3 => match putV dO i d st3 with | some st4 => .nx ls st4 | none => .bad) A2 q2 fun ρ3 vi H3 di st3 x3 A3 r3 q3 => ?_
  cases e1 : putV dO di d st3 with
  | none => rw [e1] at q3; exact q3.elim
  | some st4 =>
    rw [e1] at q3
    have r2' := RV.ext x3 _ r2
    have r1' := RV.ext (x2.trans x3) _ r1
    unfold putV at e1
    split at e1
    · rename_i n c ek
      split at e1
      · rename_i kvs ec
        split at e1
        · rename_i hl
          cases e1
          cases r2' with
          | @ref a _ hr =>
            obtain ⟨ws, g1, g2⟩ := A3.sto.cell n a _ hr (cellK_eq ec)
            have ey := keyD_read r3 ek
            subst ey
            exact ⟨a, _, rfl, DPut.k g1 (by rw [g2.length, sizeLine_eq]; exact hl), PSO.doneNx (PSO.grow q3 (Ext.write (List.mem_of_getElem? hr))) (A3.grow (Ext.write (List.mem_of_getElem? hr)) (A3.sto.writeK hr (g2.put r1')))⟩
        · cases e1
      · cases e1
    · cases e1
/-- o.get(i, v), o a dict -/
def isDic (st : Store) : D → Bool
  | .ref n => (cellK st n).isSome
  | _ => false
def getV (o i v : D) (st : Store) : Out D := match o, keyD i with
  | .ref n, some c => (match cellK st n with
    | some kvs => .ok ((valD kvs c).getD v) st
    | none => .bad)
  | _, _ => .bad
def dget2D (fo fi fe : LS → Store → Out D) : LS → Store → Out D := fun ls st => (fo ls st).bind fun o st1 => if isDic st1 o = true then (fi ls st1).bind fun i st2 => (fe ls st2).bind fun v st3 => getV o i v st3 else .bad
theorem de_dget2 {o i : Expr} {fo fi : LS → Store → Out D} {apos cpos : Pos} (C : Ctx X W k) (ho : DE X W o fo) (hi : DE X W i fi) (he : DE X W e f) (m : M2 X o "get" apos i e cpos := by exact ⟨rfl, rfl, rfl, rfl⟩) :
    DE X W (.Call (.Attribute o "get" apos) [i, e] [] cpos) (dget2D fo fi f) := pe_imp (pe_dget2 (by have := C.rm.un; omega) ho hi he m) fun σ H Q ⟨ρ, ls, st, A, q⟩ => by
  refine tF_bind (R := rV X.K) (R2 := rV X.K) (f := fun ls o st1 => if isDic st1 o = true then (fi ls st1).bind fun i st2 => (f ls st2).bind fun v st3 => getV o i v st3 else .bad) A q fun ρ1 vo H1 dO st1 x1 A1 r1 q1 => ?_
  split at q1
  · rename_i hd
    cases dO with
    | ref n =>
      cases r1 with
      | @ref a _ hr =>
        obtain ⟨kvs, ek⟩ := Option.isSome_iff_exists.mp hd
        obtain ⟨ws, g1, g2⟩ := A1.sto.cell n a _ hr (cellK_eq ek)
        refine ⟨a, rfl, .inl ⟨ws, .inl g1⟩, ?_⟩
        refine tF_bind (R := rV X.K) (R2 := rV X.K) (f := fun ls i st2 => (f ls st2).bind fun v st3 => getV (.ref n) i v st3) A1 q1 fun ρ2 vi H2 di st2 x2 A2 r2 q2 => ?_
        refine tF_bind (R := rV X.K) (R2 := rV X.K) (f := fun _ v st3 => getV (.ref n) di v st3) A2 q2 fun ρ3 vv H3 dv st3 x3 A3 r3 q3 => ?_
        unfold getV at q3
        split at q3
        · rename_i n' c e0 ek2
          cases e0
          split at q3
          · rename_i kvs3 ec3
            have hr3 := x3.at (x2.at hr)
            obtain ⟨ws3, g3, g4⟩ := A3.sto.cell n a _ hr3 (cellK_eq ec3)
            have ey := keyD_read r2 ek2
            subst ey
            refine ⟨_, DGet.k g3, ?_⟩
            rcases g4.val c with ⟨h1, h2⟩ | ⟨v', d', h1, h2, h3⟩
            · rw [h1]; rw [h2] at q3; exact OO.done q3 A3.sto r3
            · rw [h1]; rw [h2] at q3; exact OO.done q3 A3.sto h3
          · exact q3.elim
        · exact q3.elim
    | _ => cases hd
  · exact q1.elim
end
end DD

set_option maxRecDepth 100000
set_option maxHeartbeats 2000000
/-! DD9: the head's facts (defs, exception classes, Bools), the law's end. -/
namespace DD
open PySem PySem.Spec PyProof.Rows L2

/-! ### classes whose __init__ says super().__init__() -/
structure CDef where
  nm : Str
  qual : Str
  params : Arguments
  body : List Stmt
  scope : Scope
abbrev FnC : Type := Option (Str × Str × Arguments × FuncBody × Scope × Addr × List Str × Addr)
def fnC (K : PySem.W.Frag) (x : Str) : FnC := match K.lookup (He.ma K (He.ga K x) "__init__") with
  | some ⟨_, _, .func fd, _⟩ => some (fd.name, fd.qualname, fd.params, fd.body, fd.scope, fd.globals, fd.closure.map (·.1), fd.builtins)
  | _ => none
def CDef.val (d : CDef) : FnC := some ("__init__", d.qual, d.params, .stmts d.body, d.scope, mainGlobals, ["__class__"], builtinsNs)
def dflNo (v : Value) : Bool := match v with
  | .none => true
  | _ => false
def fileB (K : PySem.W.Frag) (file : Str) (v : Value) : Bool := match v with
  | .ref a => (match K.lookup a with
    | some ⟨_, _, .fields vs, _⟩ => (match (vs[2]? : Option Value) with
      | some (Value.str f _) => decide (file = f)
      | _ => false)
    | _ => false)
  | _ => false
def cellB (K : PySem.W.Frag) (C : Addr) (l : List (Str × Addr)) : Bool := match l with
  | [(_, c)] => (match K.lookup c with
    | some ⟨_, _, .cell (some (.ref D)), _⟩ => decide (D = C)
    | _ => false)
  | _ => false
def ownB (K : PySem.W.Frag) (file : Str) (C : Addr) : Bool := match K.lookup (He.ma K C "__init__") with
  | some ⟨_, _, .func fd, _⟩ => dflNo fd.defaults && (PySem.W.codeIn K fd.code fd.qualname && (fileB K file fd.code && cellB K C fd.closure))
  | _ => false
def iniB (K : PySem.W.Frag) (file x : Str) : Bool :=
  PySem.W.excInitIn K (He.ga K x) PySem.HandSPX.veTail "ValueError.__new__" && (decide (PySem.W.subIn K (.ref (He.ga K x)) (.type "BaseException") = some true) && (decide (PySem.W.typeIn K (.ref (He.ga K x)) = some (.type "type")) && (PySem.W.keepIn K (.ref (He.ga K x)) &&
  (He.eqO (PySem.W.findIn K (.ref (He.ga K x)) "__init__") (some (some (.ref (He.ma K (He.ga K x) "__init__")))) && (decide (PySem.W.typeIn K (.ref (He.ma K (He.ga K x) "__init__")) = some (.type "function")) && (ownB K file (He.ga K x) &&
  (He.eqO (PySem.W.ks_superIn K (He.ga K x) (He.ga K x) "__init__") (some (some (.builtin "ValueError.__init__"))) && (decide (PySem.W.subIn K (.ref (He.ga K x)) (.type "ValueError") = some true) && (decide (PySem.W.mroIn K (He.ga K x) (.ref (He.ga K x)) = some true) &&
  He.eqO (PySem.W.nsIn K cStatics "thirdparty.any") (some none))))))))))
/-- what is seen of the text -/
structure IniText (params : Arguments) (body : List Stmt) (scope : Scope) : Prop where
  ex : ∃ (ar : Arg) (p0 p1 p2 p3 p4 : Pos), body = iniBody p0 p1 p2 p3 p4 ∧ (params.posonlyargs ++ params.args).head? = some ar ∧
    (∀ (nm q : Str) (kV doc pm ct : Value) (an : Option Addr) (cda cc : Addr) (u : Value), bindArgs (PySem.W.ksFn nm q params (iniBody p0 p1 p2 p3 p4) scope .none kV doc pm an (.ref cda) ct cc) ⟨[u], []⟩ = pure [(ar.arg, u)]) ∧
    scope.names.lookup ("super" : Str) = some .globalImplicit ∧ scope.names.lookup ("__class__" : Str) = some .free ∧ scope.names.lookup ar.arg = some .local ∧ scope.kind = .function ∧
    (∀ x ∈ scope.names, x.2 ≠ .cell) ∧ scope.isCoroutine = false ∧ scope.isGenerator = false ∧
    (∀ env : Env, env.scope = scope → swapsWith (.Call (.Attribute (.Call (.Name "super" p0) [] [] p1) "__init__" p2) [] [] p3) none p4.line env = pure false) ∧
    (∃ pl : Sem Bool, ∀ env : Env, eval (.Call (.Attribute (.Call (.Name "super" p0) [] [] p1) "__init__" p2) [] [] p3) env = (do
      let ov ← attributeBase (.Call (.Name "super" p0) [] [] p1) "__init__" env (eval (.Call (.Name "super" p0) [] [] p1) env)
      standAt p2.atName
      let (f, first) ← holding [ov] (getMethod ov "__init__" pl)
      callWith p3 f first (backTo p3 (starEach [] env)) []))
theorem fileB_ok {K : PySem.W.Frag} {file : Str} {v : Value} (h : fileB K file v = true) : ∃ cda ccl cdd vs ccs f tf, v = .ref cda ∧ K.lookup cda = some ⟨ccl, cdd, .fields vs, ccs⟩ ∧ vs[2]? = some (.str f tf) ∧ file = f := by
  unfold fileB at h
  split at h
  · rename_i a
    split at h
    · rename_i x1 x2 vs x3 e
      split at h
      · rename_i f t e2
        exact ⟨a, _, _, vs, _, f, t, rfl, e, e2, of_decide_eq_true h⟩
      · cases h
    · cases h
  · cases h
theorem cellB_ok {K : PySem.W.Frag} {C : Addr} {l : List (Str × Addr)} (h : cellB K C l = true) : ∃ n cc cl cld csl, l = [(n, cc)] ∧ K.lookup cc = some ⟨cl, cld, .cell (some (.ref C)), csl⟩ := by
  unfold cellB at h
  split at h
  · rename_i n c
    split at h
    · rename_i x1 x2 D x3 e
      have := of_decide_eq_true h
      subst this
      exact ⟨n, c, _, _, _, rfl, e⟩
    · cases h
  · cases h
theorem dflNo_ok {v : Value} (h : dflNo v = true) : v = .none := by
  cases v <;> first | rfl | cases h
theorem ini_of {prog : Program} {K : PySem.W.Frag} {d : CDef} (e : fnC K d.nm = d.val) (h : iniB K prog.main.file d.nm = true) (T : IniText d.params d.body d.scope) (top : (prog.main.scope.names.lookup ("super" : Str)).isSome = false) : Ini0 prog K (He.ga K d.nm) := by
  obtain ⟨h1, h⟩ := He.ba h
  obtain ⟨h2, h⟩ := He.ba h
  obtain ⟨h3, h⟩ := He.ba h
  obtain ⟨h4, h⟩ := He.ba h
  obtain ⟨h5, h⟩ := He.ba h
  obtain ⟨h6, h⟩ := He.ba h
  obtain ⟨h7, h⟩ := He.ba h
  obtain ⟨h8, h⟩ := He.ba h
  obtain ⟨h9, h⟩ := He.ba h
  obtain ⟨h10, h11⟩ := He.ba h
  obtain ⟨dnm, dq, dpa, dbo, dsc⟩ := d
  obtain ⟨ar, p0, p1, p2, p3, p4, rfl, t1, t2, t3, t4, t5, t6, t7, t8, t9, t10, t11⟩ := T.ex
  dsimp only at *
  refine ⟨⟨h1, of_decide_eq_true h2, of_decide_eq_true h3, h4⟩, ?_, He.eqO_ok h8, of_decide_eq_true h9, of_decide_eq_true h10, He.eqO_ok h11, top⟩
  unfold ownB at h7
  unfold fnC at e
  cases q : K.lookup (He.ma K (He.ga K dnm) "__init__") with
  | none => rw [q] at h7; cases h7
  | some o =>
    obtain ⟨oc, od, dt, osl⟩ := o
    rw [q] at h7 e
    cases dt with
    | func fd =>
      obtain ⟨n1, n2, n3, n4, n5, n6, n7, n8, n9, n10, n11, n12, n13, n14, n15⟩ := fd
      obtain ⟨g1, g⟩ := He.ba (show (dflNo n8 && (PySem.W.codeIn K n13 n2 && (fileB K prog.main.file n13 && cellB K (He.ga K dnm) n7))) = true from h7)
      obtain ⟨g2, g⟩ := He.ba g
      obtain ⟨g3, g4⟩ := He.ba g
      obtain ⟨cda, ccl, cdd, vs, ccs, f, tf, rfl, k1, k2, k3⟩ := fileB_ok g3
      obtain ⟨cn, cc, cl, cld, csl, rfl, k4⟩ := cellB_ok g4
      have e2 : (some (n1, n2, n3, n4, n5, n6, [cn], n15) : FnC) = (some ((("__init__" : Str)), dq, dpa, FuncBody.stmts (iniBody p0 p1 p2 p3 p4), dsc, mainGlobals, [(("__class__" : Str))], builtinsNs) : FnC) := e
      simp only [Option.some.injEq, Prod.mk.injEq, List.cons.injEq, and_true] at e2
      obtain ⟨q1, q2, q3, q4, q5, q6, q7, q8⟩ := e2
      subst q1 q2 q3 q4 q5 q6 q7 q8
      have q9 := dflNo_ok g1
      subst q9
      exact ⟨_, cda, cc, oc, od, osl, _, n2, n3, n5, n9, n10, n11, n14, n12, ar, p0, p1, p2, p3, p4, He.eqO_ok h5, of_decide_eq_true h6, q, g2, ⟨ccl, cdd, vs, ccs, f, tf, k1, k2, by rw [k3]; exact beq_self_eq_true _⟩, ⟨cl, cld, csl, k4⟩, t1, t2 _ _ _ _ _ _ _ _ _, t3, t4, t5, t6, t7, t8, t9, t10, t11⟩
    | _ => cases h7

/-! ### isinstance of exceptions: the classes that are asked -/
def excB (K : PySem.W.Frag) (x : Str) : Bool :=
  He.eqO (PySem.W.findIn K (.ref (He.ga K x)) "__getattribute__") (some (some (.builtin "BaseException.__getattribute__"))) && (He.eqO (PySem.W.findIn K (.ref (He.ga K x)) "__getattr__") (some none) && (decide (PySem.W.subIn K (.ref (He.ga K x)) (.type "BaseException") = some true) &&
  (PySem.W.hasDictIn K (He.ga K x) && (He.eqO (PySem.W.findIn K (.ref (He.ga K x)) "__class__") (some (some (.builtin "object.__class__"))) && (He.eqO (PySem.W.specialIn K (.builtin "object.__class__") "__get__") (some (some (.builtin "getset_descriptor.__get__"))) &&
  (decide (PySem.W.takesIn K (.builtin "object.__class__") = some true) && decide (PySem.W.mroIn K (He.ga K x) (.type "object") = some true)))))))
theorem excB_ok {K : PySem.W.Frag} {x : Str} (h : excB K x = true) : ExcC K (He.ga K x) := by
  obtain ⟨h1, h⟩ := He.ba h
  obtain ⟨h2, h⟩ := He.ba h
  obtain ⟨h3, h⟩ := He.ba h
  obtain ⟨h4, h⟩ := He.ba h
  obtain ⟨h5, h⟩ := He.ba h
  obtain ⟨h6, h⟩ := He.ba h
  obtain ⟨h7, h8⟩ := He.ba h
  exact ⟨He.eqO_ok h1, He.eqO_ok h2, of_decide_eq_true h3, h4, He.eqO_ok h5, He.eqO_ok h6, of_decide_eq_true h7, of_decide_eq_true h8⟩

/-! ### the Hook -/
abbrev AlF : Type := He.AlD × (List FnC × Bool)
def frF (n : Nat) (g : Addr → Option Obj) : PySem.W.Frag := He.frG g (He.asD g n ++ [cStatics])
def obsF (n : Nat) (fa : List He.Fa) (fn : List He.DefD) (cn : List CDef) (ex : PySem.W.Frag → Bool) (g : Addr → Option Obj) : AlF :=
  (He.obsD fa fn (frF n g), (cn.map fun d => fnC (frF n g) d.nm, ex (frF n g)))
def valF (fn : List He.DefD) (cn : List CDef) : AlF := (He.valD fn, (cn.map CDef.val, true))
structure SaysF (fa : List He.Fa) (fn : List He.DefD) (cn : List CDef) (ex : PySem.W.Frag → Bool) (K : PySem.W.Frag) : Prop where
  d : He.SaysD fa fn K
  c : (cn.map fun d => fnC K d.nm) = cn.map CDef.val
  x : ex K = true
def hookF (n : Nat) (fa : List He.Fa) (fn : List He.DefD) (cn : List CDef) (ex : PySem.W.Frag → Bool) : PySem.W.Hook where
  α := AlF
  obs := fun s => obsF n fa fn cn ex s.heap.get?
  val := fun _ => valF fn cn
  says := fun _ h => ∃ K : PySem.W.Frag, K.In h ∧ SaysF fa fn cn ex K
  of := fun _ _ e => ⟨_, He.frG_in, ⟨congrArg (fun z : AlF => z.1) e, congrArg (fun z : AlF => z.2.1) e, congrArg (fun z : AlF => z.2.2) e⟩⟩
  keeps := fun _ _ _ ⟨K, hK, c⟩ k => ⟨K, PySem.W.Frag.In.keeps hK k, c⟩
theorem obsF_eq {n : Nat} {fa : List He.Fa} {fn : List He.DefD} {cn : List CDef} {ex : PySem.W.Frag → Bool} {g : Addr → Option Obj} {s : Shared} (h : ∀ a, g a = s.heap.get? a) : obsF n fa fn cn ex g = (hookF n fa fn cn ex).obs s := by
  have e : g = s.heap.get? := funext h
  rw [e]; rfl
theorem SaysF.cls {fa : List He.Fa} {fn : List He.DefD} {cn : List CDef} {ex : PySem.W.Frag → Bool} {K : PySem.W.Frag} (c : SaysF fa fn cn ex K) (i : Nat) {d : CDef} (h : cn[i]? = some d := by rfl) : fnC K d.nm = d.val := by
  have e2 : (cn.map fun d => fnC K d.nm)[i]? = (cn.map CDef.val)[i]? := by rw [c.c]
  rw [List.getElem?_map, List.getElem?_map, h] at e2
  exact Option.some.inj e2

/-! ### the law's end -/
section
variable {P : Program} {w : World} {K : PySem.W.Frag} {mg mb : Str → Option Value} {k : Nat} {fa a : Addr} {fd : FuncData} {x : Str} {s1 : Shared} {vs : List Value} {ns : List Int} {H : Hp} {F : List D → Store → Out D}
abbrev scr (vs : List Value) : Obj := { cls := .type "list", data := .seq vs.toArray }
theorem endCore (KX : K.In s1.heap) (G : s1.heap.Ns mainGlobals mg) (B : s1.heap.Ns builtinsNs mb) (hmb : ∀ x : Str, x ≠ "__name__" → mb x = bootBuiltins x) (lim : s1.heap.NoLimit) (hg : s1.gens = #[]) (ha : s1.heap.get? a = some (scr vs)) (hr : Room k callerA)
    (fn : ∀ base : Heap, K.In base → base.Ns mainGlobals mg → FnG P w K mg base k fa fd [x] (spD K mg 1 F)) (hb : ∀ (s : Shared) (u : Value), BindsTo s fd ⟨[u], []⟩ [(x, u)]) (hF : ∃ st', F [.cst (ns.map D.int)] [] = .ok (.bl true) st')
    (hO : ∀ b u, H b = some u → b = a ∧ ∃ xs, u = .frz (scr vs) (.lst xs)) (hS : FC K H [] a (ns.map V.int)) (hok : HOk P w H s1.heap) (hK : H a ≠ none → K.lookup a = none) :
    codeAny (model P w) callerA (.call (.ref fa) ⟨[.ref a], []⟩) (fun r s' => r = .ok (.ret (.bool true)) ∧ OldK s1.heap s'.heap ∧ s'.os = s1.os ∧ AllBare s'.gens) s1 := by
  have free : ∀ {b : Addr}, b ≠ a → H b = none := fun {b} n => by
    cases q : H b with
    | none => rfl
    | some u => exact absurd (hO b u q).1 n
  have nsA : ∀ {b : Addr} {m : Str → Option Value}, s1.heap.Ns b m → (hidT s1.heap H).Ns b m := fun {b m} ⟨o, es, ep, e, d, r⟩ => by
    refine ⟨o, es, ep, hidT_get e (free fun z => ?_), d, r⟩
    rw [z, ha] at e
    cases e
    have d : Data.seq vs.toArray _ = Data.dict es ep := d
    cases d
  have inA : K.In (hidT s1.heap H) := fun b o e => hidT_get (KX b o e) (by
    by_cases z : b = a
    · cases q : H b with
      | none => rfl
      | some u =>
        rw [z] at e q
        rw [hK (by rw [q]; exact fun y => nomatch y)] at e
        cases e
    · exact free z)
  have modA : Mod K mg (hidT s1.heap H) := ⟨inA, nsA G, ⟨mb, nsA B, hmb⟩, let ⟨mc, h1, h2⟩ := lim; ⟨mc, nsA h1, h2⟩⟩
  have env : Env0 P w K mg (hidT s1.heap H) callerA [] s1 H := ⟨rfl, modA, fun b o e => of_hidT e, Nat.le_of_eq (hidT_size _ _), trivial, fun b z => absurd (show b ∈ ([] : List Addr) from z) List.not_mem_nil, hok, .of_eq hg⟩
  have pre : spD K mg 1 F [.ref a] H (fun v _ => v = .bl true) (fun _ _ _ => False) := by
    obtain ⟨st', e⟩ := hF
    refine ⟨[], [.cst (ns.map D.int)], [], rfl, ⟨List.nodup_nil, rfl, fun n a c h => by simp at h⟩, .cons (.cst hS (RVs.of_ints ns)) .nil, ?_⟩
    rw [e]
    intro ρ' v H' _ _ r
    cases r
    rfl
  refine codeAny_mono ((fn _ inA (nsA G)).run callerA [] s1 H ⟨[.ref a], []⟩ [.ref a] [.ref a] _ _ hr rfl env (hb s1 (.ref a)) (.cons rfl .nil) pre) fun r s' h => ?_
  cases r with
  | error e =>
    obtain ⟨_, _, _, _, _, _, _, _, _, _, _, _, z⟩ := h
    exact z.elim
  | ok fl =>
    cases fl with
    | ret u =>
      obtain ⟨v, H', os, bare, un, hok', rv, rfl⟩ := h
      obtain rfl : u = Value.bool true := rv
      refine ⟨rfl, OldK.of_keep fun b o e => ?_, os, bare⟩
      cases q : H b with
      | none => exact un.keep b o e q (fun z => absurd (show b ∈ ([] : List Addr) from z) List.not_mem_nil) List.not_mem_nil
      | some u =>
        obtain ⟨_, xs, rfl⟩ := hO b u q
        have e1 := (hok b _ q).1
        have e2 := (hok' b _ (un.frzs b _ _ q)).1
        rw [e] at e1
        cases e1
        exact e2
    | _ => exact False.elim h
theorem endCall (KX : K.In s1.heap) (G : s1.heap.Ns mainGlobals mg) (B : s1.heap.Ns builtinsNs mb) (hmb : ∀ x : Str, x ≠ "__name__" → mb x = bootBuiltins x) (lim : s1.heap.NoLimit) (hg : s1.gens = #[]) (ha : s1.heap.get? a = some (scr vs)) (hi : IntsAre vs ns) (hl : ns.length ≤ sizeLine) (hr : Room k callerA)
    (fn : ∀ base : Heap, K.In base → base.Ns mainGlobals mg → FnG P w K mg base k fa fd [x] (spD K mg 1 F)) (hb : ∀ (s : Shared) (u : Value), BindsTo s fd ⟨[u], []⟩ [(x, u)]) (hF : ∃ st', F [.cst (ns.map D.int)] [] = .ok (.bl true) st') :
    codeAny (model P w) callerA (.call (.ref fa) ⟨[.ref a], []⟩) (fun r s' => r = .ok (.ret (.bool true)) ∧ OldK s1.heap s'.heap ∧ s'.os = s1.os ∧ AllBare s'.gens) s1 := by
  have rv := vals_ints hi
  cases hk : K.lookup a with
  | some o =>
    have e := KX a o hk
    rw [ha] at e
    cases e
    exact endCore (H := fun _ => none) KX G B hmb lim hg ha hr fn hb hF (fun b u z => nomatch (show (none : Option HO) = some u from z)) (.inr ⟨_, vs.toArray, _, hk, rfl, rfl, rfl, by rw [List.size_toArray, hi.length]; exact hl, by simpa using rv⟩)
      (fun b u z => nomatch (show (none : Option HO) = some u from z)) fun z => absurd rfl z
  | none =>
    have one : ∀ b u, (if b = a then some (HO.frz (scr vs) (.lst (ns.map V.int))) else none) = some u → b = a ∧ u = .frz (scr vs) (.lst (ns.map V.int)) := fun b u z => by
      by_cases q : b = a
      · rw [if_pos q] at z; cases z; exact ⟨q, rfl⟩
      · rw [if_neg q] at z; cases z
    refine endCore (H := fun b => if b = a then some (.frz (scr vs) (.lst (ns.map V.int))) else none) KX G B hmb lim hg ha hr fn hb hF (fun b u z => ⟨(one b u z).1, _, (one b u z).2⟩) (.inl ⟨⟨scr vs, if_pos rfl⟩, List.not_mem_nil⟩) (fun b u z => ?_) fun _ => hk
    obtain ⟨rfl, rfl⟩ := one b u z
    exact ⟨ha, by rw [List.length_map]; exact hl, vs, _, rv, ha⟩
end
/-- the law's goal behind the head -/
theorem endWalk {l : PySem.W.OpenLaw} {n k : Nat} {q : Program} {loose : List Str} {XP : (Str → Option Value) → Heap → Prop} {YP : World → Heap → Prop} {d : DefRec} {x : Str}
    (hn : l.most = some n) (hn2 : n ≤ sizeLine) (hdf : d.params.defaults = []) (hr : Room k callerA)
    (W : ∀ (w : World) (mg : Str → Option Value) (fa : Addr) (h : Heap), YP w h → h.Ns mainGlobals mg → mg d.name = some (.ref fa) →
      ∃ (K : PySem.W.Frag) (fd : FuncData) (F : List D → Store → Out D), K.In h ∧ (∀ (s : Shared) (u : Value), BindsTo s fd ⟨[u], []⟩ [(x, u)]) ∧
        (∀ ns : List Int, ns.length ≤ n → ∃ st', F [.cst (ns.map D.int)] [] = .ok (.bl true) st') ∧
        ∀ base : Heap, K.In base → base.Ns mainGlobals mg → FnG l.prog w K mg base k fa fd [x] (spD K mg 1 F)) :
    PySem.W.WalkO q loose XP YP l.row.toRowW d [] (fun f vs => PySem.call f vs) := by
  refine Att.attach_call hn hdf fun w s0 s1 mg mb fa o pm cd doc a vs ns G Y ho hd hcd hmg hobj hints hlen hg => ?_
  obtain ⟨K, fd, F, KX, hb, hsp, hF⟩ := W w mg fa _ Y G.T.g hmg
  exact endCall KX G.T.g G.T.b G.T.builtins G.T.nolimit hg hobj hints (Nat.le_trans hlen hn2) hr hF hb (hsp ns hlen)
end DD

set_option maxRecDepth 100000
set_option maxHeartbeats 2000000
/-! DD10: functions by what is good of them; how meanings are computed; loops. -/
namespace DD
open PySem PySem.Spec PyProof.Rows L2

/-! ### a def's function, chosen among what its body's outcome may be packed to -/
noncomputable def viaF (m : Nat) (g : LS → Store → SO) (Good : List D → Store → Out D → Prop) : List D → Store → Out D := fun ds st =>
  open Classical in if h : ∃ o, Good ds st o ∧ (ltS st.length st = true → ltDs st.length ds = true → Pk st.length (endO (g (startD m ds) st)) o) then Classical.choose h else .bad
theorem viaF_sem (m : Nat) (g : LS → Store → SO) (Good : List D → Store → Out D → Prop) (ds : List D) (st : Store) (h1 : ltS st.length st = true) (h2 : ltDs st.length ds = true) : Pk st.length (endO (g (startD m ds) st)) (viaF m g Good ds st) ∨ viaF m g Good ds st = .bad := by
  unfold viaF
  split
  · rename_i h
    exact .inl ((Classical.choose_spec h).2 h1 h2)
  · exact .inr rfl
theorem viaF_good {m : Nat} {g : LS → Store → SO} {Good : List D → Store → Out D → Prop} {ds : List D} {st : Store} {o : Out D} (h : Good ds st o) (hp : ltS st.length st = true → ltDs st.length ds = true → Pk st.length (endO (g (startD m ds) st)) o) : Good ds st (viaF m g Good ds st) := by
  have ex : ∃ o, Good ds st o ∧ (ltS st.length st = true → ltDs st.length ds = true → Pk st.length (endO (g (startD m ds) st)) o) := ⟨o, h, hp⟩
  unfold viaF
  rw [dif_pos ex]
  exact (Classical.choose_spec ex).1
/-- where the outcome is told outright -/
theorem viaF_eq {m : Nat} {g : LS → Store → SO} {Good : List D → Store → Out D → Prop} {ds : List D} {st : Store} {o : Out D} (h : Good ds st o) (u : ∀ o', Good ds st o' → o' = o) (hp : ltS st.length st = true → ltDs st.length ds = true → Pk st.length (endO (g (startD m ds) st)) o) : viaF m g Good ds st = o := u _ (viaF_good h hp)

/-! ### packing -/
theorem Pk.of_eq {n : Nat} {o o' : Out D} (h : o = o') : Pk n o o' := h ▸ .same o
/-- the store as it was, garbage behind it -/
theorem Pk.dropG {st : Store} {d : D} (g : Store) (h1 : ltS st.length st = true) (h2 : ltD st.length d = true) : Pk st.length (.ok d (st ++ g)) (.ok d st) := .ok (Pack.drop g (Nat.le_refl _) h1 h2)
theorem Pk.dropX {st : Store} {c : Str} (g : Store) (h1 : ltS st.length st = true) : Pk st.length (.ex ⟨c, []⟩ (st ++ g)) (.ex ⟨c, []⟩ st) := .ex (Pack.drop g (Nat.le_refl _) h1 rfl)
theorem set_take {st : Store} {n m : Nat} {c : Cell} : st.set n c ++ [] = st.set n c := List.append_nil _
theorem ltDs_mono {k k' : Nat} (h : k ≤ k') : (∀ d, ltD k d = true → ltD k' d = true) ∧ ∀ l, ltDs k l = true → ltDs k' l = true := by
  have key : ∀ n : Nat, (∀ d : D, sizeOf d < n → ltD k d = true → ltD k' d = true) ∧ ∀ l : List D, sizeOf l < n → ltDs k l = true → ltDs k' l = true := by
    intro n
    induction n with
    | zero => exact ⟨fun d h => absurd h (Nat.not_lt_zero _), fun d h => absurd h (Nat.not_lt_zero _)⟩
    | succ n ih =>
      refine ⟨fun d hd e => ?_, fun l hl e => ?_⟩
      · cases d with
        | ref m => simp only [ltD, decide_eq_true_eq] at e ⊢; omega
        | tup l => simp only [ltD] at e ⊢; exact ih.2 l (by simp at hd; omega) e
        | lst l => simp only [ltD] at e ⊢; exact ih.2 l (by simp at hd; omega) e
        | cst l => simp only [ltD] at e ⊢; exact ih.2 l (by simp at hd; omega) e
        | _ => rfl
      · cases l with
        | nil => rfl
        | cons d l =>
          simp only [ltDs, Bool.and_eq_true] at e ⊢
          exact ⟨ih.1 d (by simp at hl; omega) e.1, ih.2 l (by simp at hl; omega) e.2⟩
  exact ⟨fun d => (key (sizeOf d + 1)).1 d (Nat.lt_succ_self _), fun l => (key (sizeOf l + 1)).2 l (Nat.lt_succ_self _)⟩
theorem ltS_set {st : Store} {n k : Nat} {c : Cell} (h : ltS k st = true) (hc : ltC k c = true) : ltS k (st.set n c) = true := by
  unfold ltS at h ⊢
  rw [List.all_eq_true] at h ⊢
  intro x hx
  rcases List.mem_or_eq_of_mem_set hx with q | rfl
  · exact h x q
  · exact hc
/-- one cell changed, garbage behind -/
theorem Pk.dropS {st : Store} {d : D} {n : Nat} {c : Cell} (g : Store) (h1 : ltS st.length st = true) (hc : ltC st.length c = true) (h2 : ltD st.length d = true) : Pk st.length (.ok d (st.set n c ++ g)) (.ok d (st.set n c)) := by
  have hl : (st.set n c).length = st.length := List.length_set
  exact .ok (Pack.drop g (by rw [hl]; exact Nat.le_refl _) (by rw [hl]; exact ltS_set h1 hc) (by rw [hl]; exact h2))

/-! ### blocks -/
def blkB (N : List Str) (sc scope : Scope) (own : List (Str × Nat)) : Bool :=
  (match scope.kind with | .function => true | _ => false) && (scope.names.all (fun y => decide (scope.names.lookup y.1 = some y.2)) && (own.all (fun p => decide (N[p.2]? = some p.1)) &&
  (scope.names.all (fun y => !decide (y.2 = .free) || (decide (sc.names.lookup y.1 = some .cell) || decide (sc.names.lookup y.1 = some .free))) &&
  scope.names.all (fun y => !(decide (y.2 = .local) || decide (y.2 = .cell)) || ((own.map (·.1)).contains y.1 || !N.contains y.1)))))
theorem blkOk {N : List Str} {sc scope : Scope} {own : List (Str × Nat)} (h : blkB N sc scope own = true) : BlkOk N sc scope own := by
  obtain ⟨h1, h⟩ := He.ba h
  obtain ⟨h2, h⟩ := He.ba h
  obtain ⟨h3, h⟩ := He.ba h
  obtain ⟨h4, h5⟩ := He.ba h
  refine ⟨?_, fun y hy => of_decide_eq_true (List.all_eq_true.mp h2 y hy), fun p hp => of_decide_eq_true (List.all_eq_true.mp h3 p hp), fun y hy e => ?_, fun y hy e => ?_⟩
  · split at h1
    · assumption
    · cases h1
  · have := List.all_eq_true.mp h4 y hy
    rw [decide_eq_true e] at this
    simpa using this
  · have := List.all_eq_true.mp h5 y hy
    have q : (decide (y.2 = NameKind.local) || decide (y.2 = NameKind.cell)) = true := by
      rcases e with e | e <;> rw [e] <;> rfl
    rw [q] at this
    simpa using this
theorem fun_of {K : PySem.W.Frag} {x q : Str} {st : Stmt} {f : Addr} {fd : FuncData} (F : FunD K x q (defArgs st) (defBody st) (defScope st) [] [] f fd) : L2.Fun K x q st f fd := by
  obtain ⟨oc, od, dV, kV, doc, pm, an, cdv, ct, osl, e, lk, hcd, hD, _⟩ := F.ex
  rcases hD with ⟨_, rfl⟩ | ⟨z, _⟩
  · exact ⟨⟨oc, od, kV, doc, pm, an, cdv, ct, osl, e, lk, hcd⟩, F.kp⟩
  · exact absurd rfl z
abbrev wE (E : XK) : WX := fun c d _ H => E c d H
abbrev cxD (P : Program) (w : World) (K : PySem.W.Frag) (mg : Str → Option Value) (base : Heap) (N : List Str) (q : Str) (st : Stmt) (f : Addr) (cdv : Value) (A : Around) (outer : List Env) (s : Shared) (H : Hp) (E : XK) : Cx :=
  cxOf (L2.CX P w) P w K mg base N q (defScope st) f cdv A outer s H E
end DD

set_option maxRecDepth 100000
set_option maxHeartbeats 2000000
/-! DD11: how meanings are computed: simp lemmas, loops, comprehensions. -/
namespace DD
open PySem PySem.Spec PyProof.Rows L2

section
variable {ls : LS} {st : Store} {d e x : D} {i j : Int} {n m : Nat} {f fa fb fc : LS → Store → Out D} {fr : LS → Store → Out (List D)} {t ta tb : LS → Store → Out Bool} {g g1 g2 : LS → Store → SO} {F : D → D → Store → Out D} {G : D → LS → Store → Out LS}
@[simp] theorem seqD_eq : seqD g1 g2 ls st = (match g1 ls st with | .nx l s => g2 l s | o => o) := rfl
@[simp] theorem skipD_eq : skipD ls st = .nx ls st := rfl
@[simp] theorem retD_eq : retD f ls st = ofE (f ls st) ls fun d st1 => .rt d st1 := rfl
@[simp] theorem dropD_eq : dropD f ls st = ofE (f ls st) ls fun _ st1 => .nx ls st1 := rfl
@[simp] theorem asgD_eq : asgD f G ls st = ofE (f ls st) ls fun d st1 => (match G d ls st1 with | .ok ls' st' => .nx ls' st' | _ => .bad) := rfl
@[simp] theorem ifS_eq : ifS t g1 g2 ls st = ofE (t ls st) ls fun b st1 => if b = true then g1 ls st1 else g2 ls st1 := rfl
@[simp] theorem neverD_eq : neverD ls st = .bad := rfl
@[simp] theorem raiseD_eq {c : Str} : raiseD c ls st = .ex ⟨c, []⟩ ls st := rfl
@[simp] theorem parD_eq : parD n m fr ls st = ofE (fr ls st) ls fun ds st1 => (match ds with | [d, e] => .nx (setL (setL ls n d) m e) st1 | _ => .bad) := rfl
@[simp] theorem parD3_eq {l : Nat} : parD3 n m l fr ls st = ofE (fr ls st) ls fun ds st1 => (match ds with | [d, e, f] => .nx (setL (setL (setL ls n d) m e) l f) st1 | _ => .bad) := rfl
@[simp] theorem nameG_eq : nameG n d ls st = .ok (setL ls n d) st := rfl
@[simp] theorem varD_eq : varD n ls st = (match getL ls n with | some d => .ok d st | none => .bad) := rfl
@[simp] theorem litD_eq : litD d ls st = .ok d st := rfl
@[simp] theorem bin2_eq : bin2 F fa fb ls st = (fa ls st).bind fun x st1 => (fb ls st1).bind fun y st2 => F x y st2 := rfl
@[simp] theorem un1_eq {F : D → Store → Out D} : un1 F fa ls st = (fa ls st).bind fun x st1 => F x st1 := rfl
@[simp] theorem boolD_eq : boolD f ls st = asB (f ls st) := rfl
@[simp] theorem testD_eq : testD f ls st = (f ls st).bind fun d st1 => (match truD st1 d with | some b => .ok b st1 | none => .bad) := rfl
@[simp] theorem notT_eq : notT t ls st = (t ls st).bind fun b st1 => .ok (!b) st1 := rfl
@[simp] theorem andT_eq : andT ta tb ls st = (ta ls st).bind fun b st1 => if b = true then tb ls st1 else .ok false st1 := rfl
@[simp] theorem orT_eq : orT ta tb ls st = (ta ls st).bind fun b st1 => if b = true then .ok true st1 else tb ls st1 := rfl
@[simp] theorem andV_eq : andV fa fb ls st = (asB (fa ls st)).bind fun b st1 => if b = true then fb ls st1 else .ok (.bl false) st1 := rfl
@[simp] theorem orV_eq : orV fa fb ls st = (asB (fa ls st)).bind fun b st1 => if b = true then .ok (.bl true) st1 else fb ls st1 := rfl
@[simp] theorem notV_eq : notV fa ls st = (asB (fa ls st)).bind fun b st1 => .ok (.bl (!b)) st1 := rfl
@[simp] theorem ifE_eq : ifE t fa fb ls st = (t ls st).bind fun b st1 => if b = true then fa ls st1 else fb ls st1 := rfl
@[simp] theorem callD_eq {F : List D → Store → Out D} : callD F fr ls st = (fr ls st).bind fun ds st1 => F ds st1 := rfl
@[simp] theorem nilA_eq : nilA ls st = .ok [] st := rfl
@[simp] theorem consA_eq : consA fa fr ls st = (fa ls st).bind fun x st1 => (fr ls st1).bind fun xs st2 => .ok (x :: xs) st2 := rfl
@[simp] theorem tupD_eq : tupD fr ls st = (fr ls st).bind fun xs st1 => if xs.length ≤ 16777216 then .ok (.tup xs) st1 else .bad := rfl
@[simp] theorem lstD_eq : lstD fr ls st = (fr ls st).bind fun xs st1 => if xs.length ≤ 16777216 then .ok (.ref st1.length) (st1 ++ [.lst xs]) else .bad := rfl
@[simp] theorem chainD_eq {F G : D → D → Store → Out D} : chainD F G fa fb fc ls st = (fa ls st).bind fun x st1 => (fb ls st1).bind fun y st2 => (asB (F x y st2)).bind fun k st3 => if k = true then (fc ls st3).bind fun z st4 => G y z st4 else .ok (.bl false) st3 := rfl
@[simp] theorem methD_eq {T : Ty} {F : D → List D → Store → Out D} : methD T F f fr ls st = (f ls st).bind fun d st1 => if tyD st1 d = some T then (fr ls st1).bind fun ds st2 => F d ds st2 else .bad := rfl
@[simp] theorem seqI_eq : seqI f ls st = (f ls st).bind fun d st1 => (match itsOf d st1 with | some its => .ok its st1 | none => .bad) := rfl
@[simp] theorem subG_eq {d : D} : subG fa fb d ls st = (fa ls st).bind fun o st1 => (fb ls st1).bind fun i st2 => (setIx o i d st2).bind fun _ st3 => .ok ls st3 := rfl
@[simp] theorem dic0D_eq : dic0D ls st = .ok (.ref st.length) (st ++ [.dic []]) := rfl
@[simp] theorem nilG_eq : nilG [] ls st = .ok ls st := rfl
@[simp] theorem consG_eq {gs : List D → LS → Store → Out LS} {ds : List D} : consG G gs (d :: ds) ls st = (match G d ls st with | .ok ls1 st1 => gs ds ls1 st1 | _ => .bad) := rfl
@[simp] theorem tupG_eq {gs : List D → LS → Store → Out LS} {l : List D} : tupG n gs (.tup l) ls st = if l.length = n then gs l ls st else .bad := rfl
@[simp] theorem noP_eq : noP ls st = .ok none st := rfl
@[simp] theorem someP_eq : someP f ls st = (f ls st).bind fun d st1 => (match d with | .int i => .ok (some i) st1 | _ => .bad) := rfl
@[simp] theorem slD_eq {fl fh : LS → Store → Out (Option Int)} : slD f fl fh ls st = (f ls st).bind fun d st1 => (fl ls st1).bind fun lo st2 => (fh ls st2).bind fun hi st3 => slV d lo hi st3 := rfl
@[simp] theorem yesT_eq : yesT ls st = .ok true st := rfl
@[simp] theorem forD_eq {fi : LS → Store → Out Its} : forD fi G g ls st = ofE (fi ls st) ls fun its st1 => forL (okB its) G g its.l ls st1 := rfl
@[simp] theorem lcD_eq {fi : LS → Store → Out Its} {vs : List Nat} : lcD fi G t f vs ls st = (fi ls st).bind fun its st1 => lcL (okB its) st1.length G t f (wipeL ls vs) its.l (st1 ++ [.lst []]) := rfl
@[simp] theorem endO_rt : endO (.rt d st) = .ok d st := rfl
@[simp] theorem endO_nx : endO (.nx ls st) = .ok .non st := rfl
@[simp] theorem endO_ex {y : Exc} : endO (.ex y ls st) = .ex y st := rfl
@[simp] theorem truD_bl {b : Bool} : truD st (.bl b) = some b := rfl
@[simp] theorem truD_int : truD st (.int i) = some (i != 0) := rfl
/-! operators -/
@[simp] theorem addV_int : addV (.int i) (.int j) st = .ok (.int (i + j)) st := rfl
@[simp] theorem subV_int : subV (.int i) (.int j) st = .ok (.int (i - j)) st := rfl
@[simp] theorem negV_int : negV (.int i) st = .ok (.int (-i)) st := rfl
@[simp] theorem ltV_int : ltV (.int i) (.int j) st = .ok (.bl (decide (i < j))) st := rfl
@[simp] theorem leV_int : leV (.int i) (.int j) st = .ok (.bl (decide (i ≤ j))) st := rfl
@[simp] theorem gtV_int : gtV (.int i) (.int j) st = .ok (.bl (decide (j < i))) st := rfl
@[simp] theorem geV_int : geV (.int i) (.int j) st = .ok (.bl (decide (j ≤ i))) st := rfl
theorem shaped_int : SeqAt.shaped (.int i) = true := rfl
@[simp] theorem eqV_int : eqF false (.int i) (.int j) st = .ok (.bl (decide (i = j))) st := by
  show (if SeqAt.shaped (PyData.int i) = true ∧ SeqAt.shaped (PyData.int j) = true then Out.ok (D.bl (PyData.eqv (.int i) (.int j))) st else .bad) = _
  rw [if_pos ⟨shaped_int, shaped_int⟩]
  have : PyData.eqv (.int i) (.int j) = decide (i = j) := by rw [PyData.eqv]; exact Bool.eq_iff_iff.mpr (by simp)
  rw [this]
@[simp] theorem neV_int : eqF true (.int i) (.int j) st = .ok (.bl (decide (i ≠ j))) st := by
  show (if SeqAt.shaped (PyData.int i) = true ∧ SeqAt.shaped (PyData.int j) = true then Out.ok (D.bl (!PyData.eqv (.int i) (.int j))) st else .bad) = _
  rw [if_pos ⟨shaped_int, shaped_int⟩]
  have : PyData.eqv (.int i) (.int j) = decide (i = j) := by rw [PyData.eqv]; exact Bool.eq_iff_iff.mpr (by simp)
  rw [this]
  simp
@[simp] theorem modV_int : modV (.int i) (.int j) st = if j = 0 then .bad else .ok (.int (i.fmod j)) st := rfl
@[simp] theorem fdivV_int : fdivV (.int i) (.int j) st = if divOk j = true then .ok (.int (i.fdiv j)) st else .bad := rfl
@[simp] theorem fmod_pos (h : 0 ≤ j) : i.fmod j = i % j := Int.fmod_eq_emod_of_nonneg _ h
@[simp] theorem fdiv_pos (h : 0 ≤ j) : i.fdiv j = i / j := Int.fdiv_eq_ediv_of_nonneg _ h
@[simp] theorem mulV_int : mulV (.int i) (.int j) st = if mulOk i j = true then .ok (.int (i * j)) st else .bad := rfl
@[simp] theorem powV_int : powV (.int i) (.int j) st = if okP (0 ≤ j ∧ j ≤ 1000 ∧ -18446744073709551616 < i ∧ i < 18446744073709551616) = true then .ok (.int (i ^ j.toNat)) st else .bad := rfl
@[simp] theorem ixD_tup {l : List D} : ixD (.tup l) (.int i) st = (match atI l i with | some v => .ok v st | none => .bad) := rfl
@[simp] theorem ixD_lst {l : List D} : ixD (.lst l) (.int i) st = (match atI l i with | some v => .ok v st | none => .bad) := rfl
@[simp] theorem absV_int : absV' [.int i] st = .ok (.int (if i < 0 then -i else i)) st := rfl
@[simp] theorem intV_int : intV [.int i] st = .ok (.int i) st := rfl
@[simp] theorem lenV_tup {l : List D} : lenV [.tup l] st = .ok (.int l.length) st := rfl
@[simp] theorem lenV_lst {l : List D} : lenV [.lst l] st = .ok (.int l.length) st := rfl
@[simp] theorem lenV_cst {l : List D} : lenV [.cst l] st = .ok (.int l.length) st := rfl
@[simp] theorem itsOf_tup {l : List D} : itsOf (.tup l) st = some ⟨l, []⟩ := rfl
@[simp] theorem itsOf_lst {l : List D} : itsOf (.lst l) st = some ⟨l, []⟩ := rfl
@[simp] theorem itsOf_cst {l : List D} : itsOf (.cst l) st = some ⟨l, []⟩ := rfl
theorem itsOf_ref {l : List D} (h : st[n]? = some (.lst l)) : itsOf (.ref n) st = some ⟨l, [(n, l)]⟩ := by unfold itsOf; simp only [h]
@[simp] theorem itsOf_new {l : List D} : itsOf (.ref st.length) (st ++ [.lst l]) = some ⟨l, [(st.length, l)]⟩ := itsOf_ref (by simp)
@[simp] theorem isTup_tup {l : List D} : isTup (.tup l) = true := rfl
@[simp] theorem isTup_ref : isTup (.ref n) = false := rfl
@[simp] theorem isTup_lst {l : List D} : isTup (.lst l) = false := rfl
@[simp] theorem isTup_cst {l : List D} : isTup (.cst l) = false := rfl
@[simp] theorem tyD_int : tyD st (.int i) = some .int := rfl
@[simp] theorem tyD_bl {b : Bool} : tyD st (.bl b) = some .bl := rfl
@[simp] theorem tyD_non : tyD st .non = some .non := rfl
@[simp] theorem tyD_str {y : Str} : tyD st (.str y) = some .str := rfl
@[simp] theorem tyD_tup {l : List D} : tyD st (.tup l) = some .tup := rfl
@[simp] theorem tyD_lst {l : List D} : tyD st (.lst l) = some .lst := rfl
@[simp] theorem isiV_some {T : Ty} : isiV T d st = (match tyD st d with | some u => .ok (.bl (u.isA T)) st | none => .bad) := rfl
theorem tyD_ref {l : List D} (h : st[n]? = some (.lst l)) : tyD st (.ref n) = some .lst := by unfold tyD; simp only [h]
end
@[simp] theorem startD_cons (m : Nat) (d : D) (ds : List D) : startD (m + 1) (d :: ds) = some d :: startD m ds := by simp [startD]
@[simp] theorem startD_nil (m : Nat) : startD (m + 1) [] = none :: startD m [] := by simp [startD, List.replicate_succ]
@[simp] theorem startD_zero : startD 0 [] = [] := rfl

@[simp] theorem boolsOf_mapf (f : D → Bool) (l : List D) : boolsOf (l.map fun x => .bl (f x)) = some (l.map f) := by
  have : (l.map fun x => D.bl (f x)) = (l.map f).map D.bl := by simp
  rw [this, boolsOf_map]
@[simp] theorem intsOf_mapf (f : D → Int) (l : List D) : intsOf (l.map fun x => .int (f x)) = some (l.map f) := by
  have : (l.map fun x => D.int (f x)) = (l.map f).map D.int := by simp
  rw [this, intsOf_map]
@[simp] theorem onL_new {k : List D → Store → Out D} {st : Store} {l : List D} : onL k [.ref st.length] (st ++ [.lst l]) = k l (st ++ [.lst l]) := by
  unfold onL
  simp
theorem ty_tup {st : Store} {d : D} (h : tyD st d = some .tup) : ∃ l, d = .tup l := by
  cases d with
  | tup l => exact ⟨l, rfl⟩
  | ref n =>
    unfold tyD at h
    cases e : st[n]? with
    | none => simp [e] at h
    | some c => cases c <;> simp [e] at h
  | _ => cases h
@[simp] theorem isA_self (t : Ty) : t.isA t = true := by cases t <;> rfl
@[simp] theorem isA_tup (t : Ty) : t.isA .tup = decide (t = .tup) := by cases t <;> rfl
@[simp] theorem isA_str (t : Ty) : t.isA .str = decide (t = .str) := by cases t <;> rfl
@[simp] theorem isA_lst (t : Ty) : t.isA .lst = decide (t = .lst) := by cases t <;> rfl

/-! ### for -/
section
variable {α : Type} {ok : Store → Bool} {g : D → LS → Store → Out LS} {b : LS → Store → SO}
theorem for_fold (R : α → LS → Store → Prop) (f : α → D → α) (hok : ∀ x ls st, R x ls st → ok st = true) : ∀ (l : List D) (x : α) (ls : LS) (st : Store), R x ls st →
    (∀ d ∈ l, ∀ x ls st, R x ls st → ∃ ls1 st1 ls2 st2, g d ls st = .ok ls1 st1 ∧ (b ls1 st1 = .nx ls2 st2 ∨ b ls1 st1 = .ct ls2 st2) ∧ R (f x d) ls2 st2) → ∃ ls' st', forL ok g b l ls st = .nx ls' st' ∧ R (l.foldl f x) ls' st'
  | [], x, ls, st, h, _ => ⟨ls, st, by unfold forL; rw [if_pos (hok _ _ _ h)], h⟩
  | d :: l, x, ls, st, h, step => by
    obtain ⟨ls1, st1, ls2, st2, e1, e2, h2⟩ := step d List.mem_cons_self x ls st h
    obtain ⟨ls', st', e3, h3⟩ := for_fold R f hok l (f x d) ls2 st2 h2 fun y hy => step y (List.mem_cons_of_mem _ hy)
    refine ⟨ls', st', ?_, h3⟩
    unfold forL
    rw [if_pos (hok _ _ _ h), e1]
    rcases e2 with e2 | e2 <;> (simp only [e2]; exact e3)
/-- a loop that may be left by return -/
theorem for_may (R : α → LS → Store → Prop) (P : D → Store → Prop) (hok : ∀ x ls st, R x ls st → ok st = true) : ∀ (l : List D) (x : α) (ls : LS) (st : Store), R x ls st →
    (∀ d ∈ l, ∀ x ls st, R x ls st → ∃ ls1 st1, g d ls st = .ok ls1 st1 ∧ ((∃ x' ls2 st2, (b ls1 st1 = .nx ls2 st2 ∨ b ls1 st1 = .ct ls2 st2) ∧ R x' ls2 st2) ∨ ∃ r st2, b ls1 st1 = .rt r st2 ∧ P r st2)) →
    (∃ x' ls' st', forL ok g b l ls st = .nx ls' st' ∧ R x' ls' st') ∨ ∃ r st', forL ok g b l ls st = .rt r st' ∧ P r st'
  | [], x, ls, st, h, _ => .inl ⟨x, ls, st, by unfold forL; rw [if_pos (hok _ _ _ h)], h⟩
  | d :: l, x, ls, st, h, step => by
    obtain ⟨ls1, st1, e1, h1⟩ := step d List.mem_cons_self x ls st h
    rcases h1 with ⟨x', ls2, st2, e2, h2⟩ | ⟨r, st2, e2, h2⟩
    · have key : forL ok g b (d :: l) ls st = forL ok g b l ls2 st2 := by
        conv => lhs; unfold forL
        rw [if_pos (hok _ _ _ h), e1]
        rcases e2 with e2 | e2 <;> simp only [e2]
      rw [key]
      exact for_may R P hok l x' ls2 st2 h2 fun y hy => step y (List.mem_cons_of_mem _ hy)
    · refine .inr ⟨r, st2, ?_, h2⟩
      unfold forL
      rw [if_pos (hok _ _ _ h), e1]
      simp only [e2]
/-- .. where nothing returns, the state's end is not told by a fold -/
theorem for_inv (R : LS → Store → Prop) (hok : ∀ ls st, R ls st → ok st = true) (l : List D) (ls : LS) (st : Store) (h : R ls st)
    (step : ∀ d ∈ l, ∀ ls st, R ls st → ∃ ls1 st1 ls2 st2, g d ls st = .ok ls1 st1 ∧ (b ls1 st1 = .nx ls2 st2 ∨ b ls1 st1 = .ct ls2 st2) ∧ R ls2 st2) : ∃ ls' st', forL ok g b l ls st = .nx ls' st' ∧ R ls' st' := by
  obtain ⟨ls', st', e, h'⟩ := for_fold (α := Unit) (fun _ => R) (fun _ _ => ()) (fun _ => hok) l () ls st h fun d hd _ => step d hd
  exact ⟨ls', st', e, h'⟩
end
@[simp] theorem okB_nil (l : List D) : okB ⟨l, []⟩ = fun _ => true := by funext st; rfl

/-! ### while -/
theorem while_run {α : Type} {t : LS → Store → Out Bool} {b : LS → Store → SO} (R : α → LS → Store → Prop) (μ : α → Nat) (Done : LS → Store → Prop)
    (step : ∀ x ls st, R x ls st → (∃ st1, t ls st = .ok false st1 ∧ Done ls st1) ∨ ∃ st1 ls2 st2 x', t ls st = .ok true st1 ∧ b ls st1 = .nx ls2 st2 ∧ R x' ls2 st2 ∧ μ x' < μ x) :
    ∀ (x : α) (ls : LS) (st : Store), R x ls st → ∃ ls' st', whileD t b ls st = .nx ls' st' ∧ Done ls' st' := by
  have key : ∀ (n : Nat) (x : α) (ls : LS) (st : Store), μ x < n → R x ls st → ∃ ls' st', whileD t b ls st = .nx ls' st' ∧ Done ls' st' := by
    intro n
    induction n with
    | zero => intro x ls st h; exact absurd h (Nat.not_lt_zero _)
    | succ n ih =>
      intro x ls st hm h
      unfold whileD
      rw [loop_step]
      rcases step x ls st h with ⟨st1, e, hd⟩ | ⟨st1, ls2, st2, x', e1, e2, h2, hlt⟩
      · simp only [whStep, e]
        exact ⟨ls, st1, rfl, hd⟩
      · simp only [whStep, e1, e2]
        exact ih x' ls2 st2 (by omega) h2
  intro x ls st h
  exact key (μ x + 1) x ls st (Nat.lt_succ_self _) h

/-! ### comprehensions -/
theorem lc_run {ok : Store → Bool} {g : D → LS → Store → Out LS} {ft : LS → Store → Out Bool} {fe : LS → Store → Out D} {lsw : LS} {st0 : Store} (p : D → Bool) (h : D → D) : ∀ (l acc : List D),
    (∀ acc', ok (st0 ++ [.lst acc']) = true) → acc.length + l.length ≤ 16777216 →
    (∀ d ∈ l, ∀ acc', ∃ ls1, g d lsw (st0 ++ [.lst acc']) = .ok ls1 (st0 ++ [.lst acc']) ∧ ft ls1 (st0 ++ [.lst acc']) = .ok (p d) (st0 ++ [.lst acc']) ∧ (p d = true → fe ls1 (st0 ++ [.lst acc']) = .ok (h d) (st0 ++ [.lst acc']))) →
    lcL ok st0.length g ft fe lsw l (st0 ++ [.lst acc]) = .ok (.ref st0.length) (st0 ++ [.lst (acc ++ (l.filter p).map h)])
  | [], acc, hok, _, _ => by unfold lcL; rw [if_pos (hok _)]; simp
  | d :: l, acc, hok, hl, step => by
    obtain ⟨ls1, e1, e2, e3⟩ := step d List.mem_cons_self acc
    simp only [List.length_cons] at hl
    unfold lcL
    rw [if_pos (hok _), e1]
    simp only [e2]
    cases hp : p d with
    | false =>
      rw [if_neg Bool.false_ne_true, lc_run p h l acc hok (by omega) fun y hy => step y (List.mem_cons_of_mem _ hy), List.filter_cons, hp]
      simp
    | true =>
      rw [if_pos rfl, e3 hp]
      have e4 : (st0 ++ [Cell.lst acc])[st0.length]? = some (.lst acc) := by simp
      simp only [e4]
      rw [if_pos (by omega)]
      have e5 : (st0 ++ [Cell.lst acc]).set st0.length (.lst (acc ++ [h d])) = st0 ++ [.lst (acc ++ [h d])] := by
        rw [List.set_append_right _ _ (Nat.le_refl _)]; simp
      rw [e5, lc_run p h l (acc ++ [h d]) hok (by simp; omega) fun y hy => step y (List.mem_cons_of_mem _ hy), List.filter_cons, hp]
      simp
/-- the whole: every item gives h of it -/
theorem lc_map {its : Its} {g : D → LS → Store → Out LS} {ft : LS → Store → Out Bool} {fe : LS → Store → Out D} {lsw : LS} {st0 : Store} (h : D → D) (hok : ∀ acc', okB its (st0 ++ [.lst acc']) = true) (hl : its.l.length ≤ 16777216)
    (step : ∀ d ∈ its.l, ∀ acc', ∃ ls1, g d lsw (st0 ++ [.lst acc']) = .ok ls1 (st0 ++ [.lst acc']) ∧ ft ls1 (st0 ++ [.lst acc']) = .ok true (st0 ++ [.lst acc']) ∧ fe ls1 (st0 ++ [.lst acc']) = .ok (h d) (st0 ++ [.lst acc'])) :
    lcL (okB its) st0.length g ft fe lsw its.l (st0 ++ [.lst []]) = .ok (.ref st0.length) (st0 ++ [.lst (its.l.map h)]) := by
  rw [lc_run (fun _ => true) h its.l [] hok (by simpa using hl) fun d hd acc' => by
    obtain ⟨ls1, a, b, c⟩ := step d hd acc'
    exact ⟨ls1, a, b, fun _ => c⟩]
  rw [List.filter_eq_self.mpr (fun _ _ => rfl)]; rfl
theorem okB_app1 {l m : List D} {n : Nat} {st : Store} {c : Cell} (h : st[n]? = some (.lst m)) : okB ⟨l, [(n, m)]⟩ (st ++ [c]) = true := by
  obtain ⟨hn, _⟩ := List.getElem?_eq_some_iff.mp h
  exact okB_iff.mpr fun p hp => by
    rw [List.mem_singleton.mp hp]
    rw [List.getElem?_append_left hn]
    exact h
end DD

set_option maxRecDepth 100000
set_option maxHeartbeats 2000000
/-! DD12: items by places, sorted int tuples, equal data, texts, comprehensions that change the store, cells under a changed cell. -/
namespace DD
open PySem PySem.Spec PyProof.Rows L2

section
variable {x y z u v : D} {st : Store}
@[simp] theorem atI1 : atI [x] 0 = some x := rfl
@[simp] theorem atI2a : atI [x, y] 0 = some x := rfl
@[simp] theorem atI2b : atI [x, y] 1 = some y := rfl
@[simp] theorem atI3a : atI [x, y, z] 0 = some x := rfl
@[simp] theorem atI3b : atI [x, y, z] 1 = some y := rfl
@[simp] theorem atI3c : atI [x, y, z] 2 = some z := rfl
@[simp] theorem atI5a : atI [x, y, z, u, v] 0 = some x := rfl
@[simp] theorem atI5b : atI [x, y, z, u, v] 1 = some y := rfl
@[simp] theorem atI5c : atI [x, y, z, u, v] 2 = some z := rfl
@[simp] theorem atI5d : atI [x, y, z, u, v] 3 = some u := rfl
@[simp] theorem atI5e : atI [x, y, z, u, v] 4 = some v := rfl
theorem atI_nat {l : List D} {n : Nat} (h : l[n]? = some x) : atI l (n : Int) = some x := by
  obtain ⟨hn, _⟩ := List.getElem?_eq_some_iff.mp h
  unfold atI ixN
  rw [if_pos (by omega), if_pos (by exact_mod_cast hn)]
  simpa using h
theorem atI_int {l : List D} {i : Int} (h0 : 0 ≤ i) (h : l[i.toNat]? = some x) : atI l i = some x := by
  have := atI_nat (l := l) (n := i.toNat) h
  rwa [Int.toNat_of_nonneg h0] at this
/-! cells -/
theorem ix_ref {l : List D} {n : Nat} {i : Int} (h : st[n]? = some (.lst l)) : ixD (.ref n) (.int i) st = (match atI l i with | some v => .ok v st | none => .bad) := by
  unfold ixD
  simp only [itsOf_ref h]
  all_goals (cases atI l i <;> rfl)
theorem len_ref {l : List D} {n : Nat} (h : st[n]? = some (.lst l)) : lenV [.ref n] st = .ok (.int l.length) st := by
  unfold lenV
  simp only [itsOf_ref h]
theorem setIx_ref {l : List D} {n : Nat} {i : Int} {j : Nat} (h : st[n]? = some (.lst l)) (hj : ixN l.length i = some j) : setIx (.ref n) (.int i) x st = .ok () (st.set n (.lst (l.set j x))) := by
  unfold setIx
  simp only [h, hj]
theorem app_ref {l : List D} {n : Nat} (h : st[n]? = some (.lst l)) (hl : l.length < 16777216) : appV (.ref n) [x] st = .ok .non (st.set n (.lst (l ++ [x]))) := by
  unfold appV cellL
  simp only [h, if_pos hl]
@[simp] theorem get_new {l : List D} : (st ++ [Cell.lst l])[st.length]? = some (.lst l) := by simp
@[simp] theorem set_new {l m : List D} : (st ++ [Cell.lst l]).set st.length (.lst m) = st ++ [.lst m] := by
  rw [List.set_append_right _ _ (Nat.le_refl _)]; simp
end
theorem fmod_dvd {i j : Int} : i.fmod j = 0 ↔ j ∣ i := ⟨Int.dvd_of_fmod_eq_zero, Int.fmod_eq_zero_of_dvd⟩

/-! ### data -/
@[simp] theorem toP_int {st : Store} {n : Nat} {i : Int} : toP st (n + 1) (.int i) = some (.int i) := rfl
@[simp] theorem toP_bl {st : Store} {n : Nat} {b : Bool} : toP st (n + 1) (.bl b) = some (.bool b) := rfl
@[simp] theorem toP_str {st : Store} {n : Nat} {x : Str} : toP st (n + 1) (.str x) = some (.str x) := rfl
@[simp] theorem toP_non {st : Store} {n : Nat} : toP st (n + 1) .non = some .none := rfl
theorem mapM_some {α β : Type} {f : α → Option β} {g : α → β} : ∀ {l : List α}, (∀ x ∈ l, f x = some (g x)) → l.mapM f = some (l.map g)
  | [], _ => by simp
  | x :: l, h => by
    rw [List.mapM_cons, h x List.mem_cons_self, mapM_some (l := l) fun y hy => h y (List.mem_cons_of_mem _ hy)]
    simp
theorem toP_ints {st : Store} {n : Nat} (ns : List Int) : (ns.map D.int).mapM (toP st (n + 1)) = some (ns.map PyData.int) := by
  rw [mapM_some (g := fun d => match d with | .int i => .int i | _ => .none) fun d hd => by
    obtain ⟨i, _, rfl⟩ := List.mem_map.mp hd
    rfl]
  rw [List.map_map]
  rfl
theorem toP_tupI {st : Store} {n : Nat} (ns : List Int) : toP st (n + 2) (.tup (ns.map D.int)) = some (.tuple (ns.map PyData.int)) := by
  show ((ns.map D.int).mapM (toP st (n + 1))).map PyData.tuple = _
  rw [toP_ints]
  rfl
def tupI (ns : List Int) : D := .tup (ns.map D.int)
theorem enc_tupI (st : Store) (ns : List Int) : encD st (tupI ns) = .tuple (ns.map PyData.int) := by
  unfold encD tupI
  rw [show (60 : Nat) = 58 + 2 from rfl, toP_tupI]
  rfl
theorem alikeAll_ints : ∀ ns ms : List Int, PySem.W.alikeAll (ns.map PyData.int) (ms.map PyData.int) = true
  | [], ms => by cases ms <;> rfl
  | n :: ns, [] => rfl
  | n :: ns, m :: ms => by
    show (PySem.W.alike (.int n) (.int m) && PySem.W.alikeAll (ns.map PyData.int) (ms.map PyData.int)) = true
    rw [alikeAll_ints ns ms]
    rfl
theorem depth_ints : ∀ ns : List Int, PyData.depthAll (ns.map PyData.int) ≤ 1
  | [] => by simp [PyData.depthAll]
  | n :: ns => by
    have := depth_ints ns
    simp only [List.map_cons, PyData.depthAll]
    have h0 : (PyData.int n).depth ≤ 1 := by simp [PyData.depth]
    exact Nat.max_le.mpr ⟨h0, this⟩
/-- a list of tuples of ints, no tuple empty -/
def IsTs (l : List D) : Prop := ∀ d ∈ l, ∃ i ns, d = tupI (i :: ns)
theorem sortOk_ts {st : Store} {l : List D} (h : IsTs l) (hl : l.length ≤ 16777216) : SortOk st l where
  some := fun d hd => by
    obtain ⟨i, ns, rfl⟩ := h d hd
    refine ⟨.tuple ((i :: ns).map PyData.int), by unfold tupI; rw [show (60 : Nat) = 58 + 2 from rfl, toP_tupI], ?_⟩
    have := depth_ints (i :: ns)
    simp only [PyData.depth]
    omega
  alike := fun d hd d' hd' => by
    obtain ⟨e, he, rfl⟩ := List.mem_map.mp hd
    obtain ⟨e', he', rfl⟩ := List.mem_map.mp hd'
    obtain ⟨i, ns, rfl⟩ := h e he
    obtain ⟨i', ns', rfl⟩ := h e' he'
    rw [enc_tupI, enc_tupI]
    show PySem.W.alikeAll _ _ = true
    exact alikeAll_ints _ _
  kind := .inl fun d hd => by
    obtain ⟨e, he, rfl⟩ := List.mem_map.mp hd
    obtain ⟨i, ns, rfl⟩ := h e he
    exact ⟨.int i, ns.map PyData.int, by rw [enc_tupI]; rfl⟩
  len := hl
theorem enc_ts {st : Store} {l : List D} (h : IsTs l) : ∀ d ∈ l, encD st d = encD [] d := fun d hd => by
  obtain ⟨i, ns, rfl⟩ := h d hd
  rw [enc_tupI, enc_tupI]
/-- sorted(l) of such a list, whatever the store -/
noncomputable def sortT (l : List D) : List D := l.mergeSort (PySem.W.dataLe false (encD []))
theorem merge_congr {α : Type} {le le' : α → α → Bool} {l : List α} (h : ∀ a ∈ l, ∀ b ∈ l, le a b = le' a b) : l.mergeSort le = l.mergeSort le' := by
  have key : ∀ (f : α → α → Bool), l.mergeSort f = (l.attach.mergeSort fun a b => f a.1 b.1).map (·.1) := fun f => by
    conv => lhs; rw [← List.attach_map_subtype_val l]
    exact (List.map_mergeSort (r := fun a b => f a.1 b.1) (s := f) (f := Subtype.val) (l := l.attach) (fun _ _ _ _ => rfl)).symm
  rw [key le, key le']
  congr 2
  funext a b
  exact h a.1 a.2 b.1 b.2
theorem sorted_ts {st : Store} {l : List D} (h : IsTs l) (hl : l.length ≤ 16777216) : sortedL l st = .ok (.ref st.length) (st ++ [.lst (sortT l)]) := by
  rw [sortedL_ok (sortOk_ts h hl)]
  unfold sortT
  rw [merge_congr (le := PySem.W.dataLe false (encD st)) (le' := PySem.W.dataLe false (encD [])) fun a ha b hb => by
    unfold PySem.W.dataLe PySem.W.sortLe
    simp only [enc_ts h a ha, enc_ts h b hb]]
theorem mem_sortT {l : List D} {d : D} : d ∈ sortT l ↔ d ∈ l := by
  unfold sortT
  exact List.mem_mergeSort
theorem length_sortT {l : List D} : (sortT l).length = l.length := by
  unfold sortT
  exact List.length_mergeSort _
/-! ### loops told by what was walked -/
theorem for_pre {ok : Store → Bool} {g : D → LS → Store → Out LS} {b : LS → Store → SO} (R : List D → LS → Store → Prop) (hok : ∀ p ls st, R p ls st → ok st = true) (l : List D) (ls : LS) (st : Store) (h : R [] ls st)
    (step : ∀ pre d suf, l = pre ++ d :: suf → ∀ ls st, R pre ls st → ∃ ls1 st1 ls2 st2, g d ls st = .ok ls1 st1 ∧ (b ls1 st1 = .nx ls2 st2 ∨ b ls1 st1 = .ct ls2 st2) ∧ R (pre ++ [d]) ls2 st2) : ∃ ls' st', forL ok g b l ls st = .nx ls' st' ∧ R l ls' st' := by
  have key : ∀ (suf pre : List D), l = pre ++ suf → ∀ ls st, R pre ls st → ∃ ls' st', forL ok g b suf ls st = .nx ls' st' ∧ R l ls' st' := by
    intro suf
    induction suf with
    | nil =>
      intro pre e ls st h
      rw [List.append_nil] at e
      subst e
      exact ⟨ls, st, by unfold forL; rw [if_pos (hok _ _ _ h)], h⟩
    | cons d suf ih =>
      intro pre e ls st h
      obtain ⟨ls1, st1, ls2, st2, e1, e2, h2⟩ := step pre d suf e ls st h
      obtain ⟨ls', st', e3, h3⟩ := ih (pre ++ [d]) (by rw [e, List.append_assoc]; rfl) ls2 st2 h2
      refine ⟨ls', st', ?_, h3⟩
      unfold forL
      rw [if_pos (hok _ _ _ h), e1]
      rcases e2 with e2 | e2 <;> (simp only [e2]; exact e3)
  exact key l [] rfl ls st h
theorem flatMap_len {α β : Type} {f : α → List β} {k : Nat} : ∀ {l : List α}, (∀ x ∈ l, (f x).length ≤ k) → (l.flatMap f).length ≤ l.length * k
  | [], _ => by simp
  | x :: l, h => by
    have h1 := h x List.mem_cons_self
    have h2 := flatMap_len (l := l) fun y hy => h y (List.mem_cons_of_mem _ hy)
    rw [List.flatMap_cons, List.length_append, List.length_cons, Nat.add_mul]
    omega
theorem rangeL_len (lo : Int) (n : Nat) : (rangeL lo n).length = n := by simp [rangeL]
theorem mem_rangeL {lo : Int} {n : Nat} {d : D} (h : d ∈ rangeL lo n) : ∃ i : Nat, i < n ∧ d = .int (lo + i) := by
  obtain ⟨i, hi, rfl⟩ := List.mem_map.mp h
  exact ⟨i, List.mem_range.mp hi, rfl⟩
/-! a new list comes back, garbage before and behind it -/
theorem fzs0 {st : Store} {keep : List Nat} {l : List D} (h : ltDs 0 l = true) : Fzs st keep l l := fzs_refl (n := 0) (fun m hm => absurd hm (Nat.not_lt_zero m)) l h
theorem Pk.fresh1 {st g1 g2 : Store} {l : List D} {k : Nat} (h1 : ltS st.length st = true) (hl : ltDs 0 l = true) (hk : k = st.length + g1.length) : Pk st.length (.ok (.ref k) (st ++ g1 ++ [.lst l] ++ g2)) (.ok (.ref st.length) (st ++ [.lst l])) := by
  subst hk
  refine .ok (Pack.fresh (c := .lst l) rfl ?_ (Nat.le_add_right _ _) ?_ h1 (fzs0 hl))
  · rw [List.append_assoc, List.append_assoc, List.take_left]
  · rw [List.getElem?_append_left (by simp), List.getElem?_append_right (by simp)]
    simp
theorem ltDs_ints (k : Nat) : ∀ ns : List Int, ltDs k (ns.map D.int) = true
  | [] => rfl
  | n :: ns => by rw [List.map_cons]; exact ltDs_ints k ns
theorem ltDs_ts {k : Nat} : ∀ {l : List D}, IsTs l → ltDs k l = true
  | [], _ => rfl
  | d :: l, h => by
    obtain ⟨i, ns, rfl⟩ := h d List.mem_cons_self
    show (ltDs k ((i :: ns).map D.int) && ltDs k l) = true
    rw [ltDs_ints, ltDs_ts fun y hy => h y (List.mem_cons_of_mem _ hy)]
    rfl
theorem rng1_eq {fr : LS → Store → Out (List D)} {ls : LS} {st st1 : Store} {j : Int} (h : fr ls st = .ok [.int j] st1) (h0 : -1000000 ≤ j) (h1 : j ≤ 1000000) : rng1 fr ls st = .ok ⟨rangeL 0 j.toNat, []⟩ st1 := by
  unfold rng1
  rw [h]
  show (if okP _ = true then _ else _) = _
  rw [if_pos (okP_of ⟨by omega, by omega⟩)]
/-! texts, zips -/
@[simp] theorem eqV_str {x y : Str} {st : Store} : eqF false (.str x) (.str y) st = .ok (.bl (decide (x = y))) st := rfl
@[simp] theorem neV_str {x y : Str} {st : Store} : eqF true (.str x) (.str y) st = .ok (.bl (decide (x ≠ y))) st := by
  show Out.ok (D.bl (!decide (x = y))) st = _
  simp
@[simp] theorem eqF_tup {b : Bool} {l : List D} {d : D} {st : Store} : eqF b (.tup l) d st = eqG b (.tup l) d st := rfl
@[simp] theorem eqF_ref {b : Bool} {n : Nat} {d : D} {st : Store} : eqF b (.ref n) d st = eqG b (.ref n) d st := rfl
theorem zipI_tup {fr : LS → Store → Out (List D)} {ls : LS} {st st1 : Store} {l m : List D} (h : fr ls st = .ok [.tup l, .tup m] st1) : zipI fr ls st = .ok ⟨zipL l m, []⟩ st1 := by
  unfold zipI
  rw [h]
  rfl
theorem anyT_ints {st : Store} (ns : List Int) : anyTV [tupI ns] st = .ok (.bl (ns.any fun n => n != 0)) st := by
  unfold anyTV tupI
  have e := toP_tupI (st := st) (n := 58) ns
  simp only [e]
  have h1 : (ns.map PyData.int).all flatP = true := by rw [List.all_map]; exact List.all_eq_true.mpr fun _ _ => rfl
  rw [if_pos h1, List.any_map]
  rfl
theorem eqF_tupI {st : Store} {ns ms : List Int} (b : Bool) (h : SeqAt.shaped (.tuple (ns.map PyData.int)) = true) (h' : SeqAt.shaped (.tuple (ms.map PyData.int)) = true) : eqG b (tupI ns) (tupI ms) st = .ok (.bl (if b then !PyData.eqv (.tuple (ns.map PyData.int)) (.tuple (ms.map PyData.int)) else PyData.eqv (.tuple (ns.map PyData.int)) (.tuple (ms.map PyData.int)))) st := by
  unfold eqG tupI
  have e := toP_tupI (st := st) (n := 58) ns
  have e' := toP_tupI (st := st) (n := 58) ms
  simp only [e, e', if_pos (And.intro h h')]
theorem tyD_app {st g : Store} {d : D} {t : Ty} (h : tyD st d = some t) : tyD (st ++ g) d = some t := by
  cases d with
  | ref n =>
    have h : (match st[n]? with | some (.lst _) => some Ty.lst | some (.dic _) => some Ty.dic | none => none) = some t := h
    show (match (st ++ g)[n]? with | some (.lst _) => some Ty.lst | some (.dic _) => some Ty.dic | none => none) = some t
    cases q : st[n]? with
    | none => rw [q] at h; cases h
    | some c =>
      have hn := (List.getElem?_eq_some_iff.mp q).1
      rw [List.getElem?_append_left hn, q]
      rw [q] at h
      exact h
  | _ => exact h
theorem ty_int {st : Store} {d : D} (h : tyD st d = some .int) : ∃ i, d = .int i := by
  cases d with
  | int i => exact ⟨i, rfl⟩
  | ref n =>
    have h : (match st[n]? with | some (.lst _) => some Ty.lst | some (.dic _) => some Ty.dic | none => none) = some Ty.int := h
    cases q : st[n]? with
    | none => rw [q] at h; cases h
    | some c => rw [q] at h; cases c <;> cases h
  | _ => cases h
/-! dicts -/
theorem valD_put {kvs : List (Key × D)} {c c' : Key} {d : D} : valD (putD kvs c d) c' = if c' = c then some d else valD kvs c' := by
  unfold putD
  split
  · rename_i h
    induction kvs with
    | nil => cases h
    | cons p r ih =>
      rw [List.map_cons]
      by_cases e : p.1 = c
      · rw [if_pos e]
        by_cases e2 : c' = c
        · subst e2; simp [valD, List.find?_cons, e]
        · have e3 : ¬ p.1 = c' := fun z => e2 (z.symm.trans e)
          have key : ∀ r : List (Key × D), valD (r.map fun kv => if kv.1 = c then (kv.1, d) else kv) c' = valD r c' := by
            intro r
            induction r with
            | nil => rfl
            | cons q r ih =>
              rw [List.map_cons]
              by_cases f : q.1 = c
              · have f3 : ¬ q.1 = c' := fun z => e2 (z.symm.trans f)
                rw [if_pos f]
                simp only [valD, List.find?_cons, decide_eq_false f3]
                exact ih
              · rw [if_neg f]
                by_cases f2 : q.1 = c'
                · simp [valD, List.find?_cons, f2]
                · simp only [valD, List.find?_cons, decide_eq_false f2]
                  exact ih
          rw [if_neg e2]
          have := key r
          simp only [valD, List.find?_cons, decide_eq_false e3] at this ⊢
          exact this
      · rw [if_neg e]
        rw [List.any_cons, decide_eq_false e, Bool.false_or] at h
        have := ih h
        by_cases e2 : c' = p.1
        · have e3 : ¬ c' = c := fun z => e (e2.symm.trans z)
          rw [if_neg e3]
          simp [valD, List.find?_cons, e2]
        · have e3 : ¬ p.1 = c' := fun z => e2 z.symm
          simp only [valD, List.find?_cons, decide_eq_false e3] at this ⊢
          exact this
  · rename_i h
    have hn : ∀ p ∈ kvs, ¬ p.1 = c := fun p hp z => h (List.any_eq_true.mpr ⟨p, hp, decide_eq_true z⟩)
    induction kvs with
    | nil =>
      by_cases e : c' = c
      · simp [valD, List.find?_cons, e]
      · have : ¬ c = c' := fun z => e z.symm
        simp [valD, List.find?_cons, e, this]
    | cons p r ih =>
      have hp := hn p List.mem_cons_self
      have ih := ih (fun z => h (by rw [List.any_cons, z, Bool.or_true])) fun q hq => hn q (List.mem_cons_of_mem _ hq)
      rw [List.cons_append]
      by_cases e2 : p.1 = c'
      · have e3 : ¬ c' = c := fun z => hp (e2.trans z)
        rw [if_neg e3]
        simp [valD, List.find?_cons, e2]
      · simp only [valD, List.find?_cons, decide_eq_false e2] at ih ⊢
        exact ih
theorem length_putD (kvs : List (Key × D)) (c : Key) (d : D) : (putD kvs c d).length ≤ kvs.length + 1 := by
  unfold putD
  split
  · rw [List.length_map]; omega
  · rw [List.length_append, List.length_cons, List.length_nil]; omega
theorem put_ref {st : Store} {n : Nat} {kvs : List (Key × D)} {i : Int} {v : D} (h : st[n]? = some (.dic kvs)) (hl : kvs.length < 16777216) : putV (.ref n) (.int i) v st = some (st.set n (.dic (putD kvs (.inl i) v))) := by
  unfold putV keyD cellK
  simp only [h, if_pos hl]
theorem get_ref {st : Store} {n : Nat} {kvs : List (Key × D)} {i : Int} {v : D} (h : st[n]? = some (.dic kvs)) : getV (.ref n) (.int i) v st = .ok ((valD kvs (.inl i)).getD v) st := by
  unfold getV keyD cellK
  simp only [h]
theorem isDic_ref {st : Store} {n : Nat} {kvs : List (Key × D)} (h : st[n]? = some (.dic kvs)) : isDic st (.ref n) = true := by
  unfold isDic cellK
  simp only [h, Option.isSome_some]
@[simp] theorem dputD_eq {ls : LS} {st : Store} {fo fi fe : LS → Store → Out D} : dputD fo fi fe ls st = ofE (fe ls st) ls fun v st1 => ofE (fo ls st1) ls fun o st2 => ofE (fi ls st2) ls fun i st3 => (match putV o i v st3 with | some st4 => .nx ls st4 | none => .bad) := rfl
@[simp] theorem dget2D_eq {ls : LS} {st : Store} {fo fi fe : LS → Store → Out D} : dget2D fo fi fe ls st = (fo ls st).bind fun o st1 => if isDic st1 o = true then (fi ls st1).bind fun i st2 => (fe ls st2).bind fun v st3 => getV o i v st3 else .bad := rfl
@[simp] theorem isNon_int {b : Bool} {i : Int} {st : Store} : isNonF b (.int i) .non st = .ok (.bl b) st := rfl
@[simp] theorem isNon_non {b : Bool} {st : Store} : isNonF b .non .non st = .ok (.bl (!b)) st := rfl
/-! texts of data -/
theorem shown_i {i : Int} (h : i.natAbs < 10 ^ 20) : (PyData.shown (.int i)).length ≤ 21 := by
  rw [PyData.shown_int]
  have := int_text_length_le10 (k := 20) (by decide) h
  show (Str.ofString (toString i)).length ≤ 21
  rw [PySem.ofString_length]
  exact this
def SmallI (ns : List Int) : Prop := ∀ n ∈ ns, n.natAbs < 10 ^ 20
theorem leaves_ints : ∀ {ns : List Int}, SmallI ns → PyData.leavesShortAll 21 (ns.map PyData.int) = true
  | [], _ => rfl
  | n :: ns, h => by
    rw [List.map_cons, PyData.leavesShortAll, leaves_ints (ns := ns) fun x hx => h x (List.mem_cons_of_mem _ hx), PyData.leavesShort]
    rw [decide_eq_true (shown_i (h n List.mem_cons_self))]
    rfl
theorem show_ints : ∀ {ns : List Int}, SmallI ns → PyData.showableAll (ns.map PyData.int) = true
  | [], _ => rfl
  | n :: ns, h => by
    rw [List.map_cons, PyData.showableAll, show_ints (ns := ns) fun x hx => h x (List.mem_cons_of_mem _ hx), PyData.showable]
    have h1 := h n List.mem_cons_self
    have : n.natAbs.log2 < 1920 := by
      by_cases hz : n.natAbs = 0
      · rw [hz]; decide
      · rw [Nat.log2_lt hz]
        have : (10 : Nat) ^ 20 ≤ 2 ^ 1920 := by decide +kernel
        omega
    rw [decide_eq_true this]
    rfl
theorem nodict_ints : ∀ ns : List Int, PyData.hasDictAll (ns.map PyData.int) = false
  | [] => rfl
  | n :: ns => by rw [List.map_cons, PyData.hasDictAll, nodict_ints ns, PyData.hasDict]; rfl
theorem bulk_ints : ∀ ns : List Int, PyData.bulkAll (ns.map PyData.int) = ns.length
  | [] => rfl
  | n :: ns => by rw [List.map_cons, PyData.bulkAll, bulk_ints ns, PyData.bulk, List.length_cons]; omega
theorem repr_tupI {st : Store} {ns : List Int} (h : SmallI ns) (hl : ns.length ≤ 1000) : reprV [tupI ns] st = .ok (.str (PyData.shown (.tuple (ns.map PyData.int)))) st := by
  unfold reprV tupI
  have e := toP_tupI (st := st) (n := 58) ns
  simp only [e]
  have hs : (PyData.tuple (ns.map PyData.int)).leavesShort 21 = true := by rw [PyData.leavesShort]; exact leaves_ints h
  have hb := PyData.shown_le_bulk 21 (by decide) _ hs
  rw [PyData.bulk, bulk_ints] at hb
  have hd := depth_ints ns
  rw [if_pos]
  refine ⟨by rw [PyData.showable]; exact show_ints h, by rw [PyData.hasDict]; exact nodict_ints ns, ?_, by omega⟩
  simp only [PyData.depth]
  omega
/-- a list of short tuples of small ints -/
def SmallT (l : List D) : Prop := ∀ d ∈ l, ∃ i ns, d = tupI (i :: ns) ∧ SmallI (i :: ns) ∧ ns.length ≤ 9
theorem SmallT.ts {l : List D} (h : SmallT l) : IsTs l := fun d hd => let ⟨i, ns, e, _⟩ := h d hd; ⟨i, ns, e⟩
theorem toP_ts {st : Store} : ∀ {l : List D}, IsTs l → l.mapM (toP st 59) = some (l.map (encD []))
  | l, h => mapM_some fun d hd => by
    obtain ⟨i, ns, rfl⟩ := h d hd
    rw [enc_tupI]
    exact toP_tupI (n := 57) _
theorem small_all : ∀ {l : List D}, SmallT l → PyData.leavesShortAll 21 (l.map (encD [])) = true ∧ PyData.showableAll (l.map (encD [])) = true ∧ PyData.hasDictAll (l.map (encD [])) = false ∧ PyData.depthAll (l.map (encD [])) ≤ 2 ∧ PyData.bulkAll (l.map (encD [])) ≤ 11 * l.length
  | [], _ => ⟨rfl, rfl, rfl, by simp [PyData.depthAll], by simp [PyData.bulkAll]⟩
  | d :: l, h => by
    obtain ⟨h1, h2, h3, h4, h5⟩ := small_all (l := l) fun x hx => h x (List.mem_cons_of_mem _ hx)
    obtain ⟨i, ns, rfl, hs, hn⟩ := h d List.mem_cons_self
    have hd := depth_ints (i :: ns)
    rw [List.map_cons, enc_tupI]
    refine ⟨?_, ?_, ?_, ?_, ?_⟩
    · rw [PyData.leavesShortAll, h1, PyData.leavesShort, leaves_ints hs]; rfl
    · rw [PyData.showableAll, h2, PyData.showable, show_ints hs]; rfl
    · rw [PyData.hasDictAll, h3, PyData.hasDict, nodict_ints]; rfl
    · simp only [PyData.depthAll, PyData.depth]
      exact Nat.max_le.mpr ⟨by omega, h4⟩
    · rw [PyData.bulkAll, PyData.bulk, bulk_ints, List.length_cons, List.length_cons]
      omega
theorem repr_cell {st : Store} {n : Nat} {l : List D} (e : st[n]? = some (.lst l)) (h : SmallT l) (hl : l.length ≤ 10000) : reprV [.ref n] st = .ok (.str (PyData.shown (.list (l.map (encD []))))) st := by
  have e1 : toP st 60 (.ref n) = some (.list (l.map (encD []))) := by
    show (match st[n]? with | some (.lst l) => (l.mapM (toP st 59)).map PyData.list | _ => none) = _
    rw [e]
    show (l.mapM (toP st 59)).map PyData.list = _
    rw [toP_ts h.ts]
    rfl
  unfold reprV
  simp only [e1]
  obtain ⟨h1, h2, h3, h4, h5⟩ := small_all h
  have hs : (PyData.list (l.map (encD []))).leavesShort 21 = true := by rw [PyData.leavesShort]; exact h1
  have hb := PyData.shown_le_bulk 21 (by decide) _ hs
  rw [PyData.bulk] at hb
  rw [if_pos]
  refine ⟨by rw [PyData.showable]; exact h2, by rw [PyData.hasDict]; exact h3, ?_, by omega⟩
  simp only [PyData.depth]
  omega
/-! equal tuples of ints -/
theorem eqv_ints : ∀ ns ms : List Int, PyData.eqvAll (ns.map PyData.int) (ms.map PyData.int) = decide (ns = ms)
  | [], [] => rfl
  | [], m :: ms => by simp [PyData.eqvAll]
  | n :: ns, [] => by simp [PyData.eqvAll]
  | n :: ns, m :: ms => by
    rw [List.map_cons, List.map_cons, PyData.eqvAll, eqv_ints ns ms, PyData.eqv]
    exact Bool.eq_iff_iff.mpr (by simp)
theorem eqv_tupI (ns ms : List Int) : PyData.eqv (.tuple (ns.map PyData.int)) (.tuple (ms.map PyData.int)) = decide (ns = ms) := by
  rw [PyData.eqv]
  exact eqv_ints ns ms
theorem canLay_ints : ∀ ns : List Int, PyData.canLayAll0 (ns.map PyData.int) = true
  | [] => rfl
  | n :: ns => by rw [List.map_cons, PyData.canLayAll0, canLay_ints ns, PyData.canLay0]; rfl
theorem shaped_tupI (ns : List Int) : SeqAt.shaped (.tuple (ns.map PyData.int)) = true := by
  have := depth_ints ns
  unfold SeqAt.shaped
  rw [PyData.canLay0, canLay_ints, decide_eq_true]
  · rfl
  · simp only [PyData.depth]; omega
theorem eqG_tupI {b : Bool} {st : Store} (ns ms : List Int) : eqG b (tupI ns) (tupI ms) st = .ok (.bl (if b then !decide (ns = ms) else decide (ns = ms))) st := by
  rw [eqF_tupI b (shaped_tupI ns) (shaped_tupI ms), eqv_tupI]
theorem toP_two {st : Store} (ms ks : List Int) : toP st 60 (.tup [tupI ms, tupI ks]) = some (.tuple [.tuple (ms.map PyData.int), .tuple (ks.map PyData.int)]) := by
  show ([tupI ms, tupI ks].mapM (toP st 59)).map PyData.tuple = _
  have e1 : toP st 59 (tupI ms) = some (.tuple (ms.map PyData.int)) := toP_tupI (n := 57) ms
  have e2 : toP st 59 (tupI ks) = some (.tuple (ks.map PyData.int)) := toP_tupI (n := 57) ks
  simp [e1, e2]
theorem in_two {b : Bool} {st : Store} (ns ms ks : List Int) : inV b (tupI ns) (.tup [tupI ms, tupI ks]) st = .ok (.bl (if b then !(decide (ms = ns) || decide (ks = ns)) else (decide (ms = ns) || decide (ks = ns)))) st := by
  unfold inV
  rw [if_pos isTup_tup]
  unfold inTF
  have e1 : toP st 60 (tupI ns) = some (.tuple (ns.map PyData.int)) := toP_tupI (n := 58) ns
  simp only [e1, toP_two]
  have h1 := depth_ints ms
  have h2 := depth_ints ks
  have hs : SeqAt.shaped (.tuple [.tuple (ms.map PyData.int), .tuple (ks.map PyData.int)]) = true := by
    unfold SeqAt.shaped
    rw [decide_eq_true]
    · simp [PyData.canLay0, PyData.canLayAll0, canLay_ints]
    · simp only [PyData.depth, PyData.depthAll]; omega
  rw [if_pos ⟨shaped_tupI ns, hs⟩]
  simp only [List.any_cons, List.any_nil, Bool.or_false, eqv_tupI]
end DD

set_option maxRecDepth 100000
set_option maxHeartbeats 0
namespace K72
open PySem PySem.Spec PyProof.Rows L2 DD
/-! what each def of the text does (good outcomes) -/
def conE : D → Bool
  | .int i => decide (i ≠ 0) && (decide (-1000 ≤ i) && decide (i ≤ 1000))
  | _ => false
def plainD : D → Bool
  | .int _ => true
  | .bl _ => true
  | .non => true
  | _ => false
def conicB : D → Bool
  | .tup l => decide (l.length = 3) && l.all conE
  | _ => false
structure Cd (st : Store) (d : D) : Prop where
  ty : ∃ t, tyD st d = some t
  pl : ∀ l, d = .tup l → l.length = 3 → l.all plainD = true
def rt : Nat → Nat
  | 0 => 0
  | n + 1 => if (rt n + 1) * (rt n + 1) ≤ n + 1 then rt n + 1 else rt n
def gcdL (ns : List Int) : Int := ns.foldl (fun a b => ((Int.gcd a b : Nat) : Int)) 0
def noConic (st : Store) : Out D := .ex ⟨"NoConic", []⟩ st
def noFraction (st : Store) : Out D := .ex ⟨"NoFraction", []⟩ st
def Good_is_integer (ds : List D) (st : Store) (o : Out D) : Prop := ∃ d t, ds = [d] ∧ tyD st d = some t ∧ o = .ok (.bl (decide (t = .int))) st
def Good_is_conic (ds : List D) (st : Store) (o : Out D) : Prop := ∃ d, ds = [d] ∧ Cd st d ∧ o = .ok (.bl (conicB d)) st
def Good_check_conic (ds : List D) (st : Store) (o : Out D) : Prop := ∃ d, ds = [d] ∧ Cd st d ∧ o = if conicB d = true then .ok .non st else noConic st
def Good_whole_root (ds : List D) (st : Store) (o : Out D) : Prop := ∃ n : Nat, ds = [.int n] ∧ n < 1152921504606846976 ∧ o = .ok (.int (rt n)) st
def Good_common_divisor (ds : List D) (st : Store) (o : Out D) : Prop := ∃ a b : Int, ds = [.int a, .int b] ∧ o = .ok (.int (Int.gcd a b)) st
def Good_divisor_of (ds : List D) (st : Store) (o : Out D) : Prop := ∃ ns : List Int, ds = [.tup (ns.map .int)] ∧ o = .ok (.int (gcdL ns)) st
/-- the points on the conic, in the text's order -/
def p3 (x y z : Int) : D := tupI [x, y, z]
def ptAt (a b c m x y : Int) : List D :=
  if c ∣ -(a * x * x + b * y * y) ∧ 0 ≤ -(a * x * x + b * y * y) / c then
    (if (rt (-(a * x * x + b * y * y) / c).toNat : Int) * rt (-(a * x * x + b * y * y) / c).toNat = -(a * x * x + b * y * y) / c ∧ (rt (-(a * x * x + b * y * y) / c).toNat : Int) ≤ m ∧ gcdL [x, y, rt (-(a * x * x + b * y * y) / c).toNat] = 1 then [p3 x y (rt (-(a * x * x + b * y * y) / c).toNat)] else []) else []
def ptD (a b c m : Int) : D → D → List D
  | .int x, .int y => ptAt a b c m x y
  | _, _ => []
def pts (a b c m : Int) : List D := (rangeL 0 (m + 1).toNat).flatMap fun x => (rangeL 0 (m + 1).toNat).flatMap fun y => ptD a b c m x y
noncomputable def smallO (d e : D) (st : Store) : Out D := if conicB d = true then (match d, e with
    | .tup [.int a, .int b, .int c], .int m => if 1 ≤ m ∧ m ≤ 60 then .ok (.ref st.length) (st ++ [.lst (sortT (pts a b c m))]) else noFraction st
    | _, _ => noFraction st) else noConic st
def Good_small_points (ds : List D) (st : Store) (o : Out D) : Prop := ∃ d e, ds = [d, e] ∧ Cd st d ∧ (∃ t, tyD st e = some t) ∧ o = smallO d e st
def paperB : D → D → Bool
  | .tup [.int a, .int b, .int c], .tup [.int x, .int y, .int z] => !(decide (x = 0) && (decide (y = 0) && decide (z = 0))) && decide (a * x * x + b * y * y + c * z * z = 0)
  | _, _ => false

structure Pd (st : Store) (d : D) : Prop where
  ty : ∃ t, tyD st d = some t
  pl : ∀ l, d = .tup l → l.length = 3 → l.all plainD = true
  sm : ∀ l i, d = .tup l → D.int i ∈ l → -1000000 ≤ i ∧ i ≤ 1000000
def Good_is_conic_paper (ds : List D) (st : Store) (o : Out D) : Prop := ∃ d e, ds = [d, .tup [.str "point", e]] ∧ Cd st d ∧ Pd st e ∧ o = if conicB d = true then .ok (.bl (paperB d e)) st else noConic st
/-! the chord through a point -/
def foL (a b x y z u v : Int) : List Int := [x * (a * u * u + b * v * v) - 2 * (a * x * u + b * y * v) * u, y * (a * u * u + b * v * v) - 2 * (a * x * u + b * y * v) * v, z * (a * u * u + b * v * v)]
def chordL (a b x y z u v : Int) : List Int := if 0 < gcdL (foL a b x y z u v) then (foL a b x y z u v).map (fun n => n / gcdL (foL a b x y z u v)) else [x, y, z]
structure Bd (a b x y z u v : Int) : Prop where
  a : -1000 ≤ a ∧ a ≤ 1000
  b : -1000 ≤ b ∧ b ≤ 1000
  x : -1000000 ≤ x ∧ x ≤ 1000000
  y : -1000000 ≤ y ∧ y ≤ 1000000
  z : -1000000 ≤ z ∧ z ≤ 1000000
  u : -10000 ≤ u ∧ u ≤ 10000
  v : -10000 ≤ v ∧ v ≤ 10000
def Good_chord_point (ds : List D) (st : Store) (o : Out D) : Prop := ∃ a b c x y z u v, ds = [tupI [a, b, c], tupI [x, y, z], .int u, .int v] ∧ Bd a b x y z u v ∧ o = .ok (tupI (chordL a b x y z u v)) st
def otherO (d e u v : D) (st : Store) : Out D := if conicB d = true then (match d, e, u, v with
    | .tup [.int a, .int b, .int c], .tup [.int x, .int y, .int z], .int u, .int v => if paperB d e = true ∧ ¬ (u = 0 ∧ v = 0) then .ok (tupI (chordL a b x y z u v)) st else noConic st
    | _, _, _, _ => noConic st) else noConic st
def Good_other_point (ds : List D) (st : Store) (o : Out D) : Prop := ∃ d e u v, ds = [d, e, u, v] ∧ Cd st d ∧ Pd st e ∧ (∃ t, tyD st u = some t) ∧ (∃ t, tyD st v = some t) ∧ (∀ i, u = .int i ∨ v = .int i → -10000 ≤ i ∧ i ≤ 10000) ∧ o = otherO d e u v st
/-! the law's own -/
structure Hd where
  cells : List Int
  i : Nat
  b : Int
  s : Int
  c : Int
def Hd.cell (h : Hd) : Cell := .lst [.lst (h.cells.map D.int), .int h.i, .int h.b, .int h.s, .int h.c]
def Good__law_hand (ds : List D) (st : Store) (o : Out D) : Prop := ∃ ns : List Int, ds = [.cst (ns.map D.int)] ∧ ns.length ≤ 63 ∧ ∃ hd : Hd, o = .ok (.ref st.length) (st ++ [hd.cell])
def Good__law_draw (ds : List D) (st : Store) (o : Out D) : Prop := ∃ h hd m, ds = [.ref h, .int m] ∧ st[h]? = some (Hd.cell hd) ∧ 0 < m ∧ m < 1000000 ∧ ∃ v hd', 0 ≤ v ∧ v < m ∧ o = .ok (.int v) (st.set h (Hd.cell hd'))
def Good__law_any (ds : List D) (st : Store) (o : Out D) : Prop := ∃ h hd n l, ds = [.ref h, .ref n] ∧ h ≠ n ∧ st[h]? = some (Hd.cell hd) ∧ st[n]? = some (.lst l) ∧ 0 < l.length ∧ l.length < 1000000 ∧ ∃ x hd', x ∈ l ∧ o = .ok x (st.set h (Hd.cell hd'))
def Good__law_number (ds : List D) (st : Store) (o : Out D) : Prop := ∃ h hd w, ds = [.ref h, .int w] ∧ st[h]? = some (Hd.cell hd) ∧ 1 ≤ w ∧ w ≤ 1000000 ∧ ∃ v hd', v ≠ 0 ∧ -w ≤ v ∧ v ≤ w ∧ o = .ok (.int v) (st.set h (Hd.cell hd'))
def Good__law_divisor (ds : List D) (st : Store) (o : Out D) : Prop := ∃ ns : List Int, ds = [.tup (ns.map .int)] ∧ o = .ok (.int (gcdL ns)) st
structure Wp (a b c x y z : Int) : Prop where
  pa : a ≠ 0 ∧ -60 ≤ a ∧ a ≤ 60
  pb : b ≠ 0 ∧ -60 ≤ b ∧ b ≤ 60
  pc : c ≠ 0 ∧ -1000 ≤ c ∧ c ≤ 1000
  px : -9 ≤ x ∧ x ≤ 9
  py : -9 ≤ y ∧ y ≤ 9
  pz : -9 ≤ z ∧ z ≤ 9
  pn : ¬ (x = 0 ∧ y = 0 ∧ z = 0)
  po : a * x * x + b * y * y + c * z * z = 0
def Good__law_with_point (ds : List D) (st : Store) (o : Out D) : Prop := ∃ h hd, ds = [.ref h] ∧ st[h]? = some (Hd.cell hd) ∧ ∃ a b c x y z hd', Wp a b c x y z ∧ -3 ≤ x ∧ x ≤ 3 ∧ -3 ≤ y ∧ y ≤ 3 ∧ -3 ≤ z ∧ z ≤ 3 ∧ o = .ok (.tup [tupI [a, b, c], tupI [x, y, z]]) (st.set h (Hd.cell hd'))
def Good__law_value (ds : List D) (st : Store) (o : Out D) : Prop := ∃ a b c x y z : Int, ds = [tupI [a, b, c], tupI [x, y, z]] ∧ (-1000 ≤ a ∧ a ≤ 1000) ∧ (-1000 ≤ b ∧ b ≤ 1000) ∧ (-1000 ≤ c ∧ c ≤ 1000) ∧ (-1000000 ≤ x ∧ x ≤ 1000000) ∧ (-1000000 ≤ y ∧ y ≤ 1000000) ∧ (-1000000 ≤ z ∧ z ≤ 1000000) ∧ o = .ok (.int (a * x * x + b * y * y + c * z * z)) st
structure Kb (a b c m : Int) : Prop where
  a : a ≠ 0 ∧ -1000 ≤ a ∧ a ≤ 1000
  b : b ≠ 0 ∧ -1000 ≤ b ∧ b ≤ 1000
  c : c ≠ 0 ∧ -1000 ≤ c ∧ c ≤ 1000
  m : 1 ≤ m ∧ m ≤ 60
def Good__law_points (ds : List D) (st : Store) (o : Out D) : Prop := ∃ a b c m, ds = [tupI [a, b, c], .int m] ∧ Kb a b c m ∧ o = .ok (.ref st.length) (st ++ [.lst (sortT (pts a b c m))])
def Good__law_other (ds : List D) (st : Store) (o : Out D) : Prop := ∃ a b c x y z u v, ds = [tupI [a, b, c], tupI [x, y, z], .int u, .int v] ∧ Bd a b x y z u v ∧ o = .ok (tupI (chordL a b x y z u v)) st
def Good__law_is_met_right (ds : List D) (st : Store) (o : Out D) : Prop := ∃ h hd a b c x y z, ds = [.ref h, tupI [a, b, c], tupI [x, y, z]] ∧ st[h]? = some (Hd.cell hd) ∧ Wp a b c x y z ∧ ∃ hd', o = .ok (.bl true) (st.set h (Hd.cell hd'))
def Good__law_is_list_right (ds : List D) (st : Store) (o : Out D) : Prop := ∃ h a b c m, ds = [.ref h, tupI [a, b, c], .int m] ∧ Kb a b c m ∧ o = .ok (.bl true) st
def wordS : Out D → Str
  | .ok _ _ => "let"
  | .ex e _ => if e.cls = "NoConic" then "conic" else "most"
  | .bad => "bad"
def Good__law_word (ds : List D) (st : Store) (o : Out D) : Prop := (∃ d e, ds = [.int 0, d, .tup [e]] ∧ Cd st d ∧ (∃ t, tyD st e = some t) ∧ o = .ok (.str (wordS (smallO d e st))) st) ∨
  ∃ d e u v, ds = [.int 1, d, .tup [e, u, v]] ∧ Cd st d ∧ Pd st e ∧ (∃ t, tyD st u = some t) ∧ (∃ t, tyD st v = some t) ∧ (∀ i, u = .int i ∨ v = .int i → -10000 ≤ i ∧ i ≤ 10000) ∧ o = .ok (.str (wordS (otherO d e u v st))) st
def Good__law_are_refused (ds : List D) (st : Store) (o : Out D) : Prop := ∃ h hd, ds = [.ref h] ∧ st[h]? = some (Hd.cell hd) ∧ ∃ hd', o = .ok (.bl true) (st.set h (Hd.cell hd'))
def Good_law (ds : List D) (st : Store) (o : Out D) : Prop := ∃ st', o = .ok (.bl true) st'
end K72
namespace K72
open PySem PySem.Spec PyProof.Rows L2 DD
end K72

set_option maxRecDepth 100000
set_option maxHeartbeats 0
namespace K72
open PySem PySem.Spec PyProof.Rows L2 DD
def top (i : Nat) : Stmt := PySem.Challenge.pw_wholerays_k72_whole_small_points_and_oth.main.body.getD i (.Pass ⟨0, 0, 0, 0⟩)
def excs : List Str := ["NoConic", "NoFraction"]
def kT (y x : Str) : Bool := decide (y = x) || (decide (x = "FieldError") || decide (x = "ValueError"))
def catF (e : Exc) : Option Bool := if e.fs.isEmpty = true ∧ e.cls ∈ excs then some true else none
theorem catF_fs {e : Exc} (h : catF e = some true) : e.fs = [] := by
  unfold catF at h
  split at h
  · rename_i q; exact List.isEmpty_iff.mp q.1
  · cases h
theorem catF_in {e : Exc} {b : Bool} (h : catF e = some b) : e.cls ∈ excs ∧ b = true := by
  unfold catF at h
  split at h
  · rename_i q; exact ⟨q.2, by cases h; rfl⟩
  · cases h
abbrev N__law_hand : List Str := ["script", "cells", "cell"]
noncomputable def le1__law_hand : LS → Store → Out D := (callD absV' (consA (callD intV (consA (varD 2) nilA)) nilA))
noncomputable def g__law_hand : LS → Store → SO := (seqD (asgD (lcD (seqI (slD (varD 0) noP (someP (litD (.int 63))))) (nameG 2) yesT le1__law_hand [2]) (nameG 1))
  (retD (lstD (consA (varD 1) (consA (litD (.int 0)) (consA (litD (.int 0)) (consA (bin2 addV (litD (.int 83)) (bin2 mulV (litD (.int 5)) (callD lenV (consA (varD 1) nilA)))) (consA (litD (.int 0)) nilA))))))))
noncomputable def F__law_hand : List D → Store → Out D := viaF 3 g__law_hand Good__law_hand
abbrev N_is_integer : List Str := ["thing"]
noncomputable def g_is_integer : LS → Store → SO := (retD ((andV (un1 (isiV .int) (varD 0)) (notV (un1 (isiV .bl) (varD 0))))))
noncomputable def F_is_integer : List D → Store → Out D := viaF 1 g_is_integer Good_is_integer
abbrev N_is_conic : List Str := ["thing", "one"]
noncomputable def le1_is_conic : LS → Store → Out D := ((andV (callD F_is_integer (consA (varD 1) nilA)) (andV (bin2 neV (varD 1) (litD (.int 0))) (bin2 leV (callD absV' (consA (varD 1) nilA)) (litD (.int 1000))))))
noncomputable def g_is_conic : LS → Store → SO := (seqD (ifS ((orT (notT (testD (un1 (isiV .tup) (varD 0)))) (boolD (bin2 neV (callD lenV (consA (varD 0) nilA)) (litD (.int 3)))))) (retD (litD (.bl false))) skipD)
  (retD (callD (onL allL) (consA (lcD (seqI (varD 0)) (nameG 1) yesT le1_is_conic [1]) nilA))))
noncomputable def F_is_conic : List D → Store → Out D := viaF 2 g_is_conic Good_is_conic
abbrev N_check_conic : List Str := ["thing"]
noncomputable def g_check_conic : LS → Store → SO := (ifS (notT (testD (callD F_is_conic (consA (varD 0) nilA)))) (raiseD "NoConic") skipD)
noncomputable def F_check_conic : List D → Store → Out D := viaF 1 g_check_conic Good_check_conic
abbrev N_whole_root : List Str := ["number", "here", "there"]
noncomputable def wt1_whole_root : LS → Store → Out Bool := (boolD (bin2 leV (bin2 mulV (varD 1) (varD 1)) (varD 0)))
noncomputable def wb1_whole_root : LS → Store → SO := (asgD (bin2 mulV (litD (.int 2)) (varD 1)) (nameG 1))
noncomputable def wt2_whole_root : LS → Store → Out Bool := (boolD (bin2 ltV (varD 2) (varD 1)))
noncomputable def wb2_whole_root : LS → Store → SO := (seqD (asgD (varD 2) (nameG 1))
  (asgD (bin2 fdivV (bin2 addV (varD 1) (bin2 fdivV (varD 0) (varD 1))) (litD (.int 2))) (nameG 2)))
noncomputable def g_whole_root : LS → Store → SO := (seqD (ifS (boolD (bin2 ltV (varD 0) (litD (.int 2)))) (retD (varD 0)) skipD)
  (seqD (asgD (litD (.int 1)) (nameG 1))
  (seqD (whileD wt1_whole_root wb1_whole_root)
  (seqD (asgD (bin2 fdivV (bin2 addV (varD 1) (bin2 fdivV (varD 0) (varD 1))) (litD (.int 2))) (nameG 2))
  (seqD (whileD wt2_whole_root wb2_whole_root)
  (retD (varD 1)))))))
noncomputable def F_whole_root : List D → Store → Out D := viaF 3 g_whole_root Good_whole_root
abbrev N_common_divisor : List Str := ["one", "other"]
noncomputable def wt1_common_divisor : LS → Store → Out Bool := (boolD (bin2 gtV (varD 1) (litD (.int 0))))
noncomputable def wb1_common_divisor : LS → Store → SO := (parD 0 1 (consA (varD 1) (consA (bin2 modV (varD 0) (varD 1)) nilA)))
noncomputable def g_common_divisor : LS → Store → SO := (seqD (parD 0 1 (consA (callD absV' (consA (varD 0) nilA)) (consA (callD absV' (consA (varD 1) nilA)) nilA)))
  (seqD (whileD wt1_common_divisor wb1_common_divisor)
  (retD (varD 0))))
noncomputable def F_common_divisor : List D → Store → Out D := viaF 2 g_common_divisor Good_common_divisor
abbrev N_divisor_of : List Str := ["numbers", "found", "number"]
noncomputable def fb1_divisor_of : LS → Store → SO := (asgD (callD F_common_divisor (consA (varD 1) (consA (varD 2) nilA))) (nameG 1))
noncomputable def g_divisor_of : LS → Store → SO := (seqD (asgD (litD (.int 0)) (nameG 1))
  (seqD (forD (seqI (varD 0)) (nameG 2) fb1_divisor_of)
  (retD (varD 1))))
noncomputable def F_divisor_of : List D → Store → Out D := viaF 3 g_divisor_of Good_divisor_of
abbrev N_small_points : List Str := ["conic", "most", "found", "x", "y", "rest", "z"]
noncomputable def fb1_small_points : LS → Store → SO := (seqD (asgD (un1 negV (bin2 addV (bin2 mulV (bin2 mulV (bin2 ixD (varD 0) (litD (.int 0))) (varD 3)) (varD 3)) (bin2 mulV (bin2 mulV (bin2 ixD (varD 0) (litD (.int 1))) (varD 4)) (varD 4)))) (nameG 5))
  (ifS ((andT (boolD (bin2 eqV (bin2 modV (varD 5) (bin2 ixD (varD 0) (litD (.int 2)))) (litD (.int 0)))) (boolD (bin2 geV (bin2 fdivV (varD 5) (bin2 ixD (varD 0) (litD (.int 2)))) (litD (.int 0)))))) (seqD (asgD (callD F_whole_root (consA (bin2 fdivV (varD 5) (bin2 ixD (varD 0) (litD (.int 2)))) nilA)) (nameG 6))
  (ifS ((andT (boolD (bin2 eqV (bin2 mulV (varD 6) (varD 6)) (bin2 fdivV (varD 5) (bin2 ixD (varD 0) (litD (.int 2)))))) (andT (boolD (bin2 leV (varD 6) (varD 1))) (boolD (bin2 eqV (callD F_divisor_of (consA (tupD (consA (varD 3) (consA (varD 4) (consA (varD 6) nilA)))) nilA)) (litD (.int 1))))))) (dropD (methD .lst appV (varD 2) (consA (tupD (consA (varD 3) (consA (varD 4) (consA (varD 6) nilA)))) nilA))) skipD)) skipD))
noncomputable def fb2_small_points : LS → Store → SO := (forD (rng1 (consA (bin2 addV (varD 1) (litD (.int 1))) nilA)) (nameG 4) fb1_small_points)
noncomputable def g_small_points : LS → Store → SO := (seqD (dropD (callD F_check_conic (consA (varD 0) nilA)))
  (seqD (ifS ((orT (notT (testD (callD F_is_integer (consA (varD 1) nilA)))) (notT (boolD (chainD leV leV (litD (.int 1)) (varD 1) (litD (.int 60))))))) (raiseD "NoFraction") skipD)
  (seqD (asgD (lstD nilA) (nameG 2))
  (seqD (forD (rng1 (consA (bin2 addV (varD 1) (litD (.int 1))) nilA)) (nameG 3) fb2_small_points)
  (retD (callD (onL sortedL) (consA (varD 2) nilA)))))))
noncomputable def F_small_points : List D → Store → Out D := viaF 7 g_small_points Good_small_points
abbrev N_is_conic_paper : List Str := ["conic", "thing", "one", "part"]
noncomputable def le1_is_conic_paper : LS → Store → Out D := (callD F_is_integer (consA (varD 2) nilA))
noncomputable def le2_is_conic_paper : LS → Store → Out D := (bin2 mulV (bin2 mulV (varD 2) (varD 3)) (varD 3))
noncomputable def g_is_conic_paper : LS → Store → SO := (seqD (dropD (callD F_check_conic (consA (varD 0) nilA)))
  (seqD (ifS ((orT (notT (testD (un1 (isiV .tup) (varD 1)))) (orT (boolD (bin2 neV (callD lenV (consA (varD 1) nilA)) (litD (.int 2)))) (notT (testD (un1 (isiV .str) (bin2 ixD (varD 1) (litD (.int 0))))))))) (retD (litD (.bl false))) skipD)
  (seqD (ifS (boolD (bin2 eqV (bin2 ixD (varD 1) (litD (.int 0))) (litD (.str "place")))) (neverD) skipD)
  (seqD (ifS ((orT (boolD (bin2 neV (bin2 ixD (varD 1) (litD (.int 0))) (litD (.str "point")))) (orT (notT (testD (un1 (isiV .tup) (bin2 ixD (varD 1) (litD (.int 1)))))) (boolD (bin2 neV (callD lenV (consA (bin2 ixD (varD 1) (litD (.int 1))) nilA)) (litD (.int 3))))))) (retD (litD (.bl false))) skipD)
  (seqD (ifS ((orT (notT (testD (callD (onL allL) (consA (lcD (seqI (bin2 ixD (varD 1) (litD (.int 1)))) (nameG 2) yesT le1_is_conic_paper [2]) nilA)))) (notT (testD (callD anyTV (consA (bin2 ixD (varD 1) (litD (.int 1))) nilA)))))) (retD (litD (.bl false))) skipD)
  (retD (bin2 eqV (callD (onL sumL) (consA (lcD (zipI (consA (varD 0) (consA (bin2 ixD (varD 1) (litD (.int 1))) nilA))) (tupG 2 (consG (nameG 2) (consG (nameG 3) nilG))) yesT le2_is_conic_paper [2, 3]) nilA)) (litD (.int 0)))))))))
noncomputable def F_is_conic_paper : List D → Store → Out D := viaF 4 g_is_conic_paper Good_is_conic_paper
abbrev N_chord_point : List Str := ["conic", "point", "u", "v", "a", "b", "c", "x", "y", "z", "whole", "half", "found", "shared", "part"]
noncomputable def le1_chord_point : LS → Store → Out D := (bin2 fdivV (varD 14) (varD 13))
noncomputable def g_chord_point : LS → Store → SO := (seqD (asgD (varD 0) (tupG 3 (consG (nameG 4) (consG (nameG 5) (consG (nameG 6) nilG)))))
  (seqD (asgD (varD 1) (tupG 3 (consG (nameG 7) (consG (nameG 8) (consG (nameG 9) nilG)))))
  (seqD (parD 10 11 (consA (bin2 addV (bin2 mulV (bin2 mulV (varD 4) (varD 2)) (varD 2)) (bin2 mulV (bin2 mulV (varD 5) (varD 3)) (varD 3))) (consA (bin2 addV (bin2 mulV (bin2 mulV (varD 4) (varD 7)) (varD 2)) (bin2 mulV (bin2 mulV (varD 5) (varD 8)) (varD 3))) nilA)))
  (seqD (asgD (tupD (consA (bin2 subV (bin2 mulV (varD 7) (varD 10)) (bin2 mulV (bin2 mulV (litD (.int 2)) (varD 11)) (varD 2))) (consA (bin2 subV (bin2 mulV (varD 8) (varD 10)) (bin2 mulV (bin2 mulV (litD (.int 2)) (varD 11)) (varD 3))) (consA (bin2 mulV (varD 9) (varD 10)) nilA)))) (nameG 12))
  (seqD (asgD (callD F_divisor_of (consA (varD 12) nilA)) (nameG 13))
  (retD (ifE (boolD (bin2 gtV (varD 13) (litD (.int 0)))) (callD tupleV (consA (lcD (seqI (varD 12)) (nameG 14) yesT le1_chord_point [14]) nilA)) (varD 1))))))))
noncomputable def F_chord_point : List D → Store → Out D := viaF 15 g_chord_point Good_chord_point
abbrev N_other_point : List Str := ["conic", "point", "u", "v", "one"]
noncomputable def le1_other_point : LS → Store → Out D := (callD F_is_integer (consA (varD 4) nilA))
noncomputable def g_other_point : LS → Store → SO := (seqD (ifS ((orT (notT (testD (callD F_is_conic_paper (consA (varD 0) (consA (tupD (consA (litD (.str "point")) (consA (varD 1) nilA))) nilA))))) (orT (notT (testD (callD (onL allL) (consA (lcD (seqI (tupD (consA (varD 2) (consA (varD 3) nilA)))) (nameG 4) yesT le1_other_point [4]) nilA)))) (boolD (bin2 eqV (tupD (consA (varD 2) (consA (varD 3) nilA))) (tupD (consA (litD (.int 0)) (consA (litD (.int 0)) nilA)))))))) (raiseD "NoConic") skipD)
  (retD (callD F_chord_point (consA (varD 0) (consA (varD 1) (consA (varD 2) (consA (varD 3) nilA)))))))
noncomputable def F_other_point : List D → Store → Out D := viaF 5 g_other_point Good_other_point
abbrev N__law_draw : List Str := ["hand", "many", "cell", "digit", "number"]
noncomputable def g__law_draw : LS → Store → SO := (seqD (ifS ((andT (boolD (bin2 eqV (bin2 ixD (varD 0) (litD (.int 2))) (litD (.int 0)))) (boolD (bin2 ltV (bin2 ixD (varD 0) (litD (.int 1))) (callD lenV (consA (bin2 ixD (varD 0) (litD (.int 0))) nilA)))))) (seqD (asgD (bin2 ixD (bin2 ixD (varD 0) (litD (.int 0))) (bin2 ixD (varD 0) (litD (.int 1)))) (nameG 2))
  (seqD (asgD (bin2 addV (bin2 ixD (varD 0) (litD (.int 1))) (litD (.int 1))) (subG (varD 0) (litD (.int 1))))
  (seqD (asgD (bin2 modV (callD intV (consA (bin2 addV (bin2 addV (bin2 mulV (bin2 ixD (varD 0) (litD (.int 3))) (litD (.int 69621))) (bin2 mulV (varD 2) (litD (.int 40692)))) (litD (.int 17))) nilA)) (litD (.int 2147483629))) (subG (varD 0) (litD (.int 3))))
  (ifS (boolD (bin2 geV (varD 2) (bin2 powV (litD (.int 10)) (litD (.int 18))))) (asgD (varD 2) (subG (varD 0) (litD (.int 2)))) skipD)))) skipD)
  (seqD (ifS (boolD (bin2 gtV (bin2 ixD (varD 0) (litD (.int 2))) (litD (.int 0)))) (seqD (asgD (bin2 modV (callD intV (consA (bin2 ixD (varD 0) (litD (.int 2))) nilA)) (varD 1)) (nameG 3))
  (seqD (asgD (bin2 fdivV (bin2 ixD (varD 0) (litD (.int 2))) (varD 1)) (subG (varD 0) (litD (.int 2))))
  (retD (varD 3)))) skipD)
  (seqD (asgD (bin2 addV (bin2 ixD (varD 0) (litD (.int 4))) (litD (.int 1))) (subG (varD 0) (litD (.int 4))))
  (seqD (asgD (bin2 modV (callD intV (consA (bin2 mulV (callD intV (consA (bin2 addV (bin2 ixD (varD 0) (litD (.int 3))) (bin2 mulV (litD (.int 7919)) (bin2 ixD (varD 0) (litD (.int 4))))) nilA)) (litD (.int 48271))) nilA)) (litD (.int 2147483647))) (nameG 4))
  (seqD (asgD (bin2 modV (callD intV (consA (bin2 mulV (varD 4) (bin2 addV (bin2 fdivV (varD 4) (litD (.int 1009))) (litD (.int 69621)))) nilA)) (litD (.int 2147483647))) (nameG 4))
  (seqD (asgD (bin2 modV (callD intV (consA (bin2 mulV (varD 4) (bin2 addV (bin2 fdivV (varD 4) (litD (.int 2003))) (litD (.int 40014)))) nilA)) (litD (.int 2147483563))) (nameG 4))
  (retD (bin2 modV (callD intV (consA (bin2 fdivV (varD 4) (litD (.int 16))) nilA)) (varD 1)))))))))
noncomputable def F__law_draw : List D → Store → Out D := viaF 5 g__law_draw Good__law_draw
abbrev N__law_any : List Str := ["hand", "some"]
noncomputable def g__law_any : LS → Store → SO := (retD (bin2 ixD (varD 1) (callD F__law_draw (consA (varD 0) (consA (callD lenV (consA (varD 1) nilA)) nilA)))))
noncomputable def F__law_any : List D → Store → Out D := viaF 2 g__law_any Good__law_any
abbrev N__law_word : List Str := ["which", "conic", "x", "found", "e"]
noncomputable def g__law_word : LS → Store → SO := (seqD (asgD (litD (.str "let")) (nameG 3))
  (seqD (tryD 4 catF (ifS (boolD (bin2 eqV (varD 0) (litD (.int 0)))) (dropD (callD F_small_points (consA (varD 1) (consA (bin2 ixD (varD 2) (litD (.int 0))) nilA)))) (dropD (callD F_other_point (consA (varD 1) (consA (bin2 ixD (varD 2) (litD (.int 0))) (consA (bin2 ixD (varD 2) (litD (.int 1))) (consA (bin2 ixD (varD 2) (litD (.int 2))) nilA))))))) (fun x a => (seqD (asgD (litD (.str "other")) (nameG 3))
  (ifS ((andT (boolD (bin2 neV (isED 4 a (kT x.cls "NoConic")) (isED 4 a (kT x.cls "NoFraction")))) (testD (isED 4 a (kT x.cls "ValueError"))))) (asgD (ifE (testD (isED 4 a (kT x.cls "NoConic"))) (litD (.str "conic")) (litD (.str "most"))) (nameG 3)) skipD))))
  (retD (varD 3))))
noncomputable def F__law_word : List D → Store → Out D := viaF 5 g__law_word Good__law_word
abbrev N__law_are_refused : List Str := ["hand", "one", "point", "bad", "none", "odd", "pair", "words"]
noncomputable def g__law_are_refused : LS → Store → SO := (seqD (asgD (tupD (consA (tupD (consA (litD (.int 1)) (consA (litD (.int 1)) (consA (un1 negV (litD (.int 2))) nilA)))) (consA (tupD (consA (litD (.int 1)) (consA (litD (.int 1)) (consA (litD (.int 1)) nilA)))) nilA))) (tupG 2 (consG (nameG 1) (consG (nameG 2) nilG))))
  (seqD (asgD (callD F__law_any (consA (varD 0) (consA (lstD (consA (litD .non) (consA (tupD (consA (litD (.int 1)) (consA (litD (.int 1)) nilA))) (consA (tupD (consA (litD (.int 1)) (consA (litD (.int 1)) (consA (litD (.int 0)) nilA)))) (consA (tupD (consA (litD (.int 1)) (consA (litD (.int 1)) (consA (litD (.int 1001)) nilA)))) (consA (lstD (consA (litD (.int 1)) (consA (litD (.int 1)) (consA (un1 negV (litD (.int 2))) nilA)))) (consA (tupD (consA (litD (.int 1)) (consA (litD (.int 1)) (consA (litD (.bl true)) nilA)))) (consA (litD (.int 0)) (consA (dic0D) nilA))))))))) nilA))) (nameG 3))
  (seqD (asgD (callD F__law_any (consA (varD 0) (consA (lstD (consA (litD (.int 0)) (consA (litD (.int 61)) (consA (un1 negV (litD (.int 1))) (consA (litD .non) (consA (litD (.bl true)) (consA (litD (.str "5")) (consA (tupD (consA (litD (.int 5)) nilA)) (consA (bin2 powV (litD (.int 10)) (litD (.int 9))) nilA))))))))) nilA))) (nameG 4))
  (seqD (asgD (callD F__law_any (consA (varD 0) (consA (lstD (consA (litD .non) (consA (tupD (consA (litD (.int 1)) (consA (litD (.int 1)) (consA (litD (.int 2)) nilA)))) (consA (tupD (consA (litD (.int 0)) (consA (litD (.int 0)) (consA (litD (.int 0)) nilA)))) (consA (lstD (consA (litD (.int 1)) (consA (litD (.int 1)) (consA (litD (.int 1)) nilA)))) (consA (tupD (consA (litD (.int 1)) (consA (litD (.int 1)) nilA))) (consA (tupD (consA (litD (.int 1)) (consA (litD (.int 1)) (consA (litD (.bl true)) nilA)))) (consA (litD (.int 0)) nilA)))))))) nilA))) (nameG 5))
  (seqD (asgD (callD F__law_any (consA (varD 0) (consA (lstD (consA (tupD (consA (litD (.int 0)) (consA (litD (.int 0)) nilA))) (consA (tupD (consA (litD (.int 1)) (consA (litD .non) nilA))) (consA (tupD (consA (litD (.bl true)) (consA (litD (.int 1)) nilA))) (consA (tupD (consA (litD (.str "1")) (consA (litD (.int 2)) nilA))) (consA (tupD (consA (litD (.int 1)) (consA (tupD (consA (litD (.int 1)) nilA)) nilA))) nilA)))))) nilA))) (nameG 6))
  (seqD (asgD (lstD (consA (callD F__law_word (consA (litD (.int 0)) (consA (varD 3) (consA (tupD (consA (varD 4) nilA)) nilA)))) (consA (callD F__law_word (consA (litD (.int 0)) (consA (varD 1) (consA (tupD (consA (varD 4) nilA)) nilA)))) (consA (callD F__law_word (consA (litD (.int 1)) (consA (varD 3) (consA (tupD (consA (varD 2) (consA (litD (.int 1)) (consA (litD (.int 0)) nilA)))) nilA)))) nilA)))) (nameG 7))
  (seqD (asgD (bin2 addV (varD 7) (lstD (consA (callD F__law_word (consA (litD (.int 1)) (consA (varD 1) (consA (tupD (consA (varD 5) (consA (litD (.int 1)) (consA (litD (.int 0)) nilA)))) nilA)))) (consA (callD F__law_word (consA (litD (.int 1)) (consA (varD 1) (consA (bin2 addV (tupD (consA (varD 2) nilA)) (varD 6)) nilA)))) (consA (callD F__law_word (consA (litD (.int 0)) (consA (varD 1) (consA (tupD (consA (litD (.int 60)) nilA)) nilA)))) nilA))))) (nameG 7))
  (retD (bin2 eqV (varD 7) (lstD (consA (litD (.str "conic")) (consA (litD (.str "most")) (consA (litD (.str "conic")) (consA (litD (.str "conic")) (consA (litD (.str "conic")) (consA (litD (.str "let")) nilA))))))))))))))))
noncomputable def F__law_are_refused : List D → Store → Out D := viaF 8 g__law_are_refused Good__law_are_refused
abbrev N__law_number : List Str := ["hand", "wide", "found", "lap", "p"]
noncomputable def fb1__law_number : LS → Store → SO := (seqD (asgD (callD F__law_any (consA (varD 0) (consA (lstD (consA (litD (.int 2)) (consA (litD (.int 2)) (consA (litD (.int 3)) (consA (litD (.int 3)) (consA (litD (.int 5)) (consA (litD (.int 7)) (consA (litD (.int 11)) (consA (litD (.int 13)) (consA (litD (.int 17)) (consA (litD (.int 29)) (consA (litD (.int 101)) nilA)))))))))))) nilA))) (nameG 4))
  (asgD (ifE (boolD (bin2 leV (bin2 mulV (varD 2) (varD 4)) (varD 1))) (bin2 mulV (varD 2) (varD 4)) (varD 2)) (nameG 2)))
noncomputable def g__law_number : LS → Store → SO := (seqD (asgD (litD (.int 1)) (nameG 2))
  (seqD (forD (rng1 (consA (callD F__law_draw (consA (varD 0) (consA (litD (.int 5)) nilA))) nilA)) (nameG 3) fb1__law_number)
  (retD (ifE (boolD (bin2 eqV (callD F__law_draw (consA (varD 0) (consA (litD (.int 2)) nilA))) (litD (.int 0)))) (varD 2) (bin2 subV (litD (.int 0)) (varD 2))))))
noncomputable def F__law_number : List D → Store → Out D := viaF 5 g__law_number Good__law_number
abbrev N__law_with_point : List Str := ["hand", "lap", "a", "b", "x", "y", "z", "whole"]
noncomputable def fb1__law_with_point : LS → Store → SO := (seqD (parD 2 3 (consA (callD F__law_number (consA (varD 0) (consA (litD (.int 60)) nilA))) (consA (callD F__law_number (consA (varD 0) (consA (litD (.int 60)) nilA))) nilA)))
  (seqD (parD3 4 5 6 (consA (callD F__law_draw (consA (varD 0) (consA (litD (.int 4)) nilA))) (consA (bin2 addV (litD (.int 1)) (callD F__law_draw (consA (varD 0) (consA (litD (.int 3)) nilA)))) (consA (bin2 addV (litD (.int 1)) (callD F__law_draw (consA (varD 0) (consA (litD (.int 2)) nilA)))) nilA))))
  (seqD (asgD (bin2 subV (litD (.int 0)) (bin2 addV (bin2 mulV (bin2 mulV (varD 2) (varD 4)) (varD 4)) (bin2 mulV (bin2 mulV (varD 3) (varD 5)) (varD 5)))) (nameG 7))
  (ifS ((andT (boolD (bin2 neV (varD 7) (litD (.int 0)))) (andT (boolD (bin2 eqV (bin2 modV (callD intV (consA (varD 7) nilA)) (bin2 mulV (varD 6) (varD 6))) (litD (.int 0)))) (boolD (bin2 leV (bin2 fdivV (callD absV' (consA (varD 7) nilA)) (bin2 mulV (varD 6) (varD 6))) (litD (.int 1000))))))) (retD (tupD (consA (tupD (consA (varD 2) (consA (varD 3) (consA (bin2 fdivV (varD 7) (bin2 mulV (varD 6) (varD 6))) nilA)))) (consA (tupD (consA (varD 4) (consA (varD 5) (consA (varD 6) nilA)))) nilA)))) skipD))))
noncomputable def g__law_with_point : LS → Store → SO := (seqD (forD (rng1 (consA (litD (.int 40)) nilA)) (nameG 1) fb1__law_with_point)
  (retD (tupD (consA (tupD (consA (litD (.int 1)) (consA (litD (.int 1)) (consA (un1 negV (litD (.int 2))) nilA)))) (consA (tupD (consA (litD (.int 1)) (consA (litD (.int 1)) (consA (litD (.int 1)) nilA)))) nilA)))))
noncomputable def F__law_with_point : List D → Store → Out D := viaF 8 g__law_with_point Good__law_with_point
abbrev N__law_divisor : List Str := ["some", "found", "one", "a", "b"]
noncomputable def wt1__law_divisor : LS → Store → Out Bool := (boolD (bin2 gtV (varD 4) (litD (.int 0))))
noncomputable def wb1__law_divisor : LS → Store → SO := (parD 3 4 (consA (varD 4) (consA (bin2 modV (callD intV (consA (varD 3) nilA)) (varD 4)) nilA)))
noncomputable def fb1__law_divisor : LS → Store → SO := (seqD (parD 3 4 (consA (varD 1) (consA (callD absV' (consA (varD 2) nilA)) nilA)))
  (seqD (whileD wt1__law_divisor wb1__law_divisor)
  (asgD (varD 3) (nameG 1))))
noncomputable def g__law_divisor : LS → Store → SO := (seqD (asgD (litD (.int 0)) (nameG 1))
  (seqD (forD (seqI (varD 0)) (nameG 2) fb1__law_divisor)
  (retD (varD 1))))
noncomputable def F__law_divisor : List D → Store → Out D := viaF 5 g__law_divisor Good__law_divisor
abbrev N__law_other : List Str := ["conic", "point", "u", "v", "whole", "twice", "found", "by", "one"]
noncomputable def le1__law_other : LS → Store → Out D := (bin2 fdivV (varD 8) (varD 7))
noncomputable def g__law_other : LS → Store → SO := (seqD (asgD (bin2 addV (bin2 mulV (bin2 mulV (bin2 ixD (varD 0) (litD (.int 0))) (varD 2)) (varD 2)) (bin2 mulV (bin2 mulV (bin2 ixD (varD 0) (litD (.int 1))) (varD 3)) (varD 3))) (nameG 4))
  (seqD (asgD (bin2 mulV (litD (.int 2)) (bin2 addV (bin2 mulV (bin2 mulV (bin2 ixD (varD 0) (litD (.int 0))) (bin2 ixD (varD 1) (litD (.int 0)))) (varD 2)) (bin2 mulV (bin2 mulV (bin2 ixD (varD 0) (litD (.int 1))) (bin2 ixD (varD 1) (litD (.int 1)))) (varD 3)))) (nameG 5))
  (seqD (asgD (tupD (consA (bin2 subV (bin2 mulV (bin2 ixD (varD 1) (litD (.int 0))) (varD 4)) (bin2 mulV (varD 5) (varD 2))) (consA (bin2 subV (bin2 mulV (bin2 ixD (varD 1) (litD (.int 1))) (varD 4)) (bin2 mulV (varD 5) (varD 3))) (consA (bin2 mulV (bin2 ixD (varD 1) (litD (.int 2))) (varD 4)) nilA)))) (nameG 6))
  (seqD (asgD (callD F__law_divisor (consA (varD 6) nilA)) (nameG 7))
  (retD (ifE (boolD (bin2 eqV (varD 7) (litD (.int 0)))) (varD 1) (callD tupleV (consA (lcD (seqI (varD 6)) (nameG 8) yesT le1__law_other [8]) nilA))))))))
noncomputable def F__law_other : List D → Store → Out D := viaF 9 g__law_other Good__law_other
abbrev N__law_value : List Str := ["conic", "point", "one", "part"]
noncomputable def le1__law_value : LS → Store → Out D := (bin2 mulV (bin2 mulV (varD 2) (varD 3)) (varD 3))
noncomputable def g__law_value : LS → Store → SO := (retD (callD (onL sumL) (consA (lcD (zipI (consA (varD 0) (consA (varD 1) nilA))) (tupG 2 (consG (nameG 2) (consG (nameG 3) nilG))) yesT le1__law_value [2, 3]) nilA)))
noncomputable def F__law_value : List D → Store → Out D := viaF 4 g__law_value Good__law_value
abbrev N__law_is_met_right : List Str := ["hand", "conic", "point", "lap", "u", "v", "told", "x", "y", "z", "p", "q", "r", "by", "plain", "one"]
noncomputable def le1__law_is_met_right : LS → Store → Out D := (bin2 fdivV (varD 15) (varD 13))
noncomputable def le2__law_is_met_right : LS → Store → Out D := (bin2 subV (litD (.int 0)) (varD 15))
noncomputable def fb1__law_is_met_right : LS → Store → SO := (seqD (parD 4 5 (consA (bin2 subV (callD F__law_draw (consA (varD 0) (consA (litD (.int 11)) nilA))) (litD (.int 5))) (consA (bin2 subV (callD F__law_draw (consA (varD 0) (consA (litD (.int 11)) nilA))) (litD (.int 5))) nilA)))
  (seqD (ifS (boolD (bin2 eqV (tupD (consA (varD 4) (consA (varD 5) nilA))) (tupD (consA (litD (.int 0)) (consA (litD (.int 0)) nilA))))) (asgD (litD (.int 1)) (nameG 4)) skipD)
  (seqD (asgD (callD F_other_point (consA (varD 1) (consA (varD 2) (consA (varD 4) (consA (varD 5) nilA))))) (nameG 6))
  (seqD (ifS ((orT (boolD (bin2 neV (callD reprV (consA (varD 6) nilA)) (callD reprV (consA (callD F__law_other (consA (varD 1) (consA (varD 2) (consA (varD 4) (consA (varD 5) nilA))))) nilA)))) (boolD (bin2 neV (callD F__law_value (consA (varD 1) (consA (varD 6) nilA))) (litD (.int 0)))))) (retD (litD (.bl false))) skipD)
  (seqD (asgD (varD 2) (tupG 3 (consG (nameG 7) (consG (nameG 8) (consG (nameG 9) nilG)))))
  (seqD (asgD (varD 6) (tupG 3 (consG (nameG 10) (consG (nameG 11) (consG (nameG 12) nilG)))))
  (seqD (ifS ((orT (boolD (bin2 neV (bin2 subV (bin2 mulV (varD 4) (bin2 subV (bin2 mulV (varD 8) (varD 12)) (bin2 mulV (varD 9) (varD 11)))) (bin2 mulV (varD 5) (bin2 subV (bin2 mulV (varD 7) (varD 12)) (bin2 mulV (varD 9) (varD 10))))) (litD (.int 0)))) (boolD (bin2 (isBlF true) (callD F_is_conic_paper (consA (varD 1) (consA (tupD (consA (litD (.str "point")) (consA (varD 6) nilA))) nilA))) (litD (.bl true)))))) (retD (litD (.bl false))) skipD)
  (ifS (boolD (bin2 neV (bin2 addV (bin2 mulV (bin2 mulV (bin2 ixD (varD 1) (litD (.int 0))) (varD 4)) (varD 4)) (bin2 mulV (bin2 mulV (bin2 ixD (varD 1) (litD (.int 1))) (varD 5)) (varD 5))) (litD (.int 0)))) (seqD (asgD (callD F__law_divisor (consA (varD 2) nilA)) (nameG 13))
  (seqD (asgD (callD tupleV (consA (lcD (seqI (varD 2)) (nameG 15) yesT le1__law_is_met_right [15]) nilA)) (nameG 14))
  (ifS (boolD (bin2 (inV true) (callD F_other_point (consA (varD 1) (consA (varD 6) (consA (varD 4) (consA (varD 5) nilA))))) (tupD (consA (varD 14) (consA (callD tupleV (consA (lcD (seqI (varD 14)) (nameG 15) yesT le2__law_is_met_right [15]) nilA)) nilA))))) (retD (litD (.bl false))) skipD))) skipD))))))))
noncomputable def g__law_is_met_right : LS → Store → SO := (seqD (forD (rng1 (consA (litD (.int 6)) nilA)) (nameG 3) fb1__law_is_met_right)
  (retD (litD (.bl true))))
noncomputable def F__law_is_met_right : List D → Store → Out D := viaF 16 g__law_is_met_right Good__law_is_met_right
abbrev N__law_points : List Str := ["conic", "most", "roots", "found", "z", "x", "y"]
noncomputable def fb1__law_points : LS → Store → SO := (dputD (varD 2) (bin2 mulV (bin2 mulV (bin2 ixD (varD 0) (litD (.int 2))) (varD 4)) (varD 4)) (varD 4))
noncomputable def fb2__law_points : LS → Store → SO := (seqD (asgD (dget2D (varD 2) (bin2 subV (bin2 subV (litD (.int 0)) (bin2 mulV (bin2 mulV (bin2 ixD (varD 0) (litD (.int 0))) (varD 5)) (varD 5))) (bin2 mulV (bin2 mulV (bin2 ixD (varD 0) (litD (.int 1))) (varD 6)) (varD 6))) (litD .non)) (nameG 4))
  (ifS ((andT (boolD (bin2 (isNonF true) (varD 4) (litD .non))) (boolD (bin2 eqV (callD F__law_divisor (consA (tupD (consA (varD 5) (consA (varD 6) (consA (varD 4) nilA)))) nilA)) (litD (.int 1)))))) (dropD (methD .lst appV (varD 3) (consA (tupD (consA (varD 5) (consA (varD 6) (consA (varD 4) nilA)))) nilA))) skipD))
noncomputable def fb3__law_points : LS → Store → SO := (forD (rng1 (consA (bin2 addV (varD 1) (litD (.int 1))) nilA)) (nameG 6) fb2__law_points)
noncomputable def g__law_points : LS → Store → SO := (seqD (parD 2 3 (consA (dic0D) (consA (lstD nilA) nilA)))
  (seqD (forD (rng1 (consA (bin2 addV (varD 1) (litD (.int 1))) nilA)) (nameG 4) fb1__law_points)
  (seqD (forD (rng1 (consA (bin2 addV (varD 1) (litD (.int 1))) nilA)) (nameG 5) fb3__law_points)
  (retD (callD (onL sortedL) (consA (varD 3) nilA))))))
noncomputable def F__law_points : List D → Store → Out D := viaF 7 g__law_points Good__law_points
abbrev N__law_is_list_right : List Str := ["hand", "conic", "most", "due", "told", "one", "other", "x", "y", "z", "p", "q", "r", "u", "v", "part"]
noncomputable def le1__law_is_list_right : LS → Store → Out D := (bin2 subV (litD (.int 0)) (varD 15))
noncomputable def fb1__law_is_list_right : LS → Store → SO := (seqD (asgD (tupD (consA (varD 5) (consA (varD 6) nilA))) (tupG 2 (consG (tupG 3 (consG (nameG 7) (consG (nameG 8) (consG (nameG 9) nilG)))) (consG (tupG 3 (consG (nameG 10) (consG (nameG 11) (consG (nameG 12) nilG)))) nilG))))
  (seqD (parD 13 14 (consA (bin2 subV (bin2 mulV (varD 7) (varD 12)) (bin2 mulV (varD 10) (varD 9))) (consA (bin2 subV (bin2 mulV (varD 8) (varD 12)) (bin2 mulV (varD 11) (varD 9))) nilA)))
  (ifS ((andT (boolD (bin2 neV (tupD (consA (varD 13) (consA (varD 14) nilA))) (tupD (consA (litD (.int 0)) (consA (litD (.int 0)) nilA))))) (andT (boolD (bin2 gtV (varD 9) (litD (.int 0)))) (boolD (bin2 gtV (varD 12) (litD (.int 0))))))) (ifS (boolD (bin2 (inV true) (callD F_other_point (consA (varD 1) (consA (varD 5) (consA (varD 13) (consA (varD 14) nilA))))) (tupD (consA (varD 6) (consA (callD tupleV (consA (lcD (seqI (varD 6)) (nameG 15) yesT le1__law_is_list_right [15]) nilA)) nilA))))) (retD (litD (.bl false))) skipD) skipD)))
noncomputable def fb2__law_is_list_right : LS → Store → SO := (forD (seqI (slD (varD 3) (someP (un1 negV (litD (.int 2)))) noP)) (nameG 6) fb1__law_is_list_right)
noncomputable def g__law_is_list_right : LS → Store → SO := (seqD (asgD (callD F__law_points (consA (varD 1) (consA (varD 2) nilA))) (nameG 3))
  (seqD (asgD (callD F_small_points (consA (varD 1) (consA (varD 2) nilA))) (nameG 4))
  (seqD (ifS ((orT (notT (testD (un1 (isiV .lst) (varD 4)))) (boolD (bin2 neV (callD reprV (consA (varD 4) nilA)) (callD reprV (consA (varD 3) nilA)))))) (retD (litD (.bl false))) skipD)
  (seqD (dropD (methD .lst appV (varD 4) (consA (litD .non) nilA)))
  (seqD (ifS (boolD (bin2 neV (callD reprV (consA (callD F_small_points (consA (varD 1) (consA (varD 2) nilA))) nilA)) (callD reprV (consA (varD 3) nilA)))) (retD (litD (.bl false))) skipD)
  (seqD (forD (seqI (slD (varD 3) noP (someP (litD (.int 2))))) (nameG 5) fb2__law_is_list_right)
  (retD (litD (.bl true)))))))))
noncomputable def F__law_is_list_right : List D → Store → Out D := viaF 16 g__law_is_list_right Good__law_is_list_right
abbrev N_law : List Str := ["script", "hand", "lap", "conic", "point", "times", "drawn", "one", "part"]
noncomputable def le1_law : LS → Store → Out D := (bin2 mulV (varD 5) (varD 7))
noncomputable def le2_law : LS → Store → Out D := (callD F__law_number (consA (varD 1) (consA (litD (.int 100)) nilA)))
noncomputable def fb1_law : LS → Store → SO := (seqD (asgD (callD F__law_with_point (consA (varD 1) nilA)) (tupG 2 (consG (nameG 3) (consG (nameG 4) nilG))))
  (seqD (asgD (callD F__law_any (consA (varD 1) (consA (lstD (consA (litD (.int 1)) (consA (litD (.int 1)) (consA (litD (.int 2)) (consA (un1 negV (litD (.int 3))) nilA))))) nilA))) (nameG 5))
  (seqD (ifS (notT (testD (callD F__law_is_met_right (consA (varD 1) (consA (varD 3) (consA (callD tupleV (consA (lcD (seqI (varD 4)) (nameG 7) yesT le1_law [7]) nilA)) nilA)))))) (retD (litD (.bl false))) skipD)
  (seqD (ifS (notT (testD (callD F__law_is_list_right (consA (varD 1) (consA (varD 3) (consA (bin2 addV (litD (.int 1)) (callD F__law_draw (consA (varD 1) (consA (litD (.int 25)) nilA)))) nilA)))))) (retD (litD (.bl false))) skipD)
  (seqD (asgD (callD tupleV (consA (lcD (rng1 (consA (litD (.int 3)) nilA)) (nameG 8) yesT le2_law [8]) nilA)) (nameG 6))
  (ifS (notT (testD (callD F__law_is_list_right (consA (varD 1) (consA (varD 6) (consA (callD F__law_any (consA (varD 1) (consA (lstD (consA (litD (.int 5)) (consA (litD (.int 12)) (consA (litD (.int 60)) nilA)))) nilA))) nilA)))))) (retD (litD (.bl false))) skipD))))))
noncomputable def g_law : LS → Store → SO := (seqD (asgD (callD F__law_hand (consA (varD 0) nilA)) (nameG 1))
  (seqD (ifS ((orT (boolD (bin2 neV (callD F_small_points (consA (tupD (consA (litD (.int 1)) (consA (litD (.int 1)) (consA (un1 negV (litD (.int 2))) nilA)))) (consA (litD (.int 2)) nilA))) (lstD (consA (tupD (consA (litD (.int 1)) (consA (litD (.int 1)) (consA (litD (.int 1)) nilA)))) nilA)))) (boolD (bin2 neV (callD F_other_point (consA (tupD (consA (litD (.int 1)) (consA (litD (.int 1)) (consA (un1 negV (litD (.int 2))) nilA)))) (consA (tupD (consA (litD (.int 1)) (consA (litD (.int 1)) (consA (litD (.int 1)) nilA)))) (consA (litD (.int 1)) (consA (litD (.int 0)) nilA))))) (tupD (consA (un1 negV (litD (.int 1))) (consA (litD (.int 1)) (consA (litD (.int 1)) nilA)))))))) (retD (litD (.bl false))) skipD)
  (seqD (ifS ((orT (boolD (bin2 neV (callD F_other_point (consA (tupD (consA (litD (.int 1)) (consA (un1 negV (litD (.int 1))) (consA (litD (.int 3)) nilA)))) (consA (tupD (consA (litD (.int 1)) (consA (litD (.int 1)) (consA (litD (.int 0)) nilA)))) (consA (litD (.int 1)) (consA (litD (.int 1)) nilA))))) (tupD (consA (litD (.int 1)) (consA (litD (.int 1)) (consA (litD (.int 0)) nilA)))))) (notT (testD (callD F__law_are_refused (consA (varD 1) nilA)))))) (retD (litD (.bl false))) skipD)
  (seqD (forD (rng1 (consA (litD (.int 4)) nilA)) (nameG 2) fb1_law)
  (retD (litD (.bl true)))))))
noncomputable def F_law : List D → Store → Out D := viaF 9 g_law Good_law
end K72

set_option maxRecDepth 100000
set_option maxHeartbeats 400000
namespace K72
open PySem PySem.Spec PyProof.Rows L2 DD
theorem sp_is_integer {st : Store} {d : D} {t : Ty} (h : tyD st d = some t) : F_is_integer [d] st = .ok (.bl (decide (t = .int))) st := by
  refine viaF_eq (o := .ok (.bl (decide (t = .int))) st) ⟨d, t, rfl, h, rfl⟩ (fun o' ⟨d', t', e, h', eo⟩ => ?_) fun _ _ => Pk.of_eq ?_
  · cases e
    rw [h] at h'
    cases h'
    exact eo
  · simp [g_is_integer, h]
    cases t <;> simp [Ty.isA]
@[simp] theorem is_int_int (st : Store) (i : Int) : F_is_integer [.int i] st = .ok (.bl true) st := by rw [sp_is_integer rfl]; rfl
@[simp] theorem is_int_bl (st : Store) (i : Bool) : F_is_integer [.bl i] st = .ok (.bl false) st := by rw [sp_is_integer rfl]; rfl
@[simp] theorem is_int_non (st : Store) : F_is_integer [.non] st = .ok (.bl false) st := by rw [sp_is_integer rfl]; rfl
theorem Cd.flat {st : Store} {d : D} (h : Cd st d) {l : List D} (e : d = .tup l) (hl : l.length = 3) : ∀ x ∈ l, plainD x = true := List.all_eq_true.mp (h.pl l e hl)
theorem sp_is_conic {st : Store} {d : D} (h : Cd st d) : F_is_conic [d] st = .ok (.bl (conicB d)) st := by
  refine viaF_eq (o := .ok (.bl (conicB d)) st) ⟨d, rfl, h, rfl⟩ (fun o' ⟨d', e, h', eo⟩ => ?_) fun h1 h2 => ?_
  · cases e; exact eo
  · obtain ⟨t, ht⟩ := h.ty
    by_cases hd : ∃ l, d = .tup l
    · obtain ⟨l, rfl⟩ := hd
      by_cases hl : l.length = 3
      · have fl := h.flat rfl hl
        have key : lcL (okB ⟨l, []⟩) st.length (nameG 1) yesT le1_is_conic (wipeL [some (.tup l), none] [1]) l (st ++ [.lst []]) =
            .ok (.ref st.length) (st ++ [.lst (l.map fun x => .bl (conE x))]) := by
          refine lc_map (its := ⟨l, []⟩) (fun x => .bl (conE x)) (fun _ => rfl) (by rw [hl]; decide) fun x hx acc => ?_
          have := fl x hx
          cases x with
          | int i =>
            refine ⟨_, rfl, rfl, ?_⟩
            simp [le1_is_conic, wipeL, conE]
            by_cases h0 : i = 0
            · simp [h0]
            · simp [h0]
              refine Bool.eq_iff_iff.mpr ?_
              by_cases hi : i < 0
              · simp [hi]; omega
              · simp [hi]; omega
          | bl b => exact ⟨_, rfl, rfl, by simp [le1_is_conic, wipeL, conE]⟩
          | non => exact ⟨_, rfl, rfl, by simp [le1_is_conic, wipeL, conE]⟩
          | _ => cases this
        simp only [okB_nil] at key
        simp [g_is_conic, hl, key, allL]
        have e : conicB (.tup l) = l.all conE := by simp [conicB, hl]
        rw [e]
        exact Pk.dropG _ h1 rfl
      · refine Pk.of_eq ?_
        have hl' : ¬ ((l.length : Int) = 3) := by omega
        simp [g_is_conic, hl, hl', conicB]
    · refine Pk.of_eq ?_
      have hne : t ≠ .tup := fun e => hd (ty_tup (e ▸ ht))
      have e : conicB d = false := by
        cases d <;> first | rfl | exact absurd ⟨_, rfl⟩ hd
      simp [g_is_conic, ht, hne, e]
theorem sp_check_conic {st : Store} {d : D} (h : Cd st d) : F_check_conic [d] st = if conicB d = true then .ok .non st else noConic st := by
  refine viaF_eq ⟨d, rfl, h, rfl⟩ (fun o' ⟨d', e, h', eo⟩ => ?_) fun h1 h2 => ?_
  · cases e; exact eo
  · refine Pk.of_eq ?_
    simp [g_check_conic, sp_is_conic h]
    cases conicB d <;> simp [noConic]
theorem sp_common_divisor (a b : Int) (st : Store) : F_common_divisor [.int a, .int b] st = .ok (.int (Int.gcd a b)) st := by
  refine viaF_eq ⟨a, b, rfl, rfl⟩ (fun o' ⟨a', b', e, eo⟩ => ?_) fun h1 h2 => ?_
  · cases e; exact eo
  · refine Pk.of_eq ?_
    have key := while_run (t := wt1_common_divisor) (b := wb1_common_divisor)
      (fun (p : Nat × Nat) ls s => ls = [some (.int p.1), some (.int p.2)] ∧ s = st ∧ Nat.gcd p.1 p.2 = Int.gcd a b) (fun p => p.2)
      (fun ls s => s = st ∧ ∃ x, ls = [some (.int (Int.gcd a b)), x]) (fun p ls s ⟨e1, e2, e3⟩ => ?_) (a.natAbs, b.natAbs) [some (.int a.natAbs), some (.int b.natAbs)] st ⟨rfl, rfl, rfl⟩
    · obtain ⟨ls', st', k1, rfl, x, rfl⟩ := key
      have ea : (if a < 0 then -a else a) = (a.natAbs : Int) := by omega
      have eb : (if b < 0 then -b else b) = (b.natAbs : Int) := by omega
      simp [g_common_divisor, ea, eb, k1]
    · subst e1 e2
      by_cases hp : p.2 = 0
      · refine .inl ⟨_, by simp [wt1_common_divisor, hp], rfl, some (.int p.2), ?_⟩
        rw [hp, Nat.gcd_zero_right] at e3
        rw [← e3]
      · refine .inr ⟨_, _, _, (p.2, p.1 % p.2), by simp [wt1_common_divisor]; exact ⟨Nat.pos_of_ne_zero hp, rfl⟩, ?_, ⟨rfl, rfl, ?_⟩, Nat.mod_lt _ (Nat.pos_of_ne_zero hp)⟩
        · simp [wb1_common_divisor, hp]
        · rw [← e3, Nat.gcd_comm p.1 p.2, Nat.gcd_rec p.2 p.1, Nat.gcd_comm]
theorem sp_divisor_of (ns : List Int) (st : Store) : F_divisor_of [.tup (ns.map .int)] st = .ok (.int (gcdL ns)) st := by
  refine viaF_eq ⟨ns, rfl, rfl⟩ (fun o' ⟨ns', e, eo⟩ => ?_) fun h1 h2 => ?_
  · have e : ns.map D.int = ns'.map D.int := by simpa using e
    have := congrArg intsOf e
    rw [intsOf_map, intsOf_map] at this
    cases this
    exact eo
  · refine Pk.of_eq ?_
    obtain ⟨ls', st', k1, rfl, y, rfl⟩ := for_fold (ok := fun _ => true) (g := nameG 2) (b := fb1_divisor_of) (fun (x : Int) ls s => s = st ∧ ∃ y, ls = [some (.tup (ns.map .int)), some (.int x), y])
      (fun x d => match d with | .int i => (Int.gcd x i : Int) | _ => x) (fun _ _ _ _ => rfl) (ns.map .int) 0 [some (.tup (ns.map .int)), some (.int 0), none] st ⟨rfl, none, rfl⟩ (fun d hd x ls s ⟨e1, y, e2⟩ => by
        obtain ⟨i, _, rfl⟩ := List.mem_map.mp hd
        subst e1 e2
        exact ⟨_, _, [some (.tup (ns.map .int)), some (.int (Int.gcd x i)), some (.int i)], s, rfl, .inl (by simp [fb1_divisor_of, sp_common_divisor]), rfl, _, rfl⟩)
    simp [g_divisor_of, k1, gcdL, List.foldl_map]
/-! the whole root -/
theorem rt_le : ∀ n : Nat, rt n * rt n ≤ n
  | 0 => Nat.le_refl _
  | n + 1 => by
    unfold rt
    split
    · assumption
    · exact Nat.le_succ_of_le (rt_le n)
theorem rt_lt : ∀ n : Nat, n < (rt n + 1) * (rt n + 1)
  | 0 => by decide
  | n + 1 => by
    have := rt_lt n
    unfold rt
    split
    · rename_i h
      have h2 : (rt n + 1) * (rt n + 1) ≤ n + 1 := h
      have h3 : (rt n + 1) * (rt n + 1) < (rt n + 1 + 1) * (rt n + 1 + 1) := Nat.mul_lt_mul_of_lt_of_lt (Nat.lt_succ_self _) (Nat.lt_succ_self _)
      omega
    · omega
theorem rt_eq {n h : Nat} (h1 : h * h ≤ n) (h2 : n < (h + 1) * (h + 1)) : rt n = h := by
  have a := rt_le n
  have b := rt_lt n
  rcases Nat.lt_trichotomy (rt n) h with c | c | c
  · have : (rt n + 1) * (rt n + 1) ≤ h * h := Nat.mul_le_mul c c
    omega
  · exact c
  · have : (h + 1) * (h + 1) ≤ rt n * rt n := Nat.mul_le_mul c c
    omega
theorem sq_nonneg' (x : Int) : 0 ≤ x * x := by
  rcases Int.le_total 0 x with h | h
  · exact Int.mul_nonneg h h
  · exact Int.mul_nonneg_of_nonpos_of_nonpos h h
theorem newton {n h : Nat} (hh : 0 < h) : n < ((h + n / h) / 2 + 1) * ((h + n / h) / 2 + 1) := by
  have q1 : n < h * (n / h + 1) := by
    have := Nat.lt_mul_div_succ n hh
    exact this
  generalize hq : n / h = q at *
  have t1 : h + (q + 1) ≤ 2 * ((h + q) / 2 + 1) := by omega
  generalize ht : (h + q) / 2 + 1 = t at *
  have s1 := sq_nonneg' ((h : Int) - ((q : Int) + 1))
  have s2 : (h + (q + 1)) * (h + (q + 1)) ≤ (2 * t) * (2 * t) := Nat.mul_le_mul t1 t1
  have s3 : ((h + (q + 1) : Nat) : Int) * ((h + (q + 1) : Nat) : Int) ≤ ((2 * t : Nat) : Int) * ((2 * t : Nat) : Int) := by exact_mod_cast s2
  have q2 : (n : Int) < (h : Int) * ((q : Int) + 1) := by exact_mod_cast q1
  have : (n : Int) < (t : Int) * (t : Int) := by
    simp only [Int.natCast_add, Int.natCast_mul, Int.natCast_one] at s3
    grind
  exact_mod_cast this
theorem wr1 {n : Nat} (st : Store) (hn : n < 1152921504606846976) (h2 : ¬ n < 2) : ∃ ls' st', whileD wt1_whole_root wb1_whole_root [some (.int n), some (.int 1), none] st = .nx ls' st' ∧ st = st' ∧
    ∃ p : Nat, ls' = [some (.int n), some (.int p), none] ∧ 0 < p ∧ n < p * p ∧ p * p ≤ 4 * n ∧ p < 2147483648 := by
  have small : ∀ {p : Nat}, p * p ≤ 4 * n → p < 2147483648 := fun {p} hb => by
    rcases Nat.lt_or_ge p 2147483648 with c | c
    · exact c
    · have : 2147483648 * 2147483648 ≤ p * p := Nat.mul_le_mul c c
      omega
  refine while_run (t := wt1_whole_root) (b := wb1_whole_root)
        (fun (p : Nat) ls s => st = s ∧ ls = [some (.int n), some (.int p), none] ∧ 0 < p ∧ p * p ≤ 4 * n) (fun p => 4 * n - p)
        (fun ls s => st = s ∧ ∃ p : Nat, ls = [some (.int n), some (.int p), none] ∧ 0 < p ∧ n < p * p ∧ p * p ≤ 4 * n ∧ p < 2147483648) (fun p ls s ⟨e1, e2, hp, hb⟩ => ?_) 1 [some (.int n), some (.int 1), none] st ⟨rfl, rfl, Nat.one_pos, by omega⟩
  subst e1 e2
  have hps := small hb
  have hm : mulOk (p : Int) (p : Int) = true := mulOk_l (by omega) (by omega)
  have hm2 : mulOk 2 (p : Int) = true := mulOk_l (by omega) (by omega)
  by_cases hc : p * p ≤ n
  · have hc' : (p : Int) * p ≤ n := by exact_mod_cast hc
    refine .inr ⟨st, [some (.int n), some (.int ((2 * p : Nat) : Int)), none], st, 2 * p, by simp [wt1_whole_root, hm, hc'], ?_, ⟨rfl, rfl, by omega, ?_⟩, ?_⟩
    · simp [wb1_whole_root, hm2]
    · have : 2 * p * (2 * p) = 4 * (p * p) := by grind
      omega
    · have : p ≤ p * p := Nat.le_mul_of_pos_left p hp
      omega
  · have hc' : ¬ (p : Int) * p ≤ n := fun z => hc (by exact_mod_cast z)
    exact .inl ⟨st, by simp [wt1_whole_root, hm, hc'], rfl, p, rfl, hp, by omega, hb, hps⟩
theorem wr2 {n : Nat} (st : Store) (hn : n < 1152921504606846976) (h2 : ¬ n < 2) {h : Nat} (hpos : 0 < h) (hgt : n < h * h) (hhs : h < 2147483648) : ∃ ls' st', whileD wt2_whole_root wb2_whole_root
    [some (.int n), some (.int h), some (.int ((h + n / h) / 2 : Nat))] st = .nx ls' st' ∧ st = st' ∧ ∃ t, ls' = [some (.int n), some (.int (rt n)), t] := by
  refine while_run (t := wt2_whole_root) (b := wb2_whole_root)
        (fun (p : Nat) ls s => st = s ∧ ls = [some (.int n), some (.int p), some (.int ((p + n / p) / 2 : Nat))] ∧ 0 < p ∧ p < 2147483648 ∧ n < (p + 1) * (p + 1)) (fun p => p)
        (fun ls s => st = s ∧ ∃ t, ls = [some (.int n), some (.int (rt n)), t]) (fun p ls s ⟨e1, e2, hp, hs, hb⟩ => ?_) h _ st ⟨rfl, rfl, hpos, hhs, Nat.lt_trans hgt (Nat.mul_lt_mul_of_lt_of_lt (Nat.lt_succ_self _) (Nat.lt_succ_self _))⟩
  subst e1 e2
  have nw := newton (n := n) hp
  by_cases hc : (p + n / p) / 2 < p
  · have hc' : (((p + n / p) / 2 : Nat) : Int) < p := by exact_mod_cast hc
    have ht : 0 < (p + n / p) / 2 := by
      rcases Nat.eq_zero_or_pos ((p + n / p) / 2) with z | z
      · rw [z] at nw; omega
      · exact z
    generalize (p + n / p) / 2 = t at *
    have d1 : divOk (t : Int) = true := divOk_small (by omega) (by omega) (by omega)
    have d2 : divOk 2 = true := divOk_small (by omega) (by omega) (by omega)
    refine .inr ⟨st, [some (.int n), some (.int t), some (.int ((t + n / t) / 2 : Nat))], st, t, by simp [wt2_whole_root, hc'], ?_, ⟨rfl, rfl, ht, by omega, nw⟩, hc⟩
    have ht' : (0 : Int) < t := by omega
    simp [wb2_whole_root, d1, d2, ht, ht']
  · have hc2 : (p : Int) ≤ ((p : Int) + (n : Int) / p) / 2 := by
      have := Nat.le_of_not_lt hc
      exact_mod_cast this
    refine .inl ⟨st, by simp [wt2_whole_root, hc2], rfl, some (.int ((p + n / p) / 2 : Nat)), ?_⟩
    have hq : p ≤ n / p := by omega
    have : p * p ≤ n := by
      have := Nat.mul_le_mul_left p hq
      have h3 := Nat.mul_div_le n p
      omega
    rw [rt_eq this hb]
theorem sp_whole_root {n : Nat} (st : Store) (hn : n < 1152921504606846976) : F_whole_root [.int n] st = .ok (.int (rt n)) st := by
  refine viaF_eq ⟨n, rfl, hn, rfl⟩ (fun o' ⟨n', e, _, eo⟩ => ?_) fun h1 h2 => ?_
  · have : (n : Int) = n' := by simpa using e
    obtain rfl : n = n' := by omega
    exact eo
  · refine Pk.of_eq ?_
    by_cases h2 : n < 2
    · have h2' : (n : Int) < 2 := by omega
      have hr : rt n = n := by
        rcases (by omega : n = 0 ∨ n = 1) with rfl | rfl <;> rfl
      simp [g_whole_root, h2', hr]
    · have h2' : ¬ (n : Int) < 2 := by omega
      obtain ⟨ls1, st1, k1, rfl, h, e1, hpos, hgt, hle, hhs⟩ := wr1 st hn h2
      subst e1
      obtain ⟨ls2, st2, k2, rfl, t, e2⟩ := wr2 st hn h2 hpos hgt hhs
      subst e2
      have d1 : divOk (h : Int) = true := divOk_small (by omega) (by omega) (by omega)
      have d2 : divOk 2 = true := divOk_small (by omega) (by omega) (by omega)
      have hp' : (0 : Int) < h := by omega
      have k2 := k2
      simp at k2
      simp [g_whole_root, h2', k1, d1, d2, hp', hpos, k2]
end K72

set_option maxRecDepth 100000
set_option maxHeartbeats 400000
namespace K72
open PySem PySem.Spec PyProof.Rows L2 DD
theorem conicB_true {d : D} (h : conicB d = true) : ∃ a b c : Int, d = tupI [a, b, c] ∧ (a ≠ 0 ∧ -1000 ≤ a ∧ a ≤ 1000) ∧ (b ≠ 0 ∧ -1000 ≤ b ∧ b ≤ 1000) ∧ (c ≠ 0 ∧ -1000 ≤ c ∧ c ≤ 1000) := by
  cases d with
  | tup l =>
    simp only [conicB, Bool.and_eq_true, decide_eq_true_eq] at h
    obtain ⟨h1, h2⟩ := h
    match l, h1 with
    | [x, y, z], _ =>
      simp only [List.all_cons, List.all_nil, Bool.and_true, Bool.and_eq_true] at h2
      obtain ⟨hx, hy, hz⟩ := h2
      have key : ∀ {u : D}, conE u = true → ∃ i : Int, u = .int i ∧ (i ≠ 0 ∧ -1000 ≤ i ∧ i ≤ 1000) := fun {u} hu => by
        cases u with
        | int i =>
          simp [conE] at hu
          exact ⟨i, rfl, hu.1, hu.2.1, hu.2.2⟩
        | _ => cases hu
      obtain ⟨a, rfl, ha⟩ := key hx
      obtain ⟨b, rfl, hb⟩ := key hy
      obtain ⟨c, rfl, hc⟩ := key hz
      exact ⟨a, b, c, rfl, ha, hb, hc⟩
  | _ => cases h
theorem ptAt_ts {a b c m x y : Int} : IsTs (ptAt a b c m x y) := by
  intro d hd
  unfold ptAt at hd
  split at hd
  · split at hd
    · rw [List.mem_singleton.mp hd]
      exact ⟨_, _, rfl⟩
    · cases hd
  · cases hd
theorem ptAt_len {a b c m x y : Int} : (ptAt a b c m x y).length ≤ 1 := by
  unfold ptAt
  split
  · split <;> simp
  · simp
theorem ptD_len {a b c m : Int} {x y : D} : (ptD a b c m x y).length ≤ 1 := by
  unfold ptD
  split
  · exact ptAt_len
  · simp
theorem pts_ts {a b c m : Int} : IsTs (pts a b c m) := by
  intro d hd
  unfold pts at hd
  obtain ⟨x, hx, hd⟩ := List.mem_flatMap.mp hd
  obtain ⟨y, hy, hd⟩ := List.mem_flatMap.mp hd
  obtain ⟨i, _, rfl⟩ := mem_rangeL hx
  obtain ⟨j, _, rfl⟩ := mem_rangeL hy
  exact ptAt_ts d hd
theorem small_inner {st : Store} {a b c m x y : Int} {acc : List D} {r0 z0 : Option D} (ha : a ≠ 0 ∧ -1000 ≤ a ∧ a ≤ 1000) (hb : b ≠ 0 ∧ -1000 ≤ b ∧ b ≤ 1000) (hc : c ≠ 0 ∧ -1000 ≤ c ∧ c ≤ 1000) (hm : m ≤ 60) (hx : 0 ≤ x ∧ x ≤ 60) (hy : 0 ≤ y ∧ y ≤ 60) (hacc : acc.length < 16777216) :
    ∃ r1 z1, fb1_small_points [some (tupI [a, b, c]), some (.int m), some (.ref st.length), some (.int x), some (.int y), r0, z0] (st ++ [.lst acc]) =
      .nx [some (tupI [a, b, c]), some (.int m), some (.ref st.length), some (.int x), some (.int y), r1, z1] (st ++ [.lst (acc ++ ptAt a b c m x y)]) := by
  have k1 : mulOk a x = true := mulOk_l (by omega) (by omega)
  have k2 : mulOk b y = true := mulOk_l (by omega) (by omega)
  have k3 : mulOk (a * x) x = true := mulOk_r (by omega) (by omega)
  have k4 : mulOk (b * y) y = true := mulOk_r (by omega) (by omega)
  have k5 : divOk c = true := divOk_small hc.1 (by omega) (by omega)
  have hr : -7200000 ≤ -(a * x * x + b * y * y) ∧ -(a * x * x + b * y * y) ≤ 7200000 := by
    have e1 : ∀ {a x : Int}, (-1000 ≤ a ∧ a ≤ 1000) → (0 ≤ x ∧ x ≤ 60) → -3600000 ≤ a * x * x ∧ a * x * x ≤ 3600000 := fun {a x} ha hx => by
      have h1 : 0 ≤ (a + 1000) * (x * x) := Int.mul_nonneg (by omega) (Int.mul_nonneg hx.1 hx.1)
      have h4 : 0 ≤ (1000 - a) * (x * x) := Int.mul_nonneg (by omega) (Int.mul_nonneg hx.1 hx.1)
      have h2 : x * x ≤ 60 * 60 := Int.mul_le_mul hx.2 hx.2 hx.1 (by omega)
      have h3 : (a + 1000) * (x * x) = a * x * x + 1000 * (x * x) := by grind
      have h5 : (1000 - a) * (x * x) = 1000 * (x * x) - a * x * x := by grind
      omega
    have := e1 ⟨ha.2.1, ha.2.2⟩ hx
    have := e1 ⟨hb.2.1, hb.2.2⟩ hy
    omega
  unfold ptAt
  generalize hrr : -(a * x * x + b * y * y) = r at *
  by_cases hd : c ∣ r
  · have hf : r.fmod c = 0 := fmod_dvd.mpr hd
    have hq : r.fdiv c = r / c := Int.fdiv_eq_ediv_of_dvd hd
    have h1 : (r / c) * c = r := Int.ediv_mul_cancel hd
    generalize hqq : r / c = q at *
    have hqs : q.natAbs ≤ 7200000 := by
      have h2 := congrArg Int.natAbs h1
      rw [Int.natAbs_mul] at h2
      have h3 : q.natAbs ≤ q.natAbs * c.natAbs := Nat.le_mul_of_pos_right _ (Int.natAbs_pos.mpr hc.1)
      omega
    by_cases hp : 0 ≤ q
    · obtain ⟨n, rfl⟩ : ∃ n : Nat, q = n := ⟨q.toNat, by omega⟩
      have hw := sp_whole_root (n := n) (st ++ [Cell.lst acc]) (by omega)
      have hz : rt n < 2147483648 := by
        have := rt_le n
        rcases Nat.lt_or_ge (rt n) 2147483648 with h | h
        · exact h
        · have := Nat.mul_le_mul h h
          omega
      have k6 : mulOk (rt n : Int) (rt n : Int) = true := mulOk_l (by omega) (by omega)
      refine ⟨some (.int r), some (.int (rt n)), ?_⟩
      have hdv := sp_divisor_of [x, y, (rt n : Int)] (st ++ [Cell.lst acc])
      simp only [List.map_cons, List.map_nil] at hdv
      by_cases g1 : (rt n : Int) * rt n = n
      · by_cases g2 : (rt n : Int) ≤ m
        · by_cases g3 : gcdL [x, y, (rt n : Int)] = 1
          · have happ := app_ref (st := st ++ [Cell.lst acc]) (n := st.length) (l := acc) (x := p3 x y (rt n)) get_new hacc
            simp only [p3, tupI, List.map_cons, List.map_nil] at happ
            have hty := tyD_ref (st := st ++ [Cell.lst acc]) (n := st.length) get_new
            simp [fb1_small_points, p3, tupI, k1, k2, k3, k4, k5, k6, hrr, hf, hq, hc.1, hd, hp, hw, g1, g2, g3, hdv, happ, hty]
          · simp [fb1_small_points, tupI, k1, k2, k3, k4, k5, k6, hrr, hf, hq, hc.1, hd, hp, hw, g1, g2, g3, hdv]
        · simp [fb1_small_points, tupI, k1, k2, k3, k4, k5, k6, hrr, hf, hq, hc.1, hd, hp, hw, g1, g2, hdv]
      · simp [fb1_small_points, tupI, k1, k2, k3, k4, k5, k6, hrr, hf, hq, hc.1, hd, hp, hw, g1, hdv]
    · refine ⟨some (.int r), z0, ?_⟩
      simp [fb1_small_points, tupI, k1, k2, k3, k4, k5, hrr, hf, hq, hc.1, hd, hp]
  · have hf : ¬ r.fmod c = 0 := fun z => hd (fmod_dvd.mp z)
    refine ⟨some (.int r), z0, ?_⟩
    simp [fb1_small_points, tupI, k1, k2, k3, k4, k5, hrr, hf, hc.1, hd]
theorem small_row {st : Store} {a b c m x : Int} {acc : List D} {y0 r0 z0 : Option D} (ha : a ≠ 0 ∧ -1000 ≤ a ∧ a ≤ 1000) (hb : b ≠ 0 ∧ -1000 ≤ b ∧ b ≤ 1000) (hc : c ≠ 0 ∧ -1000 ≤ c ∧ c ≤ 1000) (hm : 1 ≤ m ∧ m ≤ 60) (hx : 0 ≤ x ∧ x ≤ 60) (hacc : acc.length < 16000000) :
    ∃ y1 r1 z1, fb2_small_points [some (tupI [a, b, c]), some (.int m), some (.ref st.length), some (.int x), y0, r0, z0] (st ++ [.lst acc]) =
      .nx [some (tupI [a, b, c]), some (.int m), some (.ref st.length), some (.int x), y1, r1, z1] (st ++ [.lst (acc ++ (rangeL 0 (m + 1).toNat).flatMap fun y => ptD a b c m (.int x) y)]) := by
  have hr := rng1_eq (fr := consA (bin2 addV (varD 1) (litD (.int 1))) nilA) (ls := [some (tupI [a, b, c]), some (.int m), some (.ref st.length), some (.int x), y0, r0, z0]) (st := st ++ [.lst acc]) (st1 := st ++ [.lst acc]) (j := m + 1) (by simp) (by omega) (by omega)
  obtain ⟨ls', st', k1, y1, r1, z1, rfl, rfl⟩ := for_pre (ok := fun _ => true) (g := nameG 4) (b := fb1_small_points) (fun pre ls s => ∃ y1 r1 z1, ls = [some (tupI [a, b, c]), some (.int m), some (.ref st.length), some (.int x), y1, r1, z1] ∧ s = st ++ [.lst (acc ++ pre.flatMap fun y => ptD a b c m (.int x) y)])
    (fun _ _ _ _ => rfl) (rangeL 0 (m + 1).toNat) [some (tupI [a, b, c]), some (.int m), some (.ref st.length), some (.int x), y0, r0, z0] (st ++ [.lst acc]) ⟨y0, r0, z0, rfl, by simp⟩ (fun pre d suf e ls s ⟨y1, r1, z1, e1, e2⟩ => by
      obtain ⟨j, hj, rfl⟩ := mem_rangeL (lo := 0) (n := (m + 1).toNat) (d := d) (by rw [e]; simp)
      subst e1 e2
      have hl : pre.length ≤ 61 := by
        have := congrArg List.length e
        rw [rangeL_len, List.length_append] at this
        omega
      have hfl := flatMap_len (f := fun y => ptD a b c m (.int x) y) (k := 1) (l := pre) fun y _ => ptD_len
      obtain ⟨r2, z2, e3⟩ := small_inner (st := st) (m := m) (x := x) (y := 0 + (j : Int)) (acc := acc ++ pre.flatMap fun y => ptD a b c m (.int x) y) (r0 := r1) (z0 := z1) ha hb hc hm.2 hx (by omega) (by rw [List.length_append]; omega)
      refine ⟨_, _, _, _, by simp, .inl e3, some (.int (0 + (j : Int))), r2, z2, rfl, ?_⟩
      simp [ptD])
  exact ⟨y1, r1, z1, by simp [fb2_small_points, hr, k1]⟩
theorem smallO_no {d e : D} {st : Store} (h : conicB d = true) (hne : ∀ m, e ≠ .int m) : smallO d e st = noFraction st := by
  obtain ⟨a, b, c, rfl, _⟩ := conicB_true h
  unfold smallO
  rw [if_pos h]
  cases e <;> first | rfl | exact absurd rfl (hne _)
theorem sp_small_points {st : Store} {d e : D} (hd : Cd st d) (he : ∃ t, tyD st e = some t) : F_small_points [d, e] st = smallO d e st := by
  refine viaF_eq ⟨d, e, rfl, hd, he, rfl⟩ (fun o' ⟨d', e', q, _, _, eo⟩ => ?_) fun h1 h2 => ?_
  · cases q; exact eo
  · obtain ⟨t, ht⟩ := he
    have hck := sp_check_conic hd
    unfold smallO
    cases hcb : conicB d with
    | false => exact Pk.of_eq (by simp [g_small_points, hck, hcb, noConic])
    | true =>
      obtain ⟨a, b, c, rfl, ha, hb, hc⟩ := conicB_true hcb
      have hck : F_check_conic [.tup [.int a, .int b, .int c]] st = .ok .non st := hck.trans (if_pos hcb)
      have hii := sp_is_integer ht
      by_cases hti : t = .int
      · subst hti
        obtain ⟨m, rfl⟩ : ∃ m, e = .int m := by
          cases e with
          | int m => exact ⟨m, rfl⟩
          | ref n =>
            unfold tyD at ht
            cases q : st[n]? with
            | none => simp [q] at ht
            | some c => cases c <;> simp [q] at ht
          | _ => cases ht
        by_cases hm : 1 ≤ m ∧ m ≤ 60
        · have hr := rng1_eq (fr := consA (bin2 addV (varD 1) (litD (.int 1))) nilA) (ls := [some (tupI [a, b, c]), some (.int m), some (.ref st.length), none, none, none, none]) (st := st ++ [.lst []]) (st1 := st ++ [.lst []]) (j := m + 1) (by simp) (by omega) (by omega)
          obtain ⟨ls', st', k1, x1, y1, r1, z1, rfl, rfl⟩ := for_pre (ok := fun _ => true) (g := nameG 3) (b := fb2_small_points) (fun pre ls s => ∃ x1 y1 r1 z1, ls = [some (tupI [a, b, c]), some (.int m), some (.ref st.length), x1, y1, r1, z1] ∧ s = st ++ [.lst (pre.flatMap fun x => (rangeL 0 (m + 1).toNat).flatMap fun y => ptD a b c m x y)])
            (fun _ _ _ _ => rfl) (rangeL 0 (m + 1).toNat) [some (tupI [a, b, c]), some (.int m), some (.ref st.length), none, none, none, none] (st ++ [.lst []]) ⟨none, none, none, none, rfl, by simp⟩ (fun pre d suf e ls s ⟨x1, y1, r1, z1, e1, e2⟩ => by
              obtain ⟨j, hj, rfl⟩ := mem_rangeL (lo := 0) (n := (m + 1).toNat) (d := d) (by rw [e]; simp)
              subst e1 e2
              have hl : pre.length ≤ 61 := by
                have := congrArg List.length e
                rw [rangeL_len, List.length_append] at this
                omega
              have hfl := flatMap_len (f := fun x => (rangeL 0 (m + 1).toNat).flatMap fun y => ptD a b c m x y) (k := 61) (l := pre) fun x _ => by
                have := flatMap_len (f := fun y => ptD a b c m x y) (k := 1) (l := rangeL 0 (m + 1).toNat) fun y _ => ptD_len
                rw [rangeL_len] at this
                omega
              obtain ⟨y2, r2, z2, e3⟩ := small_row (st := st) (m := m) (x := 0 + (j : Int)) (acc := pre.flatMap fun x => (rangeL 0 (m + 1).toNat).flatMap fun y => ptD a b c m x y) (y0 := y1) (r0 := r1) (z0 := z1) ha hb hc hm (by omega) (by omega)
              refine ⟨_, _, _, _, by simp, .inl e3, some (.int (0 + (j : Int))), y2, r2, z2, rfl, ?_⟩
              simp)
          have hlen : (pts a b c m).length ≤ 16777216 := by
            unfold pts
            have := flatMap_len (f := fun x => (rangeL 0 (m + 1).toNat).flatMap fun y => ptD a b c m x y) (k := 61) (l := rangeL 0 (m + 1).toNat) fun x _ => by
              have := flatMap_len (f := fun y => ptD a b c m x y) (k := 1) (l := rangeL 0 (m + 1).toNat) fun y _ => ptD_len
              rw [rangeL_len] at this
              omega
            rw [rangeL_len] at this
            omega
          have hs := sorted_ts (st := st ++ [.lst (pts a b c m)]) pts_ts hlen
          change forL _ _ _ _ _ _ = .nx _ (st ++ [.lst (pts a b c m)]) at k1
          have hm1 := hm.1
          have hm2 := hm.2
          simp [tupI, pts] at hs k1 hr
          simp [g_small_points, hck, hii, tupI, hm1, hm2, hr, k1, hs]
          have hp := Pk.fresh1 (st := st) (g1 := [.lst (pts a b c m)]) (g2 := []) (l := sortT (pts a b c m)) (k := st.length + 1) h1 (ltDs_ts fun d hd => pts_ts d (mem_sortT.mp hd)) rfl
          simpa [pts] using hp
        · refine Pk.of_eq ?_
          have hm' : ¬ (1 ≤ m ∧ m ≤ 60) := hm
          by_cases h1m : 1 ≤ m
          · have h2m : ¬ m ≤ 60 := fun z => hm ⟨h1m, z⟩
            simp [g_small_points, hck, hii, noFraction, tupI, h1m, h2m]
          · simp [g_small_points, hck, hii, noFraction, tupI, h1m]
      · refine Pk.of_eq ?_
        have hne : ∀ m, e ≠ .int m := fun m z => by rw [z] at ht; cases ht; exact hti rfl
        have hso := smallO_no (d := tupI [a, b, c]) (st := st) hcb hne
        unfold smallO at hso
        rw [hcb] at hso
        rw [hso]
        simp [g_small_points, tupI, hck, hii, hti, noFraction]
end K72

set_option maxRecDepth 100000
set_option maxHeartbeats 400000
namespace K72
open PySem PySem.Spec PyProof.Rows L2 DD
/-- three flat items: all ints, or not -/
theorem three_plain {l : List D} (hl : l.length = 3) (h : l.all plainD = true) : (∃ x y z : Int, l = [.int x, .int y, .int z]) ∨ (l.all (fun d => match d with | .int _ => true | _ => false) = false) := by
  match l, hl with
  | [a, b, c], _ =>
    cases a <;> cases b <;> cases c <;> first | exact .inl ⟨_, _, _, rfl⟩ | exact .inr rfl
def intB : D → Bool
  | .int _ => true
  | _ => false
theorem le1_paper {st : Store} {l : List D} {lsw : LS} (h : l.length ≤ 16777216) (hp : ∀ d ∈ l, plainD d = true) (hw : ∀ d : D, getL (setL lsw 2 d) 2 = some d) :
    lcL (fun _ => true) st.length (nameG 2) yesT le1_is_conic_paper lsw l (st ++ [.lst []]) = .ok (.ref st.length) (st ++ [.lst (l.map fun d => .bl (intB d))]) := by
  have := lc_map (its := ⟨l, []⟩) (st0 := st) (g := nameG 2) (ft := yesT) (fe := le1_is_conic_paper) (lsw := lsw) (fun d => .bl (intB d)) (fun _ => rfl) h fun d hd acc => by
    refine ⟨_, rfl, rfl, ?_⟩
    have := hp d hd
    cases d with
    | int i => simp [le1_is_conic_paper, hw, intB]
    | bl b => simp [le1_is_conic_paper, hw, intB]
    | non => simp [le1_is_conic_paper, hw, intB]
    | _ => cases this
  simpa using this
def prD : D → D
  | .tup [.int a, .int x] => .int (a * x * x)
  | _ => .non
theorem le2_paper {st : Store} {a b c x y z : Int} {lsw : LS} (ha : -1000 ≤ a ∧ a ≤ 1000) (hb : -1000 ≤ b ∧ b ≤ 1000) (hc : -1000 ≤ c ∧ c ≤ 1000) (hx : -1000000 ≤ x ∧ x ≤ 1000000) (hy : -1000000 ≤ y ∧ y ≤ 1000000) (hz : -1000000 ≤ z ∧ z ≤ 1000000)
    (hw : ∀ d e : D, getL (setL (setL lsw 2 d) 3 e) 2 = some d ∧ getL (setL (setL lsw 2 d) 3 e) 3 = some e) :
    lcL (fun _ => true) st.length (tupG 2 (consG (nameG 2) (consG (nameG 3) nilG))) yesT le2_is_conic_paper lsw [.tup [.int a, .int x], .tup [.int b, .int y], .tup [.int c, .int z]] (st ++ [.lst []]) =
      .ok (.ref st.length) (st ++ [.lst [.int (a * x * x), .int (b * y * y), .int (c * z * z)]]) := by
  have one : ∀ {a x : Int} {acc : List D}, (-1000 ≤ a ∧ a ≤ 1000) → (-1000000 ≤ x ∧ x ≤ 1000000) → ∃ ls1, tupG 2 (consG (nameG 2) (consG (nameG 3) nilG)) (.tup [.int a, .int x]) lsw (st ++ [.lst acc]) = .ok ls1 (st ++ [.lst acc]) ∧ yesT ls1 (st ++ [.lst acc]) = .ok true (st ++ [.lst acc]) ∧ le2_is_conic_paper ls1 (st ++ [.lst acc]) = .ok (prD (.tup [.int a, .int x])) (st ++ [.lst acc]) := fun {a x acc} ha hx => by
    have k1 : mulOk a x = true := mulOk_l (by omega) (by omega)
    have k2 : mulOk (a * x) x = true := mulOk_r (by omega) (by omega)
    obtain ⟨g1, g2⟩ := hw (.int a) (.int x)
    exact ⟨setL (setL lsw 2 (.int a)) 3 (.int x), by simp, rfl, by simp [le2_is_conic_paper, g1, g2, k1, k2, prD]⟩
  have := lc_map (its := ⟨[.tup [.int a, .int x], .tup [.int b, .int y], .tup [.int c, .int z]], []⟩) (st0 := st) (g := tupG 2 (consG (nameG 2) (consG (nameG 3) nilG))) (ft := yesT) (fe := le2_is_conic_paper) (lsw := lsw) prD (fun _ => rfl) (by simp) fun d hd acc => by
    simp only [List.mem_cons, List.not_mem_nil, or_false] at hd
    rcases hd with rfl | rfl | rfl
    · exact one ha hx
    · exact one hb hy
    · exact one hc hz
  simpa [prD] using this
theorem sp_is_conic_paper {st : Store} {d e : D} (hd : Cd st d) (he : Pd st e) : F_is_conic_paper [d, .tup [.str "point", e]] st = if conicB d = true then .ok (.bl (paperB d e)) st else noConic st := by
  refine viaF_eq ⟨d, e, rfl, hd, he, rfl⟩ (fun o' ⟨d', e', q, _, _, eo⟩ => ?_) fun h1 h2 => ?_
  · cases q; exact eo
  · obtain ⟨t, ht⟩ := he.ty
    have hck := sp_check_conic hd
    cases hcb : conicB d with
    | false => exact Pk.of_eq (by simp [g_is_conic_paper, hck, hcb, noConic])
    | true =>
      obtain ⟨a, b, c, rfl, ha, hb, hc⟩ := conicB_true hcb
      have hck : F_check_conic [.tup [.int a, .int b, .int c]] st = .ok .non st := hck.trans (if_pos hcb)
      have n1 : ¬ ((Str.ofString "point") = (Str.ofString "place")) := by decide
      by_cases htt : t = .tup
      · obtain ⟨l, rfl⟩ := ty_tup (htt ▸ ht)
        by_cases hl : l.length = 3
        · have hpl := he.pl l rfl hl
          rcases three_plain hl hpl with ⟨x, y, z, rfl⟩ | hno
          · have hx := he.sm _ x rfl (by simp)
            have hy := he.sm _ y rfl (by simp)
            have hz := he.sm _ z rfl (by simp)
            have hle := le1_paper (st := st) (l := [.int x, .int y, .int z]) (lsw := [some (tupI [a, b, c]), some (.tup [.str "point", .tup [.int x, .int y, .int z]]), none, none]) (by simp) (fun d hd => List.all_eq_true.mp hpl d hd) (fun d => rfl)
            have hle2 := le2_paper (st := st ++ [Cell.lst [.bl true, .bl true, .bl true]]) (lsw := [some (tupI [a, b, c]), some (.tup [.str "point", .tup [.int x, .int y, .int z]]), none, none]) ha.2 hb.2 hc.2 hx hy hz (fun d e => ⟨rfl, rfl⟩)
            have han := anyT_ints (st := st ++ [Cell.lst [.bl true, .bl true, .bl true]]) [x, y, z]
            have hzi := zipI_tup (fr := consA (varD 0) (consA (bin2 ixD (varD 1) (litD (.int 1))) nilA)) (ls := [some (tupI [a, b, c]), some (.tup [.str "point", .tup [.int x, .int y, .int z]]), none, none]) (st := st ++ [Cell.lst [.bl true, .bl true, .bl true]]) (st1 := st ++ [Cell.lst [.bl true, .bl true, .bl true]]) (l := [.int a, .int b, .int c]) (m := [.int x, .int y, .int z]) (by simp [tupI])
            simp [tupI, intB, -List.append_assoc, -List.length_append] at hle hle2 han hzi
            by_cases h0 : x = 0 ∧ (y = 0 ∧ z = 0)
            · obtain ⟨rfl, rfl, rfl⟩ := h0
              simp at han
              simp [g_is_conic_paper, tupI, hck, n1, hle, wipeL, allL, boolsOf, han, paperB]
              exact Pk.dropG _ h1 rfl
            · have e : paperB (tupI [a, b, c]) (.tup [.int x, .int y, .int z]) = decide (a * x * x + b * y * y + c * z * z = 0) := by
                show (!(decide (x = 0) && (decide (y = 0) && decide (z = 0))) && decide (a * x * x + b * y * y + c * z * z = 0)) = _
                have : (decide (x = 0) && (decide (y = 0) && decide (z = 0))) = false := by
                  rw [Bool.eq_false_iff]
                  intro q
                  simp at q
                  exact h0 q
                rw [this]; rfl
              rw [e]
              have e2 : a * x * x + (b * y * y + c * z * z) = a * x * x + b * y * y + c * z * z := by omega
              simp [g_is_conic_paper, tupI, hck, n1, hle, wipeL, allL, boolsOf, han, h0, hzi, zipL, hle2, sumL, intsOf, e2, -List.append_assoc, -List.length_append]
              have := Pk.dropG (st := st) (d := .bl (decide (a * x * x + b * y * y + c * z * z = 0))) ([.lst [.bl true, .bl true, .bl true]] ++ [.lst [.int (a * x * x), .int (b * y * y), .int (c * z * z)]]) h1 rfl
              simpa using this
          · have hle := le1_paper (st := st) (l := l) (lsw := [some (tupI [a, b, c]), some (.tup [.str "point", .tup l]), none, none]) (by rw [hl]; decide) (List.all_eq_true.mp hpl) (fun d => rfl)
            have hf : paperB (tupI [a, b, c]) (.tup l) = false := by
              unfold paperB
              split
              · rename_i e1 e2
                cases e2
                cases hno
              · rfl
            have hall : (l.map intB).all id = false := by
              rw [List.all_map]
              rw [← hno]
              congr 1
            have hl3 : (l.length : Int) = 3 := by omega
            rw [hf]
            simp [tupI] at hle
            simp [g_is_conic_paper, tupI, hck, n1, hl3, hle, wipeL, allL, hall]
            exact Pk.dropG _ h1 rfl
        · have hl' : ¬ (l.length : Int) = 3 := by omega
          have hf : paperB (tupI [a, b, c]) (.tup l) = false := by
            unfold paperB
            split
            · rename_i e1 e2
              cases e2
              exact absurd rfl hl
            · rfl
          rw [hf]
          refine Pk.of_eq ?_
          simp [g_is_conic_paper, tupI, hck, n1, hl']
      · have hf : paperB (tupI [a, b, c]) e = false := by
          unfold paperB
          split
          · exact absurd (by cases ht; rfl) htt
          · rfl
        rw [hf]
        refine Pk.of_eq ?_
        simp [g_is_conic_paper, tupI, hck, n1, ht, htt]
end K72

set_option maxRecDepth 100000
set_option maxHeartbeats 400000
namespace K72
open PySem PySem.Spec PyProof.Rows L2 DD
theorem gcd_le (a b : Int) : ((Int.gcd a b : Nat) : Int) ≤ a.natAbs + b.natAbs := by
  unfold Int.gcd
  have : Nat.gcd a.natAbs b.natAbs ≤ a.natAbs + b.natAbs := by
    rcases Nat.eq_zero_or_pos a.natAbs with h | h
    · rw [h]; simp
    · exact Nat.le_trans (Nat.gcd_le_left _ h) (Nat.le_add_right _ _)
  exact_mod_cast this
theorem gcdL3_le (p q r : Int) : gcdL [p, q, r] ≤ p.natAbs + q.natAbs + r.natAbs := by
  show ((Int.gcd ((Int.gcd ((Int.gcd 0 p : Nat) : Int) q : Nat) : Int) r : Nat) : Int) ≤ _
  have h1 := gcd_le 0 p
  have h2 := gcd_le ((Int.gcd 0 p : Nat) : Int) q
  have h3 := gcd_le ((Int.gcd ((Int.gcd 0 p : Nat) : Int) q : Nat) : Int) r
  omega
theorem gcdL_nonneg (p q r : Int) : 0 ≤ gcdL [p, q, r] := by
  show 0 ≤ ((Int.gcd ((Int.gcd ((Int.gcd 0 p : Nat) : Int) q : Nat) : Int) r : Nat) : Int)
  omega
theorem mul_bd {a b : Int} {A B : Nat} (ha : a.natAbs ≤ A) (hb : b.natAbs ≤ B) : (a * b).natAbs ≤ A * B := by
  rw [Int.natAbs_mul]
  exact Nat.mul_le_mul ha hb
theorem sp_chord_point {st : Store} {a b c x y z u v : Int} (h : Bd a b x y z u v) : F_chord_point [tupI [a, b, c], tupI [x, y, z], .int u, .int v] st = .ok (tupI (chordL a b x y z u v)) st := by
  refine viaF_eq ⟨a, b, c, x, y, z, u, v, rfl, h, rfl⟩ (fun o' ⟨a', b', c', x', y', z', u', v', q, _, eo⟩ => ?_) fun h1 h2 => ?_
  · simp [tupI] at q
    obtain ⟨⟨rfl, rfl, rfl⟩, ⟨rfl, rfl, rfl⟩, rfl, rfl⟩ := q
    exact eo
  · obtain ⟨ha, hb, hx, hy, hz, hu, hv⟩ := h
    have m1 : mulOk a u = true := mulOk_l (by omega) (by omega)
    have m2 : mulOk (a * u) u = true := mulOk_r (by omega) (by omega)
    have m3 : mulOk b v = true := mulOk_l (by omega) (by omega)
    have m4 : mulOk (b * v) v = true := mulOk_r (by omega) (by omega)
    have m5 : mulOk a x = true := mulOk_l (by omega) (by omega)
    have m6 : mulOk (a * x) u = true := mulOk_r (by omega) (by omega)
    have m7 : mulOk b y = true := mulOk_l (by omega) (by omega)
    have m8 : mulOk (b * y) v = true := mulOk_r (by omega) (by omega)
    have n1 : (a * u).natAbs ≤ 1000 * 10000 := mul_bd (by omega) (by omega)
    have n2 : (a * u * u).natAbs ≤ 1000 * 10000 * 10000 := mul_bd n1 (by omega)
    have n3 : (b * v).natAbs ≤ 1000 * 10000 := mul_bd (by omega) (by omega)
    have n4 : (b * v * v).natAbs ≤ 1000 * 10000 * 10000 := mul_bd n3 (by omega)
    have n5 : (a * x).natAbs ≤ 1000 * 1000000 := mul_bd (by omega) (by omega)
    have n6 : (a * x * u).natAbs ≤ 1000 * 1000000 * 10000 := mul_bd n5 (by omega)
    have n7 : (b * y).natAbs ≤ 1000 * 1000000 := mul_bd (by omega) (by omega)
    have n8 : (b * y * v).natAbs ≤ 1000 * 1000000 * 10000 := mul_bd n7 (by omega)
    unfold chordL foL
    generalize hW : a * u * u + b * v * v = W at *
    generalize hH : a * x * u + b * y * v = T at *
    have bW : W.natAbs ≤ 200000000000 := by omega
    have bT : T.natAbs ≤ 20000000000000 := by omega
    have m9 : mulOk x W = true := mulOk_l (by omega) (by omega)
    have m10 : mulOk y W = true := mulOk_l (by omega) (by omega)
    have m11 : mulOk z W = true := mulOk_l (by omega) (by omega)
    have m12 : mulOk 2 T = true := mulOk_l (by omega) (by omega)
    have m13 : mulOk (2 * T) u = true := mulOk_r (by omega) (by omega)
    have m14 : mulOk (2 * T) v = true := mulOk_r (by omega) (by omega)
    have p1 : (x * W).natAbs ≤ 1000000 * 200000000000 := mul_bd (by omega) bW
    have p2 : (y * W).natAbs ≤ 1000000 * 200000000000 := mul_bd (by omega) bW
    have p3 : (z * W).natAbs ≤ 1000000 * 200000000000 := mul_bd (by omega) bW
    have p4 : (2 * T * u).natAbs ≤ 40000000000000 * 10000 := mul_bd (by omega) (by omega)
    have p5 : (2 * T * v).natAbs ≤ 40000000000000 * 10000 := mul_bd (by omega) (by omega)
    have hdv := sp_divisor_of [x * W - 2 * T * u, y * W - 2 * T * v, z * W] st
    have hg1 := gcdL3_le (x * W - 2 * T * u) (y * W - 2 * T * v) (z * W)
    have hg0 := gcdL_nonneg (x * W - 2 * T * u) (y * W - 2 * T * v) (z * W)
    generalize hf1 : x * W - 2 * T * u = f1 at *
    generalize hf2 : y * W - 2 * T * v = f2 at *
    generalize hf3 : z * W = f3 at *
    have bg : gcdL [f1, f2, f3] < 18446744073709551616 := by omega
    generalize hg : gcdL [f1, f2, f3] = g at *
    by_cases hp : 0 < g
    · have d1 : divOk g = true := divOk_small (by omega) (by omega) bg
      have hle := lc_map (its := ⟨[.int f1, .int f2, .int f3], []⟩) (st0 := st) (g := nameG 14) (ft := yesT) (fe := le1_chord_point)
        (lsw := [some (tupI [a, b, c]), some (tupI [x, y, z]), some (.int u), some (.int v), some (.int a), some (.int b), some (.int c), some (.int x), some (.int y), some (.int z), some (.int W), some (.int T), some (.tup [.int f1, .int f2, .int f3]), some (.int g), none])
        (fun d => match d with | .int i => .int (i / g) | _ => .non) (fun _ => rfl) (by simp) fun d hd acc => by
          obtain ⟨i, rfl⟩ : ∃ i, d = .int i := by
            simp only [List.mem_cons, List.not_mem_nil, or_false] at hd
            rcases hd with rfl | rfl | rfl <;> exact ⟨_, rfl⟩
          have : (0 : Int) ≤ g := by omega
          exact ⟨_, rfl, rfl, by simp [le1_chord_point, d1, this]⟩
      simp [tupI] at hle hdv
      simp [g_chord_point, tupI, m1, m2, m3, m4, m5, m6, m7, m8, hW, hH, m9, m10, m11, m12, m13, m14, hf1, hf2, hf3, hdv, hp, wipeL, hle, tupleV]
      exact Pk.dropG _ h1 rfl
    · refine Pk.of_eq ?_
      simp [tupI] at hdv
      simp [g_chord_point, tupI, m1, m2, m3, m4, m5, m6, m7, m8, hW, hH, m9, m10, m11, m12, m13, m14, hf1, hf2, hf3, hdv, hp]
end K72

set_option maxRecDepth 100000
set_option maxHeartbeats 400000
namespace K72
open PySem PySem.Spec PyProof.Rows L2 DD
theorem eqG_00 {st : Store} (u v : Int) : eqG false (tupI [u, v]) (tupI [0, 0]) st = .ok (.bl (decide (u = 0 ∧ v = 0))) st := by
  rw [eqF_tupI false (by simp [SeqAt.shaped, PyData.canLay0, PyData.canLayAll0, PyData.depth, PyData.depthAll]) (by simp [SeqAt.shaped, PyData.canLay0, PyData.canLayAll0, PyData.depth, PyData.depthAll])]
  have : PyData.eqv (.tuple ([u, v].map PyData.int)) (.tuple ([0, 0].map PyData.int)) = decide (u = 0 ∧ v = 0) := by
    simp [PyData.eqv, PyData.eqvAll]
    exact Bool.eq_iff_iff.mpr (by simp)
  simp only [this, Bool.false_eq_true, if_false]
theorem otherO_no {d e u v : D} {st : Store} (h : paperB d e = false ∨ (∀ i, u ≠ .int i) ∨ (∀ i, v ≠ .int i) ∨ (u = .int 0 ∧ v = .int 0)) : otherO d e u v st = noConic st := by
  unfold otherO
  split
  · split
    · rcases h with h | h | h | ⟨h, h'⟩
      · rw [if_neg (by rw [h]; simp)]
      · exact absurd rfl (h _)
      · exact absurd rfl (h _)
      · cases h; cases h'
        rw [if_neg (by simp)]
    · rfl
  · rfl
theorem paperB_true {a b c : Int} {e : D} (h : paperB (tupI [a, b, c]) e = true) : ∃ x y z : Int, e = tupI [x, y, z] ∧ ¬ (x = 0 ∧ y = 0 ∧ z = 0) ∧ a * x * x + b * y * y + c * z * z = 0 := by
  unfold paperB at h
  split at h
  · rename_i a' b' c' x y z e1
    simp [tupI] at e1
    obtain ⟨rfl, rfl, rfl⟩ := e1
    simp only [Bool.and_eq_true, Bool.not_eq_true', Bool.and_eq_false_iff, decide_eq_false_iff_not, decide_eq_true_eq] at h
    exact ⟨x, y, z, rfl, by omega, h.2⟩
  · cases h
theorem sp_other_point {st : Store} {d e u v : D} (hd : Cd st d) (he : Pd st e) (hu : ∃ t, tyD st u = some t) (hv : ∃ t, tyD st v = some t) (hs : ∀ i, u = .int i ∨ v = .int i → -10000 ≤ i ∧ i ≤ 10000) :
    F_other_point [d, e, u, v] st = otherO d e u v st := by
  refine viaF_eq ⟨d, e, u, v, rfl, hd, he, hu, hv, hs, rfl⟩ (fun o' ⟨d', e', u', v', q, _, _, _, _, _, eo⟩ => ?_) fun h1 h2 => ?_
  · cases q; exact eo
  · have hp := sp_is_conic_paper hd he
    obtain ⟨tu, hu⟩ := hu
    obtain ⟨tv, hv⟩ := hv
    cases hcb : conicB d with
    | false =>
      refine Pk.of_eq ?_
      simp [g_other_point, hp, hcb, noConic, otherO]
    | true =>
      simp [hcb] at hp
      cases hpb : paperB d e with
      | false =>
        rw [otherO_no (.inl hpb)]
        refine Pk.of_eq ?_
        simp [g_other_point, hp, hpb, noConic]
      | true =>
        rw [hpb] at hp
        obtain ⟨a, b, c, rfl, ha, hb, hc⟩ := conicB_true hcb
        have hle := lc_map (its := ⟨[u, v], []⟩) (st0 := st) (g := nameG 4) (ft := yesT) (fe := le1_other_point) (lsw := [some (tupI [a, b, c]), some e, some u, some v, none]) (fun d => .bl (decide (tyD st d = some .int))) (fun _ => rfl) (by simp) fun d hd acc => by
          obtain ⟨t, ht⟩ : ∃ t, tyD st d = some t := by
            simp only [List.mem_cons, List.not_mem_nil, or_false] at hd
            rcases hd with rfl | rfl
            · exact ⟨_, hu⟩
            · exact ⟨_, hv⟩
          refine ⟨_, rfl, rfl, ?_⟩
          simp [le1_other_point, sp_is_integer (tyD_app (g := [Cell.lst acc]) ht), ht]
        by_cases hui : tyD st u = some .int
        · obtain ⟨u, rfl⟩ := ty_int hui
          by_cases hvi : tyD st v = some .int
          · obtain ⟨v, rfl⟩ := ty_int hvi
            by_cases h0 : u = 0 ∧ v = 0
            · obtain ⟨rfl, rfl⟩ := h0
              rw [otherO_no (.inr (.inr (.inr ⟨rfl, rfl⟩)))]
              have h00 := eqG_00 (st := st ++ [.lst [.bl true, .bl true]]) 0 0
              simp [tupI] at hle h00 hp
              simp [g_other_point, hp, tupI, hle, wipeL, allL, boolsOf, h00, noConic]
              exact Pk.dropX _ h1
            · obtain ⟨x, y, z, rfl, hn0, hon⟩ := paperB_true hpb
              have hx := he.sm _ x rfl (by simp)
              have hy := he.sm _ y rfl (by simp)
              have hz := he.sm _ z rfl (by simp)
              have hu' := hs u (.inl rfl)
              have hv' := hs v (.inr rfl)
              have hch := sp_chord_point (st := st ++ [.lst [.bl true, .bl true]]) (c := c) (z := z) ⟨ha.2, hb.2, hx, hy, hz, hu', hv'⟩
              have ho : otherO (tupI [a, b, c]) (tupI [x, y, z]) (.int u) (.int v) st = .ok (tupI (chordL a b x y z u v)) st := by
                unfold otherO
                rw [if_pos hcb]
                show (if paperB (tupI [a, b, c]) (tupI [x, y, z]) = true ∧ ¬ (u = 0 ∧ v = 0) then Out.ok (tupI (chordL a b x y z u v)) st else noConic st) = _
                rw [if_pos ⟨hpb, h0⟩]
              rw [ho]
              have h00 := eqG_00 (st := st ++ [.lst [.bl true, .bl true]]) u v
              have h0' : decide (u = 0 ∧ v = 0) = false := decide_eq_false h0
              rw [h0'] at h00
              simp [tupI] at hle h00 hp hch
              simp [g_other_point, hp, tupI, hle, wipeL, allL, boolsOf, h00, hch]
              exact Pk.dropG _ h1 (by show ltDs _ ((chordL a b x y z u v).map D.int) = true; exact ltDs_ints _ _)
          · rw [otherO_no (.inr (.inr (.inl fun i q => hvi (by rw [q]; rfl))))]
            simp [hvi] at hle
            simp [g_other_point, hp, hle, wipeL, allL, boolsOf, noConic]
            exact Pk.dropX _ h1
        · rw [otherO_no (.inr (.inl fun i q => hui (by rw [q]; rfl)))]
          simp [hui] at hle
          simp [g_other_point, hp, hle, wipeL, allL, boolsOf, noConic]
          exact Pk.dropX _ h1
end K72

set_option maxRecDepth 100000
set_option maxHeartbeats 400000
namespace K72
open PySem PySem.Spec PyProof.Rows L2 DD
theorem ltC_hd (k : Nat) (h : Hd) : ltC k h.cell = true := by
  show (ltDs k (h.cells.map D.int) && true) = true
  rw [ltDs_ints]; rfl
theorem cut63 {l : List D} (h : l.length ≤ 63) : cutD l none (some 63) = l := by
  refine cut_whole ⟨rfl, ?_⟩
  simp [HT.sIx]
  omega
theorem sp_law_hand {ns : List Int} {st : Store} (hl : ns.length ≤ 63) : ∃ hd : Hd, F__law_hand [.cst (ns.map D.int)] st = .ok (.ref st.length) (st ++ [hd.cell]) := by
  have key : Good__law_hand [.cst (ns.map D.int)] st (F__law_hand [.cst (ns.map D.int)] st) := by
    refine viaF_good (o := .ok (.ref st.length) (st ++ [Hd.cell ⟨ns.map (fun i => if i < 0 then -i else i), 0, 0, 83 + 5 * (ns.length : Int), 0⟩])) ⟨ns, rfl, hl, _, rfl⟩ fun h1 h2 => ?_
    have hle := lc_map (its := ⟨ns.map D.int, [(st.length, ns.map D.int)]⟩) (st0 := st ++ [.lst (ns.map D.int)]) (g := nameG 2) (ft := yesT) (fe := le1__law_hand) (lsw := [some (.cst (ns.map D.int)), none, none]) (fun d => match d with | .int i => .int (if i < 0 then -i else i) | _ => .non)
      (fun acc => okB_app1 get_new) (by simp; omega) fun d hd acc => by
        obtain ⟨i, _, rfl⟩ := List.mem_map.mp hd
        exact ⟨_, rfl, rfl, by simp [le1__law_hand]⟩
    have hcut := cut63 (l := ns.map D.int) (by simpa using hl)
    have m1 : mulOk 5 (ns.length : Int) = true := mulOk_l (by omega) (by omega)
    have e1 : List.map (fun d => match d with | D.int i => D.int (if i < 0 then -i else i) | _ => D.non) (ns.map D.int) = (ns.map (fun i => if i < 0 then -i else i)).map D.int := by
      simp
    rw [e1] at hle
    simp only at hle
    have hlen := len_ref (st := st ++ [.lst (ns.map D.int)] ++ [.lst ((ns.map (fun i => if i < 0 then -i else i)).map D.int)]) (n := (st ++ [Cell.lst (ns.map D.int)]).length) get_new
    have hlen2 : ((ns.map (fun i => if i < 0 then -i else i)).map D.int).length = ns.length := by simp
    rw [hlen2] at hlen
    generalize hcells : (ns.map (fun i => if i < 0 then -i else i)).map D.int = cs at *
    simp [g__law_hand, slV, hcut, wipeL, hle, hlen, m1, -List.append_assoc, -List.length_append, -List.map_map]
    refine .ok (Pack.fresh (n := st.length) (st0 := st) (c := .lst [.ref (st ++ [Cell.lst (ns.map D.int)]).length, .int 0, .int 0, .int (83 + 5 * (ns.length : Int)), .int 0]) rfl ?_ ?_ ?_ h1 ?_)
    · rw [List.append_assoc, List.append_assoc, List.take_left]
    · simp
    · simp
    · show Fzs _ _ _ [.lst ((ns.map (fun i => if i < 0 then -i else i)).map D.int), .int ((0 : Nat) : Int), .int 0, .int (83 + 5 * (ns.length : Int)), .int 0]
      refine .cons (.froz ?_ (l := cs) ?_ ?_) (.cons (.int _) (.cons (.int _) (.cons (.int _) (.cons (.int _) .nil))))
      · simp
      · simp [List.getElem?_append]
      · rw [hcells]
        exact fzs0 (by rw [← hcells]; exact ltDs_ints _ _)
  obtain ⟨ns', e, _, hd, eo⟩ := key
  exact ⟨hd, eo⟩
/-- the hand after its cell h was read or written: garbage behind -/
structure HS (st : Store) (h : Nat) (hd : Hd) (st' : Store) : Prop where
  ex : ∃ g, st' = st.set h hd.cell ++ g
  lt : h < st.length
theorem HS.get {st st' : Store} {h : Nat} {hd : Hd} (x : HS st h hd st') : st'[h]? = some hd.cell := by
  obtain ⟨g, rfl⟩ := x.ex
  rw [List.getElem?_append_left (by rw [List.length_set]; exact x.lt), List.getElem?_set_self x.lt]
theorem HS.set {st st' : Store} {h : Nat} {hd hd' : Hd} (x : HS st h hd st') : HS st h hd' (st'.set h hd'.cell) := by
  obtain ⟨g, rfl⟩ := x.ex
  refine ⟨⟨g, ?_⟩, x.lt⟩
  rw [List.set_append_left _ _ (by rw [List.length_set]; exact x.lt), List.set_set]
theorem HS.app {st st' g : Store} {h : Nat} {hd : Hd} (x : HS st h hd st') : HS st h hd (st' ++ g) := by
  obtain ⟨g', rfl⟩ := x.ex
  exact ⟨⟨g' ++ g, by rw [List.append_assoc]⟩, x.lt⟩
theorem set_same {st : Store} {h : Nat} {c : Cell} (e : st[h]? = some c) : st.set h c = st := by
  obtain ⟨hl, q⟩ := List.getElem?_eq_some_iff.mp e
  refine List.ext_getElem? fun i => ?_
  by_cases hi : h = i
  · subst hi; rw [List.getElem?_set_self hl, e]
  · rw [List.getElem?_set_ne hi]
theorem HS.refl {st : Store} {h : Nat} {hd : Hd} (e : st[h]? = some hd.cell) : HS st h hd st := ⟨⟨[], by rw [set_same e, List.append_nil]⟩, (List.getElem?_eq_some_iff.mp e).1⟩
theorem HS.pk {st st' : Store} {h : Nat} {hd : Hd} {d : D} (x : HS st h hd st') (h1 : ltS st.length st = true) (h2 : ltD st.length d = true) : Pk st.length (.ok d st') (.ok d (st.set h hd.cell)) := by
  obtain ⟨g, rfl⟩ := x.ex
  exact Pk.dropS g h1 (ltC_hd _ _) h2
theorem hd_ix {st : Store} {h : Nat} {hd : Hd} (e : st[h]? = some hd.cell) : ixD (.ref h) (.int 0) st = .ok (.lst (hd.cells.map D.int)) st ∧ ixD (.ref h) (.int 1) st = .ok (.int hd.i) st ∧ ixD (.ref h) (.int 2) st = .ok (.int hd.b) st ∧ ixD (.ref h) (.int 3) st = .ok (.int hd.s) st ∧ ixD (.ref h) (.int 4) st = .ok (.int hd.c) st := by
  refine ⟨?_, ?_, ?_, ?_, ?_⟩ <;> · rw [ix_ref (by exact e)]; rfl
theorem hd_set1 {st : Store} {h : Nat} {hd : Hd} (e : st[h]? = some hd.cell) (i : Nat) : setIx (.ref h) (.int 1) (.int (i : Int)) st = .ok () (st.set h (Hd.cell { hd with i := i })) := setIx_ref (by exact e) (j := 1) rfl
theorem hd_set2 {st : Store} {h : Nat} {hd : Hd} (e : st[h]? = some hd.cell) (i : Int) : setIx (.ref h) (.int 2) (.int i) st = .ok () (st.set h (Hd.cell { hd with b := i })) := setIx_ref (by exact e) (j := 2) rfl
theorem hd_set3 {st : Store} {h : Nat} {hd : Hd} (e : st[h]? = some hd.cell) (i : Int) : setIx (.ref h) (.int 3) (.int i) st = .ok () (st.set h (Hd.cell { hd with s := i })) := setIx_ref (by exact e) (j := 3) rfl
theorem hd_set4 {st : Store} {h : Nat} {hd : Hd} (e : st[h]? = some hd.cell) (i : Int) : setIx (.ref h) (.int 4) (.int i) st = .ok () (st.set h (Hd.cell { hd with c := i })) := setIx_ref (by exact e) (j := 4) rfl
end K72

set_option maxRecDepth 100000
set_option maxHeartbeats 1000000
namespace K72
open PySem PySem.Spec PyProof.Rows L2 DD
theorem sp_law_draw {st : Store} {h : Nat} {hd : Hd} {m : Int} (e : st[h]? = some hd.cell) (h0 : 0 < m) (h1 : m < 1000000) : ∃ v hd', 0 ≤ v ∧ v < m ∧ F__law_draw [.ref h, .int m] st = .ok (.int v) (st.set h (Hd.cell hd')) := by
  have hlt := (List.getElem?_eq_some_iff.mp e).1
  have es : ∀ X : Hd, (st.set h X.cell)[h]? = some X.cell := fun X => List.getElem?_set_self hlt
  obtain ⟨k0, k1, k2, k3, k4⟩ := hd_ix e
  have j0 := fun X => (hd_ix (es X)).1
  have j1 := fun X => (hd_ix (es X)).2.1
  have j2 := fun X => (hd_ix (es X)).2.2.1
  have j3 := fun X => (hd_ix (es X)).2.2.2.1
  have j4 := fun X => (hd_ix (es X)).2.2.2.2
  have s1 : setIx (.ref h) (.int 1) (.int ((hd.i : Int) + 1)) st = .ok () (st.set h (Hd.cell { hd with i := hd.i + 1 })) := by
    have := hd_set1 e (hd.i + 1)
    rwa [Int.natCast_add, Int.natCast_one] at this
  have s4 := hd_set4 e
  have s2 := hd_set2 e
  have t2 : ∀ X i, setIx (.ref h) (.int 2) (.int i) (st.set h (Hd.cell X)) = .ok () (st.set h (Hd.cell { X with b := i })) := fun X i => by
    have := hd_set2 (es X) i
    rwa [List.set_set] at this
  have t3 : ∀ X i, setIx (.ref h) (.int 3) (.int i) (st.set h (Hd.cell X)) = .ok () (st.set h (Hd.cell { X with s := i })) := fun X i => by
    have := hd_set3 (es X) i
    rwa [List.set_set] at this
  have t4 : ∀ X i, setIx (.ref h) (.int 4) (.int i) (st.set h (Hd.cell X)) = .ok () (st.set h (Hd.cell { X with c := i })) := fun X i => by
    have := hd_set4 (es X) i
    rwa [List.set_set] at this
  have dm : divOk m = true := divOk_small (by omega) (by omega) (by omega)
  have mm : (0 : Int) ≤ m := by omega
  have mn : ¬ m = 0 := by omega
  have d1 : divOk 1009 = true := divOk_small (by omega) (by omega) (by omega)
  have d2 : divOk 2003 = true := divOk_small (by omega) (by omega) (by omega)
  have d3 : divOk 16 = true := divOk_small (by omega) (by omega) (by omega)
  have lit : ∀ (x y : Int), -18446744073709551616 < y → y < 18446744073709551616 → mulOk x y = true := fun x y a b => mulOk_r a b
  have q1 : ∀ x, mulOk x 69621 = true := fun x => mulOk_r (by omega) (by omega)
  have q2 : ∀ x, mulOk x 40692 = true := fun x => mulOk_r (by omega) (by omega)
  have q3 : ∀ x, mulOk 7919 x = true := fun x => mulOk_l (by omega) (by omega)
  have q4 : ∀ x, mulOk x 48271 = true := fun x => mulOk_r (by omega) (by omega)
  have q5 : ∀ x y : Int, mulOk (x % 2147483647) y = true := fun x y => mulOk_l (by omega) (by omega)
  have pw : okP (0 ≤ (18 : Int) ∧ (18 : Int) ≤ 1000 ∧ -18446744073709551616 < (10 : Int) ∧ (10 : Int) < 18446744073709551616) = true := okP_of (by omega)
  have key : Good__law_draw [.ref h, .int m] st (F__law_draw [.ref h, .int m] st) := by
    have bd : ∀ x : Int, 0 ≤ x % m ∧ x % m < m := fun x => ⟨Int.emod_nonneg _ mn, Int.emod_lt_of_pos _ h0⟩
    have fin : ∀ (X : Hd) (x : Int), endO (g__law_draw (startD 5 [.ref h, .int m]) st) = .ok (.int (x % m)) (st.set h X.cell) → Good__law_draw [.ref h, .int m] st (F__law_draw [.ref h, .int m] st) := fun X x eq =>
      viaF_good (o := .ok (.int (x % m)) (st.set h X.cell)) ⟨h, hd, m, rfl, e, h0, h1, x % m, X, (bd x).1, (bd x).2, rfl⟩ fun _ _ => Pk.of_eq eq
    by_cases hA : hd.b = 0 ∧ hd.i < hd.cells.length
    · obtain ⟨hb, hi⟩ := hA
      have hi' : (hd.i : Int) < hd.cells.length := by omega
      have hc : atI (hd.cells.map D.int) (hd.i : Int) = some (.int hd.cells[hd.i]) := DD.atI_nat (by simp [hi])
      generalize hd.cells[hd.i] = c at hc
      by_cases hbig : (1000000000000000000 : Int) ≤ c
      · have hc0 : 0 < c := by omega
        apply fin
        simp [g__law_draw, k0, k1, k2, k3, k4, j0, j1, j2, j3, j4, s1, t2, t3, t4, hb, hi, hc, hbig, hc0, dm, mm, mn, q1, q2, pw]
        exact ⟨rfl, rfl⟩
      · apply fin
        simp [g__law_draw, k0, k1, k2, k3, k4, j0, j1, j2, j3, j4, s1, t2, t3, t4, hb, hi, hc, hbig, dm, mm, mn, q1, q2, q3, q4, q5, d1, d2, d3, pw]
        exact ⟨rfl, rfl⟩
    · by_cases hb : 0 < hd.b
      · have hb0 : ¬ hd.b = 0 := by omega
        apply fin
        simp [g__law_draw, k0, k1, k2, k3, k4, s2, hb, hb0, dm, mm, mn]
        exact ⟨rfl, rfl⟩
      · by_cases hb0 : hd.b = 0
        · have hi : ¬ hd.i < hd.cells.length := fun z => hA ⟨hb0, z⟩
          apply fin
          simp [g__law_draw, k0, k1, k2, k3, k4, j0, j1, j2, j3, j4, s4, hb0, hi, dm, mm, mn, q3, q4, q5, d1, d2, d3]
          exact ⟨rfl, rfl⟩
        · apply fin
          simp [g__law_draw, k0, k1, k2, k3, k4, j0, j1, j2, j3, j4, s4, hb, hb0, dm, mm, mn, q3, q4, q5, d1, d2, d3]
          exact ⟨rfl, rfl⟩
  obtain ⟨h', hd', m', q, _, _, _, v, hd2, a, b, eo⟩ := key
  cases q
  exact ⟨v, hd2, a, b, eo⟩
end K72

set_option maxRecDepth 100000
set_option maxHeartbeats 1000000
namespace K72
open PySem PySem.Spec PyProof.Rows L2 DD
theorem sp_law_any {st : Store} {h n : Nat} {hd : Hd} {l : List D} (hn : h ≠ n) (e : st[h]? = some hd.cell) (el : st[n]? = some (.lst l)) (h0 : 0 < l.length) (h1 : l.length < 1000000) : ∃ x hd', x ∈ l ∧ F__law_any [.ref h, .ref n] st = .ok x (st.set h (Hd.cell hd')) := by
  have key : Good__law_any [.ref h, .ref n] st (F__law_any [.ref h, .ref n] st) := by
    obtain ⟨v, hd', v0, v1, ev⟩ := sp_law_draw (m := (l.length : Int)) e (by omega) (by omega)
    have hx : v.toNat < l.length := by omega
    have el' : (st.set h hd'.cell)[n]? = some (.lst l) := by rw [List.getElem?_set_ne hn]; exact el
    have ea : atI l v = some l[v.toNat] := atI_int v0 (by simp [hx])
    refine viaF_good (o := .ok l[v.toNat] (st.set h hd'.cell)) ⟨h, hd, n, l, rfl, hn, e, el, h0, h1, _, hd', List.getElem_mem hx, rfl⟩ fun _ _ => Pk.of_eq ?_
    have hle := len_ref el
    have hix := ix_ref (i := v) el'
    simp [g__law_any, hle, ev, hix, ea]
  obtain ⟨h', hd', n', l', q, _, _, el', _, _, x, hd2, hx, eo⟩ := key
  cases q
  rw [el] at el'
  cases el'
  exact ⟨x, hd2, hx, eo⟩
theorem HS.ne {st s : Store} {h : Nat} {hd : Hd} (x : HS st h hd s) : h ≠ s.length := by
  obtain ⟨g, rfl⟩ := x.ex
  have := x.lt
  simp
  omega
/-- a new list, then _law_any of it -/
theorem any_new {st s : Store} {h : Nat} {hd : Hd} {l : List D} (x : HS st h hd s) (h0 : 0 < l.length) (h1 : l.length < 1000000) : ∃ y hd' s', y ∈ l ∧ F__law_any [.ref h, .ref s.length] (s ++ [.lst l]) = .ok y s' ∧ HS st h hd' s' := by
  obtain ⟨y, hd', hy, e⟩ := sp_law_any (st := s ++ [.lst l]) (n := s.length) (l := l) x.ne (x.app (g := [.lst l])).get get_new h0 h1
  exact ⟨y, hd', _, hy, e, (x.app (g := [.lst l])).set⟩
theorem draw_hs {st s : Store} {h : Nat} {hd : Hd} {m : Int} (x : HS st h hd s) (h0 : 0 < m) (h1 : m < 1000000) : ∃ v hd' s', 0 ≤ v ∧ v < m ∧ F__law_draw [.ref h, .int m] s = .ok (.int v) s' ∧ HS st h hd' s' := by
  obtain ⟨v, hd', a, b, e⟩ := sp_law_draw (m := m) x.get h0 h1
  exact ⟨v, hd', _, a, b, e, x.set⟩
theorem sp_law_number {st : Store} {h : Nat} {hd : Hd} {w : Int} (e : st[h]? = some hd.cell) (h0 : 1 ≤ w) (h1 : w ≤ 1000000) : ∃ v hd', v ≠ 0 ∧ -w ≤ v ∧ v ≤ w ∧ F__law_number [.ref h, .int w] st = .ok (.int v) (st.set h (Hd.cell hd')) := by
  have key : Good__law_number [.ref h, .int w] st (F__law_number [.ref h, .int w] st) := by
    obtain ⟨m, hd1, s1, m0, m1, em, x1⟩ := draw_hs (m := 5) (HS.refl e) (by omega) (by omega)
    have hr := rng1_eq (fr := consA (callD F__law_draw (consA (varD 0) (consA (litD (.int 5)) nilA))) nilA) (ls := [some (.ref h), some (.int w), some (.int 1), none, none]) (st := st) (st1 := s1) (j := m) (by simp [em]) (by omega) (by omega)
    obtain ⟨ls', s2, k1, f, hd2, lap, p, rfl, x2, f1, f2⟩ := for_inv (ok := fun _ => true) (g := nameG 3) (b := fb1__law_number) (fun ls s => ∃ f hd' lap p, ls = [some (.ref h), some (.int w), some (.int f), lap, p] ∧ HS st h hd' s ∧ 1 ≤ f ∧ f ≤ w)
      (fun _ _ _ => rfl) (rangeL 0 m.toNat) [some (.ref h), some (.int w), some (.int 1), none, none] s1 ⟨1, hd1, none, none, rfl, x1, by omega, h0⟩ (fun d hdm ls s ⟨f, hd', lap, p, e1, x, f1, f2⟩ => by
        subst e1
        obtain ⟨y, hd2, s', hy, ea, x'⟩ := any_new (l := [.int 2, .int 2, .int 3, .int 3, .int 5, .int 7, .int 11, .int 13, .int 17, .int 29, .int 101]) x (by simp) (by simp)
        obtain ⟨q, rfl, q1, q2⟩ : ∃ q : Int, y = .int q ∧ 2 ≤ q ∧ q ≤ 101 := by
          simp only [List.mem_cons, List.not_mem_nil, or_false] at hy
          rcases hy with rfl | rfl | rfl | rfl | rfl | rfl | rfl | rfl | rfl | rfl | rfl <;> exact ⟨_, rfl, by omega, by omega⟩
        have mk : mulOk f q = true := mulOk_l (by omega) (by omega)
        have hpos : 1 ≤ f * q := by
          have := Int.mul_le_mul f1 (by omega : (1 : Int) ≤ q) (by omega) (by omega)
          omega
        by_cases hc : f * q ≤ w
        · refine ⟨_, _, [some (.ref h), some (.int w), some (.int (f * q)), some d, some (.int q)], s', rfl, .inl ?_, f * q, hd2, _, _, rfl, x', hpos, hc⟩
          simp [fb1__law_number, ea, mk, hc]
        · refine ⟨_, _, [some (.ref h), some (.int w), some (.int f), some d, some (.int q)], s', rfl, .inl ?_, f, hd2, _, _, rfl, x', f1, f2⟩
          simp [fb1__law_number, ea, mk, hc])
    obtain ⟨b, hd3, s3, b0, b1, eb, x3⟩ := draw_hs (m := 2) x2 (by omega) (by omega)
    by_cases hb : b = 0
    · refine viaF_good (o := .ok (.int f) (st.set h hd3.cell)) ⟨h, hd, w, rfl, e, h0, h1, f, hd3, by omega, by omega, by omega, rfl⟩ fun l1 _ => ?_
      simp [g__law_number, hr, k1, eb, hb]
      exact x3.pk l1 rfl
    · refine viaF_good (o := .ok (.int (0 - f)) (st.set h hd3.cell)) ⟨h, hd, w, rfl, e, h0, h1, 0 - f, hd3, by omega, by omega, by omega, rfl⟩ fun l1 _ => ?_
      simp [g__law_number, hr, k1, eb, hb]
      exact x3.pk l1 rfl
  obtain ⟨h', hd', w', q, _, _, _, v, hd2, a, b, c, eo⟩ := key
  cases q
  exact ⟨v, hd2, a, b, c, eo⟩
theorem number_hs {st s : Store} {h : Nat} {hd : Hd} {w : Int} (x : HS st h hd s) (h0 : 1 ≤ w) (h1 : w ≤ 1000000) : ∃ v hd' s', v ≠ 0 ∧ -w ≤ v ∧ v ≤ w ∧ F__law_number [.ref h, .int w] s = .ok (.int v) s' ∧ HS st h hd' s' := by
  obtain ⟨v, hd', a, b, c, e⟩ := sp_law_number (w := w) x.get h0 h1
  exact ⟨v, hd', _, a, b, c, e, x.set⟩
theorem sp_law_divisor (ns : List Int) (st : Store) : F__law_divisor [.tup (ns.map .int)] st = .ok (.int (gcdL ns)) st := by
  refine viaF_eq ⟨ns, rfl, rfl⟩ (fun o' ⟨ns', e, eo⟩ => ?_) fun h1 h2 => ?_
  · have e : ns.map D.int = ns'.map D.int := by simpa using e
    have := congrArg intsOf e
    rw [intsOf_map, intsOf_map] at this
    cases this
    exact eo
  · refine Pk.of_eq ?_
    obtain ⟨ls', st', k1, rfl, _, y, u, v, rfl⟩ := for_fold (ok := fun _ => true) (g := nameG 2) (b := fb1__law_divisor) (fun (x : Int) ls s => st = s ∧ 0 ≤ x ∧ ∃ y u v, ls = [some (.tup (ns.map .int)), some (.int x), y, u, v])
      (fun x d => match d with | .int i => (Int.gcd x i : Int) | _ => x) (fun _ _ _ _ => rfl) (ns.map .int) 0 [some (.tup (ns.map .int)), some (.int 0), none, none, none] st ⟨rfl, by omega, none, none, none, rfl⟩ (fun d hd x ls s ⟨e1, x0, y, u, v, e2⟩ => by
        obtain ⟨i, _, rfl⟩ := List.mem_map.mp hd
        subst e1 e2
        obtain ⟨x, rfl⟩ : ∃ n : Nat, x = n := ⟨x.toNat, by omega⟩
        obtain ⟨ls2, s2, k2, rfl, w, rfl⟩ := while_run (t := wt1__law_divisor) (b := wb1__law_divisor)
          (fun (p : Nat × Nat) ls s => st = s ∧ ls = [some (.tup (ns.map .int)), some (.int x), some (.int i), some (.int p.1), some (.int p.2)] ∧ Nat.gcd p.1 p.2 = Int.gcd x i) (fun p => p.2)
          (fun ls s => st = s ∧ ∃ w, ls = [some (.tup (ns.map .int)), some (.int x), some (.int i), some (.int (Int.gcd x i)), w]) (fun p ls s ⟨e1, e2, e3⟩ => by
            subst e1 e2
            by_cases hp : p.2 = 0
            · refine .inl ⟨st, by simp [wt1__law_divisor, hp], rfl, some (.int p.2), ?_⟩
              rw [hp, Nat.gcd_zero_right] at e3
              rw [← e3]
            · refine .inr ⟨st, _, st, (p.2, p.1 % p.2), by simp [wt1__law_divisor]; exact Nat.pos_of_ne_zero hp, ?_, ⟨rfl, rfl, ?_⟩, Nat.mod_lt _ (Nat.pos_of_ne_zero hp)⟩
              · simp [wb1__law_divisor, hp]
              · rw [← e3, Nat.gcd_comm p.1 p.2, Nat.gcd_rec p.2 p.1, Nat.gcd_comm]) (x, i.natAbs) [some (.tup (ns.map .int)), some (.int x), some (.int i), some (.int x), some (.int i.natAbs)] st ⟨rfl, rfl, by simp [Int.gcd]⟩
        have ei : (if i < 0 then -i else i) = (i.natAbs : Int) := by omega
        exact ⟨_, _, [some (.tup (ns.map .int)), some (.int (Int.gcd x i)), some (.int i), some (.int (Int.gcd x i)), w], st, rfl, .inl (by simp [fb1__law_divisor, ei, k2]), rfl, by show (0 : Int) ≤ ((Int.gcd x i : Nat) : Int); omega, _, _, _, rfl⟩)
    simp [g__law_divisor, k1, gcdL, List.foldl_map]
theorem sp_law_value {st : Store} {a b c x y z : Int} (ha : -1000 ≤ a ∧ a ≤ 1000) (hb : -1000 ≤ b ∧ b ≤ 1000) (hc : -1000 ≤ c ∧ c ≤ 1000) (hx : -1000000 ≤ x ∧ x ≤ 1000000) (hy : -1000000 ≤ y ∧ y ≤ 1000000) (hz : -1000000 ≤ z ∧ z ≤ 1000000) :
    F__law_value [tupI [a, b, c], tupI [x, y, z]] st = .ok (.int (a * x * x + b * y * y + c * z * z)) st := by
  refine viaF_eq ⟨a, b, c, x, y, z, rfl, ha, hb, hc, hx, hy, hz, rfl⟩ (fun o' ⟨a', b', c', x', y', z', q, _, _, _, _, _, _, eo⟩ => ?_) fun h1 h2 => ?_
  · simp [tupI] at q
    obtain ⟨⟨rfl, rfl, rfl⟩, rfl, rfl, rfl⟩ := q
    exact eo
  · have hle2 := le2_paper (st := st) (lsw := [some (tupI [a, b, c]), some (tupI [x, y, z]), none, none]) ha hb hc hx hy hz (fun d e => ⟨rfl, rfl⟩)
    change lcL _ _ _ _ le1__law_value _ _ _ = _ at hle2
    have hzi := zipI_tup (fr := consA (varD 0) (consA (varD 1) nilA)) (ls := [some (tupI [a, b, c]), some (tupI [x, y, z]), none, none]) (st := st) (st1 := st) (l := [.int a, .int b, .int c]) (m := [.int x, .int y, .int z]) (by simp [tupI])
    have e2 : a * x * x + (b * y * y + c * z * z) = a * x * x + b * y * y + c * z * z := by omega
    simp [tupI] at hle2 hzi
    simp [g__law_value, tupI, hzi, zipL, wipeL, hle2, sumL, intsOf, e2]
    exact Pk.dropG _ h1 rfl
theorem sp_law_other {st : Store} {a b c x y z u v : Int} (h : Bd a b x y z u v) : F__law_other [tupI [a, b, c], tupI [x, y, z], .int u, .int v] st = .ok (tupI (chordL a b x y z u v)) st := by
  refine viaF_eq ⟨a, b, c, x, y, z, u, v, rfl, h, rfl⟩ (fun o' ⟨a', b', c', x', y', z', u', v', q, _, eo⟩ => ?_) fun h1 h2 => ?_
  · simp [tupI] at q
    obtain ⟨⟨rfl, rfl, rfl⟩, ⟨rfl, rfl, rfl⟩, rfl, rfl⟩ := q
    exact eo
  · obtain ⟨ha, hb, hx, hy, hz, hu, hv⟩ := h
    have m1 : mulOk a u = true := mulOk_l (by omega) (by omega)
    have m2 : mulOk (a * u) u = true := mulOk_r (by omega) (by omega)
    have m3 : mulOk b v = true := mulOk_l (by omega) (by omega)
    have m4 : mulOk (b * v) v = true := mulOk_r (by omega) (by omega)
    have m5 : mulOk a x = true := mulOk_l (by omega) (by omega)
    have m6 : mulOk (a * x) u = true := mulOk_r (by omega) (by omega)
    have m7 : mulOk b y = true := mulOk_l (by omega) (by omega)
    have m8 : mulOk (b * y) v = true := mulOk_r (by omega) (by omega)
    have n1 : (a * u).natAbs ≤ 1000 * 10000 := mul_bd (by omega) (by omega)
    have n2 : (a * u * u).natAbs ≤ 1000 * 10000 * 10000 := mul_bd n1 (by omega)
    have n3 : (b * v).natAbs ≤ 1000 * 10000 := mul_bd (by omega) (by omega)
    have n4 : (b * v * v).natAbs ≤ 1000 * 10000 * 10000 := mul_bd n3 (by omega)
    have n5 : (a * x).natAbs ≤ 1000 * 1000000 := mul_bd (by omega) (by omega)
    have n6 : (a * x * u).natAbs ≤ 1000 * 1000000 * 10000 := mul_bd n5 (by omega)
    have n7 : (b * y).natAbs ≤ 1000 * 1000000 := mul_bd (by omega) (by omega)
    have n8 : (b * y * v).natAbs ≤ 1000 * 1000000 * 10000 := mul_bd n7 (by omega)
    unfold chordL foL
    generalize hW : a * u * u + b * v * v = W at *
    generalize hH : a * x * u + b * y * v = T at *
    have bW : W.natAbs ≤ 200000000000 := by omega
    have bT : T.natAbs ≤ 20000000000000 := by omega
    have m9 : mulOk x W = true := mulOk_l (by omega) (by omega)
    have m10 : mulOk y W = true := mulOk_l (by omega) (by omega)
    have m11 : mulOk z W = true := mulOk_l (by omega) (by omega)
    have m12 : mulOk 2 T = true := mulOk_l (by omega) (by omega)
    have m13 : mulOk (2 * T) u = true := mulOk_r (by omega) (by omega)
    have m14 : mulOk (2 * T) v = true := mulOk_r (by omega) (by omega)
    have p1 : (x * W).natAbs ≤ 1000000 * 200000000000 := mul_bd (by omega) bW
    have p2 : (y * W).natAbs ≤ 1000000 * 200000000000 := mul_bd (by omega) bW
    have p3 : (z * W).natAbs ≤ 1000000 * 200000000000 := mul_bd (by omega) bW
    have p4 : (2 * T * u).natAbs ≤ 40000000000000 * 10000 := mul_bd (by omega) (by omega)
    have p5 : (2 * T * v).natAbs ≤ 40000000000000 * 10000 := mul_bd (by omega) (by omega)
    have hdv := sp_law_divisor [x * W - 2 * T * u, y * W - 2 * T * v, z * W] st
    have hg1 := gcdL3_le (x * W - 2 * T * u) (y * W - 2 * T * v) (z * W)
    have hg0 := gcdL_nonneg (x * W - 2 * T * u) (y * W - 2 * T * v) (z * W)
    generalize hf1 : x * W - 2 * T * u = f1 at *
    generalize hf2 : y * W - 2 * T * v = f2 at *
    generalize hf3 : z * W = f3 at *
    have bg : gcdL [f1, f2, f3] < 18446744073709551616 := by omega
    generalize hg : gcdL [f1, f2, f3] = g at *
    by_cases hp : 0 < g
    · have d1 : divOk g = true := divOk_small (by omega) (by omega) bg
      have hp' : ¬ g = 0 := by omega
      have hle := lc_map (its := ⟨[.int f1, .int f2, .int f3], []⟩) (st0 := st) (g := nameG 8) (ft := yesT) (fe := le1__law_other)
        (lsw := [some (tupI [a, b, c]), some (tupI [x, y, z]), some (.int u), some (.int v), some (.int W), some (.int (2 * T)), some (.tup [.int f1, .int f2, .int f3]), some (.int g), none])
        (fun d => match d with | .int i => .int (i / g) | _ => .non) (fun _ => rfl) (by simp) fun d hd acc => by
          obtain ⟨i, rfl⟩ : ∃ i, d = .int i := by
            simp only [List.mem_cons, List.not_mem_nil, or_false] at hd
            rcases hd with rfl | rfl | rfl <;> exact ⟨_, rfl⟩
          have : (0 : Int) ≤ g := by omega
          exact ⟨_, rfl, rfl, by simp [le1__law_other, d1, this]⟩
      simp [tupI] at hle hdv
      simp [g__law_other, tupI, m1, m2, m3, m4, m5, m6, m7, m8, hW, hH, m9, m10, m11, m12, m13, m14, hf1, hf2, hf3, hdv, hp, hp', wipeL, hle, tupleV]
      exact Pk.dropG _ h1 rfl
    · refine Pk.of_eq ?_
      have hp' : g = 0 := by omega
      simp [tupI] at hdv
      simp [g__law_other, tupI, m1, m2, m3, m4, m5, m6, m7, m8, hW, hH, m9, m10, m11, m12, m13, m14, hf1, hf2, hf3, hdv, hp, hp']
end K72

set_option maxRecDepth 100000
set_option maxHeartbeats 1000000
namespace K72
open PySem PySem.Spec PyProof.Rows L2 DD
theorem sp_law_with_point {st : Store} {h : Nat} {hd : Hd} (e : st[h]? = some hd.cell) : ∃ a b c x y z hd', Wp a b c x y z ∧ -3 ≤ x ∧ x ≤ 3 ∧ -3 ≤ y ∧ y ≤ 3 ∧ -3 ≤ z ∧ z ≤ 3 ∧ F__law_with_point [.ref h] st = .ok (.tup [tupI [a, b, c], tupI [x, y, z]]) (st.set h (Hd.cell hd')) := by
  have key : Good__law_with_point [.ref h] st (F__law_with_point [.ref h] st) := by
    have fin : ∀ {a b c x y z hd' s}, Wp a b c x y z → -3 ≤ x ∧ x ≤ 3 → -3 ≤ y ∧ y ≤ 3 → -3 ≤ z ∧ z ≤ 3 → HS st h hd' s → endO (g__law_with_point (startD 8 [.ref h]) st) = .ok (.tup [tupI [a, b, c], tupI [x, y, z]]) s → Good__law_with_point [.ref h] st (F__law_with_point [.ref h] st) := fun {a b c x y z hd' s} w hx hy hz hs eq =>
      viaF_good (o := .ok (.tup [tupI [a, b, c], tupI [x, y, z]]) (st.set h hd'.cell)) ⟨h, hd, rfl, e, a, b, c, x, y, z, hd', w, hx.1, hx.2, hy.1, hy.2, hz.1, hz.2, rfl⟩ fun l1 _ => by
        rw [eq]
        exact hs.pk l1 rfl
    have hr := rng1_eq (fr := consA (litD (.int 40)) nilA) (ls := [some (.ref h), none, none, none, none, none, none, none]) (st := st) (st1 := st) (j := 40) (by simp) (by omega) (by omega)
    rcases for_may (α := Unit) (ok := fun _ => true) (g := nameG 1) (b := fb1__law_with_point) (fun _ ls s => ∃ hd' l a b x y z w, ls = [some (.ref h), l, a, b, x, y, z, w] ∧ HS st h hd' s)
      (fun r s => ∃ a b c x y z hd', r = .tup [tupI [a, b, c], tupI [x, y, z]] ∧ Wp a b c x y z ∧ (-3 ≤ x ∧ x ≤ 3) ∧ (-3 ≤ y ∧ y ≤ 3) ∧ (-3 ≤ z ∧ z ≤ 3) ∧ HS st h hd' s) (fun _ _ _ _ => rfl) (rangeL 0 (40 : Int).toNat) () [some (.ref h), none, none, none, none, none, none, none] st ⟨hd, none, none, none, none, none, none, none, rfl, HS.refl e⟩
      (fun d _ _ ls s ⟨hd', l, a, b, x, y, z, w, e1, hs⟩ => by
        subst e1
        refine ⟨_, s, rfl, ?_⟩
        obtain ⟨a, hd1, s1, a0, a1, a2, ea, x1⟩ := number_hs (w := 60) hs (by omega) (by omega)
        obtain ⟨b, hd2, s2, b0, b1, b2, eb, x2⟩ := number_hs (w := 60) x1 (by omega) (by omega)
        obtain ⟨x, hd3, s3, x0, xl, ex, x3⟩ := draw_hs (m := 4) x2 (by omega) (by omega)
        obtain ⟨y, hd4, s4, y0, yl, ey, x4⟩ := draw_hs (m := 3) x3 (by omega) (by omega)
        obtain ⟨z, hd5, s5, z0, zl, ez, x5⟩ := draw_hs (m := 2) x4 (by omega) (by omega)
        have m1 : mulOk a x = true := mulOk_l (by omega) (by omega)
        have m2 : mulOk (a * x) x = true := mulOk_r (by omega) (by omega)
        have m3 : mulOk b (1 + y) = true := mulOk_l (by omega) (by omega)
        have m4 : mulOk (b * (1 + y)) (1 + y) = true := mulOk_r (by omega) (by omega)
        have m5 : mulOk (1 + z) (1 + z) = true := mulOk_r (by omega) (by omega)
        have zz : 0 < (1 + z) * (1 + z) := Int.mul_pos (by omega) (by omega)
        have zz2 : (1 + z) * (1 + z) ≤ 2 * 2 := Int.mul_le_mul (by omega) (by omega) (by omega) (by omega)
        generalize hZ : (1 + z) * (1 + z) = Z at *
        have d1 : divOk Z = true := divOk_small (by omega) (by omega) (by omega)
        have zn : ¬ Z = 0 := by omega
        have z0' : (0 : Int) ≤ Z := by omega
        generalize hw : a * x * x + b * (1 + y) * (1 + y) = w at *
        by_cases c1 : 0 - w = 0
        · refine .inl ⟨(), [some (.ref h), some d, some (.int a), some (.int b), some (.int x), some (.int (1 + y)), some (.int (1 + z)), some (.int (0 - w))], s5, .inl ?_, hd5, _, _, _, _, _, _, _, rfl, x5⟩
          simp at c1
          simp [fb1__law_with_point, ea, eb, ex, ey, ez, m1, m2, m3, m4, m5, hZ, hw, c1]
        · by_cases c2 : (0 - w) % Z = 0
          · by_cases c3 : (if 0 - w < 0 then -(0 - w) else 0 - w) / Z ≤ 1000
            · refine .inr ⟨.tup [tupI [a, b, (0 - w) / Z], tupI [x, 1 + y, 1 + z]], s5, ?_, a, b, (0 - w) / Z, x, 1 + y, 1 + z, hd5, rfl, ?_, by omega, by omega, by omega, x5⟩
              · simp at c1 c2 c3
                simp [fb1__law_with_point, ea, eb, ex, ey, ez, m1, m2, m3, m4, m5, hZ, hw, c1, c2, c3, zn, z0', d1, tupI]
              · have hdv : (0 - w) / Z * Z = 0 - w := Int.ediv_mul_cancel (Int.dvd_of_emod_eq_zero c2)
                generalize hq : (0 - w) / Z = q at *
                have hq0 : q ≠ 0 := fun q0 => c1 (by rw [← hdv, q0, Int.zero_mul])
                have hab : (if 0 - w < 0 then -(0 - w) else 0 - w) / Z = (q.natAbs : Int) := by
                  have e1 : (if 0 - w < 0 then -(0 - w) else 0 - w) = (q.natAbs : Int) * Z := by
                    rw [← hdv]
                    rcases (by omega : q < 0 ∨ 0 ≤ q) with n | n
                    · have : q * Z < 0 := Int.mul_neg_of_neg_of_pos n zz
                      rw [if_pos this]
                      have : (q.natAbs : Int) = -q := by omega
                      rw [this, Int.neg_mul]
                    · have : ¬ q * Z < 0 := by
                        have := Int.mul_nonneg n z0'
                        omega
                      rw [if_neg this]
                      have : (q.natAbs : Int) = q := by omega
                      rw [this]
                  rw [e1, Int.mul_ediv_cancel _ zn]
                rw [hab] at c3
                refine ⟨⟨a0, by omega, by omega⟩, ⟨b0, by omega, by omega⟩, ⟨hq0, by omega, by omega⟩, by omega, by omega, by omega, by omega, ?_⟩
                rw [hw]
                have : q * (1 + z) * (1 + z) = q * Z := by rw [Int.mul_assoc, hZ]
                rw [this, hdv]
                omega
            · refine .inl ⟨(), [some (.ref h), some d, some (.int a), some (.int b), some (.int x), some (.int (1 + y)), some (.int (1 + z)), some (.int (0 - w))], s5, .inl ?_, hd5, _, _, _, _, _, _, _, rfl, x5⟩
              simp at c1 c2 c3
              simp [fb1__law_with_point, ea, eb, ex, ey, ez, m1, m2, m3, m4, m5, hZ, hw, c1, c2, c3, zn, z0', d1]
          · refine .inl ⟨(), [some (.ref h), some d, some (.int a), some (.int b), some (.int x), some (.int (1 + y)), some (.int (1 + z)), some (.int (0 - w))], s5, .inl ?_, hd5, _, _, _, _, _, _, _, rfl, x5⟩
            simp at c1 c2
            simp [fb1__law_with_point, ea, eb, ex, ey, ez, m1, m2, m3, m4, m5, hZ, hw, c1, c2, zn, z0', d1]) with ⟨_, ls', s', k1, hd', l, a, b, x, y, z, w, rfl, hs⟩ | ⟨r, s', k1, a, b, c, x, y, z, hd', rfl, w, hx, hy, hz, hs⟩
    · refine fin (a := 1) (b := 1) (c := -2) (x := 1) (y := 1) (z := 1) (hd' := hd') (s := s') ⟨by omega, by omega, by omega, by omega, by omega, by omega, by omega, by omega⟩ (by omega) (by omega) (by omega) hs ?_
      simp at k1
      simp [g__law_with_point, hr, k1, tupI]
    · refine fin w hx hy hz hs ?_
      simp at k1
      simp [g__law_with_point, hr, k1]
  obtain ⟨h', hd', q, _, a, b, c, x, y, z, hd2, w, x1, x2, y1, y2, z1, z2, eo⟩ := key
  cases q
  exact ⟨a, b, c, x, y, z, hd2, w, x1, x2, y1, y2, z1, z2, eo⟩
end K72

set_option maxRecDepth 100000
set_option maxHeartbeats 1000000
namespace K72
open PySem PySem.Spec PyProof.Rows L2 DD
/-- the text's table: c z z to z -/
structure Tab (c : Int) (n : Nat) (kvs : List (Key × D)) : Prop where
  all : ∀ z : Nat, z < n → valD kvs (.inl (c * z * z)) = some (.int z)
  one : ∀ (k : Int) (d : D), valD kvs (.inl k) = some d → ∃ z : Nat, z < n ∧ k = c * z * z ∧ d = .int z
  len : kvs.length ≤ n
theorem sq_inj {c : Int} (hc : c ≠ 0) {y z : Nat} (h : c * y * y = c * z * z) : y = z := by
  rw [Int.mul_assoc, Int.mul_assoc] at h
  have h2 : (y : Int) * y = (z : Int) * z := Int.eq_of_mul_eq_mul_left hc h
  have h3 : y * y = z * z := by exact_mod_cast h2
  rcases Nat.lt_trichotomy y z with q | q | q
  · have := Nat.mul_lt_mul_of_lt_of_lt q q
    omega
  · exact q
  · have := Nat.mul_lt_mul_of_lt_of_lt q q
    omega
theorem Tab.put {c : Int} (hc : c ≠ 0) {n : Nat} {kvs : List (Key × D)} (t : Tab c n kvs) : Tab c (n + 1) (putD kvs (.inl (c * n * n)) (.int n)) := by
  refine ⟨fun z hz => ?_, fun k d h => ?_, Nat.le_trans (length_putD _ _ _) (Nat.succ_le_succ t.len)⟩
  · rw [valD_put]
    split
    · rename_i e
      have := sq_inj hc (Sum.inl.inj e)
      rw [this]
    · rename_i e
      refine t.all z ?_
      rcases Nat.lt_succ_iff_lt_or_eq.mp hz with q | q
      · exact q
      · exact absurd (by rw [q]) e
  · rw [valD_put] at h
    split at h
    · rename_i e
      cases h
      exact ⟨n, Nat.lt_succ_self n, Sum.inl.inj e, rfl⟩
    · obtain ⟨z, h1, h2, h3⟩ := t.one k d h
      exact ⟨z, Nat.lt_succ_of_lt h1, h2, h3⟩
theorem rt_sq (z : Nat) : rt (z * z) = z := rt_eq (Nat.le_refl _) (Nat.mul_lt_mul_of_lt_of_lt (Nat.lt_succ_self _) (Nat.lt_succ_self _))
theorem ptAt_tab {a b c m x y : Int} (hc : c ≠ 0) {kvs : List (Key × D)} (t : Tab c (m + 1).toNat kvs) :
    (∃ z : Nat, valD kvs (.inl (-(a * x * x + b * y * y))) = some (.int z) ∧ ptAt a b c m x y = if gcdL [x, y, (z : Int)] = 1 then [p3 x y z] else []) ∨ (valD kvs (.inl (-(a * x * x + b * y * y))) = none ∧ ptAt a b c m x y = []) := by
  unfold ptAt
  generalize -(a * x * x + b * y * y) = r
  cases hv : valD kvs (.inl r) with
  | some d =>
    obtain ⟨z, hz, hr, rfl⟩ := t.one r d hv
    refine .inl ⟨z, rfl, ?_⟩
    have hr' : r = ((z * z : Nat) : Int) * c := by rw [hr, Int.natCast_mul]; grind
    have hd : c ∣ r := ⟨_, by rw [hr', Int.mul_comm]⟩
    have hq : r / c = ((z * z : Nat) : Int) := by rw [hr', Int.mul_ediv_cancel _ hc]
    rw [hq, if_pos ⟨hd, by omega⟩, Int.toNat_natCast, rt_sq]
    by_cases hg : gcdL [x, y, (z : Int)] = 1
    · rw [if_pos ⟨by rw [Int.natCast_mul], by omega, hg⟩, if_pos hg]
    · rw [if_neg (fun q => hg q.2.2), if_neg hg]
  | none =>
    refine .inr ⟨rfl, ?_⟩
    split
    · rename_i h
      rw [if_neg]
      rintro ⟨g1, g2, _⟩
      have h1 : (r / c) * c = r := Int.ediv_mul_cancel h.1
      generalize rt (r / c).toNat = z at *
      have : valD kvs (.inl (c * z * z)) = some (.int z) := t.all z (by omega)
      have e : c * z * z = r := by rw [← h1, ← g1]; grind
      rw [e, hv] at this
      cases this
    · rfl
theorem range_split {n : Nat} {pre suf : List D} {d : D} (h : rangeL 0 n = pre ++ d :: suf) : d = .int (pre.length : Int) ∧ pre.length < n := by
  have hl : pre.length < n := by
    have := congrArg List.length h
    rw [rangeL_len] at this
    simp at this
    omega
  have h2 : (rangeL 0 n)[pre.length]? = some d := by rw [h]; simp
  unfold rangeL at h2
  rw [List.getElem?_map, List.getElem?_range hl] at h2
  simp at h2
  exact ⟨h2.symm, hl⟩
theorem pts_inner {st : Store} {a b c m x y : Int} {kvs : List (Key × D)} {acc : List D} {z0 : Option D} (k : Kb a b c m) (t : Tab c (m + 1).toNat kvs) (hx : 0 ≤ x ∧ x ≤ 60) (hy : 0 ≤ y ∧ y ≤ 60) (hacc : acc.length < 16777216) :
    ∃ z1, fb2__law_points [some (tupI [a, b, c]), some (.int m), some (.ref st.length), some (.ref (st.length + 1)), z0, some (.int x), some (.int y)] (st ++ [.dic kvs, .lst acc]) =
      .nx [some (tupI [a, b, c]), some (.int m), some (.ref st.length), some (.ref (st.length + 1)), z1, some (.int x), some (.int y)] (st ++ [.dic kvs, .lst (acc ++ ptAt a b c m x y)]) := by
  obtain ⟨ha, hb, hc, hm⟩ := k
  have k1 : mulOk a x = true := mulOk_l (by omega) (by omega)
  have k2 : mulOk b y = true := mulOk_l (by omega) (by omega)
  have k3 : mulOk (a * x) x = true := mulOk_r (by omega) (by omega)
  have k4 : mulOk (b * y) y = true := mulOk_r (by omega) (by omega)
  have g0 : (st ++ [Cell.dic kvs, .lst acc])[st.length]? = some (.dic kvs) := by simp
  have g1 : (st ++ [Cell.dic kvs, .lst acc])[st.length + 1]? = some (.lst acc) := by simp
  have hd := isDic_ref g0
  have hg := fun i v => get_ref (i := i) (v := v) g0
  have hty := tyD_ref g1
  have er : -(a * x * x) - b * y * y = -(a * x * x + b * y * y) := by omega
  rcases ptAt_tab (a := a) (b := b) (x := x) (y := y) hc.1 t with ⟨z, e1, e2⟩ | ⟨e1, e2⟩
  · refine ⟨some (.int z), ?_⟩
    have hdv := sp_law_divisor [x, y, (z : Int)] (st ++ [Cell.dic kvs, .lst acc])
    simp only [List.map_cons, List.map_nil] at hdv
    rw [e2]
    by_cases g3 : gcdL [x, y, (z : Int)] = 1
    · have happ := app_ref (x := p3 x y z) g1 hacc
      have hset : (st ++ [Cell.dic kvs, .lst acc]).set (st.length + 1) (.lst (acc ++ [p3 x y z])) = st ++ [.dic kvs, .lst (acc ++ [p3 x y z])] := by
        rw [List.set_append_right _ _ (by omega)]; simp
      rw [hset] at happ
      simp only [p3, tupI, List.map_cons, List.map_nil] at happ
      rw [← er] at e1
      simp [fb2__law_points, p3, tupI, k1, k2, k3, k4, hd, hg, e1, hdv, g3, hty, happ]
    · rw [← er] at e1
      simp [fb2__law_points, tupI, k1, k2, k3, k4, hd, hg, e1, hdv, g3]
  · refine ⟨some .non, ?_⟩
    rw [e2]
    rw [← er] at e1
    simp [fb2__law_points, tupI, k1, k2, k3, k4, hd, hg, e1]
theorem pts_row {st : Store} {a b c m x : Int} {kvs : List (Key × D)} {acc : List D} {z0 y0 : Option D} (k : Kb a b c m) (t : Tab c (m + 1).toNat kvs) (hx : 0 ≤ x ∧ x ≤ 60) (hacc : acc.length < 16000000) :
    ∃ z1 y1, fb3__law_points [some (tupI [a, b, c]), some (.int m), some (.ref st.length), some (.ref (st.length + 1)), z0, some (.int x), y0] (st ++ [.dic kvs, .lst acc]) =
      .nx [some (tupI [a, b, c]), some (.int m), some (.ref st.length), some (.ref (st.length + 1)), z1, some (.int x), y1] (st ++ [.dic kvs, .lst (acc ++ (rangeL 0 (m + 1).toNat).flatMap fun y => ptD a b c m (.int x) y)]) := by
  have hm := k.m
  have hr := rng1_eq (fr := consA (bin2 addV (varD 1) (litD (.int 1))) nilA) (ls := [some (tupI [a, b, c]), some (.int m), some (.ref st.length), some (.ref (st.length + 1)), z0, some (.int x), y0]) (st := st ++ [.dic kvs, .lst acc]) (st1 := st ++ [.dic kvs, .lst acc]) (j := m + 1) (by simp) (by omega) (by omega)
  obtain ⟨ls', st', k1, z1, y1, rfl, rfl⟩ := for_pre (ok := fun _ => true) (g := nameG 6) (b := fb2__law_points) (fun pre ls s => ∃ z1 y1, ls = [some (tupI [a, b, c]), some (.int m), some (.ref st.length), some (.ref (st.length + 1)), z1, some (.int x), y1] ∧ s = st ++ [.dic kvs, .lst (acc ++ pre.flatMap fun y => ptD a b c m (.int x) y)])
    (fun _ _ _ _ => rfl) (rangeL 0 (m + 1).toNat) [some (tupI [a, b, c]), some (.int m), some (.ref st.length), some (.ref (st.length + 1)), z0, some (.int x), y0] (st ++ [.dic kvs, .lst acc]) ⟨z0, y0, rfl, by simp⟩ (fun pre d suf e ls s ⟨z1, y1, e1, e2⟩ => by
      obtain ⟨rfl, hj⟩ := range_split e
      subst e1 e2
      have hl : pre.length ≤ 61 := by omega
      have hfl := flatMap_len (f := fun y => ptD a b c m (.int x) y) (k := 1) (l := pre) fun y _ => ptD_len
      obtain ⟨z2, e3⟩ := pts_inner (st := st) (x := x) (y := (pre.length : Int)) (acc := acc ++ pre.flatMap fun y => ptD a b c m (.int x) y) (z0 := z1) k t hx (by omega) (by rw [List.length_append]; omega)
      refine ⟨_, _, _, _, by simp, .inl e3, z2, some (.int pre.length), rfl, ?_⟩
      simp [ptD])
  exact ⟨z1, y1, by simp [fb3__law_points, hr, k1]⟩
theorem sp_law_points {st : Store} {a b c m : Int} (k : Kb a b c m) : F__law_points [tupI [a, b, c], .int m] st = .ok (.ref st.length) (st ++ [.lst (sortT (pts a b c m))]) := by
  refine viaF_eq ⟨a, b, c, m, rfl, k, rfl⟩ (fun o' ⟨a', b', c', m', q, _, eo⟩ => ?_) fun h1 h2 => ?_
  · simp [tupI] at q
    obtain ⟨⟨rfl, rfl, rfl⟩, rfl⟩ := q
    exact eo
  · have hm := k.m
    have hc := k.c
    have hr := fun z0 y0 s => rng1_eq (fr := consA (bin2 addV (varD 1) (litD (.int 1))) nilA) (ls := [some (tupI [a, b, c]), some (.int m), some (.ref st.length), some (.ref (st.length + 1)), z0, y0, none]) (st := s) (st1 := s) (j := m + 1) (by simp) (by omega) (by omega)
    obtain ⟨ls1, st1, k1, z1, kvs, rfl, rfl, t⟩ := for_pre (ok := fun _ => true) (g := nameG 4) (b := fb1__law_points) (fun pre ls s => ∃ z1 kvs, ls = [some (tupI [a, b, c]), some (.int m), some (.ref st.length), some (.ref (st.length + 1)), z1, none, none] ∧ s = st ++ [.dic kvs, .lst []] ∧ Tab c pre.length kvs)
      (fun _ _ _ _ => rfl) (rangeL 0 (m + 1).toNat) [some (tupI [a, b, c]), some (.int m), some (.ref st.length), some (.ref (st.length + 1)), none, none, none] (st ++ [.dic [], .lst []]) ⟨none, [], rfl, rfl, ⟨fun z hz => absurd hz (Nat.not_lt_zero z), fun k d h => by simp [valD] at h, Nat.le_refl _⟩⟩ (fun pre d suf e ls s ⟨z1, kvs, e1, e2, t⟩ => by
        obtain ⟨rfl, hj⟩ := range_split e
        subst e1 e2
        have k1 : mulOk c (pre.length : Int) = true := mulOk_l (by omega) (by omega)
        have k2 : mulOk (c * pre.length) (pre.length : Int) = true := mulOk_r (by omega) (by omega)
        have g0 : (st ++ [Cell.dic kvs, .lst []])[st.length]? = some (.dic kvs) := by simp
        have hl := t.len
        have hp := put_ref (i := c * pre.length * pre.length) (v := .int pre.length) g0 (by omega)
        have hset : (st ++ [Cell.dic kvs, .lst []]).set st.length (.dic (putD kvs (.inl (c * pre.length * pre.length)) (.int pre.length))) = st ++ [.dic (putD kvs (.inl (c * pre.length * pre.length)) (.int pre.length)), .lst []] := by
          rw [List.set_append_right _ _ (by omega)]; simp
        rw [hset] at hp
        refine ⟨_, _, [some (tupI [a, b, c]), some (.int m), some (.ref st.length), some (.ref (st.length + 1)), some (.int pre.length), none, none], _, rfl, .inl ?_, some (.int pre.length), putD kvs (.inl (c * pre.length * pre.length)) (.int pre.length), rfl, rfl, ?_⟩
        · simp [tupI, fb1__law_points, k1, k2, hp]
        · rw [List.length_append]
          exact t.put hc.1)
    rw [rangeL_len] at t
    obtain ⟨ls2, st2, k2, z2, x2, y2, rfl, rfl⟩ := for_pre (ok := fun _ => true) (g := nameG 5) (b := fb3__law_points) (fun pre ls s => ∃ z1 x1 y1, ls = [some (tupI [a, b, c]), some (.int m), some (.ref st.length), some (.ref (st.length + 1)), z1, x1, y1] ∧ s = st ++ [.dic kvs, .lst (pre.flatMap fun x => (rangeL 0 (m + 1).toNat).flatMap fun y => ptD a b c m x y)])
      (fun _ _ _ _ => rfl) (rangeL 0 (m + 1).toNat) [some (tupI [a, b, c]), some (.int m), some (.ref st.length), some (.ref (st.length + 1)), z1, none, none] (st ++ [.dic kvs, .lst []]) ⟨z1, none, none, rfl, by simp⟩ (fun pre d suf e ls s ⟨z1, x1, y1, e1, e2⟩ => by
        obtain ⟨rfl, hj⟩ := range_split e
        subst e1 e2
        have hl : pre.length ≤ 61 := by omega
        have hfl := flatMap_len (f := fun x => (rangeL 0 (m + 1).toNat).flatMap fun y => ptD a b c m x y) (k := 61) (l := pre) fun x _ => by
          have := flatMap_len (f := fun y => ptD a b c m x y) (k := 1) (l := rangeL 0 (m + 1).toNat) fun y _ => ptD_len
          rw [rangeL_len] at this
          omega
        obtain ⟨z2, y2, e3⟩ := pts_row (st := st) (x := (pre.length : Int)) (acc := pre.flatMap fun x => (rangeL 0 (m + 1).toNat).flatMap fun y => ptD a b c m x y) (z0 := z1) (y0 := y1) k t (by omega) (by omega)
        refine ⟨_, _, _, _, by simp, .inl e3, z2, some (.int pre.length), y2, rfl, ?_⟩
        simp)
    have hlen : (pts a b c m).length ≤ 16777216 := by
      unfold pts
      have := flatMap_len (f := fun x => (rangeL 0 (m + 1).toNat).flatMap fun y => ptD a b c m x y) (k := 61) (l := rangeL 0 (m + 1).toNat) fun x _ => by
        have := flatMap_len (f := fun y => ptD a b c m x y) (k := 1) (l := rangeL 0 (m + 1).toNat) fun y _ => ptD_len
        rw [rangeL_len] at this
        omega
      rw [rangeL_len] at this
      omega
    have hs := sorted_ts (st := st ++ [.dic kvs, .lst (pts a b c m)]) pts_ts hlen
    have g1 : (st ++ [Cell.dic kvs, .lst (pts a b c m)])[st.length + 1]? = some (.lst (pts a b c m)) := by simp
    have hon : onL sortedL [.ref (st.length + 1)] (st ++ [Cell.dic kvs, .lst (pts a b c m)]) = sortedL (pts a b c m) (st ++ [Cell.dic kvs, .lst (pts a b c m)]) := by
      unfold onL
      simp only [itsOf_ref g1]
      rfl
    change forL _ _ _ _ _ _ = .nx _ (st ++ [.dic kvs, .lst (pts a b c m)]) at k2
    have hp := Pk.fresh1 (st := st) (g1 := [.dic kvs] ++ [.lst (pts a b c m)]) (g2 := []) (l := sortT (pts a b c m)) (k := st.length + 2) h1 (ltDs_ts fun d hd => pts_ts d (mem_sortT.mp hd)) rfl
    generalize pts a b c m = ps at *
    simp [tupI] at hs k1 k2 hr hon
    simp [g__law_points, tupI, hr, k1, k2, hon, hs]
    simpa using hp
end K72

/-! plain facts: chords of a conic -/
namespace K72
def gcd3 (p q r : Int) : Int := ((Int.gcd ((Int.gcd ((Int.gcd 0 p : Nat) : Int) q : Nat) : Int) r : Nat) : Int)
theorem gcd3_eq (p q r : Int) : gcd3 p q r = (Nat.gcd (Nat.gcd p.natAbs q.natAbs) r.natAbs : Nat) := by
  unfold gcd3 Int.gcd
  simp
theorem gcd3_nonneg (p q r : Int) : 0 ≤ gcd3 p q r := by rw [gcd3_eq]; omega
theorem gcd3_dvd (p q r : Int) : gcd3 p q r ∣ p ∧ gcd3 p q r ∣ q ∧ gcd3 p q r ∣ r := by
  rw [gcd3_eq]
  refine ⟨?_, ?_, ?_⟩
  · exact Int.ofNat_dvd_left.mpr (Nat.dvd_trans (Nat.gcd_dvd_left _ _) (Nat.gcd_dvd_left _ _))
  · exact Int.ofNat_dvd_left.mpr (Nat.dvd_trans (Nat.gcd_dvd_left _ _) (Nat.gcd_dvd_right _ _))
  · exact Int.ofNat_dvd_left.mpr (Nat.gcd_dvd_right _ _)
theorem gcd3_zero {p q r : Int} : gcd3 p q r = 0 ↔ p = 0 ∧ q = 0 ∧ r = 0 := by
  rw [gcd3_eq]
  constructor
  · intro h
    have h : Nat.gcd (Nat.gcd p.natAbs q.natAbs) r.natAbs = 0 := by exact_mod_cast h
    obtain ⟨h1, h2⟩ := Nat.gcd_eq_zero_iff.mp h
    obtain ⟨h3, h4⟩ := Nat.gcd_eq_zero_iff.mp h1
    omega
  · rintro ⟨rfl, rfl, rfl⟩
    rfl
theorem gcd3_mul (k p q r : Int) : gcd3 (k * p) (k * q) (k * r) = k.natAbs * gcd3 p q r := by
  rw [gcd3_eq, gcd3_eq, Int.natAbs_mul, Int.natAbs_mul, Int.natAbs_mul, Nat.gcd_mul_left, Nat.gcd_mul_left]
  push_cast
  rfl
/-- the chord's far end before it is made small -/
structure Ch (a b c x y z u v f1 f2 f3 : Int) : Prop where
  e1 : f1 = x * (a * u * u + b * v * v) - 2 * (a * x * u + b * y * v) * u
  e2 : f2 = y * (a * u * u + b * v * v) - 2 * (a * x * u + b * y * v) * v
  e3 : f3 = z * (a * u * u + b * v * v)
theorem Ch.on {a b c x y z u v f1 f2 f3 : Int} (h : Ch a b c x y z u v f1 f2 f3) (o : a * x * x + b * y * y + c * z * z = 0) : a * f1 * f1 + b * f2 * f2 + c * f3 * f3 = 0 := by
  obtain ⟨rfl, rfl, rfl⟩ := h
  have : a * (x * (a * u * u + b * v * v) - 2 * (a * x * u + b * y * v) * u) * (x * (a * u * u + b * v * v) - 2 * (a * x * u + b * y * v) * u) + b * (y * (a * u * u + b * v * v) - 2 * (a * x * u + b * y * v) * v) * (y * (a * u * u + b * v * v) - 2 * (a * x * u + b * y * v) * v) + c * (z * (a * u * u + b * v * v)) * (z * (a * u * u + b * v * v)) = (a * u * u + b * v * v) * (a * u * u + b * v * v) * (a * x * x + b * y * y + c * z * z) := by grind
  rw [this, o, Int.mul_zero]
theorem Ch.line {a b c x y z u v f1 f2 f3 : Int} (h : Ch a b c x y z u v f1 f2 f3) : u * (y * f3 - z * f2) - v * (x * f3 - z * f1) = 0 := by
  obtain ⟨rfl, rfl, rfl⟩ := h
  grind
theorem Ch.ne {a b c x y z u v f1 f2 f3 : Int} (h : Ch a b c x y z u v f1 f2 f3) (hn : ¬ (x = 0 ∧ y = 0 ∧ z = 0)) (hW : a * u * u + b * v * v ≠ 0) : ¬ (f1 = 0 ∧ f2 = 0 ∧ f3 = 0) := by
  rintro ⟨z1, z2, z3⟩
  obtain ⟨e1, e2, e3⟩ := h
  rw [z1] at e1
  rw [z2] at e2
  rw [z3] at e3
  generalize hWW : a * u * u + b * v * v = W at *
  generalize hTT : a * x * u + b * y * v = T at *
  have hz : z = 0 := by
    rcases Int.mul_eq_zero.mp e3.symm with q | q
    · exact q
    · exact absurd q hW
  have key : T * W = 0 := by
    have : T * W = 2 * T * W := by
      have h1 : x * W = 2 * T * u := by omega
      have h2 : y * W = 2 * T * v := by omega
      have h3 : T * W = a * u * (x * W) + b * v * (y * W) := by rw [← hTT]; grind
      rw [h3, h1, h2, ← hWW]
      grind
    have e : 2 * T * W = 2 * (T * W) := by grind
    omega
  have hT : T = 0 := by
    rcases Int.mul_eq_zero.mp key with q | q
    · exact q
    · exact absurd q hW
  rw [hT] at e1 e2
  have hx : x = 0 := by
    rcases Int.mul_eq_zero.mp (by omega : x * W = 0) with q | q
    · exact q
    · exact absurd q hW
  have hy : y = 0 := by
    rcases Int.mul_eq_zero.mp (by omega : y * W = 0) with q | q
    · exact q
    · exact absurd q hW
  exact hn ⟨hx, hy, hz⟩
/-- the chord of a part of the chord's end leads back -/
theorem Ch.back {a b c x y z u v f1 f2 f3 G t1 t2 t3 g1 g2 g3 : Int} (h : Ch a b c x y z u v f1 f2 f3) (q1 : f1 = G * t1) (q2 : f2 = G * t2) (q3 : f3 = G * t3) (k : Ch a b c t1 t2 t3 u v g1 g2 g3) :
    G * g1 = (a * u * u + b * v * v) * (a * u * u + b * v * v) * x ∧ G * g2 = (a * u * u + b * v * v) * (a * u * u + b * v * v) * y ∧ G * g3 = (a * u * u + b * v * v) * (a * u * u + b * v * v) * z := by
  obtain ⟨e1, e2, e3⟩ := h
  obtain ⟨d1, d2, d3⟩ := k
  rw [q1] at e1
  rw [q2] at e2
  rw [q3] at e3
  have T : G * (a * t1 * u + b * t2 * v) = -((a * x * u + b * y * v) * (a * u * u + b * v * v)) := by
    have : G * (a * t1 * u + b * t2 * v) = a * u * (G * t1) + b * v * (G * t2) := by grind
    rw [this, e1, e2]
    grind
  refine ⟨?_, ?_, ?_⟩
  · have : G * g1 = (G * t1) * (a * u * u + b * v * v) - 2 * (G * (a * t1 * u + b * t2 * v)) * u := by rw [d1]; grind
    rw [this, T, e1]
    grind
  · have : G * g2 = (G * t2) * (a * u * u + b * v * v) - 2 * (G * (a * t1 * u + b * t2 * v)) * v := by rw [d2]; grind
    rw [this, T, e2]
    grind
  · have : G * g3 = (G * t3) * (a * u * u + b * v * v) := by rw [d3]; grind
    rw [this, e3]
    grind
theorem gcd3_pos {p q r : Int} (h : ¬ (p = 0 ∧ q = 0 ∧ r = 0)) : 0 < gcd3 p q r := by
  have h1 := gcd3_nonneg p q r
  have h2 : gcd3 p q r ≠ 0 := fun z => h (gcd3_zero.mp z)
  omega
/-- .. to the point, made small -/
theorem Ch.home {a b c x y z u v f1 f2 f3 t1 t2 t3 g1 g2 g3 : Int} (h : Ch a b c x y z u v f1 f2 f3) (hn : ¬ (x = 0 ∧ y = 0 ∧ z = 0)) (hW : a * u * u + b * v * v ≠ 0) (q1 : f1 = gcd3 f1 f2 f3 * t1) (q2 : f2 = gcd3 f1 f2 f3 * t2) (q3 : f3 = gcd3 f1 f2 f3 * t3)
    (k : Ch a b c t1 t2 t3 u v g1 g2 g3) : 0 < gcd3 g1 g2 g3 ∧ g1 / gcd3 g1 g2 g3 = x / gcd3 x y z ∧ g2 / gcd3 g1 g2 g3 = y / gcd3 x y z ∧ g3 / gcd3 g1 g2 g3 = z / gcd3 x y z := by
  have hG : 0 < gcd3 f1 f2 f3 := gcd3_pos (h.ne hn hW)
  obtain ⟨b1, b2, b3⟩ := h.back q1 q2 q3 k
  have hg : 0 < gcd3 x y z := gcd3_pos hn
  obtain ⟨⟨x0, hx⟩, ⟨y0, hy⟩, ⟨z0, hz⟩⟩ := gcd3_dvd x y z
  generalize gcd3 f1 f2 f3 = G at *
  have hWW : 0 < (a * u * u + b * v * v) * (a * u * u + b * v * v) := by
    rcases (by omega : a * u * u + b * v * v < 0 ∨ 0 < a * u * u + b * v * v) with n | n
    · exact Int.mul_pos_of_neg_of_neg n n
    · exact Int.mul_pos n n
  generalize (a * u * u + b * v * v) * (a * u * u + b * v * v) = S at *
  have e := gcd3_mul S x y z
  rw [← b1, ← b2, ← b3, gcd3_mul] at e
  have aG : (G.natAbs : Int) = G := by omega
  have aS : (S.natAbs : Int) = S := by omega
  rw [aG, aS] at e
  generalize gcd3 g1 g2 g3 = g' at *
  generalize gcd3 x y z = g at *
  have hp : 0 < g' := by
    have : 0 < G * g' := by rw [e]; exact Int.mul_pos hWW hg
    rcases (by omega : g' ≤ 0 ∨ 0 < g') with n | n
    · have h1 := Int.mul_nonneg (by omega : 0 ≤ G) (by omega : 0 ≤ -g')
      have e2 : G * -g' = -(G * g') := by grind
      omega
    · exact n
  have one : ∀ {g1 x x0 : Int}, G * g1 = S * x → x = g * x0 → g1 / g' = x / g := fun {g1 x x0} b1 hx => by
    have h1 : G * g1 = G * (g' * x0) := by
      rw [b1, hx]
      have : G * (g' * x0) = (G * g') * x0 := by grind
      rw [this, e]
      grind
    have h2 : g1 = g' * x0 := Int.eq_of_mul_eq_mul_left (by omega) h1
    rw [h2, hx, Int.mul_ediv_cancel_left _ (by omega), Int.mul_ediv_cancel_left _ (by omega)]
  exact ⟨hp, one b1 hx, one b2 hy, one b3 hz⟩
/-- the chord from a point through the direction of another one -/
theorem Ch.two {a b c x y z p q r f1 f2 f3 : Int} (h : Ch a b c x y z (x * r - p * z) (y * r - q * z) f1 f2 f3) (o1 : a * x * x + b * y * y + c * z * z = 0) (o2 : a * p * p + b * q * q + c * r * r = 0) :
    f1 = -2 * z * z * (a * x * p + b * y * q + c * z * r) * p ∧ f2 = -2 * z * z * (a * x * p + b * y * q + c * z * r) * q ∧ f3 = -2 * z * z * (a * x * p + b * y * q + c * z * r) * r := by
  obtain ⟨rfl, rfl, rfl⟩ := h
  have W : a * (x * r - p * z) * (x * r - p * z) + b * (y * r - q * z) * (y * r - q * z) = -2 * r * z * (a * x * p + b * y * q + c * z * r) := by
    have : a * (x * r - p * z) * (x * r - p * z) + b * (y * r - q * z) * (y * r - q * z) = r * r * (a * x * x + b * y * y + c * z * z) + z * z * (a * p * p + b * q * q + c * r * r) - 2 * r * z * (a * x * p + b * y * q + c * z * r) := by grind
    rw [this, o1, o2]; grind
  have T : a * x * (x * r - p * z) + b * y * (y * r - q * z) = -z * (a * x * p + b * y * q + c * z * r) := by
    have : a * x * (x * r - p * z) + b * y * (y * r - q * z) = r * (a * x * x + b * y * y + c * z * z) - z * (a * x * p + b * y * q + c * z * r) := by grind
    rw [this, o1]; grind
  rw [W, T]
  refine ⟨?_, ?_, ?_⟩ <;> grind
theorem two_ne {a b c x y z p q r : Int} (ha : a ≠ 0) (hb : b ≠ 0) (hc : c ≠ 0) (hz : 0 < z) (o1 : a * x * x + b * y * y + c * z * z = 0) (o2 : a * p * p + b * q * q + c * r * r = 0) (hd : ¬ (x * r - p * z = 0 ∧ y * r - q * z = 0)) :
    a * x * p + b * y * q + c * z * r ≠ 0 := by
  intro hB
  have W : a * (x * r - p * z) * (x * r - p * z) + b * (y * r - q * z) * (y * r - q * z) = 0 := by
    have : a * (x * r - p * z) * (x * r - p * z) + b * (y * r - q * z) * (y * r - q * z) = r * r * (a * x * x + b * y * y + c * z * z) + z * z * (a * p * p + b * q * q + c * r * r) - 2 * r * z * (a * x * p + b * y * q + c * z * r) := by grind
    rw [this, o1, o2, hB]; grind
  have T : a * x * (x * r - p * z) + b * y * (y * r - q * z) = 0 := by
    have : a * x * (x * r - p * z) + b * y * (y * r - q * z) = r * (a * x * x + b * y * y + c * z * z) - z * (a * x * p + b * y * q + c * z * r) := by grind
    rw [this, o1, hB]; grind
  generalize x * r - p * z = u at *
  generalize y * r - q * z = v at *
  have uu : a * u * u = -(b * v * v) := by omega
  have xu : a * x * u = -(b * y * v) := by omega
  have key : b * v * v * (a * x * x + b * y * y) = 0 := by
    have h1 : (a * x * u) * (a * x * u) = (b * y * v) * (b * y * v) := by rw [xu]; grind
    have h2 : (a * x * u) * (a * x * u) = (a * x * x) * (a * u * u) := by grind
    have h3 : (a * x * x) * (a * u * u) = -(a * x * x * (b * v * v)) := by rw [uu]; grind
    have h4 : b * v * v * (a * x * x + b * y * y) = a * x * x * (b * v * v) + (b * y * v) * (b * y * v) := by grind
    rw [h4, ← h1, h2, h3]
    grind
  have hv : v ≠ 0 := fun v0 => by
    rw [v0] at uu
    have : a * u * u = 0 := by rw [uu]; grind
    have h1 := Int.mul_eq_zero.mp this
    have h2 : u = 0 := by
      rcases h1 with h1 | h1
      · rcases Int.mul_eq_zero.mp h1 with h3 | h3
        · exact absurd h3 ha
        · exact h3
      · exact h1
    exact hd ⟨h2, v0⟩
  have hbv : b * v * v ≠ 0 := fun e => by
    rcases Int.mul_eq_zero.mp e with h3 | h3
    · rcases Int.mul_eq_zero.mp h3 with h4 | h4
      · exact hb h4
      · exact hv h4
    · exact hv h3
  have hs : a * x * x + b * y * y = 0 := by
    rcases Int.mul_eq_zero.mp key with h3 | h3
    · exact absurd h3 hbv
    · exact h3
  have : c * z * z = 0 := by omega
  rcases Int.mul_eq_zero.mp this with h3 | h3
  · rcases Int.mul_eq_zero.mp h3 with h4 | h4
    · exact hc h4
    · omega
  · omega
end K72

set_option maxRecDepth 100000
set_option maxHeartbeats 1000000
namespace K72
open PySem PySem.Spec PyProof.Rows L2 DD
abbrev t3 (x y z : Int) : D := .tup [.int x, .int y, .int z]
theorem conicB_t3 {a b c : Int} (ha : a ≠ 0 ∧ -1000 ≤ a ∧ a ≤ 1000) (hb : b ≠ 0 ∧ -1000 ≤ b ∧ b ≤ 1000) (hc : c ≠ 0 ∧ -1000 ≤ c ∧ c ≤ 1000) : conicB (t3 a b c) = true := by
  simp [conicB, conE, ha, hb, hc]
theorem cd_t3 {s : Store} {a b c : Int} : Cd s (t3 a b c) := ⟨⟨_, rfl⟩, fun l e _ => by cases e; rfl⟩
theorem pd_t3 {s : Store} {x y z : Int} (hx : -1000000 ≤ x ∧ x ≤ 1000000) (hy : -1000000 ≤ y ∧ y ≤ 1000000) (hz : -1000000 ≤ z ∧ z ≤ 1000000) : Pd s (t3 x y z) := ⟨⟨_, rfl⟩, fun l e _ => by cases e; rfl, fun l i e hi => by
  cases e
  simp at hi
  rcases hi with rfl | rfl | rfl <;> assumption⟩
theorem paper_t3 {a b c x y z : Int} (n : ¬ (x = 0 ∧ y = 0 ∧ z = 0)) (o : a * x * x + b * y * y + c * z * z = 0) : paperB (t3 a b c) (t3 x y z) = true := by
  show (!(decide (x = 0) && (decide (y = 0) && decide (z = 0))) && decide (a * x * x + b * y * y + c * z * z = 0)) = true
  rw [decide_eq_true o]
  simp
  omega
theorem other_t3 {s : Store} {a b c x y z u v p q r : Int} (ha : a ≠ 0 ∧ -1000 ≤ a ∧ a ≤ 1000) (hb : b ≠ 0 ∧ -1000 ≤ b ∧ b ≤ 1000) (hc : c ≠ 0 ∧ -1000 ≤ c ∧ c ≤ 1000) (hx : -1000000 ≤ x ∧ x ≤ 1000000) (hy : -1000000 ≤ y ∧ y ≤ 1000000) (hz : -1000000 ≤ z ∧ z ≤ 1000000)
    (hu : -10000 ≤ u ∧ u ≤ 10000) (hv : -10000 ≤ v ∧ v ≤ 10000) (n : ¬ (x = 0 ∧ y = 0 ∧ z = 0)) (o : a * x * x + b * y * y + c * z * z = 0) (huv : ¬ (u = 0 ∧ v = 0)) (hch : chordL a b x y z u v = [p, q, r]) : F_other_point [t3 a b c, t3 x y z, .int u, .int v] s = .ok (t3 p q r) s := by
  rw [sp_other_point cd_t3 (pd_t3 hx hy hz) ⟨_, rfl⟩ ⟨_, rfl⟩ (fun i hi => by rcases hi with hi | hi <;> cases hi <;> assumption)]
  unfold otherO
  rw [if_pos (conicB_t3 ha hb hc)]
  show (if paperB (t3 a b c) (t3 x y z) = true ∧ ¬ (u = 0 ∧ v = 0) then Out.ok (tupI (chordL a b x y z u v)) s else noConic s) = _
  rw [if_pos ⟨paper_t3 n o, huv⟩, hch]
  rfl
theorem gcdL3 (p q r : Int) : gcdL [p, q, r] = gcd3 p q r := rfl
/-- what the chord's end is -/
structure Fa (a b c x y z u v p q r : Int) : Prop where
  on : a * p * p + b * q * q + c * r * r = 0
  ne : ¬ (p = 0 ∧ q = 0 ∧ r = 0)
  li : u * (y * r - z * q) - v * (x * r - z * p) = 0
theorem nat_le_of_mul {f G p : Int} (hG : 0 < G) (e : f = G * p) : p.natAbs ≤ f.natAbs := by
  rw [e, Int.natAbs_mul]
  exact Nat.le_mul_of_pos_left _ (by omega)
theorem chord_fa {a b c x y z u v : Int} (o : a * x * x + b * y * y + c * z * z = 0) (n : ¬ (x = 0 ∧ y = 0 ∧ z = 0)) : ∃ p q r, chordL a b x y z u v = [p, q, r] ∧ Fa a b c x y z u v p q r ∧
    (p.natAbs ≤ (x * (a * u * u + b * v * v) - 2 * (a * x * u + b * y * v) * u).natAbs + x.natAbs ∧ q.natAbs ≤ (y * (a * u * u + b * v * v) - 2 * (a * x * u + b * y * v) * v).natAbs + y.natAbs ∧ r.natAbs ≤ (z * (a * u * u + b * v * v)).natAbs + z.natAbs) ∧
    (a * u * u + b * v * v ≠ 0 → chordL a b p q r u v = [x / gcd3 x y z, y / gcd3 x y z, z / gcd3 x y z]) := by
  have ch : Ch a b c x y z u v (x * (a * u * u + b * v * v) - 2 * (a * x * u + b * y * v) * u) (y * (a * u * u + b * v * v) - 2 * (a * x * u + b * y * v) * v) (z * (a * u * u + b * v * v)) := ⟨rfl, rfl, rfl⟩
  have h0 : chordL a b x y z u v = if 0 < gcd3 (x * (a * u * u + b * v * v) - 2 * (a * x * u + b * y * v) * u) (y * (a * u * u + b * v * v) - 2 * (a * x * u + b * y * v) * v) (z * (a * u * u + b * v * v)) then
    [(x * (a * u * u + b * v * v) - 2 * (a * x * u + b * y * v) * u) / gcd3 (x * (a * u * u + b * v * v) - 2 * (a * x * u + b * y * v) * u) (y * (a * u * u + b * v * v) - 2 * (a * x * u + b * y * v) * v) (z * (a * u * u + b * v * v)),
     (y * (a * u * u + b * v * v) - 2 * (a * x * u + b * y * v) * v) / gcd3 (x * (a * u * u + b * v * v) - 2 * (a * x * u + b * y * v) * u) (y * (a * u * u + b * v * v) - 2 * (a * x * u + b * y * v) * v) (z * (a * u * u + b * v * v)),
     (z * (a * u * u + b * v * v)) / gcd3 (x * (a * u * u + b * v * v) - 2 * (a * x * u + b * y * v) * u) (y * (a * u * u + b * v * v) - 2 * (a * x * u + b * y * v) * v) (z * (a * u * u + b * v * v))] else [x, y, z] := rfl
  rw [h0]
  clear h0
  generalize x * (a * u * u + b * v * v) - 2 * (a * x * u + b * y * v) * u = f1 at *
  generalize y * (a * u * u + b * v * v) - 2 * (a * x * u + b * y * v) * v = f2 at *
  generalize z * (a * u * u + b * v * v) = f3 at *
  have on := ch.on o
  have li := ch.line
  obtain ⟨d1, d2, d3⟩ := gcd3_dvd f1 f2 f3
  by_cases hG : 0 < gcd3 f1 f2 f3
  · have e1 : f1 = gcd3 f1 f2 f3 * (f1 / gcd3 f1 f2 f3) := (Int.mul_ediv_cancel' d1).symm
    have e2 : f2 = gcd3 f1 f2 f3 * (f2 / gcd3 f1 f2 f3) := (Int.mul_ediv_cancel' d2).symm
    have e3 : f3 = gcd3 f1 f2 f3 * (f3 / gcd3 f1 f2 f3) := (Int.mul_ediv_cancel' d3).symm
    rw [if_pos hG]
    refine ⟨_, _, _, rfl, ⟨?_, ?_, ?_⟩, ?_, fun hW => ?_⟩
    · generalize f1 / gcd3 f1 f2 f3 = p at *
      generalize f2 / gcd3 f1 f2 f3 = q at *
      generalize f3 / gcd3 f1 f2 f3 = r at *
      generalize gcd3 f1 f2 f3 = G at *
      rw [e1, e2, e3] at on
      have : a * (G * p) * (G * p) + b * (G * q) * (G * q) + c * (G * r) * (G * r) = (G * G) * (a * p * p + b * q * q + c * r * r) := by grind
      rw [this] at on
      rcases Int.mul_eq_zero.mp on with z0 | z0
      · have := Int.mul_pos hG hG
        omega
      · exact z0
    · rintro ⟨p0, q0, r0⟩
      rw [p0, Int.mul_zero] at e1
      rw [q0, Int.mul_zero] at e2
      rw [r0, Int.mul_zero] at e3
      rw [gcd3_zero.mpr ⟨e1, e2, e3⟩] at hG
      omega
    · generalize f1 / gcd3 f1 f2 f3 = p at *
      generalize f2 / gcd3 f1 f2 f3 = q at *
      generalize f3 / gcd3 f1 f2 f3 = r at *
      generalize gcd3 f1 f2 f3 = G at *
      rw [e1, e2, e3] at li
      have : u * (y * (G * r) - z * (G * q)) - v * (x * (G * r) - z * (G * p)) = G * (u * (y * r - z * q) - v * (x * r - z * p)) := by grind
      rw [this] at li
      rcases Int.mul_eq_zero.mp li with z0 | z0
      · omega
      · exact z0
    · have n1 := nat_le_of_mul hG e1
      have n2 := nat_le_of_mul hG e2
      have n3 := nat_le_of_mul hG e3
      omega
    · have hm := ch.home n hW e1 e2 e3 (g1 := _) (g2 := _) (g3 := _) ⟨rfl, rfl, rfl⟩
      obtain ⟨m0, m1, m2, m3⟩ := hm
      unfold chordL foL
      rw [gcdL3, if_pos m0, List.map_cons, List.map_cons, List.map_cons, List.map_nil, m1, m2, m3]
  · have z0 : gcd3 f1 f2 f3 = 0 := by have := gcd3_nonneg f1 f2 f3; omega
    rw [if_neg hG]
    refine ⟨_, _, _, rfl, ⟨o, n, by grind⟩, by omega, fun hW => ?_⟩
    exact absurd (gcd3_zero.mp z0) (ch.ne n hW)
theorem small3 {p q r : Int} (hp : p.natAbs ≤ 1000000) (hq : q.natAbs ≤ 1000000) (hr : r.natAbs ≤ 1000000) : SmallI [p, q, r] := fun n hn => by
  simp only [List.mem_cons, List.not_mem_nil, or_false] at hn
  have : (10 : Nat) ^ 20 = 100000000000000000000 := by decide
  rcases hn with rfl | rfl | rfl <;> omega
end K72

set_option maxRecDepth 100000
set_option maxHeartbeats 1000000
namespace K72
open PySem PySem.Spec PyProof.Rows L2 DD
theorem lc_met1 {a0 a1 a2 a3 a4 a5 a6 a7 a8 a9 a10 a11 a12 a14 : Option D} {g x y z : Int} {st0 : Store} (d1 : divOk g = true) (g0 : 0 ≤ g) :
    lcL (fun _ => true) st0.length (nameG 15) yesT le1__law_is_met_right [a0, a1, a2, a3, a4, a5, a6, a7, a8, a9, a10, a11, a12, some (.int g), a14, none] [.int x, .int y, .int z] (st0 ++ [.lst []]) = .ok (.ref st0.length) (st0 ++ [.lst [.int (x / g), .int (y / g), .int (z / g)]]) :=
  lc_map (its := ⟨[.int x, .int y, .int z], []⟩) (fun d => match d with | .int i => .int (i / g) | _ => .non) (fun _ => rfl) (by simp) fun d hd acc => by
    obtain ⟨i, rfl⟩ : ∃ i, d = .int i := by
      simp only [List.mem_cons, List.not_mem_nil, or_false] at hd
      rcases hd with rfl | rfl | rfl <;> exact ⟨_, rfl⟩
    exact ⟨_, rfl, rfl, by simp [le1__law_is_met_right, d1, g0]⟩
theorem lc_met2 {a0 a1 a2 a3 a4 a5 a6 a7 a8 a9 a10 a11 a12 a13 a14 : Option D} {x y z : Int} {st0 : Store} :
    lcL (fun _ => true) st0.length (nameG 15) yesT le2__law_is_met_right [a0, a1, a2, a3, a4, a5, a6, a7, a8, a9, a10, a11, a12, a13, a14, none] [.int x, .int y, .int z] (st0 ++ [.lst []]) = .ok (.ref st0.length) (st0 ++ [.lst [.int (0 - x), .int (0 - y), .int (0 - z)]]) :=
  lc_map (its := ⟨[.int x, .int y, .int z], []⟩) (fun d => match d with | .int i => .int (0 - i) | _ => .non) (fun _ => rfl) (by simp) fun d hd acc => by
    obtain ⟨i, rfl⟩ : ∃ i, d = .int i := by
      simp only [List.mem_cons, List.not_mem_nil, or_false] at hd
      rcases hd with rfl | rfl | rfl <;> exact ⟨_, rfl⟩
    exact ⟨_, rfl, rfl, by simp [le2__law_is_met_right]⟩
theorem met_w1 {s s1 s2 : Store} {h : Nat} {a b c x y z u0 v0 u v p q r : Int} {w : Str} {lp : D} {s4 s5 s6 s7 s8 s9 s10 s11 s12 s13 s14 s15 : Option D} {zz : Bool}
    (eu : F__law_draw [.ref h, .int 11] s = .ok (.int u0) s1) (ev : F__law_draw [.ref h, .int 11] s1 = .ok (.int v0) s2)
    (h00 : eqG false (.tup [.int (u0 - 5), .int (v0 - 5)]) (.tup [.int 0, .int 0]) s2 = .ok (.bl zz) s2) (hu : u = bif zz then 1 else u0 - 5) (hv : v = v0 - 5)
    (ot : F_other_point [t3 a b c, t3 x y z, .int u, .int v] s2 = .ok (t3 p q r) s2)
    (lo : F__law_other [t3 a b c, t3 x y z, .int u, .int v] s2 = .ok (t3 p q r) s2)
    (rp : reprV [t3 p q r] s2 = .ok (.str w) s2)
    (lv : F__law_value [t3 a b c, t3 p q r] s2 = .ok (.int 0) s2)
    (pp : F_is_conic_paper [t3 a b c, .tup [.str "point", t3 p q r]] s2 = .ok (.bl true) s2)
    (li : u * (y * r - z * q) - v * (x * r - z * p) = 0)
    (k1 : ∀ t, mulOk u t = true) (k2 : ∀ t, mulOk v t = true) (k3 : ∀ t, mulOk y t = true) (k4 : ∀ t, mulOk z t = true) (k5 : ∀ t, mulOk x t = true) (k6 : ∀ t, mulOk a t = true) (k7 : ∀ t, mulOk b t = true) (k8 : ∀ t, mulOk t u = true) (k9 : ∀ t, mulOk t v = true)
    (hW : a * u * u + b * v * v = 0) :
    fb1__law_is_met_right [some (.ref h), some (t3 a b c), some (t3 x y z), some lp, s4, s5, s6, s7, s8, s9, s10, s11, s12, s13, s14, s15] s =
      .nx [some (.ref h), some (t3 a b c), some (t3 x y z), some lp, some (.int u), some (.int v), some (t3 p q r), some (.int x), some (.int y), some (.int z), some (.int p), some (.int q), some (.int r), s13, s14, s15] s2 := by
  subst hv
  cases zz
  · simp at hu
    subst hu
    simp [fb1__law_is_met_right, eu, ev, h00, ot, lo, rp, lv, pp, li, k1, k2, k3, k4, k5, k6, k7, k8, k9, hW, isBlF]
  · simp at hu
    subst hu
    simp at li hW
    simp [fb1__law_is_met_right, eu, ev, h00, ot, lo, rp, lv, pp, li, k1, k2, k3, k4, k5, k6, k7, k8, k9, hW, isBlF]
theorem met_w2 {s s1 s2 : Store} {h : Nat} {a b c x y z u0 v0 u v p q r : Int} {w : Str} {lp O N : D} {g : Int} {s4 s5 s6 s7 s8 s9 s10 s11 s12 s13 s14 s15 : Option D} {zz : Bool}
    (eu : F__law_draw [.ref h, .int 11] s = .ok (.int u0) s1) (ev : F__law_draw [.ref h, .int 11] s1 = .ok (.int v0) s2)
    (h00 : eqG false (.tup [.int (u0 - 5), .int (v0 - 5)]) (.tup [.int 0, .int 0]) s2 = .ok (.bl zz) s2) (hu : u = bif zz then 1 else u0 - 5) (hv : v = v0 - 5)
    (ot : F_other_point [t3 a b c, t3 x y z, .int u, .int v] s2 = .ok (t3 p q r) s2)
    (lo : F__law_other [t3 a b c, t3 x y z, .int u, .int v] s2 = .ok (t3 p q r) s2)
    (rp : reprV [t3 p q r] s2 = .ok (.str w) s2)
    (lv : F__law_value [t3 a b c, t3 p q r] s2 = .ok (.int 0) s2)
    (pp : F_is_conic_paper [t3 a b c, .tup [.str "point", t3 p q r]] s2 = .ok (.bl true) s2)
    (li : u * (y * r - z * q) - v * (x * r - z * p) = 0)
    (k1 : ∀ t, mulOk u t = true) (k2 : ∀ t, mulOk v t = true) (k3 : ∀ t, mulOk y t = true) (k4 : ∀ t, mulOk z t = true) (k5 : ∀ t, mulOk x t = true) (k6 : ∀ t, mulOk a t = true) (k7 : ∀ t, mulOk b t = true) (k8 : ∀ t, mulOk t u = true) (k9 : ∀ t, mulOk t v = true)
    (hW : a * u * u + b * v * v ≠ 0)
    (ld : F__law_divisor [t3 x y z] s2 = .ok (.int g) s2)
        (d1 : divOk g = true) (g0 : 0 ≤ g)
    (ob : ∀ s, F_other_point [t3 a b c, t3 p q r, .int u, .int v] s = .ok O s)
    (hin : ∀ s, inV true O (.tup [.tup [.int (x / g), .int (y / g), .int (z / g)], .tup [.int (-(x / g)), .int (-(y / g)), .int (-(z / g))]]) s = .ok (.bl false) s) :
    fb1__law_is_met_right [some (.ref h), some (t3 a b c), some (t3 x y z), some lp, s4, s5, s6, s7, s8, s9, s10, s11, s12, s13, s14, s15] s =
      .nx [some (.ref h), some (t3 a b c), some (t3 x y z), some lp, some (.int u), some (.int v), some (t3 p q r), some (.int x), some (.int y), some (.int z), some (.int p), some (.int q), some (.int r), some (.int g), some (t3 (x / g) (y / g) (z / g)), s15] (s2 ++ [.lst [.int (x / g), .int (y / g), .int (z / g)]] ++ [.lst [.int (-(x / g)), .int (-(y / g)), .int (-(z / g))]]) := by
  subst hv
  cases zz
  · simp at hu
    subst hu
    simp [fb1__law_is_met_right, eu, ev, h00, ot, lo, rp, lv, pp, li, k1, k2, k3, k4, k5, k6, k7, k8, k9, hW, isBlF, ld, ob, hin, wipeL, lc_met1 d1 g0, lc_met2, tupleV, -List.append_assoc, -List.length_append]
  · simp at hu
    subst hu
    simp at li hW
    simp [fb1__law_is_met_right, eu, ev, h00, ot, lo, rp, lv, pp, li, k1, k2, k3, k4, k5, k6, k7, k8, k9, hW, isBlF, ld, ob, hin, wipeL, lc_met1 d1 g0, lc_met2, tupleV, -List.append_assoc, -List.length_append]
theorem sub_bd {A B : Int} {m n : Nat} (h1 : A.natAbs ≤ m) (h2 : B.natAbs ≤ n) : (A - B).natAbs ≤ m + n := by omega
theorem add_bd {A B : Int} {m n : Nat} (h1 : A.natAbs ≤ m) (h2 : B.natAbs ≤ n) : (A + B).natAbs ≤ m + n := by omega
theorem nat_bd {p : Int} (h : p.natAbs ≤ 1000000) : -1000000 ≤ p ∧ p ≤ 1000000 := by omega
theorem lt_a {g : Int} (h : 0 ≤ g) : -18446744073709551616 < g := by omega
theorem lt_b {g x y z : Int} (h : g ≤ x.natAbs + y.natAbs + z.natAbs) (hx : x.natAbs ≤ 9) (hy : y.natAbs ≤ 9) (hz : z.natAbs ≤ 9) : g < 18446744073709551616 := by omega
theorem met_bd {a b x y z u v p q r : Int} (ha : a.natAbs ≤ 60) (hb : b.natAbs ≤ 60) (hx : x.natAbs ≤ 9) (hy : y.natAbs ≤ 9) (hz : z.natAbs ≤ 9) (hu : u.natAbs ≤ 5) (hv : v.natAbs ≤ 5)
    (h : p.natAbs ≤ (x * (a * u * u + b * v * v) - 2 * (a * x * u + b * y * v) * u).natAbs + x.natAbs ∧ q.natAbs ≤ (y * (a * u * u + b * v * v) - 2 * (a * x * u + b * y * v) * v).natAbs + y.natAbs ∧ r.natAbs ≤ (z * (a * u * u + b * v * v)).natAbs + z.natAbs) :
    p.natAbs ≤ 1000000 ∧ q.natAbs ≤ 1000000 ∧ r.natAbs ≤ 1000000 := by
  have bW : (a * u * u + b * v * v).natAbs ≤ 60 * 5 * 5 + 60 * 5 * 5 := add_bd (mul_bd (mul_bd ha hu) hu) (mul_bd (mul_bd hb hv) hv)
  have bT : (a * x * u + b * y * v).natAbs ≤ 60 * 9 * 5 + 60 * 9 * 5 := add_bd (mul_bd (mul_bd ha hx) hu) (mul_bd (mul_bd hb hy) hv)
  have p1 := sub_bd (mul_bd hx bW) (mul_bd (mul_bd (a := 2) (A := 2) (by decide) bT) hu)
  have p2 := sub_bd (mul_bd hy bW) (mul_bd (mul_bd (a := 2) (A := 2) (by decide) bT) hv)
  have p3 := mul_bd hz bW
  exact ⟨Nat.le_trans h.1 (Nat.le_trans (Nat.add_le_add p1 hx) (by decide)), Nat.le_trans h.2.1 (Nat.le_trans (Nat.add_le_add p2 hy) (by decide)), Nat.le_trans h.2.2 (Nat.le_trans (Nat.add_le_add p3 hz) (by decide))⟩
theorem met_body {st s : Store} {h : Nat} {hd : Hd} {a b c x y z : Int} {lp : D} {s4 s5 s6 s7 s8 s9 s10 s11 s12 s13 s14 s15 : Option D} (w : Wp a b c x y z) (hs : HS st h hd s) :
    ∃ l4 l5 l6 l7 l8 l9 l10 l11 l12 l13 l14 l15 hd' s', fb1__law_is_met_right [some (.ref h), some (t3 a b c), some (t3 x y z), some lp, s4, s5, s6, s7, s8, s9, s10, s11, s12, s13, s14, s15] s =
      .nx [some (.ref h), some (t3 a b c), some (t3 x y z), some lp, l4, l5, l6, l7, l8, l9, l10, l11, l12, l13, l14, l15] s' ∧ HS st h hd' s' := by
  obtain ⟨u0, hd1, s1, u0l, u0h, eu, x1⟩ := draw_hs (m := 11) hs (by omega) (by omega)
  obtain ⟨v0, hd2, s2, v0l, v0h, ev, x2⟩ := draw_hs (m := 11) x1 (by omega) (by omega)
  have h00 := eqG_00 (st := s2) (u0 - 5) (v0 - 5)
  obtain ⟨zz, hzz⟩ : ∃ zz : Bool, zz = decide (u0 - 5 = 0 ∧ v0 - 5 = 0) := ⟨_, rfl⟩
  rw [← hzz] at h00
  simp only [tupI, List.map_cons, List.map_nil] at h00
  obtain ⟨u, hu⟩ : ∃ u : Int, u = bif zz then 1 else u0 - 5 := ⟨_, rfl⟩
  have hub : -5 ≤ u ∧ u ≤ 5 := by cases zz <;> simp at hu <;> omega
  obtain ⟨v, hv⟩ : ∃ v : Int, v = v0 - 5 := ⟨_, rfl⟩
  have hvb : -5 ≤ v ∧ v ≤ 5 := by omega
  have huv : ¬ (u = 0 ∧ v = 0) := by
    cases zz
    · have := of_decide_eq_false hzz.symm
      simp at hu
      omega
    · simp at hu
      omega
  obtain ⟨wa, wb, wc, wx, wy, wz, wn, wo⟩ := id w
  have k1 : ∀ t, mulOk u t = true := fun t => mulOk_l (by omega) (by omega)
  have k2 : ∀ t, mulOk v t = true := fun t => mulOk_l (by omega) (by omega)
  have k3 : ∀ t, mulOk y t = true := fun t => mulOk_l (by omega) (by omega)
  have k4 : ∀ t, mulOk z t = true := fun t => mulOk_l (by omega) (by omega)
  have k5 : ∀ t, mulOk x t = true := fun t => mulOk_l (by omega) (by omega)
  have k6 : ∀ t, mulOk a t = true := fun t => mulOk_l (by omega) (by omega)
  have k7 : ∀ t, mulOk b t = true := fun t => mulOk_l (by omega) (by omega)
  have k8 : ∀ t, mulOk t u = true := fun t => mulOk_r (by omega) (by omega)
  have k9 : ∀ t, mulOk t v = true := fun t => mulOk_r (by omega) (by omega)
  have Na : a.natAbs ≤ 60 := by omega
  have Nb : b.natAbs ≤ 60 := by omega
  have Nx : x.natAbs ≤ 9 := by omega
  have Ny : y.natAbs ≤ 9 := by omega
  have Nz : z.natAbs ≤ 9 := by omega
  have Nu : u.natAbs ≤ 5 := by omega
  have Nv : v.natAbs ≤ 5 := by omega
  have Ba : -1000 ≤ a ∧ a ≤ 1000 := by omega
  have Bb : -1000 ≤ b ∧ b ≤ 1000 := by omega
  have Bc : -1000 ≤ c ∧ c ≤ 1000 := by omega
  have Bx : -1000000 ≤ x ∧ x ≤ 1000000 := by omega
  have By : -1000000 ≤ y ∧ y ≤ 1000000 := by omega
  have Bz : -1000000 ≤ z ∧ z ≤ 1000000 := by omega
  have Bu : -10000 ≤ u ∧ u ≤ 10000 := by omega
  have Bv : -10000 ≤ v ∧ v ≤ 10000 := by omega
  have BD : Bd a b x y z u v := ⟨by omega, by omega, by omega, by omega, by omega, by omega, by omega⟩
  obtain ⟨p, q, r, hch, fa, ⟨bp, bq, br⟩, hback⟩ := chord_fa (u := u) (v := v) wo wn
  obtain ⟨hp, hq, hr⟩ := met_bd Na Nb Nx Ny Nz Nu Nv ⟨bp, bq, br⟩
  clear bp bq br
  have Bp : -1000000 ≤ p ∧ p ≤ 1000000 := nat_bd hp
  have Bq : -1000000 ≤ q ∧ q ≤ 1000000 := nat_bd hq
  have Br : -1000000 ≤ r ∧ r ≤ 1000000 := nat_bd hr
  have ot : ∀ s, F_other_point [t3 a b c, t3 x y z, .int u, .int v] s = .ok (t3 p q r) s := fun s => other_t3 ⟨wa.1, Ba⟩ ⟨wb.1, Bb⟩ ⟨wc.1, Bc⟩ Bx By Bz Bu Bv wn wo huv hch
  have lo : ∀ s, F__law_other [t3 a b c, t3 x y z, .int u, .int v] s = .ok (t3 p q r) s := fun s => by
    have := sp_law_other (st := s) (c := c) BD
    rw [hch] at this
    exact this
  have rp : ∀ s, reprV [t3 p q r] s = .ok (.str (PyData.shown (.tuple ([p, q, r].map PyData.int)))) s := fun s => repr_tupI (small3 hp hq hr) (by simp)
  have lv : ∀ s, F__law_value [t3 a b c, t3 p q r] s = .ok (.int 0) s := fun s => by
    have := sp_law_value (st := s) (a := a) (b := b) (c := c) (x := p) (y := q) (z := r) Ba Bb Bc Bp Bq Br
    rw [fa.on] at this
    exact this
  have pp : ∀ s, F_is_conic_paper [t3 a b c, .tup [.str "point", t3 p q r]] s = .ok (.bl true) s := fun s => by
    rw [sp_is_conic_paper cd_t3 (pd_t3 Bp Bq Br), if_pos (conicB_t3 ⟨wa.1, Ba⟩ ⟨wb.1, Bb⟩ ⟨wc.1, Bc⟩), paper_t3 fa.ne fa.on]
  have li := fa.li
  by_cases hW : a * u * u + b * v * v = 0
  · exact ⟨_, _, _, _, _, _, _, _, _, _, _, _, hd2, s2, met_w1 eu ev h00 hu hv (ot s2) (lo s2) (rp s2) (lv s2) (pp s2) li k1 k2 k3 k4 k5 k6 k7 k8 k9 hW, x2⟩
  · have g0 := gcd3_nonneg x y z
    have gn : gcd3 x y z ≠ 0 := fun e => wn (gcd3_zero.mp e)
    have gl : gcd3 x y z ≤ x.natAbs + y.natAbs + z.natAbs := gcdL3_le x y z
    have d1 : divOk (gcd3 x y z) = true := divOk_small gn (lt_a g0) (lt_b gl Nx Ny Nz)
    have ld : ∀ s, F__law_divisor [t3 x y z] s = .ok (.int (gcd3 x y z)) s := fun s => sp_law_divisor [x, y, z] s
    have ob : ∀ s, F_other_point [t3 a b c, t3 p q r, .int u, .int v] s = .ok (t3 (x / gcd3 x y z) (y / gcd3 x y z) (z / gcd3 x y z)) s := fun s =>
      other_t3 ⟨wa.1, Ba⟩ ⟨wb.1, Bb⟩ ⟨wc.1, Bc⟩ Bp Bq Br Bu Bv fa.ne fa.on huv (hback hW)
    have hin : ∀ s, inV true (t3 (x / gcd3 x y z) (y / gcd3 x y z) (z / gcd3 x y z)) (.tup [.tup [.int (x / gcd3 x y z), .int (y / gcd3 x y z), .int (z / gcd3 x y z)], .tup [.int (-(x / gcd3 x y z)), .int (-(y / gcd3 x y z)), .int (-(z / gcd3 x y z))]]) s = .ok (.bl false) s := fun s => by
      exact (in_two (b := true) (st := s) [x / gcd3 x y z, y / gcd3 x y z, z / gcd3 x y z] [x / gcd3 x y z, y / gcd3 x y z, z / gcd3 x y z] [-(x / gcd3 x y z), -(y / gcd3 x y z), -(z / gcd3 x y z)]).trans (by simp)
    exact ⟨_, _, _, _, _, _, _, _, _, _, _, _, hd2, _, met_w2 (O := t3 (x / gcd3 x y z) (y / gcd3 x y z) (z / gcd3 x y z)) (N := .non) eu ev h00 hu hv (ot s2) (lo s2) (rp s2) (lv s2) (pp s2) li k1 k2 k3 k4 k5 k6 k7 k8 k9 hW (ld s2) d1 g0 ob hin, x2.app.app⟩
end K72

set_option maxRecDepth 100000
set_option maxHeartbeats 1000000
namespace K72
open PySem PySem.Spec PyProof.Rows L2 DD
theorem sp_law_is_met_right {st : Store} {h : Nat} {hd : Hd} {a b c x y z : Int} (e : st[h]? = some hd.cell) (w : Wp a b c x y z) : ∃ hd', F__law_is_met_right [.ref h, tupI [a, b, c], tupI [x, y, z]] st = .ok (.bl true) (st.set h (Hd.cell hd')) := by
  have key : Good__law_is_met_right [.ref h, tupI [a, b, c], tupI [x, y, z]] st (F__law_is_met_right [.ref h, tupI [a, b, c], tupI [x, y, z]] st) := by
    have hr := rng1_eq (fr := consA (litD (.int 6)) nilA) (ls := [some (.ref h), some (t3 a b c), some (t3 x y z), none, none, none, none, none, none, none, none, none, none, none, none, none]) (st := st) (st1 := st) (j := 6) (by simp) (by omega) (by omega)
    obtain ⟨ls', s2, k1, l3, l4, l5, l6, l7, l8, l9, l10, l11, l12, l13, l14, l15, hd2, rfl, x2⟩ := for_inv (ok := fun _ => true) (g := nameG 3) (b := fb1__law_is_met_right) (fun ls s => ∃ l3 l4 l5 l6 l7 l8 l9 l10 l11 l12 l13 l14 l15 hd', ls = [some (.ref h), some (t3 a b c), some (t3 x y z), l3, l4, l5, l6, l7, l8, l9, l10, l11, l12, l13, l14, l15] ∧ HS st h hd' s)
      (fun _ _ _ => rfl) (rangeL 0 (6 : Int).toNat) [some (.ref h), some (t3 a b c), some (t3 x y z), none, none, none, none, none, none, none, none, none, none, none, none, none] st ⟨_, _, _, _, _, _, _, _, _, _, _, _, _, hd, rfl, HS.refl e⟩ (fun d hdm ls s ⟨l3, l4, l5, l6, l7, l8, l9, l10, l11, l12, l13, l14, l15, hd', e1, x⟩ => by
        subst e1
        obtain ⟨m4, m5, m6, m7, m8, m9, m10, m11, m12, m13, m14, m15, hd2, s', e2, x'⟩ := met_body (lp := d) (s4 := l4) (s5 := l5) (s6 := l6) (s7 := l7) (s8 := l8) (s9 := l9) (s10 := l10) (s11 := l11) (s12 := l12) (s13 := l13) (s14 := l14) (s15 := l15) w x
        exact ⟨_, _, _, _, rfl, .inl e2, _, _, _, _, _, _, _, _, _, _, _, _, _, hd2, rfl, x'⟩)
    refine viaF_good (o := .ok (.bl true) (st.set h hd2.cell)) ⟨h, hd, a, b, c, x, y, z, rfl, e, w, hd2, rfl⟩ fun l1 _ => ?_
    simp at k1
    simp [g__law_is_met_right, tupI, hr, k1]
    exact x2.pk l1 rfl
  obtain ⟨h', hd', a', b', c', x', y', z', q, _, _, hd2, eo⟩ := key
  simp [tupI] at q
  obtain ⟨rfl, ⟨rfl, rfl, rfl⟩, rfl, rfl, rfl⟩ := q
  exact ⟨hd2, eo⟩
end K72

set_option maxRecDepth 100000
set_option maxHeartbeats 1000000
namespace K72
open PySem PySem.Spec PyProof.Rows L2 DD
theorem cat_c : catF ⟨"NoConic", []⟩ = some true := by decide
theorem cat_f : catF ⟨"NoFraction", []⟩ = some true := by decide
theorem kcc : kT "NoConic" "NoConic" = true := by decide
theorem kcf : kT "NoConic" "NoFraction" = false := by decide
theorem kcv : kT "NoConic" "ValueError" = true := by decide
theorem kfc : kT "NoFraction" "NoConic" = false := by decide
theorem kff : kT "NoFraction" "NoFraction" = true := by decide
theorem kfv : kT "NoFraction" "ValueError" = true := by decide
theorem wsC {st : Store} : wordS (noConic st) = "conic" := rfl
theorem wsF {st : Store} : wordS (noFraction st) = "most" := rfl
theorem ne_bl {x y : Bool} {st : Store} : eqF true (.bl x) (.bl y) st = .ok (.bl (x != y)) st := by
  show (if SeqAt.shaped (PyData.bool x) = true ∧ SeqAt.shaped (PyData.bool y) = true then Out.ok (D.bl (!PyData.eqv (.bool x) (.bool y))) st else .bad) = _
  rw [if_pos ⟨rfl, rfl⟩]
  cases x <;> cases y <;> rfl
theorem tryD_as {i : Nat} {cat : Exc → Option Bool} {b : LS → Store → SO} {g : Exc → Addr → LS → Store → SO} {ls ls1 : LS} {st st1 : Store} {e : Exc} {r : SO} (hb : b ls st = .ex e ls1 st1) (hc : cat e = some true) (hg : ∀ a, unS i (g e a (setL ls1 i (.adr a)) st1) = r) : tryD i cat b g ls st = r := by
  unfold tryD
  rw [hb]
  simp only [hc]
  rw [if_pos fun a => by rw [hg a, hg 0]]
  exact hg 0
theorem tryD_nx {i : Nat} {cat : Exc → Option Bool} {b : LS → Store → SO} {g : Exc → Addr → LS → Store → SO} {ls ls1 : LS} {st st1 : Store} (hb : b ls st = .nx ls1 st1) : tryD i cat b g ls st = .nx ls1 st1 := by
  unfold tryD
  rw [hb]
theorem word_parts : ∃ B G, g__law_word = seqD (asgD (litD (.str "let")) (nameG 3)) (seqD (tryD 4 catF B G) (retD (varD 3))) ∧
    (∀ (d e : D) (st : Store), B [some (.int 0), some d, some (.tup [e]), some (.str "let"), none] st = ofE (F_small_points [d, e] st) [some (.int 0), some d, some (.tup [e]), some (.str "let"), none] fun _ st1 => .nx [some (.int 0), some d, some (.tup [e]), some (.str "let"), none] st1) ∧
    (∀ (d e u v : D) (st : Store), B [some (.int 1), some d, some (.tup [e, u, v]), some (.str "let"), none] st = ofE (F_other_point [d, e, u, v] st) [some (.int 1), some d, some (.tup [e, u, v]), some (.str "let"), none] fun _ st1 => .nx [some (.int 1), some d, some (.tup [e, u, v]), some (.str "let"), none] st1) ∧
    (∀ (a : Addr) (s1 s2 s3 : Option D) (x : D) (st : Store), unS 4 (G ⟨"NoConic", []⟩ a [s1, s2, s3, some x, some (.adr a)] st) = .nx [s1, s2, s3, some (.str "conic"), none] st) ∧
    ∀ (a : Addr) (s1 s2 s3 : Option D) (x : D) (st : Store), unS 4 (G ⟨"NoFraction", []⟩ a [s1, s2, s3, some x, some (.adr a)] st) = .nx [s1, s2, s3, some (.str "most"), none] st := by
  refine ⟨_, _, rfl, fun d e st => ?_, fun d e u v st => ?_, fun a s1 s2 s3 x st => ?_, fun a s1 s2 s3 x st => ?_⟩
  · simp
  · simp
  · simp [kcc, kcf, kcv, isED, unS, ne_bl]
  · simp [kfc, kff, kfv, isED, unS, ne_bl]
theorem word_run {ds : List D} {st : Store} {o : Out D} (hB : ∀ B G, g__law_word = seqD (asgD (litD (.str "let")) (nameG 3)) (seqD (tryD 4 catF B G) (retD (varD 3))) →
      (∀ (d e : D) (st : Store), B [some (.int 0), some d, some (.tup [e]), some (.str "let"), none] st = ofE (F_small_points [d, e] st) [some (.int 0), some d, some (.tup [e]), some (.str "let"), none] fun _ st1 => .nx [some (.int 0), some d, some (.tup [e]), some (.str "let"), none] st1) →
      (∀ (d e u v : D) (st : Store), B [some (.int 1), some d, some (.tup [e, u, v]), some (.str "let"), none] st = ofE (F_other_point [d, e, u, v] st) [some (.int 1), some d, some (.tup [e, u, v]), some (.str "let"), none] fun _ st1 => .nx [some (.int 1), some d, some (.tup [e, u, v]), some (.str "let"), none] st1) →
      ∃ ls, startD 5 ds = ls ++ [none, none] ∧ ls.length = 3 ∧ B (ls ++ [some (.str "let"), none]) st = ofE o (ls ++ [some (.str "let"), none]) fun _ st1 => .nx (ls ++ [some (.str "let"), none]) st1)
    (ho : (∃ v g, o = .ok v (st ++ g)) ∨ o = noConic st ∨ o = noFraction st) (h1 : ltS st.length st = true) : Pk st.length (endO (g__law_word (startD 5 ds) st)) (.ok (.str (wordS o)) st) := by
  obtain ⟨B, G, e0, e1, e2, e3, e4⟩ := word_parts
  obtain ⟨ls, q, ql, hb⟩ := hB B G e0 e1 e2
  obtain ⟨a, b, c, rfl⟩ : ∃ a b c, ls = [a, b, c] := by
    match ls, ql with
    | [a, b, c], _ => exact ⟨a, b, c, rfl⟩
  rw [e0, q]
  rcases ho with ⟨v, g, rfl⟩ | rfl | rfl
  · have t := tryD_nx (i := 4) (cat := catF) (g := G) hb
    simp at t
    simp [t, wordS]
    exact Pk.dropG g h1 rfl
  · have t := tryD_as (i := 4) (cat := catF) (g := G) hb cat_c (fun x => e3 x a b c _ st)
    simp at t
    refine Pk.of_eq ?_
    rw [wsC]
    simp [t]
  · have t := tryD_as (i := 4) (cat := catF) (g := G) hb cat_f (fun x => e4 x a b c _ st)
    simp at t
    refine Pk.of_eq ?_
    rw [wsF]
    simp [t]
theorem word_small {st : Store} {d e : D} (hd : Cd st d) (he : ∃ t, tyD st e = some t) : F__law_word [.int 0, d, .tup [e]] st = .ok (.str (wordS (smallO d e st))) st := by
  refine viaF_eq (.inl ⟨d, e, rfl, hd, he, rfl⟩) (fun o' h' => ?_) fun h1 h2 => ?_
  · rcases h' with ⟨d', e', q, _, _, eo⟩ | ⟨d', e', u', v', q, _⟩
    · cases q; exact eo
    · cases q
  · refine word_run (fun B G _ e1 _ => ⟨[some (.int 0), some d, some (.tup [e])], rfl, rfl, (e1 d e st).trans (by rw [sp_small_points hd he]; rfl)⟩) ?_ h1
    unfold smallO
    split
    · split
      · split
        · exact .inl ⟨_, _, rfl⟩
        · exact .inr (.inr rfl)
      · exact .inr (.inr rfl)
    · exact .inr (.inl rfl)
theorem word_other {st : Store} {d e u v : D} (hd : Cd st d) (he : Pd st e) (hu : ∃ t, tyD st u = some t) (hv : ∃ t, tyD st v = some t) (hs : ∀ i, u = .int i ∨ v = .int i → -10000 ≤ i ∧ i ≤ 10000) : F__law_word [.int 1, d, .tup [e, u, v]] st = .ok (.str (wordS (otherO d e u v st))) st := by
  refine viaF_eq (.inr ⟨d, e, u, v, rfl, hd, he, hu, hv, hs, rfl⟩) (fun o' h' => ?_) fun h1 h2 => ?_
  · rcases h' with ⟨d', e', q, _⟩ | ⟨d', e', u', v', q, _, _, _, _, _, eo⟩
    · cases q
    · cases q; exact eo
  · refine word_run (fun B G _ _ e2 => ⟨[some (.int 1), some d, some (.tup [e, u, v])], rfl, rfl, (e2 d e u v st).trans (by rw [sp_other_point hd he hu hv hs]; rfl)⟩) ?_ h1
    unfold otherO
    split
    · split
      · split
        · exact .inl ⟨_, [], by rw [List.append_nil]⟩
        · exact .inr (.inl rfl)
      · exact .inr (.inl rfl)
    · exact .inr (.inl rfl)
end K72

set_option maxRecDepth 100000
set_option maxHeartbeats 1000000
namespace K72
open PySem PySem.Spec PyProof.Rows L2 DD
theorem any_keep {st s g : Store} {h n : Nat} {hd : Hd} {l : List D} (x : HS st h hd s) (hn : n = s.length + g.length) (h0 : 0 < l.length) (h1 : l.length < 1000000) :
    ∃ y hd' s', y ∈ l ∧ F__law_any [.ref h, .ref n] (s ++ (g ++ [.lst l])) = .ok y s' ∧ HS st h hd' s' ∧ ∀ (k : Nat) (c : Cell), k ≠ h → (s ++ g)[k]? = some c → s'[k]? = some c := by
  subst hn
  have x' : HS st h hd (s ++ g) := x.app
  have e : s ++ (g ++ [Cell.lst l]) = (s ++ g) ++ [Cell.lst l] := (List.append_assoc _ _ _).symm
  have hne : h ≠ s.length + g.length := by have := x'.ne; rwa [List.length_append] at this
  obtain ⟨y, hd', hy, e1⟩ := sp_law_any (st := (s ++ g) ++ [.lst l]) (n := s.length + g.length) (l := l) hne (x'.app (g := [.lst l])).get (by rw [← List.length_append]; exact get_new) h0 h1
  refine ⟨y, hd', _, hy, by rw [e, e1], (x'.app (g := [.lst l])).set, fun k c hk hc => ?_⟩
  rw [List.getElem?_set_ne (Ne.symm hk), List.getElem?_append_left (List.getElem?_eq_some_iff.mp hc).1]
  exact hc
def badL (n m : Nat) : List D := [.non, .tup [.int 1, .int 1], .tup [.int 1, .int 1, .int 0], .tup [.int 1, .int 1, .int 1001], .ref n, .tup [.int 1, .int 1, .bl true], .int 0, .ref m]
def noneL : List D := [.int 0, .int 61, .int (-1), .non, .bl true, .str "5", .tup [.int 5], .int 1000000000]
def oddL (n : Nat) : List D := [.non, .tup [.int 1, .int 1, .int 2], .tup [.int 0, .int 0, .int 0], .ref n, .tup [.int 1, .int 1], .tup [.int 1, .int 1, .bl true], .int 0]
def pairL : List D := [.tup [.int 0, .int 0], .tup [.int 1, .non], .tup [.bl true, .int 1], .tup [.str "1", .int 2], .tup [.int 1, .tup [.int 1]]]
theorem bad_cd {s : Store} {n m : Nat} {d : D} {l : List D} {k : List (Key × D)} (hd : d ∈ badL n m) (hn : s[n]? = some (.lst l)) (hm : s[m]? = some (.dic k)) : Cd s d ∧ conicB d = false := by
  simp only [badL, List.mem_cons, List.not_mem_nil, or_false] at hd
  rcases hd with rfl | rfl | rfl | rfl | rfl | rfl | rfl | rfl <;> refine ⟨⟨?_, fun l' e hl => ?_⟩, by first | rfl | decide⟩ <;> first
    | exact ⟨_, rfl⟩
    | (simp [tyD, hn]; done)
    | (simp [tyD, hm]; done)
    | cases e <;> first | rfl | (simp at hl; done)
theorem none_ty {s : Store} {d : D} (hd : d ∈ noneL) : (∃ t, tyD s d = some t) ∧ smallO (t3 1 1 (-2)) d s = noFraction s := by
  simp only [noneL, List.mem_cons, List.not_mem_nil, or_false] at hd
  rcases hd with rfl | rfl | rfl | rfl | rfl | rfl | rfl | rfl <;> exact ⟨⟨_, rfl⟩, by unfold smallO; rw [if_pos (by decide)]; try simp⟩
theorem odd_pd {s : Store} {n : Nat} {d : D} {l : List D} (hd : d ∈ oddL n) (hn : s[n]? = some (.lst l)) : Pd s d ∧ otherO (t3 1 1 (-2)) d (.int 1) (.int 0) s = noConic s := by
  simp only [oddL, List.mem_cons, List.not_mem_nil, or_false] at hd
  rcases hd with rfl | rfl | rfl | rfl | rfl | rfl | rfl <;> refine ⟨⟨?_, fun l' e hl => ?_, fun l' i e hi => ?_⟩, by unfold otherO; rw [if_pos (by decide)]; try (first | rfl | (simp [paperB]; done))⟩ <;> first
    | exact ⟨_, rfl⟩
    | (simp [tyD, hn]; done)
    | (cases e; first | rfl | (simp at hl; done) | (simp at hi; omega))
    | cases e
def arg : D → Option (D × D)
  | .tup [u, v] => some (u, v)
  | _ => none
theorem pair_ok {s : Store} {d : D} (hd : d ∈ pairL) : ∃ u v, d = .tup [u, v] ∧ (∃ t, tyD s u = some t) ∧ (∃ t, tyD s v = some t) ∧ (∀ i, u = .int i ∨ v = .int i → -10000 ≤ i ∧ i ≤ 10000) ∧ otherO (t3 1 1 (-2)) (t3 1 1 1) u v s = noConic s := by
  simp only [pairL, List.mem_cons, List.not_mem_nil, or_false] at hd
  rcases hd with rfl | rfl | rfl | rfl | rfl <;> exact ⟨_, _, rfl, ⟨_, rfl⟩, ⟨_, rfl⟩, fun i hi => by
    rcases hi with hi | hi <;> cases hi <;> omega, by unfold otherO; rw [if_pos (by decide)]; try (first | rfl | (simp [paperB]; done))⟩
theorem let_ok {s : Store} : wordS (smallO (t3 1 1 (-2)) (.int 60) s) = "let" := by
  unfold smallO
  rw [if_pos (by decide)]
  simp [wordS]
theorem one_cd {s : Store} : Cd s (t3 1 1 (-2)) := ⟨⟨_, rfl⟩, fun l e _ => by cases e; rfl⟩
theorem pt_pd {s : Store} : Pd s (t3 1 1 1) := pd_t3 (by omega) (by omega) (by omega)
theorem cat_ref {st : Store} {n m : Nat} {l k : List D} (h : st[n]? = some (.lst l)) (h' : st[m]? = some (.lst k)) (hl : l.length + k.length ≤ 16777216) : addV (.ref n) (.ref m) st = .ok (.ref st.length) (st ++ [.lst (l ++ k)]) := by
  show catL (.ref n) (.ref m) st = _
  unfold catL
  rw [show lstOf st (.ref n) = some l by simp [lstOf, h], show lstOf st (.ref m) = some k by simp [lstOf, h']]
  simp only [if_pos hl]
theorem eq_words {st : Store} {n m : Nat} {a b c d e f : Str} (ok : PyData.strOk a = true ∧ PyData.strOk b = true ∧ PyData.strOk c = true ∧ PyData.strOk d = true ∧ PyData.strOk e = true ∧ PyData.strOk f = true) (h : st[n]? = some (.lst [.str a, .str b, .str c, .str d, .str e, .str f])) (h' : st[m]? = some (.lst [.str a, .str b, .str c, .str d, .str e, .str f])) : eqF false (.ref n) (.ref m) st = .ok (.bl true) st := by
  have t : ∀ k, st[k]? = some (.lst [.str a, .str b, .str c, .str d, .str e, .str f]) → toP st 60 (.ref k) = some (.list [.str a, .str b, .str c, .str d, .str e, .str f]) := fun k hk => by
    rw [toP]
    simp only [hk]
    rfl
  show eqG false (.ref n) (.ref m) st = _
  unfold eqG
  rw [t n h, t m h']
  have hs : SeqAt.shaped (.list [.str a, .str b, .str c, .str d, .str e, .str f]) = true := by simp [SeqAt.shaped, PyData.canLay0, PyData.canLayAll0, PyData.depth, PyData.depthAll, ok]
  simp only [hs, and_self, if_true]
  simp [PyData.eqv, PyData.eqvAll]
theorem sp_law_are_refused {st : Store} {h : Nat} {hd : Hd} (e : st[h]? = some hd.cell) : ∃ hd', F__law_are_refused [.ref h] st = .ok (.bl true) (st.set h (Hd.cell hd')) := by
  have key : Good__law_are_refused [.ref h] st (F__law_are_refused [.ref h] st) := by
    have hl := (List.getElem?_eq_some_iff.mp e).1
    obtain ⟨bad, hd1, s1, hbad, e1, x1, c1⟩ := any_keep (g := [.lst [.int 1, .int 1, .int (-2)], .dic []]) (l := badL st.length (st.length + 1)) (n := st.length + 2) (HS.refl e) (by simp) (by simp [badL]) (by simp [badL])
    have k1 := c1 st.length (.lst [.int 1, .int 1, .int (-2)]) (by omega) (by simp)
    have k2 := c1 (st.length + 1) (.dic []) (by omega) (by simp)
    obtain ⟨non, hd2, s2, hnon, e2, x2, c2⟩ := any_keep (g := []) (l := noneL) (n := s1.length) x1 (by simp) (by simp [noneL]) (by simp [noneL])
    have k3 := c2 st.length _ (by omega) (by rw [List.append_nil]; exact k1)
    have k4 := c2 (st.length + 1) _ (by omega) (by rw [List.append_nil]; exact k2)
    have h1 : h < s2.length := by
      obtain ⟨g, rfl⟩ := x2.ex
      simp
      omega
    obtain ⟨odd, hd3, s3, hodd, e3, x3, c3⟩ := any_keep (g := [.lst [.int 1, .int 1, .int 1]]) (l := oddL s2.length) (n := s2.length + 1) x2 (by simp) (by simp [oddL]) (by simp [oddL])
    have lt2 : st.length + 1 < s2.length := (List.getElem?_eq_some_iff.mp k4).1
    have k5 := c3 st.length _ (by omega) (by rw [List.getElem?_append_left (by omega)]; exact k3)
    have k6 := c3 (st.length + 1) _ (by omega) (by rw [List.getElem?_append_left (by omega)]; exact k4)
    have k7 := c3 s2.length (.lst [.int 1, .int 1, .int 1]) (by omega) (by simp)
    obtain ⟨pair, hd4, s4, hpair, e4, x4, c4⟩ := any_keep (g := []) (l := pairL) (n := s3.length) x3 (by simp) (by simp [pairL]) (by simp [pairL])
    have k8 := c4 st.length _ (by omega) (by rw [List.append_nil]; exact k5)
    have k9 := c4 (st.length + 1) _ (by omega) (by rw [List.append_nil]; exact k6)
    have k10 := c4 s2.length _ (by omega) (by rw [List.append_nil]; exact k7)
    have lt4 : st.length + 1 < s4.length := (List.getElem?_eq_some_iff.mp k9).1
    have lt5 : s2.length < s4.length := (List.getElem?_eq_some_iff.mp k10).1
    refine viaF_good (o := .ok (.bl true) (st.set h hd4.cell)) ⟨h, hd, rfl, e, hd4, rfl⟩ fun l1 _ => ?_
    obtain ⟨u, v, rfl, hu, hv, huv, hpo⟩ := pair_ok (s := s4 ++ [.lst [.str "conic", .str "most", .str "conic"]]) hpair
    have b1 := bad_cd hbad k8 k9
    have w1 := word_small b1.1 (none_ty (s := s4) hnon).1
    have w2 := word_small (st := s4) one_cd (none_ty (s := s4) hnon).1
    have w3 := word_other b1.1 (pt_pd (s := s4)) (u := .int 1) (v := .int 0) ⟨_, rfl⟩ ⟨_, rfl⟩ (fun i hi => by rcases hi with hi | hi <;> cases hi <;> omega)
    have o1 := odd_pd (s := s4 ++ [.lst [.str "conic", .str "most", .str "conic"]]) hodd (by rw [List.getElem?_append_left lt5]; exact k10)
    have w4 := word_other (one_cd (s := s4 ++ [.lst [.str "conic", .str "most", .str "conic"]])) o1.1 (u := .int 1) (v := .int 0) ⟨_, rfl⟩ ⟨_, rfl⟩ (fun i hi => by rcases hi with hi | hi <;> cases hi <;> omega)
    have w5 := word_other (one_cd (s := s4 ++ [.lst [.str "conic", .str "most", .str "conic"]])) pt_pd hu hv huv
    have w6 := word_small (one_cd (s := s4 ++ [.lst [.str "conic", .str "most", .str "conic"]])) (e := .int 60) ⟨_, rfl⟩
    rw [show smallO bad non s4 = noConic s4 by unfold smallO; rw [if_neg (by rw [b1.2]; exact Bool.false_ne_true)], wsC] at w1
    rw [(none_ty (s := s4) hnon).2, wsF] at w2
    rw [show otherO bad (t3 1 1 1) (.int 1) (.int 0) s4 = noConic s4 by unfold otherO; rw [if_neg (by rw [b1.2]; exact Bool.false_ne_true)], wsC] at w3
    rw [o1.2, wsC] at w4
    rw [hpo, wsC] at w5
    rw [let_ok] at w6
    simp only [badL, noneL, oddL, pairL] at e1 e2 e3 e4
    simp [-List.append_assoc] at e2 e3 e4
    simp at e1 e3
    have ad : ∀ s, addV (.tup [.tup [.int 1, .int 1, .int 1]]) (.tup [u, v]) s = .ok (.tup [.tup [.int 1, .int 1, .int 1], u, v]) s := fun _ => rfl
    have hx := cat_ref (st := s4 ++ [.lst [.str "conic", .str "most", .str "conic"]] ++ [.lst [.str "conic", .str "conic", .str "let"]]) (n := s4.length) (m := s4.length + 1) (l := [.str "conic", .str "most", .str "conic"]) (k := [.str "conic", .str "conic", .str "let"]) (by simp) (by simp) (by simp)
    have hq := eq_words (st := s4 ++ [.lst [.str "conic", .str "most", .str "conic"]] ++ [.lst [.str "conic", .str "conic", .str "let"]] ++ [.lst [.str "conic", .str "most", .str "conic", .str "conic", .str "conic", .str "let"]] ++ [.lst [.str "conic", .str "most", .str "conic", .str "conic", .str "conic", .str "let"]]) (n := s4.length + 2) (m := s4.length + 3) (a := "conic") (b := "most") (c := "conic") (d := "conic") (e := "conic") (f := "let") (by decide +kernel) (by simp) (by simp)
    simp at hx hq
    simp [g__law_are_refused, e1, e2, e3, e4, w1, w2, w3, w4, w5, w6, ad, hx, hq]
    exact (x4.app (g := [_, _, _, _])).pk l1 rfl
  obtain ⟨h', hd', q, _, hd2, eo⟩ := key
  cases q
  exact ⟨hd2, eo⟩
end K72

set_option maxRecDepth 100000
set_option maxHeartbeats 1000000
namespace K72
open PySem PySem.Spec PyProof.Rows L2 DD
structure Pt (a b c x y z : Int) : Prop where
  px : 0 ≤ x ∧ x ≤ 60
  py : 0 ≤ y ∧ y ≤ 60
  pz : 0 ≤ z ∧ z ≤ 60
  on : a * x * x + b * y * y + c * z * z = 0
  g : gcd3 x y z = 1
theorem pts_mem {a b c m : Int} {d : D} (hm : m ≤ 60) (h : d ∈ pts a b c m) : ∃ x y z, d = t3 x y z ∧ Pt a b c x y z := by
  unfold pts at h
  obtain ⟨x', hx, h⟩ := List.mem_flatMap.mp h
  obtain ⟨y', hy, h⟩ := List.mem_flatMap.mp h
  obtain ⟨x, hx, rfl⟩ := mem_rangeL hx
  obtain ⟨y, hy, rfl⟩ := mem_rangeL hy
  obtain ⟨X, hX⟩ : ∃ X : Int, X = 0 + (x : Int) := ⟨_, rfl⟩
  obtain ⟨Y, hY⟩ : ∃ Y : Int, Y = 0 + (y : Int) := ⟨_, rfl⟩
  rw [← hX, ← hY] at h
  unfold ptD ptAt at h
  simp only at h
  split at h
  · rename_i h1
    split at h
    · rename_i h2
      rw [List.mem_singleton.mp h]
      obtain ⟨dv, q0⟩ := h1
      obtain ⟨sq, le, g⟩ := h2
      have e : -(a * X * X + b * Y * Y) / c * c = -(a * X * X + b * Y * Y) := Int.ediv_mul_cancel dv
      generalize hz : rt (-(a * X * X + b * Y * Y) / c).toNat = z at *
      rw [← sq] at e
      refine ⟨X, Y, z, rfl, by omega, by omega, by omega, ?_, g⟩
      have : c * z * z = z * z * c := by grind
      rw [this, e]
      omega
    · cases h
  · cases h
theorem two_back {a b c x y z p q r : Int} (ha : a ≠ 0) (hb : b ≠ 0) (hc : c ≠ 0) (hz : 0 < z) (o1 : a * x * x + b * y * y + c * z * z = 0) (o2 : a * p * p + b * q * q + c * r * r = 0) (hd : ¬ (x * r - p * z = 0 ∧ y * r - q * z = 0)) (g : gcd3 p q r = 1) :
    chordL a b x y z (x * r - p * z) (y * r - q * z) = [p, q, r] ∨ chordL a b x y z (x * r - p * z) (y * r - q * z) = [0 - p, 0 - q, 0 - r] := by
  have B := two_ne ha hb hc hz o1 o2 hd
  obtain ⟨e1, e2, e3⟩ := Ch.two (f1 := _) (f2 := _) (f3 := _) ⟨rfl, rfl, rfl⟩ o1 o2
  obtain ⟨K, hK⟩ : ∃ K, K = -2 * z * z * (a * x * p + b * y * q + c * z * r) := ⟨_, rfl⟩
  rw [← hK] at e1 e2 e3
  have K0 : K ≠ 0 := by
    rw [hK]
    refine Int.mul_ne_zero (Int.mul_ne_zero (Int.mul_ne_zero (by decide) (by omega)) (by omega)) B
  unfold chordL foL
  rw [e1, e2, e3, gcdL3, gcd3_mul, g, Int.mul_one]
  rw [if_pos (by omega)]
  rcases (by omega : (K.natAbs : Int) = K ∨ (K.natAbs : Int) = -K) with k | k
  · left
    rw [k]
    simp [Int.mul_ediv_cancel_left _ K0]
  · right
    rw [k]
    simp [Int.ediv_neg, Int.mul_ediv_cancel_left _ K0]
theorem lc_list {a0 a1 a2 a3 a4 a5 a6 a7 a8 a9 a10 a11 a12 a13 a14 : Option D} {x y z : Int} {st0 : Store} :
    lcL (fun _ => true) st0.length (nameG 15) yesT le1__law_is_list_right [a0, a1, a2, a3, a4, a5, a6, a7, a8, a9, a10, a11, a12, a13, a14, none] [.int x, .int y, .int z] (st0 ++ [.lst []]) = .ok (.ref st0.length) (st0 ++ [.lst [.int (0 - x), .int (0 - y), .int (0 - z)]]) :=
  lc_map (its := ⟨[.int x, .int y, .int z], []⟩) (fun d => match d with | .int i => .int (0 - i) | _ => .non) (fun _ => rfl) (by simp) fun d hd acc => by
    obtain ⟨i, rfl⟩ : ∃ i, d = .int i := by
      simp only [List.mem_cons, List.not_mem_nil, or_false] at hd
      rcases hd with rfl | rfl | rfl <;> exact ⟨_, rfl⟩
    exact ⟨_, rfl, rfl, by simp [le1__law_is_list_right]⟩
theorem list_body {s : Store} {a b c x y z p q r : Int} {m : D} {s0 s3 s4 s7 s8 s9 s10 s11 s12 s13 s14 s15 : Option D} (ha : a ≠ 0 ∧ -1000 ≤ a ∧ a ≤ 1000) (hb : b ≠ 0 ∧ -1000 ≤ b ∧ b ≤ 1000) (hc : c ≠ 0 ∧ -1000 ≤ c ∧ c ≤ 1000) (h1 : Pt a b c x y z) (h2 : Pt a b c p q r) :
    ∃ l7 l8 l9 l10 l11 l12 l13 l14 g, fb1__law_is_list_right [s0, some (t3 a b c), some m, s3, s4, some (t3 x y z), some (t3 p q r), s7, s8, s9, s10, s11, s12, s13, s14, s15] s = .nx [s0, some (t3 a b c), some m, s3, s4, some (t3 x y z), some (t3 p q r), l7, l8, l9, l10, l11, l12, l13, l14, s15] (s ++ g) := by
  obtain ⟨hx, hy, hz, o1, g1⟩ := h1
  obtain ⟨hp, hq, hr, o2, g2⟩ := h2
  have k1 : ∀ t, mulOk x t = true := fun t => mulOk_l (by omega) (by omega)
  have k2 : ∀ t, mulOk y t = true := fun t => mulOk_l (by omega) (by omega)
  have k3 : ∀ t, mulOk p t = true := fun t => mulOk_l (by omega) (by omega)
  have k4 : ∀ t, mulOk q t = true := fun t => mulOk_l (by omega) (by omega)
  have h00 := eqG_tupI (b := true) (st := s) [x * r - p * z, y * r - q * z] [0, 0]
  by_cases hd : x * r - p * z = 0 ∧ y * r - q * z = 0
  · refine ⟨some (.int x), some (.int y), some (.int z), some (.int p), some (.int q), some (.int r), some (.int (x * r - p * z)), some (.int (y * r - q * z)), [], ?_⟩
    simp [tupI, hd] at h00
    simp [fb1__law_is_list_right, k1, k2, k3, k4, h00, hd]
  · simp [tupI, hd] at h00
    by_cases hz0 : 0 < z
    · by_cases hr0 : 0 < r
      · have hbk := two_back ha.1 hb.1 hc.1 hz0 o1 o2 hd g2
        have bu : -10000 ≤ x * r - p * z ∧ x * r - p * z ≤ 10000 := by
          have n1 := mul_bd (a := x) (b := r) (A := 60) (B := 60) (by omega) (by omega)
          have n2 := mul_bd (a := p) (b := z) (A := 60) (B := 60) (by omega) (by omega)
          generalize x * r = A at *
          generalize p * z = B at *
          omega
        have bv : -10000 ≤ y * r - q * z ∧ y * r - q * z ≤ 10000 := by
          have n1 := mul_bd (a := y) (b := r) (A := 60) (B := 60) (by omega) (by omega)
          have n2 := mul_bd (a := q) (b := z) (A := 60) (B := 60) (by omega) (by omega)
          generalize y * r = A at *
          generalize q * z = B at *
          omega
        have hne : ¬ (x = 0 ∧ y = 0 ∧ z = 0) := by omega
        obtain ⟨P, Q, R, hch, hs⟩ : ∃ P Q R, chordL a b x y z (x * r - p * z) (y * r - q * z) = [P, Q, R] ∧ ([p, q, r] = [P, Q, R] ∨ [-p, -q, -r] = [P, Q, R]) := by
          rcases hbk with e | e
          · exact ⟨_, _, _, e, .inl rfl⟩
          · exact ⟨_, _, _, e, .inr (by simp)⟩
        have ot := other_t3 (s := s) ha hb hc (by omega) (by omega) (by omega) bu bv hne o1 hd hch
        have hin := in_two (b := true) (st := s ++ [.lst [.int (-p), .int (-q), .int (-r)]]) [P, Q, R] [p, q, r] [-p, -q, -r]
        have hor : (decide ([p, q, r] = [P, Q, R]) || decide ([-p, -q, -r] = [P, Q, R])) = true := by
          rcases hs with e | e
          · rw [decide_eq_true e]; rfl
          · rw [decide_eq_true e, Bool.or_true]
        rw [hor] at hin
        refine ⟨some (.int x), some (.int y), some (.int z), some (.int p), some (.int q), some (.int r), some (.int (x * r - p * z)), some (.int (y * r - q * z)), [.lst [.int (-p), .int (-q), .int (-r)]], ?_⟩
        simp [tupI] at hin
        simp [fb1__law_is_list_right, k1, k2, k3, k4, h00, hd, hz0, hr0, ot, wipeL, lc_list, tupleV, hin]
      · refine ⟨some (.int x), some (.int y), some (.int z), some (.int p), some (.int q), some (.int r), some (.int (x * r - p * z)), some (.int (y * r - q * z)), [], ?_⟩
        simp [fb1__law_is_list_right, k1, k2, k3, k4, h00, hd, hz0, hr0]
    · refine ⟨some (.int x), some (.int y), some (.int z), some (.int p), some (.int q), some (.int r), some (.int (x * r - p * z)), some (.int (y * r - q * z)), [], ?_⟩
      simp [fb1__law_is_list_right, k1, k2, k3, k4, h00, hd, hz0]
end K72

set_option maxRecDepth 100000
set_option maxHeartbeats 1000000
namespace K72
open PySem PySem.Spec PyProof.Rows L2 DD
theorem okB_keep {l : List D} {n : Nat} {st g : Store} (h : st[n]? = some (.lst l)) : okB ⟨l, [(n, l)]⟩ (st ++ g) = true := by
  obtain ⟨hn, _⟩ := List.getElem?_eq_some_iff.mp h
  exact okB_iff.mpr fun p hp => by
    rw [List.mem_singleton.mp hp, List.getElem?_append_left hn]
    exact h
theorem mem_cut {l : List D} {a b : Option Int} {d : D} (h : d ∈ cutD l a b) : d ∈ l := List.mem_of_mem_drop (List.mem_of_mem_take h)
abbrev AllP (a b c : Int) (L : List D) : Prop := ∀ d ∈ L, ∃ x y z, d = t3 x y z ∧ Pt a b c x y z
theorem list_row {st s : Store} {h : Nat} {a b c m x y z : Int} {L : List D} {l6 l7 l8 l9 l10 l11 l12 l13 l14 : Option D} (k : Kb a b c m) (hL : AllP a b c L) (hs : s[st.length]? = some (.lst L)) (h1 : Pt a b c x y z) :
    ∃ m6 m7 m8 m9 m10 m11 m12 m13 m14 g, fb2__law_is_list_right [some (.ref h), some (t3 a b c), some (.int m), some (.ref st.length), some (.ref (st.length + 1)), some (t3 x y z), l6, l7, l8, l9, l10, l11, l12, l13, l14, none] s =
      .nx [some (.ref h), some (t3 a b c), some (.int m), some (.ref st.length), some (.ref (st.length + 1)), some (t3 x y z), m6, m7, m8, m9, m10, m11, m12, m13, m14, none] (s ++ g) := by
  obtain ⟨ls', s', e, m6, m7, m8, m9, m10, m11, m12, m13, m14, g, rfl, rfl⟩ := for_inv (ok := okB ⟨cutD L (some (-2)) none, [(s.length, cutD L (some (-2)) none)]⟩) (g := nameG 6) (b := fb1__law_is_list_right)
    (fun ls s' => ∃ m6 m7 m8 m9 m10 m11 m12 m13 m14 g, ls = [some (.ref h), some (t3 a b c), some (.int m), some (.ref st.length), some (.ref (st.length + 1)), some (t3 x y z), m6, m7, m8, m9, m10, m11, m12, m13, m14, none] ∧ s' = s ++ [.lst (cutD L (some (-2)) none)] ++ g)
    (fun ls s' ⟨_, _, _, _, _, _, _, _, _, g, _, e⟩ => by rw [e]; exact okB_keep get_new) (cutD L (some (-2)) none) [some (.ref h), some (t3 a b c), some (.int m), some (.ref st.length), some (.ref (st.length + 1)), some (t3 x y z), l6, l7, l8, l9, l10, l11, l12, l13, l14, none] (s ++ [.lst (cutD L (some (-2)) none)])
    ⟨_, _, _, _, _, _, _, _, _, [], rfl, by simp⟩ (fun d hd ls s' ⟨m6, m7, m8, m9, m10, m11, m12, m13, m14, g, e1, e2⟩ => by
      subst e1 e2
      obtain ⟨p, q, r, rfl, h2⟩ := hL d (mem_cut hd)
      obtain ⟨n7, n8, n9, n10, n11, n12, n13, n14, g', e⟩ := list_body (s := s ++ [.lst (cutD L (some (-2)) none)] ++ g) (m := .int m) (s0 := some (.ref h)) (s3 := some (.ref st.length)) (s4 := some (.ref (st.length + 1))) (s7 := m7) (s8 := m8) (s9 := m9) (s10 := m10) (s11 := m11) (s12 := m12) (s13 := m13) (s14 := m14) (s15 := none) k.a k.b k.c h1 h2
      exact ⟨_, _, _, _, rfl, .inl e, _, _, _, _, _, _, _, _, _, g ++ g', rfl, by simp⟩)
  refine ⟨m6, m7, m8, m9, m10, m11, m12, m13, m14, [.lst (cutD L (some (-2)) none)] ++ g, ?_⟩
  rw [← List.append_assoc, ← e]
  have i1 : itsOf (.ref st.length) s = some ⟨L, [(st.length, L)]⟩ := by simp [itsOf, hs]
  have i2 : itsOf (.ref s.length) (s ++ [.lst (cutD L (some (-2)) none)]) = some ⟨cutD L (some (-2)) none, [(s.length, cutD L (some (-2)) none)]⟩ := by simp [itsOf]
  simp [fb2__law_is_list_right, slV, i1, i2, isTup]
theorem allp_small {a b c : Int} {L : List D} (h : AllP a b c L) : SmallT L := fun d hd => by
  obtain ⟨x, y, z, rfl, p⟩ := h d hd
  have := p.px
  have := p.py
  have := p.pz
  exact ⟨x, [y, z], rfl, small3 (by omega) (by omega) (by omega), by simp⟩
theorem sp_law_is_list_right {st : Store} {h : Nat} {a b c m : Int} (k : Kb a b c m) : F__law_is_list_right [.ref h, tupI [a, b, c], .int m] st = .ok (.bl true) st := by
  refine viaF_eq ⟨h, a, b, c, m, rfl, k, rfl⟩ (fun o' ⟨h', a', b', c', m', q, _, eo⟩ => ?_) fun h1 h2 => ?_
  · exact eo
  · have e1 := sp_law_points (st := st) k
    have e2 := fun s => sp_small_points (st := s) (d := t3 a b c) (e := .int m) cd_t3 ⟨_, rfl⟩
    have e3 : ∀ s, smallO (t3 a b c) (.int m) s = .ok (.ref s.length) (s ++ [.lst (sortT (pts a b c m))]) := fun s => by
      unfold smallO
      rw [if_pos (conicB_t3 k.a k.b k.c)]
      show (if 1 ≤ m ∧ m ≤ 60 then Out.ok (D.ref s.length) (s ++ [.lst (sortT (pts a b c m))]) else noFraction s) = _
      rw [if_pos k.m]
    have hL : AllP a b c (sortT (pts a b c m)) := fun d hd => pts_mem k.m.2 (mem_sortT.mp hd)
    have hlen : (sortT (pts a b c m)).length ≤ 10000 := by
      rw [length_sortT]
      unfold pts
      have hm := k.m
      have := flatMap_len (f := fun x => (rangeL 0 (m + 1).toNat).flatMap fun y => ptD a b c m x y) (k := 61) (l := rangeL 0 (m + 1).toNat) fun x _ => by
        have := flatMap_len (f := fun y => ptD a b c m x y) (k := 1) (l := rangeL 0 (m + 1).toNat) fun y _ => ptD_len
        rw [rangeL_len] at this
        omega
      rw [rangeL_len] at this
      omega
    generalize sortT (pts a b c m) = L at *
    have hS := allp_small hL
    obtain ⟨W, hW⟩ : ∃ W : Str, W = PyData.shown (.list (L.map (encD []))) := ⟨_, rfl⟩
    have r1 := repr_cell (st := st ++ [.lst L] ++ [.lst L]) (n := st.length) (by simp) hS hlen
    have r2 := repr_cell (st := st ++ [.lst L] ++ [.lst L]) (n := st.length + 1) (by simp) hS hlen
    have r3 := repr_cell (st := st ++ [.lst L] ++ [.lst (L ++ [.non])] ++ [.lst L]) (n := st.length) (by simp) hS hlen
    have r4 := repr_cell (st := st ++ [.lst L] ++ [.lst (L ++ [.non])] ++ [.lst L]) (n := st.length + 2) (by simp) hS hlen
    rw [← hW] at r1 r2 r3 r4
    have ha := app_ref (st := st ++ [.lst L] ++ [.lst L]) (n := st.length + 1) (l := L) (x := .non) (by simp) (by omega)
    have hset : (st ++ [Cell.lst L] ++ [Cell.lst L]).set (st.length + 1) (Cell.lst (L ++ [D.non])) = st ++ [.lst L] ++ [Cell.lst (L ++ [.non])] := by
      rw [List.set_append_right _ _ (by simp)]; simp
    rw [hset] at ha
    have ty : tyD (st ++ [.lst L] ++ [.lst L]) (.ref (st.length + 1)) = some .lst := by simp [tyD]
    have i1 : itsOf (.ref st.length) (st ++ [.lst L] ++ [.lst (L ++ [.non])] ++ [.lst L]) = some ⟨L, [(st.length, L)]⟩ := by simp [itsOf]
    obtain ⟨B, hB⟩ : ∃ B : Store, B = st ++ [.lst L] ++ [.lst (L ++ [.non])] ++ [.lst L] := ⟨_, rfl⟩
    have i2 : itsOf (.ref B.length) (B ++ [.lst (cutD L none (some 2))]) = some ⟨cutD L none (some 2), [(B.length, cutD L none (some 2))]⟩ := by simp [itsOf]
    have gB : ∀ g, (B ++ [.lst (cutD L none (some 2))] ++ g)[st.length]? = some (.lst L) := fun g => by rw [hB]; simp
    obtain ⟨ls', s', ef, m5, m6, m7, m8, m9, m10, m11, m12, m13, m14, g, rfl, rfl⟩ := for_inv (ok := okB ⟨cutD L none (some 2), [(B.length, cutD L none (some 2))]⟩) (g := nameG 5) (b := fb2__law_is_list_right)
      (fun ls s' => ∃ m5 m6 m7 m8 m9 m10 m11 m12 m13 m14 g, ls = [some (.ref h), some (t3 a b c), some (.int m), some (.ref st.length), some (.ref (st.length + 1)), m5, m6, m7, m8, m9, m10, m11, m12, m13, m14, none] ∧ s' = B ++ [.lst (cutD L none (some 2))] ++ g)
      (fun ls s' ⟨_, _, _, _, _, _, _, _, _, _, g, _, e⟩ => by rw [e]; exact okB_keep get_new) (cutD L none (some 2)) [some (.ref h), some (t3 a b c), some (.int m), some (.ref st.length), some (.ref (st.length + 1)), none, none, none, none, none, none, none, none, none, none, none] (B ++ [.lst (cutD L none (some 2))])
      ⟨_, _, _, _, _, _, _, _, _, _, [], rfl, by simp⟩ (fun d hd ls s' ⟨m5, m6, m7, m8, m9, m10, m11, m12, m13, m14, g, e1, e2⟩ => by
        subst e1 e2
        obtain ⟨x, y, z, rfl, p⟩ := hL d (mem_cut hd)
        obtain ⟨n6, n7, n8, n9, n10, n11, n12, n13, n14, g', e⟩ := list_row (l6 := m6) (l7 := m7) (l8 := m8) (l9 := m9) (l10 := m10) (l11 := m11) (l12 := m12) (l13 := m13) (l14 := m14) k hL (gB g) p
        exact ⟨_, _, _, _, rfl, .inl e, _, _, _, _, _, _, _, _, _, _, g ++ g', rfl, by simp⟩)
    have hB3 : B.length = st.length + 1 + 1 + 1 := by rw [hB]; simp
    rw [hB3, hB] at i2 ef
    simp [tupI] at e1
    simp [g__law_is_list_right, tupI, e1, e2, e3, r1, r2, r3, r4, ha, ty, slV, i1, i2, isTup, ef, -List.append_assoc]
    have := Pk.dropG (st := st) (d := .bl true) ([.lst L] ++ [.lst (L ++ [.non])] ++ [.lst L] ++ [.lst (cutD L none (some 2))] ++ g) h1 rfl
    simpa using this
end K72

set_option maxRecDepth 100000
set_option maxHeartbeats 1000000
namespace K72
open PySem PySem.Spec PyProof.Rows L2 DD
theorem HS.setn {st s : Store} {h n : Nat} {hd : Hd} {c : Cell} (x : HS st h hd s) (hn : st.length ≤ n) : HS st h hd (s.set n c) := by
  obtain ⟨g, rfl⟩ := x.ex
  refine ⟨⟨g.set (n - st.length) c, ?_⟩, x.lt⟩
  rw [List.set_append_right _ _ (by rw [List.length_set]; exact hn), List.length_set]
theorem number_keep {st s : Store} {h : Nat} {hd : Hd} {w : Int} (x : HS st h hd s) (h0 : 1 ≤ w) (h1 : w ≤ 1000000) : ∃ v hd' s', v ≠ 0 ∧ -w ≤ v ∧ v ≤ w ∧ F__law_number [.ref h, .int w] s = .ok (.int v) s' ∧ HS st h hd' s' ∧ ∀ k c, k ≠ h → s[k]? = some c → s'[k]? = some c := by
  obtain ⟨v, hd', a, b, c, e⟩ := sp_law_number (w := w) x.get h0 h1
  exact ⟨v, hd', _, a, b, c, e, x.set, fun k c hk hc => by rw [List.getElem?_set_ne (Ne.symm hk)]; exact hc⟩
abbrev Small100 (L : List Int) : Prop := ∀ v ∈ L, v ≠ 0 ∧ -100 ≤ v ∧ v ≤ 100
theorem lc_drawn {st : Store} {h n : Nat} {lsw : LS} (hw : ∀ d, getL (setL lsw 8 d) 1 = some (.ref h)) (hn : st.length ≤ n) : ∀ (r : List D) (acc : List Int) (hd : Hd) (s : Store), HS st h hd s → s[n]? = some (.lst (acc.map D.int)) → acc.length + r.length < 16777216 → Small100 acc →
    ∃ L hd' s', lcL (fun _ => true) n (nameG 8) yesT le2_law lsw r s = .ok (.ref n) s' ∧ HS st h hd' s' ∧ s'[n]? = some (.lst (L.map D.int)) ∧ L.length = acc.length + r.length ∧ Small100 L
  | [], acc, hd, s, x, hs, _, ha => ⟨acc, hd, s, by unfold lcL; rw [if_pos rfl], x, hs, by simp, ha⟩
  | d :: r, acc, hd, s, x, hs, hl, ha => by
    have hlt := x.lt
    simp only [List.length_cons] at hl
    obtain ⟨v, hd1, s1, v0, v1, v2, e1, x1, k1⟩ := number_keep (w := 100) x (by omega) (by omega)
    have hs1 := k1 n _ (by omega) hs
    have hn1 := (List.getElem?_eq_some_iff.mp hs1).1
    obtain ⟨L, hd', s', e2, x2, h2, hlen, hL⟩ := lc_drawn hw hn r (acc ++ [v]) hd1 (s1.set n (.lst ((acc ++ [v]).map D.int))) (x1.setn hn) (by rw [List.getElem?_set_self hn1]) (by simp; omega) (fun u hu => by
      rcases List.mem_append.mp hu with hu | hu
      · exact ha u hu
      · rw [List.mem_singleton.mp hu]; exact ⟨v0, v1, v2⟩)
    refine ⟨L, hd', s', ?_, x2, h2, by simp at hlen; simp; omega, hL⟩
    rw [← e2]
    conv => lhs; unfold lcL
    have g1 : nameG 8 d lsw s = .ok (setL lsw 8 d) s := rfl
    have g2 : le2_law (setL lsw 8 d) s = .ok (.int v) s1 := by
      simp [le2_law, hw, e1]
    rw [if_pos rfl, g1]
    simp only [yesT, g2, hs1, if_true]
    rw [if_pos (by simp; omega)]
    simp
theorem wp_scale {a b c x y z t : Int} (w : Wp a b c x y z) (hx : -3 ≤ x ∧ x ≤ 3) (hy : -3 ≤ y ∧ y ≤ 3) (hz : -3 ≤ z ∧ z ≤ 3) (ht : t = 1 ∨ t = 2 ∨ t = -3) : Wp a b c (t * x) (t * y) (t * z) := by
  refine ⟨w.pa, w.pb, w.pc, ?_, ?_, ?_, ?_, ?_⟩
  · rcases ht with rfl | rfl | rfl <;> omega
  · rcases ht with rfl | rfl | rfl <;> omega
  · rcases ht with rfl | rfl | rfl <;> omega
  · have := w.pn
    rcases ht with rfl | rfl | rfl <;> omega
  · have := w.po
    have e : a * (t * x) * (t * x) + b * (t * y) * (t * y) + c * (t * z) * (t * z) = t * t * (a * x * x + b * y * y + c * z * z) := by grind
    rw [e, this, Int.mul_zero]
theorem lc_times {a0 a1 a2 a3 a4 a6 a8 : Option D} {t x y z : Int} {st0 : Store} (ht : t = 1 ∨ t = 2 ∨ t = -3) :
    lcL (fun _ => true) st0.length (nameG 7) yesT le1_law [a0, a1, a2, a3, a4, some (.int t), a6, none, a8] [.int x, .int y, .int z] (st0 ++ [.lst []]) = .ok (.ref st0.length) (st0 ++ [.lst [.int (t * x), .int (t * y), .int (t * z)]]) :=
  lc_map (its := ⟨[.int x, .int y, .int z], []⟩) (fun d => match d with | .int i => .int (t * i) | _ => .non) (fun _ => rfl) (by simp) fun d hd acc => by
    obtain ⟨i, rfl⟩ : ∃ i, d = .int i := by
      simp only [List.mem_cons, List.not_mem_nil, or_false] at hd
      rcases hd with rfl | rfl | rfl <;> exact ⟨_, rfl⟩
    have m : mulOk t i = true := mulOk_l (by omega) (by omega)
    exact ⟨_, rfl, rfl, by simp [le1_law, m]⟩
theorem law_body {st s : Store} {h : Nat} {hd : Hd} {lp : D} {s0 s3 s4 s5 s6 : Option D} (x : HS st h hd s) :
    ∃ m3 m4 m5 m6 hd' s', fb1_law [s0, some (.ref h), some lp, s3, s4, s5, s6, none, none] s = .nx [s0, some (.ref h), some lp, m3, m4, m5, m6, none, none] s' ∧ HS st h hd' s' := by
  obtain ⟨a, b, c, px, py, pz, hd1, w, x0, x1, y0, y1, z0, z1, e1⟩ := sp_law_with_point x.get
  have X1 := x.set (hd' := hd1)
  generalize s.set h hd1.cell = s1 at e1 X1
  obtain ⟨t, hd2, s2, ht0, e2, X2⟩ := any_new X1 (l := [.int 1, .int 1, .int 2, .int (-3)]) (by simp) (by simp)
  obtain ⟨t, rfl, ht⟩ : ∃ t' : Int, t = .int t' ∧ (t' = 1 ∨ t' = 2 ∨ t' = -3) := by
    simp only [List.mem_cons, List.not_mem_nil, or_false] at ht0
    rcases ht0 with rfl | rfl | rfl | rfl <;> exact ⟨_, rfl, by omega⟩
  have lt := fun a0 a1 a2 a3 a4 a6 a8 => lc_times (a0 := a0) (a1 := a1) (a2 := a2) (a3 := a3) (a4 := a4) (a6 := a6) (a8 := a8) (x := px) (y := py) (z := pz) (st0 := s2) ht
  have w' := wp_scale w ⟨x0, x1⟩ ⟨y0, y1⟩ ⟨z0, z1⟩ ht
  have X3 := X2.app (g := [.lst [.int (t * px), .int (t * py), .int (t * pz)]])
  obtain ⟨hd4, e4⟩ := sp_law_is_met_right X3.get w'
  have X4 := X3.set (hd' := hd4)
  generalize hs4 : (s2 ++ [Cell.lst [.int (t * px), .int (t * py), .int (t * pz)]]).set h hd4.cell = s4 at e4 X4
  obtain ⟨v, hd5, s5, v0, v1, e5, X5⟩ := draw_hs (m := 25) X4 (by omega) (by omega)
  have k1 : Kb a b c (1 + v) := ⟨⟨w.pa.1, by have := w.pa; omega, by have := w.pa; omega⟩, ⟨w.pb.1, by have := w.pb; omega, by have := w.pb; omega⟩, w.pc, by omega⟩
  have e6 := sp_law_is_list_right (st := s5) (h := h) k1
  have hr := fun ls => rng1_eq (fr := consA (litD (.int 3)) nilA) (ls := ls) (st := s5) (st1 := s5) (j := 3) (by simp) (by omega) (by omega)
  have X6 := X5.app (g := [.lst []])
  have hlt := X5.lt
  obtain ⟨L, hd7, s7, e7, X7, c7, l7, hL⟩ := lc_drawn (st := st) (h := h) (n := s5.length) (lsw := [s0, some (.ref h), some lp, some (tupI [a, b, c]), some (tupI [px, py, pz]), some (.int t), s6, none, none]) (fun _ => rfl) (by
      obtain ⟨g, rfl⟩ := X5.ex
      simp) (rangeL 0 (3 : Int).toNat) [] hd5 (s5 ++ [.lst []]) X6 (by simp) (by simp [rangeL_len]) (fun _ h => by cases h)
  rw [rangeL_len] at l7
  obtain ⟨p, q, r, rfl⟩ : ∃ p q r, L = [p, q, r] := by
    match L, l7 with
    | [p, q, r], _ => exact ⟨_, _, _, rfl⟩
  have hp := hL p (by simp)
  have hq := hL q (by simp)
  have hrr := hL r (by simp)
  obtain ⟨m, hd8, s8, hm0, e8, X8⟩ := any_new X7 (l := [.int 5, .int 12, .int 60]) (by simp) (by simp)
  obtain ⟨m, rfl, hm⟩ : ∃ t' : Int, m = .int t' ∧ (1 ≤ t' ∧ t' ≤ 60) := by
    simp only [List.mem_cons, List.not_mem_nil, or_false] at hm0
    rcases hm0 with rfl | rfl | rfl <;> exact ⟨_, rfl, by omega⟩
  have k2 : Kb p q r m := ⟨⟨hp.1, by omega, by omega⟩, ⟨hq.1, by omega, by omega⟩, ⟨hrr.1, by omega, by omega⟩, hm⟩
  have e9 := sp_law_is_list_right (st := s8) (h := h) k2
  refine ⟨some (tupI [a, b, c]), some (tupI [px, py, pz]), some (.int t), some (tupI [p, q, r]), hd8, s8, ?_, X8⟩
  simp [tupI] at e1 e4 e6 e7 e9 c7 lt hr
  have i7 : itsOf (.ref s5.length) s7 = some ⟨[.int p, .int q, .int r], [(s5.length, [.int p, .int q, .int r])]⟩ := by simp [itsOf, c7]
  simp [fb1_law, tupI, i7, e1, e2, lt, wipeL, tupleV, hs4, e4, e5, e6, hr, e7, c7, e8, e9, -List.append_assoc]
end K72

set_option maxRecDepth 100000
set_option maxHeartbeats 1000000
namespace K72
open PySem PySem.Spec PyProof.Rows L2 DD
theorem pts_one : pts 1 1 (-2) 2 = [t3 1 1 1] := by with_unfolding_all rfl
theorem ch_one : chordL 1 1 1 1 1 1 0 = [-1, 1, 1] := by decide +kernel
theorem ch_two : chordL 1 (-1) 1 1 0 1 1 = [1, 1, 0] := by decide +kernel
theorem ne_one {st : Store} {n m : Nat} {x y z : Int} (h : st[n]? = some (.lst [t3 x y z])) (h' : st[m]? = some (.lst [t3 x y z])) : eqF true (.ref n) (.ref m) st = .ok (.bl false) st := by
  have t : ∀ k, st[k]? = some (.lst [t3 x y z]) → toP st 60 (.ref k) = some (.list [.tuple [.int x, .int y, .int z]]) := fun k hk => by
    rw [toP]
    simp only [hk]
    rfl
  show eqG true (.ref n) (.ref m) st = _
  unfold eqG
  rw [t n h, t m h']
  have hs : SeqAt.shaped (.list [.tuple [.int x, .int y, .int z]]) = true := by simp [SeqAt.shaped, PyData.canLay0, PyData.canLayAll0, PyData.depth, PyData.depthAll]
  simp only [hs, and_self, if_true]
  simp [PyData.eqv, PyData.eqvAll]
theorem law_true (ns : List Int) (h : ns.length ≤ 63) : ∃ st, F_law [.cst (ns.map D.int)] [] = .ok (.bl true) st := by
  obtain ⟨hd, e0⟩ := sp_law_hand (st := []) h
  have X0 : HS [hd.cell] 0 hd [hd.cell] := HS.refl rfl
  have e1 : F_small_points [t3 1 1 (-2), .int 2] [hd.cell] = .ok (.ref 1) ([hd.cell] ++ [.lst [t3 1 1 1]]) := by
    rw [sp_small_points cd_t3 ⟨_, rfl⟩]
    unfold smallO
    rw [if_pos (by decide)]
    show (if 1 ≤ (2 : Int) ∧ (2 : Int) ≤ 60 then Out.ok (D.ref 1) ([hd.cell] ++ [.lst (sortT (pts 1 1 (-2) 2))]) else noFraction _) = _
    rw [if_pos (by decide), pts_one, sortT, List.mergeSort_singleton]
  have e2 : eqF true (.ref 1) (.ref 2) [hd.cell, .lst [t3 1 1 1], .lst [t3 1 1 1]] = .ok (.bl false) [hd.cell, .lst [t3 1 1 1], .lst [t3 1 1 1]] := ne_one rfl rfl
  have e3 : F_other_point [t3 1 1 (-2), t3 1 1 1, .int 1, .int 0] [hd.cell, .lst [t3 1 1 1], .lst [t3 1 1 1]] = .ok (t3 (-1) 1 1) [hd.cell, .lst [t3 1 1 1], .lst [t3 1 1 1]] :=
    other_t3 (by omega) (by omega) (by omega) (by omega) (by omega) (by omega) (by omega) (by omega) (by omega) (by omega) (by omega) ch_one
  have e4 : F_other_point [t3 1 (-1) 3, t3 1 1 0, .int 1, .int 1] [hd.cell, .lst [t3 1 1 1], .lst [t3 1 1 1]] = .ok (t3 1 1 0) [hd.cell, .lst [t3 1 1 1], .lst [t3 1 1 1]] :=
    other_t3 (by omega) (by omega) (by omega) (by omega) (by omega) (by omega) (by omega) (by omega) (by omega) (by omega) (by omega) ch_two
  have e5 := eqG_tupI (b := true) (st := [hd.cell, .lst [t3 1 1 1], .lst [t3 1 1 1]]) [-1, 1, 1] [-1, 1, 1]
  have e6 := eqG_tupI (b := true) (st := [hd.cell, .lst [t3 1 1 1], .lst [t3 1 1 1]]) [1, 1, 0] [1, 1, 0]
  have X1 : HS [hd.cell] 0 hd [hd.cell, .lst [t3 1 1 1], .lst [t3 1 1 1]] := X0.app (g := [_, _])
  generalize hs1 : [hd.cell, Cell.lst [t3 1 1 1], .lst [t3 1 1 1]] = s1 at *
  have e2 : eqG true (.ref 1) (.ref 2) s1 = .ok (.bl false) s1 := e2
  obtain ⟨hd2, e7⟩ := sp_law_are_refused X1.get
  have X2 := X1.set (hd' := hd2)
  generalize s1.set 0 hd2.cell = s2 at e7 X2
  have hr := fun ls => rng1_eq (fr := consA (litD (.int 4)) nilA) (ls := ls) (st := s2) (st1 := s2) (j := 4) (by simp) (by omega) (by omega)
  obtain ⟨ls', s3, k1, l2, l3, l4, l5, l6, hd3, rfl, X3⟩ := for_inv (ok := fun _ => true) (g := nameG 2) (b := fb1_law) (fun ls s => ∃ l2 l3 l4 l5 l6 hd', ls = [some (.cst (ns.map D.int)), some (.ref 0), l2, l3, l4, l5, l6, none, none] ∧ HS [hd.cell] 0 hd' s)
    (fun _ _ _ => rfl) (rangeL 0 (4 : Int).toNat) [some (.cst (ns.map D.int)), some (.ref 0), none, none, none, none, none, none, none] s2 ⟨_, _, _, _, _, hd2, rfl, X2⟩ (fun d hdm ls s ⟨l2, l3, l4, l5, l6, hd', e, x⟩ => by
      subst e
      obtain ⟨m3, m4, m5, m6, hd2, s', e2, x'⟩ := law_body (lp := d) (s0 := some (.cst (ns.map D.int))) (s3 := l3) (s4 := l4) (s5 := l5) (s6 := l6) x
      exact ⟨_, _, _, _, rfl, .inl e2, _, _, _, _, _, hd2, rfl, x'⟩)
  have key : Good_law [.cst (ns.map D.int)] [] (F_law [.cst (ns.map D.int)] []) := viaF_good (o := .ok (.bl true) s3) ⟨s3, rfl⟩ fun l1 _ => by
    refine Pk.of_eq ?_
    simp [tupI] at e5 e6 k1 hr e0
    simp at e1
    simp [g_law, hs1, e0, e1, e2, e3, e4, e5, e6, e7, hr, k1]
  exact key
end K72

set_option maxRecDepth 100000
set_option maxHeartbeats 0
namespace K72
open PySem PySem.Spec PyProof.Rows L2 DD
structure KTf (K : PySem.W.Frag) (y : Str) : Prop where
  k_NoConic : PySem.W.kitOne K (.ref (He.ga K y)) (.ref (He.ga K "NoConic")) = some (kT y "NoConic")
  k_NoFraction : PySem.W.kitOne K (.ref (He.ga K y)) (.ref (He.ga K "NoFraction")) = some (kT y "NoFraction")
  k_ValueError : PySem.W.kitOne K (.ref (He.ga K y)) (.type "ValueError") = some (kT y "ValueError")
structure Fx (P : Program) (K : PySem.W.Frag) (mg : Str → Option Value) : Prop where
  b_ValueError : mg "ValueError" = none
  b_abs : mg "abs" = none
  b_all : mg "all" = none
  b_any : mg "any" = none
  b_bool : mg "bool" = none
  b_int : mg "int" = none
  b_isinstance : mg "isinstance" = none
  b_len : mg "len" = none
  b_list : mg "list" = none
  b_range : mg "range" = none
  b_repr : mg "repr" = none
  b_sorted : mg "sorted" = none
  b_str : mg "str" = none
  b_sum : mg "sum" = none
  b_super : mg "super" = none
  b_tuple : mg "tuple" = none
  b_zip : mg "zip" = none
  i_MOST : ∃ t, mg "MOST" = some (.int 1000 t)
  m_FieldError : mg "FieldError" = some (.ref (He.ga K "FieldError"))
  m_NoConic : mg "NoConic" = some (.ref (He.ga K "NoConic"))
  m_NoFraction : mg "NoFraction" = some (.ref (He.ga K "NoFraction"))
  x_NoConic : Ini0 P K (He.ga K "NoConic")
  x_NoFraction : Ini0 P K (He.ga K "NoFraction")
  ms : ∀ y ∈ excs, mg y = some (.ref (He.ga K y))
  ec : ∀ y ∈ excs, ExcC K (He.ga K y)
  cat : ∀ y ∈ excs, PySem.W.exmOne K (.ref (He.ga K y)) (.ref (He.ga K "FieldError")) = some true
  kt : ∀ y ∈ excs, KTf K y
theorem catF_ok {P : Program} {K : PySem.W.Frag} {mg : Str → Option Value} (B : Fx P K mg) (e : Exc) (b : Bool) (T : Addr) (h : catF e = some b) (hm : mg e.cls = some (.ref T)) : PySem.W.exmOne K (.ref T) (.ref (He.ga K "FieldError")) = some b := by
  obtain ⟨h1, rfl⟩ := catF_in h
  rw [B.ms _ h1] at hm
  cases hm
  exact B.cat _ h1
theorem suite_ok {P : Program} {K : PySem.W.Frag} {mg : Str → Option Value} (B : Fx P K mg) {e : Exc} {T : Addr} (h : catF e = some true) (hm : mg e.cls = some (.ref T)) : ∃ _ : e.cls ∈ excs, T = He.ga K e.cls ∧ ExcC K (He.ga K e.cls) := by
  obtain ⟨h1, _⟩ := catF_in h
  rw [B.ms _ h1] at hm
  cases hm
  exact ⟨h1, rfl, B.ec _ h1⟩
theorem sc__law_hand : FnScope N__law_hand ["script"] (defScope (top 29)) := ⟨rfl, rfl, rfl, by decide +kernel, rfl, by decide +kernel, by decide +kernel⟩
theorem b__law_hand {P : Program} {w : World} {K : PySem.W.Frag} {mg : Str → Option Value} {base : Heap} {f : Addr} {cdv : Value} {A : Around} {outer : List Env} {s : Shared} {H : Hp} {E : XK} (B : Fx P K mg)  (C : Ctx (cxD P w K mg base N__law_hand "_law_hand" (top 29) f cdv A outer s H E) (wE E) 0) : DSs (cxD P w K mg base N__law_hand "_law_hand" (top 29) f cdv A outer s H E) (wE E) (defBody (top 29)) g__law_hand := by
  have SC := sc__law_hand
  exact (ds_cons (ds_setLc (i := 1) (own := [("cell", 2)]) C rfl SC.nd rfl rfl (by first | rfl | exact sw_true rfl rfl rfl rfl) (di_seq (de_slice (dv 0) dp_none (dp_some (de_int)))) (blkOk (by kernel_rfl)) rfl (fun _ _ _ _ _ C => ⟨(dgx_name (by decide) (pg_name SC.nd rfl (.inl rfl) (by first | exact .inl rfl | exact .inr rfl))), dts_nil, (de_callB call_abs cd_abs B.b_abs PyProof.Rows.Boot.«abs» (da_cons (de_callTy call_int1 cd_int B.b_int PyProof.Rows.boot_int (da_cons (dv 2) da_nil)) da_nil))⟩))
  (ds_one (ds_ret (de_lst (da_cons (dv 1) (da_cons (de_int) (da_cons (de_int) (da_cons (de_add (de_int) (de_mul (de_int) (de_callB call_len_seq cd_len B.b_len PyProof.Rows.Boot.«len» (da_cons (dv 1) da_nil)))) (da_cons (de_int) da_nil)))))))))
theorem ok__law_hand {P : Program} {w : World} {K : PySem.W.Frag} {mg : Str → Option Value} {base : Heap} {a : Addr} {fd : FuncData} (B : Fx P K mg) (U : FunD K "_law_hand" "_law_hand" (defArgs (top 29)) (defBody (top 29)) (defScope (top 29)) [] [] a fd) (hm : mg "_law_hand" = some (.ref a))  : DFn P w K mg base "_law_hand" 1 1 F__law_hand :=
  DFn.mk' (fun_of U) hm sc__law_hand (U.bindsN fun _ _ _ _ _ _ us hl => match us, hl with | [_], _ => rfl) rfl (fun cdv A outer s H E C => b__law_hand B  C) (fun ds st _ => viaF_sem 3 g__law_hand Good__law_hand ds st)
theorem sc_is_integer : FnScope N_is_integer ["thing"] (defScope (top 1)) := ⟨rfl, rfl, rfl, by decide +kernel, rfl, by decide +kernel, by decide +kernel⟩
theorem b_is_integer {P : Program} {w : World} {K : PySem.W.Frag} {mg : Str → Option Value} {base : Heap} {f : Addr} {cdv : Value} {A : Around} {outer : List Env} {s : Shared} {H : Hp} {E : XK} (B : Fx P K mg)  (C : Ctx (cxD P w K mg base N_is_integer "is_integer" (top 1) f cdv A outer s H E) (wE E) 0) : DSs (cxD P w K mg base N_is_integer "is_integer" (top 1) f cdv A outer s H E) (wE E) (defBody (top 1)) g_is_integer := by
  have SC := sc_is_integer
  exact (ds_one (ds_ret ((de_and (de_isi .int B.b_isinstance B.b_int PyProof.Rows.boot_int (dv 0)) (de_one (de_not (de_isi .bl B.b_isinstance B.b_bool PyProof.Rows.boot_bool (dv 0))))))))
theorem ok_is_integer {P : Program} {w : World} {K : PySem.W.Frag} {mg : Str → Option Value} {base : Heap} {a : Addr} {fd : FuncData} (B : Fx P K mg) (U : FunD K "is_integer" "is_integer" (defArgs (top 1)) (defBody (top 1)) (defScope (top 1)) [] [] a fd) (hm : mg "is_integer" = some (.ref a))  : DFn P w K mg base "is_integer" 1 1 F_is_integer :=
  DFn.mk' (fun_of U) hm sc_is_integer (U.bindsN fun _ _ _ _ _ _ us hl => match us, hl with | [_], _ => rfl) rfl (fun cdv A outer s H E C => b_is_integer B  C) (fun ds st _ => viaF_sem 1 g_is_integer Good_is_integer ds st)
theorem sc_is_conic : FnScope N_is_conic ["thing"] (defScope (top 21)) := ⟨rfl, rfl, rfl, by decide +kernel, rfl, by decide +kernel, by decide +kernel⟩
theorem b_is_conic {P : Program} {w : World} {K : PySem.W.Frag} {mg : Str → Option Value} {base : Heap} {f : Addr} {cdv : Value} {A : Around} {outer : List Env} {s : Shared} {H : Hp} {E : XK} (B : Fx P K mg) (G_is_integer : DFn P w K mg base "is_integer" 1 1 F_is_integer) (C : Ctx (cxD P w K mg base N_is_conic "is_conic" (top 21) f cdv A outer s H E) (wE E) 1) : DSs (cxD P w K mg base N_is_conic "is_conic" (top 21) f cdv A outer s H E) (wE E) (defBody (top 21)) g_is_conic := by
  have SC := sc_is_conic
  exact (ds_cons (ds_if (PW.pt (dw_or (dt_not (dt_truth (de_isi .tup B.b_isinstance B.b_tuple PyProof.Rows.boot_tuple (dv 0)))) (dw_or1 (dt_c (cm_ne C) (de_callB call_len_seq cd_len B.b_len PyProof.Rows.Boot.«len» (da_cons (dv 0) da_nil)) (de_int))))) (ds_one (ds_ret (de_bl))) ds_nil)
  (ds_one (ds_ret (de_callB (cr_all rfl) cd_all B.b_all PyProof.Rows.boot_all (da_cons (de_lc (own := [("one", 1)]) C rfl SC.nd (di_seq (dv 0)) (blkOk (by kernel_rfl)) rfl (fun _ _ _ _ _ C => ⟨(dgx_name (by decide) (pg_name SC.nd rfl (.inl rfl) (by first | exact .inl rfl | exact .inr rfl))), dts_nil, ((de_and (de_call C G_is_integer (da_cons (dv 1) da_nil)) (de_and (de_c (cm_ne C) (dv 1) (de_int)) (de_one (de_c cm_le (de_callB call_abs cd_abs B.b_abs PyProof.Rows.Boot.«abs» (da_cons (dv 1) da_nil)) (de_globI B.i_MOST))))))⟩)) da_nil)))))
theorem ok_is_conic {P : Program} {w : World} {K : PySem.W.Frag} {mg : Str → Option Value} {base : Heap} {a : Addr} {fd : FuncData} (B : Fx P K mg) (U : FunD K "is_conic" "is_conic" (defArgs (top 21)) (defBody (top 21)) (defScope (top 21)) [] [] a fd) (hm : mg "is_conic" = some (.ref a)) (G_is_integer : DFn P w K mg base "is_integer" 1 1 F_is_integer) : DFn P w K mg base "is_conic" 1 2 F_is_conic :=
  DFn.mk' (fun_of U) hm sc_is_conic (U.bindsN fun _ _ _ _ _ _ us hl => match us, hl with | [_], _ => rfl) rfl (fun cdv A outer s H E C => b_is_conic B G_is_integer C) (fun ds st _ => viaF_sem 2 g_is_conic Good_is_conic ds st)
theorem sc_check_conic : FnScope N_check_conic ["thing"] (defScope (top 22)) := ⟨rfl, rfl, rfl, by decide +kernel, rfl, by decide +kernel, by decide +kernel⟩
theorem b_check_conic {P : Program} {w : World} {K : PySem.W.Frag} {mg : Str → Option Value} {base : Heap} {f : Addr} {cdv : Value} {A : Around} {outer : List Env} {s : Shared} {H : Hp} {E : XK} (B : Fx P K mg) (G_is_conic : DFn P w K mg base "is_conic" 1 2 F_is_conic) (C : Ctx (cxD P w K mg base N_check_conic "check_conic" (top 22) f cdv A outer s H E) (wE E) 2) : DSs (cxD P w K mg base N_check_conic "check_conic" (top 22) f cdv A outer s H E) (wE E) (defBody (top 22)) g_check_conic := by
  have SC := sc_check_conic
  exact (ds_one (ds_if (dt_not (dt_truth (de_call C G_is_conic (da_cons (dv 0) da_nil)))) (ds_one (ds_raise C B.x_NoConic B.m_NoConic B.b_super)) ds_nil))
theorem ok_check_conic {P : Program} {w : World} {K : PySem.W.Frag} {mg : Str → Option Value} {base : Heap} {a : Addr} {fd : FuncData} (B : Fx P K mg) (U : FunD K "check_conic" "check_conic" (defArgs (top 22)) (defBody (top 22)) (defScope (top 22)) [] [] a fd) (hm : mg "check_conic" = some (.ref a)) (G_is_conic : DFn P w K mg base "is_conic" 1 2 F_is_conic) : DFn P w K mg base "check_conic" 1 3 F_check_conic :=
  DFn.mk' (fun_of U) hm sc_check_conic (U.bindsN fun _ _ _ _ _ _ us hl => match us, hl with | [_], _ => rfl) rfl (fun cdv A outer s H E C => b_check_conic B G_is_conic C) (fun ds st _ => viaF_sem 1 g_check_conic Good_check_conic ds st)
theorem sc_whole_root : FnScope N_whole_root ["number"] (defScope (top 4)) := ⟨rfl, rfl, rfl, by decide +kernel, rfl, by decide +kernel, by decide +kernel⟩
theorem b_whole_root {P : Program} {w : World} {K : PySem.W.Frag} {mg : Str → Option Value} {base : Heap} {f : Addr} {cdv : Value} {A : Around} {outer : List Env} {s : Shared} {H : Hp} {E : XK} (B : Fx P K mg)  (C : Ctx (cxD P w K mg base N_whole_root "whole_root" (top 4) f cdv A outer s H E) (wE E) 0) : DSs (cxD P w K mg base N_whole_root "whole_root" (top 4) f cdv A outer s H E) (wE E) (defBody (top 4)) g_whole_root := by
  have SC := sc_whole_root
  exact (ds_cons (ds_if (dt_c cm_lt (dv 0) (de_int)) (ds_one (ds_ret (dv 0))) ds_nil)
  (ds_cons (ds_set (i := 1) SC.nd rfl (by first | exact .inl rfl | exact .inr rfl) (de_int))
  (ds_cons (ds_whileC C (dt_c cm_le (de_mul (dv 1) (dv 1)) (dv 0)) (ds_one (ds_set (i := 1) SC.nd rfl (by first | exact .inl rfl | exact .inr rfl) (de_mul (de_int) (dv 1)))))
  (ds_cons (ds_set (i := 2) SC.nd rfl (by first | exact .inl rfl | exact .inr rfl) (de_fdiv (de_add (dv 1) (de_fdiv (dv 0) (dv 1))) (de_int)))
  (ds_cons (ds_whileC C (dt_c cm_lt (dv 2) (dv 1)) (ds_cons (ds_set (i := 1) SC.nd rfl (by first | exact .inl rfl | exact .inr rfl) (dv 2))
  (ds_one (ds_set (i := 2) SC.nd rfl (by first | exact .inl rfl | exact .inr rfl) (de_fdiv (de_add (dv 1) (de_fdiv (dv 0) (dv 1))) (de_int))))))
  (ds_one (ds_ret (dv 1))))))))
theorem ok_whole_root {P : Program} {w : World} {K : PySem.W.Frag} {mg : Str → Option Value} {base : Heap} {a : Addr} {fd : FuncData} (B : Fx P K mg) (U : FunD K "whole_root" "whole_root" (defArgs (top 4)) (defBody (top 4)) (defScope (top 4)) [] [] a fd) (hm : mg "whole_root" = some (.ref a))  : DFn P w K mg base "whole_root" 1 1 F_whole_root :=
  DFn.mk' (fun_of U) hm sc_whole_root (U.bindsN fun _ _ _ _ _ _ us hl => match us, hl with | [_], _ => rfl) rfl (fun cdv A outer s H E C => b_whole_root B  C) (fun ds st _ => viaF_sem 3 g_whole_root Good_whole_root ds st)
theorem sc_common_divisor : FnScope N_common_divisor ["one", "other"] (defScope (top 2)) := ⟨rfl, rfl, rfl, by decide +kernel, rfl, by decide +kernel, by decide +kernel⟩
theorem b_common_divisor {P : Program} {w : World} {K : PySem.W.Frag} {mg : Str → Option Value} {base : Heap} {f : Addr} {cdv : Value} {A : Around} {outer : List Env} {s : Shared} {H : Hp} {E : XK} (B : Fx P K mg)  (C : Ctx (cxD P w K mg base N_common_divisor "common_divisor" (top 2) f cdv A outer s H E) (wE E) 0) : DSs (cxD P w K mg base N_common_divisor "common_divisor" (top 2) f cdv A outer s H E) (wE E) (defBody (top 2)) g_common_divisor := by
  have SC := sc_common_divisor
  exact (ds_cons (ds_par (i := 0) (j := 1) rfl SC.nd rfl rfl (by decide) rfl rfl (da_cons (de_callB call_abs cd_abs B.b_abs PyProof.Rows.Boot.«abs» (da_cons (dv 0) da_nil)) (da_cons (de_callB call_abs cd_abs B.b_abs PyProof.Rows.Boot.«abs» (da_cons (dv 1) da_nil)) da_nil)))
  (ds_cons (ds_whileC C (dt_c cm_gt (dv 1) (de_int)) (ds_one (ds_par (i := 0) (j := 1) rfl SC.nd rfl rfl (by decide) rfl rfl (da_cons (dv 1) (da_cons (de_mod (dv 0) (dv 1)) da_nil)))))
  (ds_one (ds_ret (dv 0)))))
theorem ok_common_divisor {P : Program} {w : World} {K : PySem.W.Frag} {mg : Str → Option Value} {base : Heap} {a : Addr} {fd : FuncData} (B : Fx P K mg) (U : FunD K "common_divisor" "common_divisor" (defArgs (top 2)) (defBody (top 2)) (defScope (top 2)) [] [] a fd) (hm : mg "common_divisor" = some (.ref a))  : DFn P w K mg base "common_divisor" 2 1 F_common_divisor :=
  DFn.mk' (fun_of U) hm sc_common_divisor (U.bindsN fun _ _ _ _ _ _ us hl => match us, hl with | [_, _], _ => rfl) rfl (fun cdv A outer s H E C => b_common_divisor B  C) (fun ds st _ => viaF_sem 2 g_common_divisor Good_common_divisor ds st)
theorem sc_divisor_of : FnScope N_divisor_of ["numbers"] (defScope (top 3)) := ⟨rfl, rfl, rfl, by decide +kernel, rfl, by decide +kernel, by decide +kernel⟩
theorem b_divisor_of {P : Program} {w : World} {K : PySem.W.Frag} {mg : Str → Option Value} {base : Heap} {f : Addr} {cdv : Value} {A : Around} {outer : List Env} {s : Shared} {H : Hp} {E : XK} (B : Fx P K mg) (G_common_divisor : DFn P w K mg base "common_divisor" 2 1 F_common_divisor) (C : Ctx (cxD P w K mg base N_divisor_of "divisor_of" (top 3) f cdv A outer s H E) (wE E) 1) : DSs (cxD P w K mg base N_divisor_of "divisor_of" (top 3) f cdv A outer s H E) (wE E) (defBody (top 3)) g_divisor_of := by
  have SC := sc_divisor_of
  exact (ds_cons (ds_set (i := 1) SC.nd rfl (by first | exact .inl rfl | exact .inr rfl) (de_int))
  (ds_cons (ds_forC C rfl (di_seq (dv 0)) (dg_name SC.nd rfl (by first | exact .inl rfl | exact .inr rfl)) (ds_one (ds_set (i := 1) SC.nd rfl (by first | exact .inl rfl | exact .inr rfl) (de_call C G_common_divisor (da_cons (dv 1) (da_cons (dv 2) da_nil))))))
  (ds_one (ds_ret (dv 1)))))
theorem ok_divisor_of {P : Program} {w : World} {K : PySem.W.Frag} {mg : Str → Option Value} {base : Heap} {a : Addr} {fd : FuncData} (B : Fx P K mg) (U : FunD K "divisor_of" "divisor_of" (defArgs (top 3)) (defBody (top 3)) (defScope (top 3)) [] [] a fd) (hm : mg "divisor_of" = some (.ref a)) (G_common_divisor : DFn P w K mg base "common_divisor" 2 1 F_common_divisor) : DFn P w K mg base "divisor_of" 1 2 F_divisor_of :=
  DFn.mk' (fun_of U) hm sc_divisor_of (U.bindsN fun _ _ _ _ _ _ us hl => match us, hl with | [_], _ => rfl) rfl (fun cdv A outer s H E C => b_divisor_of B G_common_divisor C) (fun ds st _ => viaF_sem 3 g_divisor_of Good_divisor_of ds st)
theorem sc_small_points : FnScope N_small_points ["conic", "most"] (defScope (top 25)) := ⟨rfl, rfl, rfl, by decide +kernel, rfl, by decide +kernel, by decide +kernel⟩
theorem b_small_points {P : Program} {w : World} {K : PySem.W.Frag} {mg : Str → Option Value} {base : Heap} {f : Addr} {cdv : Value} {A : Around} {outer : List Env} {s : Shared} {H : Hp} {E : XK} (B : Fx P K mg) (G_check_conic : DFn P w K mg base "check_conic" 1 3 F_check_conic) (G_is_integer : DFn P w K mg base "is_integer" 1 1 F_is_integer) (G_whole_root : DFn P w K mg base "whole_root" 1 1 F_whole_root) (G_divisor_of : DFn P w K mg base "divisor_of" 1 2 F_divisor_of) (C : Ctx (cxD P w K mg base N_small_points "small_points" (top 25) f cdv A outer s H E) (wE E) 3) : DSs (cxD P w K mg base N_small_points "small_points" (top 25) f cdv A outer s H E) (wE E) (defBody (top 25)) g_small_points := by
  have SC := sc_small_points
  exact (ds_cons (ds_expr (de_call C G_check_conic (da_cons (dv 0) da_nil)))
  (ds_cons (ds_if (PW.pt (dw_or (dt_not (dt_truth (de_call C G_is_integer (da_cons (dv 1) da_nil)))) (dw_or1 (dt_not (dt_chain cm_le cm_le (de_int) (dv 1) (de_int)))))) (ds_one (ds_raise C B.x_NoFraction B.m_NoFraction B.b_super)) ds_nil)
  (ds_cons (ds_set (i := 2) SC.nd rfl (by first | exact .inl rfl | exact .inr rfl) (de_lst da_nil))
  (ds_cons (ds_forC C rfl (di_range1 B.b_range (da_cons (de_add (dv 1) (de_int)) da_nil)) (dg_name SC.nd rfl (by first | exact .inl rfl | exact .inr rfl)) (ds_one (ds_forC C rfl (di_range1 B.b_range (da_cons (de_add (dv 1) (de_int)) da_nil)) (dg_name SC.nd rfl (by first | exact .inl rfl | exact .inr rfl)) (ds_cons (ds_set (i := 5) SC.nd rfl (by first | exact .inl rfl | exact .inr rfl) (de_neg (de_add (de_mul (de_mul (de_ix (dv 0) (de_int)) (dv 3)) (dv 3)) (de_mul (de_mul (de_ix (dv 0) (de_int)) (dv 4)) (dv 4)))))
  (ds_one (ds_if (PW.pt (dw_and (dt_c (cm_eq C) (de_mod (dv 5) (de_ix (dv 0) (de_int))) (de_int)) (dw_and1 (dt_c cm_ge (de_fdiv (dv 5) (de_ix (dv 0) (de_int))) (de_int))))) (ds_cons (ds_set (i := 6) SC.nd rfl (by first | exact .inl rfl | exact .inr rfl) (de_call C G_whole_root (da_cons (de_fdiv (dv 5) (de_ix (dv 0) (de_int))) da_nil)))
  (ds_one (ds_if (PW.pt (dw_and (dt_c (cm_eq C) (de_mul (dv 6) (dv 6)) (de_fdiv (dv 5) (de_ix (dv 0) (de_int)))) (dw_and (dt_c cm_le (dv 6) (dv 1)) (dw_and1 (dt_c (cm_eq C) (de_call C G_divisor_of (da_cons (de_tup (da_cons (dv 3) (da_cons (dv 4) (da_cons (dv 6) da_nil)))) da_nil)) (de_int)))))) (ds_one (ds_expr (de_append (dv 2) (da_cons (de_tup (da_cons (dv 3) (da_cons (dv 4) (da_cons (dv 6) da_nil)))) da_nil)))) ds_nil))) ds_nil))))))
  (ds_one (ds_ret (de_callB (call_sortedD C) cd_sorted B.b_sorted PyProof.Rows.boot_sorted (da_cons (dv 2) da_nil))))))))
theorem ok_small_points {P : Program} {w : World} {K : PySem.W.Frag} {mg : Str → Option Value} {base : Heap} {a : Addr} {fd : FuncData} (B : Fx P K mg) (U : FunD K "small_points" "small_points" (defArgs (top 25)) (defBody (top 25)) (defScope (top 25)) [] [] a fd) (hm : mg "small_points" = some (.ref a)) (G_check_conic : DFn P w K mg base "check_conic" 1 3 F_check_conic) (G_is_integer : DFn P w K mg base "is_integer" 1 1 F_is_integer) (G_whole_root : DFn P w K mg base "whole_root" 1 1 F_whole_root) (G_divisor_of : DFn P w K mg base "divisor_of" 1 2 F_divisor_of) : DFn P w K mg base "small_points" 2 4 F_small_points :=
  DFn.mk' (fun_of U) hm sc_small_points (U.bindsN fun _ _ _ _ _ _ us hl => match us, hl with | [_, _], _ => rfl) rfl (fun cdv A outer s H E C => b_small_points B G_check_conic G_is_integer G_whole_root G_divisor_of C) (fun ds st _ => viaF_sem 7 g_small_points Good_small_points ds st)
theorem sc_is_conic_paper : FnScope N_is_conic_paper ["conic", "thing"] (defScope (top 24)) := ⟨rfl, rfl, rfl, by decide +kernel, rfl, by decide +kernel, by decide +kernel⟩
theorem b_is_conic_paper {P : Program} {w : World} {K : PySem.W.Frag} {mg : Str → Option Value} {base : Heap} {f : Addr} {cdv : Value} {A : Around} {outer : List Env} {s : Shared} {H : Hp} {E : XK} (B : Fx P K mg) (G_check_conic : DFn P w K mg base "check_conic" 1 3 F_check_conic) (G_is_integer : DFn P w K mg base "is_integer" 1 1 F_is_integer) (C : Ctx (cxD P w K mg base N_is_conic_paper "is_conic_paper" (top 24) f cdv A outer s H E) (wE E) 3) : DSs (cxD P w K mg base N_is_conic_paper "is_conic_paper" (top 24) f cdv A outer s H E) (wE E) (defBody (top 24)) g_is_conic_paper := by
  have SC := sc_is_conic_paper
  exact (ds_cons (ds_expr (de_call C G_check_conic (da_cons (dv 0) da_nil)))
  (ds_cons (ds_if (PW.pt (dw_or (dt_not (dt_truth (de_isi .tup B.b_isinstance B.b_tuple PyProof.Rows.boot_tuple (dv 1)))) (dw_or (dt_c (cm_ne C) (de_callB call_len_seq cd_len B.b_len PyProof.Rows.Boot.«len» (da_cons (dv 1) da_nil)) (de_int)) (dw_or1 (dt_not (dt_truth (de_isi .str B.b_isinstance B.b_str PyProof.Rows.boot_str (de_ix (dv 1) (de_int))))))))) (ds_one (ds_ret (de_bl))) ds_nil)
  (ds_cons (ds_if (dt_c (cm_eq C) (de_ix (dv 1) (de_int)) (de_str)) (ds_one (ds_never)) ds_nil)
  (ds_cons (ds_if (PW.pt (dw_or (dt_c (cm_ne C) (de_ix (dv 1) (de_int)) (de_str)) (dw_or (dt_not (dt_truth (de_isi .tup B.b_isinstance B.b_tuple PyProof.Rows.boot_tuple (de_ix (dv 1) (de_int))))) (dw_or1 (dt_c (cm_ne C) (de_callB call_len_seq cd_len B.b_len PyProof.Rows.Boot.«len» (da_cons (de_ix (dv 1) (de_int)) da_nil)) (de_int)))))) (ds_one (ds_ret (de_bl))) ds_nil)
  (ds_cons (ds_if (PW.pt (dw_or (dt_not (dt_truth (de_callB (cr_all rfl) cd_all B.b_all PyProof.Rows.boot_all (da_cons (de_lc (own := [("one", 2)]) C rfl SC.nd (di_seq (de_ix (dv 1) (de_int))) (blkOk (by kernel_rfl)) rfl (fun _ _ _ _ _ C => ⟨(dgx_name (by decide) (pg_name SC.nd rfl (.inl rfl) (by first | exact .inl rfl | exact .inr rfl))), dts_nil, (de_call C G_is_integer (da_cons (dv 2) da_nil))⟩)) da_nil)))) (dw_or1 (dt_not (dt_truth (de_callB (call_anyT C) cd_anyT B.b_any PyProof.Rows.boot_any (da_cons (de_ix (dv 1) (de_int)) da_nil))))))) (ds_one (ds_ret (de_bl))) ds_nil)
  (ds_one (ds_ret (de_c (cm_eq C) (de_callB (cr_sum rfl) cd_sum B.b_sum PyProof.Rows.boot_sum (da_cons (de_lc (own := [("one", 2), ("part", 3)]) C rfl SC.nd (di_zip B.b_zip (da_cons (dv 0) (da_cons (de_ix (dv 1) (de_int)) da_nil))) (blkOk (by kernel_rfl)) rfl (fun _ _ _ _ _ C => ⟨(dgx_tup rfl (dgxs_cons (dgx_name (by decide) (pg_name SC.nd rfl (.inl rfl) (by first | exact .inl rfl | exact .inr rfl))) (dgxs_cons (dgx_name (by decide) (pg_name SC.nd rfl (.inl rfl) (by first | exact .inl rfl | exact .inr rfl))) dgxs_nil))), dts_nil, (de_mul (de_mul (dv 2) (dv 3)) (dv 3))⟩)) da_nil)) (de_int)))))))))
theorem ok_is_conic_paper {P : Program} {w : World} {K : PySem.W.Frag} {mg : Str → Option Value} {base : Heap} {a : Addr} {fd : FuncData} (B : Fx P K mg) (U : FunD K "is_conic_paper" "is_conic_paper" (defArgs (top 24)) (defBody (top 24)) (defScope (top 24)) [] [] a fd) (hm : mg "is_conic_paper" = some (.ref a)) (G_check_conic : DFn P w K mg base "check_conic" 1 3 F_check_conic) (G_is_integer : DFn P w K mg base "is_integer" 1 1 F_is_integer) : DFn P w K mg base "is_conic_paper" 2 4 F_is_conic_paper :=
  DFn.mk' (fun_of U) hm sc_is_conic_paper (U.bindsN fun _ _ _ _ _ _ us hl => match us, hl with | [_, _], _ => rfl) rfl (fun cdv A outer s H E C => b_is_conic_paper B G_check_conic G_is_integer C) (fun ds st _ => viaF_sem 4 g_is_conic_paper Good_is_conic_paper ds st)
theorem sc_chord_point : FnScope N_chord_point ["conic", "point", "u", "v"] (defScope (top 26)) := ⟨rfl, rfl, rfl, by decide +kernel, rfl, by decide +kernel, by decide +kernel⟩
theorem b_chord_point {P : Program} {w : World} {K : PySem.W.Frag} {mg : Str → Option Value} {base : Heap} {f : Addr} {cdv : Value} {A : Around} {outer : List Env} {s : Shared} {H : Hp} {E : XK} (B : Fx P K mg) (G_divisor_of : DFn P w K mg base "divisor_of" 1 2 F_divisor_of) (C : Ctx (cxD P w K mg base N_chord_point "chord_point" (top 26) f cdv A outer s H E) (wE E) 2) : DSs (cxD P w K mg base N_chord_point "chord_point" (top 26) f cdv A outer s H E) (wE E) (defBody (top 26)) g_chord_point := by
  have SC := sc_chord_point
  exact (ds_cons (ds_asg (dv 0) (dg_tup rfl (dgs_cons (dg_name SC.nd rfl (by first | exact .inl rfl | exact .inr rfl)) (dgs_cons (dg_name SC.nd rfl (by first | exact .inl rfl | exact .inr rfl)) (dgs_cons (dg_name SC.nd rfl (by first | exact .inl rfl | exact .inr rfl)) dgs_nil)))))
  (ds_cons (ds_asg (dv 1) (dg_tup rfl (dgs_cons (dg_name SC.nd rfl (by first | exact .inl rfl | exact .inr rfl)) (dgs_cons (dg_name SC.nd rfl (by first | exact .inl rfl | exact .inr rfl)) (dgs_cons (dg_name SC.nd rfl (by first | exact .inl rfl | exact .inr rfl)) dgs_nil)))))
  (ds_cons (ds_par (i := 10) (j := 11) rfl SC.nd rfl rfl (by decide) rfl rfl (da_cons (de_add (de_mul (de_mul (dv 4) (dv 2)) (dv 2)) (de_mul (de_mul (dv 5) (dv 3)) (dv 3))) (da_cons (de_add (de_mul (de_mul (dv 4) (dv 7)) (dv 2)) (de_mul (de_mul (dv 5) (dv 8)) (dv 3))) da_nil)))
  (ds_cons (ds_set (i := 12) SC.nd rfl (by first | exact .inl rfl | exact .inr rfl) (de_tup (da_cons (de_sub (de_mul (dv 7) (dv 10)) (de_mul (de_mul (de_int) (dv 11)) (dv 2))) (da_cons (de_sub (de_mul (dv 8) (dv 10)) (de_mul (de_mul (de_int) (dv 11)) (dv 3))) (da_cons (de_mul (dv 9) (dv 10)) da_nil)))))
  (ds_cons (ds_set (i := 13) SC.nd rfl (by first | exact .inl rfl | exact .inr rfl) (de_call C G_divisor_of (da_cons (dv 12) da_nil)))
  (ds_one (ds_ret (de_if (dt_c cm_gt (dv 13) (de_int)) (de_callTy call_tuple_of cd_tuple B.b_tuple PyProof.Rows.boot_tuple (da_cons (de_lc (own := [("part", 14)]) C rfl SC.nd (di_seq (dv 12)) (blkOk (by kernel_rfl)) rfl (fun _ _ _ _ _ C => ⟨(dgx_name (by decide) (pg_name SC.nd rfl (.inl rfl) (by first | exact .inl rfl | exact .inr rfl))), dts_nil, (de_fdiv (dv 14) (dv 13))⟩)) da_nil)) (dv 1)))))))))
theorem ok_chord_point {P : Program} {w : World} {K : PySem.W.Frag} {mg : Str → Option Value} {base : Heap} {a : Addr} {fd : FuncData} (B : Fx P K mg) (U : FunD K "chord_point" "chord_point" (defArgs (top 26)) (defBody (top 26)) (defScope (top 26)) [] [] a fd) (hm : mg "chord_point" = some (.ref a)) (G_divisor_of : DFn P w K mg base "divisor_of" 1 2 F_divisor_of) : DFn P w K mg base "chord_point" 4 3 F_chord_point :=
  DFn.mk' (fun_of U) hm sc_chord_point (U.bindsN fun _ _ _ _ _ _ us hl => match us, hl with | [_, _, _, _], _ => rfl) rfl (fun cdv A outer s H E C => b_chord_point B G_divisor_of C) (fun ds st _ => viaF_sem 15 g_chord_point Good_chord_point ds st)
theorem sc_other_point : FnScope N_other_point ["conic", "point", "u", "v"] (defScope (top 27)) := ⟨rfl, rfl, rfl, by decide +kernel, rfl, by decide +kernel, by decide +kernel⟩
theorem b_other_point {P : Program} {w : World} {K : PySem.W.Frag} {mg : Str → Option Value} {base : Heap} {f : Addr} {cdv : Value} {A : Around} {outer : List Env} {s : Shared} {H : Hp} {E : XK} (B : Fx P K mg) (G_is_conic_paper : DFn P w K mg base "is_conic_paper" 2 4 F_is_conic_paper) (G_is_integer : DFn P w K mg base "is_integer" 1 1 F_is_integer) (G_chord_point : DFn P w K mg base "chord_point" 4 3 F_chord_point) (C : Ctx (cxD P w K mg base N_other_point "other_point" (top 27) f cdv A outer s H E) (wE E) 4) : DSs (cxD P w K mg base N_other_point "other_point" (top 27) f cdv A outer s H E) (wE E) (defBody (top 27)) g_other_point := by
  have SC := sc_other_point
  exact (ds_cons (ds_if (PW.pt (dw_or (dt_not (dt_truth (de_call C G_is_conic_paper (da_cons (dv 0) (da_cons (de_tup (da_cons (de_str) (da_cons (dv 1) da_nil))) da_nil))))) (dw_or (dt_not (dt_truth (de_callB (cr_all rfl) cd_all B.b_all PyProof.Rows.boot_all (da_cons (de_lc (own := [("one", 4)]) C rfl SC.nd (di_seq (de_tup (da_cons (dv 2) (da_cons (dv 3) da_nil)))) (blkOk (by kernel_rfl)) rfl (fun _ _ _ _ _ C => ⟨(dgx_name (by decide) (pg_name SC.nd rfl (.inl rfl) (by first | exact .inl rfl | exact .inr rfl))), dts_nil, (de_call C G_is_integer (da_cons (dv 4) da_nil))⟩)) da_nil)))) (dw_or1 (dt_c (cm_eq C) (de_tup (da_cons (dv 2) (da_cons (dv 3) da_nil))) (de_tup (da_cons (de_int) (da_cons (de_int) da_nil)))))))) (ds_one (ds_raise C B.x_NoConic B.m_NoConic B.b_super)) ds_nil)
  (ds_one (ds_ret (de_call C G_chord_point (da_cons (dv 0) (da_cons (dv 1) (da_cons (dv 2) (da_cons (dv 3) da_nil))))))))
theorem ok_other_point {P : Program} {w : World} {K : PySem.W.Frag} {mg : Str → Option Value} {base : Heap} {a : Addr} {fd : FuncData} (B : Fx P K mg) (U : FunD K "other_point" "other_point" (defArgs (top 27)) (defBody (top 27)) (defScope (top 27)) [] [] a fd) (hm : mg "other_point" = some (.ref a)) (G_is_conic_paper : DFn P w K mg base "is_conic_paper" 2 4 F_is_conic_paper) (G_is_integer : DFn P w K mg base "is_integer" 1 1 F_is_integer) (G_chord_point : DFn P w K mg base "chord_point" 4 3 F_chord_point) : DFn P w K mg base "other_point" 4 5 F_other_point :=
  DFn.mk' (fun_of U) hm sc_other_point (U.bindsN fun _ _ _ _ _ _ us hl => match us, hl with | [_, _, _, _], _ => rfl) rfl (fun cdv A outer s H E C => b_other_point B G_is_conic_paper G_is_integer G_chord_point C) (fun ds st _ => viaF_sem 5 g_other_point Good_other_point ds st)
theorem sc__law_draw : FnScope N__law_draw ["hand", "many"] (defScope (top 30)) := ⟨rfl, rfl, rfl, by decide +kernel, rfl, by decide +kernel, by decide +kernel⟩
theorem b__law_draw {P : Program} {w : World} {K : PySem.W.Frag} {mg : Str → Option Value} {base : Heap} {f : Addr} {cdv : Value} {A : Around} {outer : List Env} {s : Shared} {H : Hp} {E : XK} (B : Fx P K mg)  (C : Ctx (cxD P w K mg base N__law_draw "_law_draw" (top 30) f cdv A outer s H E) (wE E) 0) : DSs (cxD P w K mg base N__law_draw "_law_draw" (top 30) f cdv A outer s H E) (wE E) (defBody (top 30)) g__law_draw := by
  have SC := sc__law_draw
  exact (ds_cons (ds_if (PW.pt (dw_and (dt_c (cm_eq C) (de_ix (dv 0) (de_int)) (de_int)) (dw_and1 (dt_c cm_lt (de_ix (dv 0) (de_int)) (de_callB call_len_seq cd_len B.b_len PyProof.Rows.Boot.«len» (da_cons (de_ix (dv 0) (de_int)) da_nil)))))) (ds_cons (ds_set (i := 2) SC.nd rfl (by first | exact .inl rfl | exact .inr rfl) (de_ix (de_ix (dv 0) (de_int)) (de_ix (dv 0) (de_int))))
  (ds_cons (ds_asg (de_add (de_ix (dv 0) (de_int)) (de_int)) (dg_sub (W := wE E) (dv 0) (de_int)))
  (ds_cons (ds_asg (de_mod (de_callTy call_int1 cd_int B.b_int PyProof.Rows.boot_int (da_cons (de_add (de_add (de_mul (de_ix (dv 0) (de_int)) (de_int)) (de_mul (dv 2) (de_int))) (de_int)) da_nil)) (de_int)) (dg_sub (W := wE E) (dv 0) (de_int)))
  (ds_one (ds_if (dt_c cm_ge (dv 2) (de_pow (de_int) (de_int))) (ds_one (ds_asg (dv 2) (dg_sub (W := wE E) (dv 0) (de_int)))) ds_nil))))) ds_nil)
  (ds_cons (ds_if (dt_c cm_gt (de_ix (dv 0) (de_int)) (de_int)) (ds_cons (ds_set (i := 3) SC.nd rfl (by first | exact .inl rfl | exact .inr rfl) (de_mod (de_callTy call_int1 cd_int B.b_int PyProof.Rows.boot_int (da_cons (de_ix (dv 0) (de_int)) da_nil)) (dv 1)))
  (ds_cons (ds_asg (de_fdiv (de_ix (dv 0) (de_int)) (dv 1)) (dg_sub (W := wE E) (dv 0) (de_int)))
  (ds_one (ds_ret (dv 3))))) ds_nil)
  (ds_cons (ds_asg (de_add (de_ix (dv 0) (de_int)) (de_int)) (dg_sub (W := wE E) (dv 0) (de_int)))
  (ds_cons (ds_set (i := 4) SC.nd rfl (by first | exact .inl rfl | exact .inr rfl) (de_mod (de_callTy call_int1 cd_int B.b_int PyProof.Rows.boot_int (da_cons (de_mul (de_callTy call_int1 cd_int B.b_int PyProof.Rows.boot_int (da_cons (de_add (de_ix (dv 0) (de_int)) (de_mul (de_int) (de_ix (dv 0) (de_int)))) da_nil)) (de_int)) da_nil)) (de_int)))
  (ds_cons (ds_set (i := 4) SC.nd rfl (by first | exact .inl rfl | exact .inr rfl) (de_mod (de_callTy call_int1 cd_int B.b_int PyProof.Rows.boot_int (da_cons (de_mul (dv 4) (de_add (de_fdiv (dv 4) (de_int)) (de_int))) da_nil)) (de_int)))
  (ds_cons (ds_set (i := 4) SC.nd rfl (by first | exact .inl rfl | exact .inr rfl) (de_mod (de_callTy call_int1 cd_int B.b_int PyProof.Rows.boot_int (da_cons (de_mul (dv 4) (de_add (de_fdiv (dv 4) (de_int)) (de_int))) da_nil)) (de_int)))
  (ds_one (ds_ret (de_mod (de_callTy call_int1 cd_int B.b_int PyProof.Rows.boot_int (da_cons (de_fdiv (dv 4) (de_int)) da_nil)) (dv 1))))))))))
theorem ok__law_draw {P : Program} {w : World} {K : PySem.W.Frag} {mg : Str → Option Value} {base : Heap} {a : Addr} {fd : FuncData} (B : Fx P K mg) (U : FunD K "_law_draw" "_law_draw" (defArgs (top 30)) (defBody (top 30)) (defScope (top 30)) [] [] a fd) (hm : mg "_law_draw" = some (.ref a))  : DFn P w K mg base "_law_draw" 2 1 F__law_draw :=
  DFn.mk' (fun_of U) hm sc__law_draw (U.bindsN fun _ _ _ _ _ _ us hl => match us, hl with | [_, _], _ => rfl) rfl (fun cdv A outer s H E C => b__law_draw B  C) (fun ds st _ => viaF_sem 5 g__law_draw Good__law_draw ds st)
theorem sc__law_any : FnScope N__law_any ["hand", "some"] (defScope (top 31)) := ⟨rfl, rfl, rfl, by decide +kernel, rfl, by decide +kernel, by decide +kernel⟩
theorem b__law_any {P : Program} {w : World} {K : PySem.W.Frag} {mg : Str → Option Value} {base : Heap} {f : Addr} {cdv : Value} {A : Around} {outer : List Env} {s : Shared} {H : Hp} {E : XK} (B : Fx P K mg) (G__law_draw : DFn P w K mg base "_law_draw" 2 1 F__law_draw) (C : Ctx (cxD P w K mg base N__law_any "_law_any" (top 31) f cdv A outer s H E) (wE E) 1) : DSs (cxD P w K mg base N__law_any "_law_any" (top 31) f cdv A outer s H E) (wE E) (defBody (top 31)) g__law_any := by
  have SC := sc__law_any
  exact (ds_one (ds_ret (de_ix (dv 1) (de_call C G__law_draw (da_cons (dv 0) (da_cons (de_callB call_len_seq cd_len B.b_len PyProof.Rows.Boot.«len» (da_cons (dv 1) da_nil)) da_nil))))))
theorem ok__law_any {P : Program} {w : World} {K : PySem.W.Frag} {mg : Str → Option Value} {base : Heap} {a : Addr} {fd : FuncData} (B : Fx P K mg) (U : FunD K "_law_any" "_law_any" (defArgs (top 31)) (defBody (top 31)) (defScope (top 31)) [] [] a fd) (hm : mg "_law_any" = some (.ref a)) (G__law_draw : DFn P w K mg base "_law_draw" 2 1 F__law_draw) : DFn P w K mg base "_law_any" 2 2 F__law_any :=
  DFn.mk' (fun_of U) hm sc__law_any (U.bindsN fun _ _ _ _ _ _ us hl => match us, hl with | [_, _], _ => rfl) rfl (fun cdv A outer s H E C => b__law_any B G__law_draw C) (fun ds st _ => viaF_sem 2 g__law_any Good__law_any ds st)
theorem sc__law_word : FnScope N__law_word ["which", "conic", "x"] (defScope (top 40)) := ⟨rfl, rfl, rfl, by decide +kernel, rfl, by decide +kernel, by decide +kernel⟩
theorem b__law_word {P : Program} {w : World} {K : PySem.W.Frag} {mg : Str → Option Value} {base : Heap} {f : Addr} {cdv : Value} {A : Around} {outer : List Env} {s : Shared} {H : Hp} {E : XK} (B : Fx P K mg) (G_small_points : DFn P w K mg base "small_points" 2 4 F_small_points) (G_other_point : DFn P w K mg base "other_point" 4 5 F_other_point) (C : Ctx (cxD P w K mg base N__law_word "_law_word" (top 40) f cdv A outer s H E) (wE E) 5) : DSs (cxD P w K mg base N__law_word "_law_word" (top 40) f cdv A outer s H E) (wE E) (defBody (top 40)) g__law_word := by
  have SC := sc__law_word
  exact (ds_cons (ds_set (i := 3) SC.nd rfl (by first | exact .inl rfl | exact .inr rfl) (de_str))
  (ds_cons (ds_try_as C rfl rfl SC.nd rfl rfl ⟨rfl, by decide, .inl B.m_FieldError⟩ (catF_ok B) (fun _ _ _ C => (ds_one (ds_if (dt_c (cm_eq C) (dv 0) (de_int)) (ds_one (ds_expr (de_call C G_small_points (da_cons (dv 1) (da_cons (de_ix (dv 2) (de_int)) da_nil))))) (ds_one (ds_expr (de_call C G_other_point (da_cons (dv 1) (da_cons (de_ix (dv 2) (de_int)) (da_cons (de_ix (dv 2) (de_int)) (da_cons (de_ix (dv 2) (de_int)) da_nil)))))))))) (fun x a oe D d pn hcat hm hd hz hfl CS => by
    obtain ⟨hy, rfl, EX⟩ := suite_ok B hcat hm
    obtain rfl := hd (catF_fs hcat)
    exact (ds_cons (ds_set (i := 3) SC.nd rfl (by first | exact .inl rfl | exact .inr rfl) (de_str))
  (ds_one (ds_if (PW.pt (dw_and (dt_c (cms_ne CS) (de_isC EX hz hfl (B.kt _ hy).k_NoConic B.m_NoConic B.b_isinstance) (de_isC EX hz hfl (B.kt _ hy).k_NoFraction B.m_NoFraction B.b_isinstance)) (dw_and1 (dt_truth (de_isB EX hz hfl (B.kt _ hy).k_ValueError B.b_ValueError PyProof.Rows.Boot.«ValueError» B.b_isinstance))))) (ds_one (ds_set (i := 3) SC.nd rfl (by first | exact .inl rfl | exact .inr rfl) (de_if (dt_truth (de_isC EX hz hfl (B.kt _ hy).k_NoConic B.m_NoConic B.b_isinstance)) (de_str) (de_str)))) ds_nil)))))
  (ds_one (ds_ret (dv 3)))))
theorem ok__law_word {P : Program} {w : World} {K : PySem.W.Frag} {mg : Str → Option Value} {base : Heap} {a : Addr} {fd : FuncData} (B : Fx P K mg) (U : FunD K "_law_word" "_law_word" (defArgs (top 40)) (defBody (top 40)) (defScope (top 40)) [] [] a fd) (hm : mg "_law_word" = some (.ref a)) (G_small_points : DFn P w K mg base "small_points" 2 4 F_small_points) (G_other_point : DFn P w K mg base "other_point" 4 5 F_other_point) : DFn P w K mg base "_law_word" 3 6 F__law_word :=
  DFn.mk' (fun_of U) hm sc__law_word (U.bindsN fun _ _ _ _ _ _ us hl => match us, hl with | [_, _, _], _ => rfl) rfl (fun cdv A outer s H E C => b__law_word B G_small_points G_other_point C) (fun ds st _ => viaF_sem 5 g__law_word Good__law_word ds st)
theorem sc__law_are_refused : FnScope N__law_are_refused ["hand"] (defScope (top 41)) := ⟨rfl, rfl, rfl, by decide +kernel, rfl, by decide +kernel, by decide +kernel⟩
theorem b__law_are_refused {P : Program} {w : World} {K : PySem.W.Frag} {mg : Str → Option Value} {base : Heap} {f : Addr} {cdv : Value} {A : Around} {outer : List Env} {s : Shared} {H : Hp} {E : XK} (B : Fx P K mg) (G__law_any : DFn P w K mg base "_law_any" 2 2 F__law_any) (G__law_word : DFn P w K mg base "_law_word" 3 6 F__law_word) (C : Ctx (cxD P w K mg base N__law_are_refused "_law_are_refused" (top 41) f cdv A outer s H E) (wE E) 6) : DSs (cxD P w K mg base N__law_are_refused "_law_are_refused" (top 41) f cdv A outer s H E) (wE E) (defBody (top 41)) g__law_are_refused := by
  have SC := sc__law_are_refused
  exact (ds_cons (ds_asg (de_tup (da_cons (de_tup (da_cons (de_int) (da_cons (de_int) (da_cons (de_neg (de_int)) da_nil)))) (da_cons (de_tup (da_cons (de_int) (da_cons (de_int) (da_cons (de_int) da_nil)))) da_nil))) (dg_tup rfl (dgs_cons (dg_name SC.nd rfl (by first | exact .inl rfl | exact .inr rfl)) (dgs_cons (dg_name SC.nd rfl (by first | exact .inl rfl | exact .inr rfl)) dgs_nil))))
  (ds_cons (ds_set (i := 3) SC.nd rfl (by first | exact .inl rfl | exact .inr rfl) (de_call C G__law_any (da_cons (dv 0) (da_cons (de_lst (da_cons (de_non) (da_cons (de_tup (da_cons (de_int) (da_cons (de_int) da_nil))) (da_cons (de_tup (da_cons (de_int) (da_cons (de_int) (da_cons (de_int) da_nil)))) (da_cons (de_tup (da_cons (de_int) (da_cons (de_int) (da_cons (de_int) da_nil)))) (da_cons (de_lst (da_cons (de_int) (da_cons (de_int) (da_cons (de_neg (de_int)) da_nil)))) (da_cons (de_tup (da_cons (de_int) (da_cons (de_int) (da_cons (de_bl) da_nil)))) (da_cons (de_int) (da_cons (de_dic0) da_nil))))))))) da_nil))))
  (ds_cons (ds_set (i := 4) SC.nd rfl (by first | exact .inl rfl | exact .inr rfl) (de_call C G__law_any (da_cons (dv 0) (da_cons (de_lst (da_cons (de_int) (da_cons (de_int) (da_cons (de_neg (de_int)) (da_cons (de_non) (da_cons (de_bl) (da_cons (de_str) (da_cons (de_tup (da_cons (de_int) da_nil)) (da_cons (de_pow (de_int) (de_int)) da_nil))))))))) da_nil))))
  (ds_cons (ds_set (i := 5) SC.nd rfl (by first | exact .inl rfl | exact .inr rfl) (de_call C G__law_any (da_cons (dv 0) (da_cons (de_lst (da_cons (de_non) (da_cons (de_tup (da_cons (de_int) (da_cons (de_int) (da_cons (de_int) da_nil)))) (da_cons (de_tup (da_cons (de_int) (da_cons (de_int) (da_cons (de_int) da_nil)))) (da_cons (de_lst (da_cons (de_int) (da_cons (de_int) (da_cons (de_int) da_nil)))) (da_cons (de_tup (da_cons (de_int) (da_cons (de_int) da_nil))) (da_cons (de_tup (da_cons (de_int) (da_cons (de_int) (da_cons (de_bl) da_nil)))) (da_cons (de_int) da_nil)))))))) da_nil))))
  (ds_cons (ds_set (i := 6) SC.nd rfl (by first | exact .inl rfl | exact .inr rfl) (de_call C G__law_any (da_cons (dv 0) (da_cons (de_lst (da_cons (de_tup (da_cons (de_int) (da_cons (de_int) da_nil))) (da_cons (de_tup (da_cons (de_int) (da_cons (de_non) da_nil))) (da_cons (de_tup (da_cons (de_bl) (da_cons (de_int) da_nil))) (da_cons (de_tup (da_cons (de_str) (da_cons (de_int) da_nil))) (da_cons (de_tup (da_cons (de_int) (da_cons (de_tup (da_cons (de_int) da_nil)) da_nil))) da_nil)))))) da_nil))))
  (ds_cons (ds_set (i := 7) SC.nd rfl (by first | exact .inl rfl | exact .inr rfl) (de_lst (da_cons (de_call C G__law_word (da_cons (de_int) (da_cons (dv 3) (da_cons (de_tup (da_cons (dv 4) da_nil)) da_nil)))) (da_cons (de_call C G__law_word (da_cons (de_int) (da_cons (dv 1) (da_cons (de_tup (da_cons (dv 4) da_nil)) da_nil)))) (da_cons (de_call C G__law_word (da_cons (de_int) (da_cons (dv 3) (da_cons (de_tup (da_cons (dv 2) (da_cons (de_int) (da_cons (de_int) da_nil)))) da_nil)))) da_nil)))))
  (ds_cons (ds_set (i := 7) SC.nd rfl (by first | exact .inl rfl | exact .inr rfl) (de_add (dv 7) (de_lst (da_cons (de_call C G__law_word (da_cons (de_int) (da_cons (dv 1) (da_cons (de_tup (da_cons (dv 5) (da_cons (de_int) (da_cons (de_int) da_nil)))) da_nil)))) (da_cons (de_call C G__law_word (da_cons (de_int) (da_cons (dv 1) (da_cons (de_add (de_tup (da_cons (dv 2) da_nil)) (dv 6)) da_nil)))) (da_cons (de_call C G__law_word (da_cons (de_int) (da_cons (dv 1) (da_cons (de_tup (da_cons (de_int) da_nil)) da_nil)))) da_nil))))))
  (ds_one (ds_ret (de_c (cm_eq C) (dv 7) (de_lst (da_cons (de_str) (da_cons (de_str) (da_cons (de_str) (da_cons (de_str) (da_cons (de_str) (da_cons (de_str) da_nil)))))))))))))))))
theorem ok__law_are_refused {P : Program} {w : World} {K : PySem.W.Frag} {mg : Str → Option Value} {base : Heap} {a : Addr} {fd : FuncData} (B : Fx P K mg) (U : FunD K "_law_are_refused" "_law_are_refused" (defArgs (top 41)) (defBody (top 41)) (defScope (top 41)) [] [] a fd) (hm : mg "_law_are_refused" = some (.ref a)) (G__law_any : DFn P w K mg base "_law_any" 2 2 F__law_any) (G__law_word : DFn P w K mg base "_law_word" 3 6 F__law_word) : DFn P w K mg base "_law_are_refused" 1 7 F__law_are_refused :=
  DFn.mk' (fun_of U) hm sc__law_are_refused (U.bindsN fun _ _ _ _ _ _ us hl => match us, hl with | [_], _ => rfl) rfl (fun cdv A outer s H E C => b__law_are_refused B G__law_any G__law_word C) (fun ds st _ => viaF_sem 8 g__law_are_refused Good__law_are_refused ds st)
theorem sc__law_number : FnScope N__law_number ["hand", "wide"] (defScope (top 32)) := ⟨rfl, rfl, rfl, by decide +kernel, rfl, by decide +kernel, by decide +kernel⟩
theorem b__law_number {P : Program} {w : World} {K : PySem.W.Frag} {mg : Str → Option Value} {base : Heap} {f : Addr} {cdv : Value} {A : Around} {outer : List Env} {s : Shared} {H : Hp} {E : XK} (B : Fx P K mg) (G__law_draw : DFn P w K mg base "_law_draw" 2 1 F__law_draw) (G__law_any : DFn P w K mg base "_law_any" 2 2 F__law_any) (C : Ctx (cxD P w K mg base N__law_number "_law_number" (top 32) f cdv A outer s H E) (wE E) 2) : DSs (cxD P w K mg base N__law_number "_law_number" (top 32) f cdv A outer s H E) (wE E) (defBody (top 32)) g__law_number := by
  have SC := sc__law_number
  exact (ds_cons (ds_set (i := 2) SC.nd rfl (by first | exact .inl rfl | exact .inr rfl) (de_int))
  (ds_cons (ds_forC C rfl (di_range1 B.b_range (da_cons (de_call C G__law_draw (da_cons (dv 0) (da_cons (de_int) da_nil))) da_nil)) (dg_name SC.nd rfl (by first | exact .inl rfl | exact .inr rfl)) (ds_cons (ds_set (i := 4) SC.nd rfl (by first | exact .inl rfl | exact .inr rfl) (de_call C G__law_any (da_cons (dv 0) (da_cons (de_lst (da_cons (de_int) (da_cons (de_int) (da_cons (de_int) (da_cons (de_int) (da_cons (de_int) (da_cons (de_int) (da_cons (de_int) (da_cons (de_int) (da_cons (de_int) (da_cons (de_int) (da_cons (de_int) da_nil)))))))))))) da_nil))))
  (ds_one (ds_set (i := 2) SC.nd rfl (by first | exact .inl rfl | exact .inr rfl) (de_if (dt_c cm_le (de_mul (dv 2) (dv 4)) (dv 1)) (de_mul (dv 2) (dv 4)) (dv 2))))))
  (ds_one (ds_ret (de_if (dt_c (cm_eq C) (de_call C G__law_draw (da_cons (dv 0) (da_cons (de_int) da_nil))) (de_int)) (dv 2) (de_sub (de_int) (dv 2)))))))
theorem ok__law_number {P : Program} {w : World} {K : PySem.W.Frag} {mg : Str → Option Value} {base : Heap} {a : Addr} {fd : FuncData} (B : Fx P K mg) (U : FunD K "_law_number" "_law_number" (defArgs (top 32)) (defBody (top 32)) (defScope (top 32)) [] [] a fd) (hm : mg "_law_number" = some (.ref a)) (G__law_draw : DFn P w K mg base "_law_draw" 2 1 F__law_draw) (G__law_any : DFn P w K mg base "_law_any" 2 2 F__law_any) : DFn P w K mg base "_law_number" 2 3 F__law_number :=
  DFn.mk' (fun_of U) hm sc__law_number (U.bindsN fun _ _ _ _ _ _ us hl => match us, hl with | [_, _], _ => rfl) rfl (fun cdv A outer s H E C => b__law_number B G__law_draw G__law_any C) (fun ds st _ => viaF_sem 5 g__law_number Good__law_number ds st)
theorem sc__law_with_point : FnScope N__law_with_point ["hand"] (defScope (top 35)) := ⟨rfl, rfl, rfl, by decide +kernel, rfl, by decide +kernel, by decide +kernel⟩
theorem b__law_with_point {P : Program} {w : World} {K : PySem.W.Frag} {mg : Str → Option Value} {base : Heap} {f : Addr} {cdv : Value} {A : Around} {outer : List Env} {s : Shared} {H : Hp} {E : XK} (B : Fx P K mg) (G__law_number : DFn P w K mg base "_law_number" 2 3 F__law_number) (G__law_draw : DFn P w K mg base "_law_draw" 2 1 F__law_draw) (C : Ctx (cxD P w K mg base N__law_with_point "_law_with_point" (top 35) f cdv A outer s H E) (wE E) 3) : DSs (cxD P w K mg base N__law_with_point "_law_with_point" (top 35) f cdv A outer s H E) (wE E) (defBody (top 35)) g__law_with_point := by
  have SC := sc__law_with_point
  exact (ds_cons (ds_forC C rfl (di_range1 B.b_range (da_cons (de_int) da_nil)) (dg_name SC.nd rfl (by first | exact .inl rfl | exact .inr rfl)) (ds_cons (ds_par (i := 2) (j := 3) rfl SC.nd rfl rfl (by decide) rfl rfl (da_cons (de_call C G__law_number (da_cons (dv 0) (da_cons (de_int) da_nil))) (da_cons (de_call C G__law_number (da_cons (dv 0) (da_cons (de_int) da_nil))) da_nil)))
  (ds_cons (ds_par3 (i := 4) (j := 5) (l := 6) rfl SC.nd rfl rfl rfl (by decide) (by decide) (by decide) rfl rfl rfl (da_cons (de_call C G__law_draw (da_cons (dv 0) (da_cons (de_int) da_nil))) (da_cons (de_add (de_int) (de_call C G__law_draw (da_cons (dv 0) (da_cons (de_int) da_nil)))) (da_cons (de_add (de_int) (de_call C G__law_draw (da_cons (dv 0) (da_cons (de_int) da_nil)))) da_nil))))
  (ds_cons (ds_set (i := 7) SC.nd rfl (by first | exact .inl rfl | exact .inr rfl) (de_sub (de_int) (de_add (de_mul (de_mul (dv 2) (dv 4)) (dv 4)) (de_mul (de_mul (dv 3) (dv 5)) (dv 5)))))
  (ds_one (ds_if (PW.pt (dw_and (dt_c (cm_ne C) (dv 7) (de_int)) (dw_and (dt_c (cm_eq C) (de_mod (de_callTy call_int1 cd_int B.b_int PyProof.Rows.boot_int (da_cons (dv 7) da_nil)) (de_mul (dv 6) (dv 6))) (de_int)) (dw_and1 (dt_c cm_le (de_fdiv (de_callB call_abs cd_abs B.b_abs PyProof.Rows.Boot.«abs» (da_cons (dv 7) da_nil)) (de_mul (dv 6) (dv 6))) (de_int)))))) (ds_one (ds_ret (de_tup (da_cons (de_tup (da_cons (dv 2) (da_cons (dv 3) (da_cons (de_fdiv (dv 7) (de_mul (dv 6) (dv 6))) da_nil)))) (da_cons (de_tup (da_cons (dv 4) (da_cons (dv 5) (da_cons (dv 6) da_nil)))) da_nil))))) ds_nil))))))
  (ds_one (ds_ret (de_tup (da_cons (de_tup (da_cons (de_int) (da_cons (de_int) (da_cons (de_neg (de_int)) da_nil)))) (da_cons (de_tup (da_cons (de_int) (da_cons (de_int) (da_cons (de_int) da_nil)))) da_nil))))))
theorem ok__law_with_point {P : Program} {w : World} {K : PySem.W.Frag} {mg : Str → Option Value} {base : Heap} {a : Addr} {fd : FuncData} (B : Fx P K mg) (U : FunD K "_law_with_point" "_law_with_point" (defArgs (top 35)) (defBody (top 35)) (defScope (top 35)) [] [] a fd) (hm : mg "_law_with_point" = some (.ref a)) (G__law_number : DFn P w K mg base "_law_number" 2 3 F__law_number) (G__law_draw : DFn P w K mg base "_law_draw" 2 1 F__law_draw) : DFn P w K mg base "_law_with_point" 1 4 F__law_with_point :=
  DFn.mk' (fun_of U) hm sc__law_with_point (U.bindsN fun _ _ _ _ _ _ us hl => match us, hl with | [_], _ => rfl) rfl (fun cdv A outer s H E C => b__law_with_point B G__law_number G__law_draw C) (fun ds st _ => viaF_sem 8 g__law_with_point Good__law_with_point ds st)
theorem sc__law_divisor : FnScope N__law_divisor ["some"] (defScope (top 33)) := ⟨rfl, rfl, rfl, by decide +kernel, rfl, by decide +kernel, by decide +kernel⟩
theorem b__law_divisor {P : Program} {w : World} {K : PySem.W.Frag} {mg : Str → Option Value} {base : Heap} {f : Addr} {cdv : Value} {A : Around} {outer : List Env} {s : Shared} {H : Hp} {E : XK} (B : Fx P K mg)  (C : Ctx (cxD P w K mg base N__law_divisor "_law_divisor" (top 33) f cdv A outer s H E) (wE E) 0) : DSs (cxD P w K mg base N__law_divisor "_law_divisor" (top 33) f cdv A outer s H E) (wE E) (defBody (top 33)) g__law_divisor := by
  have SC := sc__law_divisor
  exact (ds_cons (ds_set (i := 1) SC.nd rfl (by first | exact .inl rfl | exact .inr rfl) (de_int))
  (ds_cons (ds_forC C rfl (di_seq (dv 0)) (dg_name SC.nd rfl (by first | exact .inl rfl | exact .inr rfl)) (ds_cons (ds_par (i := 3) (j := 4) rfl SC.nd rfl rfl (by decide) rfl rfl (da_cons (dv 1) (da_cons (de_callB call_abs cd_abs B.b_abs PyProof.Rows.Boot.«abs» (da_cons (dv 2) da_nil)) da_nil)))
  (ds_cons (ds_whileC C (dt_c cm_gt (dv 4) (de_int)) (ds_one (ds_par (i := 3) (j := 4) rfl SC.nd rfl rfl (by decide) rfl rfl (da_cons (dv 4) (da_cons (de_mod (de_callTy call_int1 cd_int B.b_int PyProof.Rows.boot_int (da_cons (dv 3) da_nil)) (dv 4)) da_nil)))))
  (ds_one (ds_set (i := 1) SC.nd rfl (by first | exact .inl rfl | exact .inr rfl) (dv 3))))))
  (ds_one (ds_ret (dv 1)))))
theorem ok__law_divisor {P : Program} {w : World} {K : PySem.W.Frag} {mg : Str → Option Value} {base : Heap} {a : Addr} {fd : FuncData} (B : Fx P K mg) (U : FunD K "_law_divisor" "_law_divisor" (defArgs (top 33)) (defBody (top 33)) (defScope (top 33)) [] [] a fd) (hm : mg "_law_divisor" = some (.ref a))  : DFn P w K mg base "_law_divisor" 1 1 F__law_divisor :=
  DFn.mk' (fun_of U) hm sc__law_divisor (U.bindsN fun _ _ _ _ _ _ us hl => match us, hl with | [_], _ => rfl) rfl (fun cdv A outer s H E C => b__law_divisor B  C) (fun ds st _ => viaF_sem 5 g__law_divisor Good__law_divisor ds st)
theorem sc__law_other : FnScope N__law_other ["conic", "point", "u", "v"] (defScope (top 37)) := ⟨rfl, rfl, rfl, by decide +kernel, rfl, by decide +kernel, by decide +kernel⟩
theorem b__law_other {P : Program} {w : World} {K : PySem.W.Frag} {mg : Str → Option Value} {base : Heap} {f : Addr} {cdv : Value} {A : Around} {outer : List Env} {s : Shared} {H : Hp} {E : XK} (B : Fx P K mg) (G__law_divisor : DFn P w K mg base "_law_divisor" 1 1 F__law_divisor) (C : Ctx (cxD P w K mg base N__law_other "_law_other" (top 37) f cdv A outer s H E) (wE E) 1) : DSs (cxD P w K mg base N__law_other "_law_other" (top 37) f cdv A outer s H E) (wE E) (defBody (top 37)) g__law_other := by
  have SC := sc__law_other
  exact (ds_cons (ds_set (i := 4) SC.nd rfl (by first | exact .inl rfl | exact .inr rfl) (de_add (de_mul (de_mul (de_ix (dv 0) (de_int)) (dv 2)) (dv 2)) (de_mul (de_mul (de_ix (dv 0) (de_int)) (dv 3)) (dv 3))))
  (ds_cons (ds_set (i := 5) SC.nd rfl (by first | exact .inl rfl | exact .inr rfl) (de_mul (de_int) (de_add (de_mul (de_mul (de_ix (dv 0) (de_int)) (de_ix (dv 1) (de_int))) (dv 2)) (de_mul (de_mul (de_ix (dv 0) (de_int)) (de_ix (dv 1) (de_int))) (dv 3)))))
  (ds_cons (ds_set (i := 6) SC.nd rfl (by first | exact .inl rfl | exact .inr rfl) (de_tup (da_cons (de_sub (de_mul (de_ix (dv 1) (de_int)) (dv 4)) (de_mul (dv 5) (dv 2))) (da_cons (de_sub (de_mul (de_ix (dv 1) (de_int)) (dv 4)) (de_mul (dv 5) (dv 3))) (da_cons (de_mul (de_ix (dv 1) (de_int)) (dv 4)) da_nil)))))
  (ds_cons (ds_set (i := 7) SC.nd rfl (by first | exact .inl rfl | exact .inr rfl) (de_call C G__law_divisor (da_cons (dv 6) da_nil)))
  (ds_one (ds_ret (de_if (dt_c (cm_eq C) (dv 7) (de_int)) (dv 1) (de_callTy call_tuple_of cd_tuple B.b_tuple PyProof.Rows.boot_tuple (da_cons (de_lc (own := [("one", 8)]) C rfl SC.nd (di_seq (dv 6)) (blkOk (by kernel_rfl)) rfl (fun _ _ _ _ _ C => ⟨(dgx_name (by decide) (pg_name SC.nd rfl (.inl rfl) (by first | exact .inl rfl | exact .inr rfl))), dts_nil, (de_fdiv (dv 8) (dv 7))⟩)) da_nil)))))))))
theorem ok__law_other {P : Program} {w : World} {K : PySem.W.Frag} {mg : Str → Option Value} {base : Heap} {a : Addr} {fd : FuncData} (B : Fx P K mg) (U : FunD K "_law_other" "_law_other" (defArgs (top 37)) (defBody (top 37)) (defScope (top 37)) [] [] a fd) (hm : mg "_law_other" = some (.ref a)) (G__law_divisor : DFn P w K mg base "_law_divisor" 1 1 F__law_divisor) : DFn P w K mg base "_law_other" 4 2 F__law_other :=
  DFn.mk' (fun_of U) hm sc__law_other (U.bindsN fun _ _ _ _ _ _ us hl => match us, hl with | [_, _, _, _], _ => rfl) rfl (fun cdv A outer s H E C => b__law_other B G__law_divisor C) (fun ds st _ => viaF_sem 9 g__law_other Good__law_other ds st)
theorem sc__law_value : FnScope N__law_value ["conic", "point"] (defScope (top 34)) := ⟨rfl, rfl, rfl, by decide +kernel, rfl, by decide +kernel, by decide +kernel⟩
theorem b__law_value {P : Program} {w : World} {K : PySem.W.Frag} {mg : Str → Option Value} {base : Heap} {f : Addr} {cdv : Value} {A : Around} {outer : List Env} {s : Shared} {H : Hp} {E : XK} (B : Fx P K mg)  (C : Ctx (cxD P w K mg base N__law_value "_law_value" (top 34) f cdv A outer s H E) (wE E) 0) : DSs (cxD P w K mg base N__law_value "_law_value" (top 34) f cdv A outer s H E) (wE E) (defBody (top 34)) g__law_value := by
  have SC := sc__law_value
  exact (ds_one (ds_ret (de_callB (cr_sum rfl) cd_sum B.b_sum PyProof.Rows.boot_sum (da_cons (de_lc (own := [("one", 2), ("part", 3)]) C rfl SC.nd (di_zip B.b_zip (da_cons (dv 0) (da_cons (dv 1) da_nil))) (blkOk (by kernel_rfl)) rfl (fun _ _ _ _ _ C => ⟨(dgx_tup rfl (dgxs_cons (dgx_name (by decide) (pg_name SC.nd rfl (.inl rfl) (by first | exact .inl rfl | exact .inr rfl))) (dgxs_cons (dgx_name (by decide) (pg_name SC.nd rfl (.inl rfl) (by first | exact .inl rfl | exact .inr rfl))) dgxs_nil))), dts_nil, (de_mul (de_mul (dv 2) (dv 3)) (dv 3))⟩)) da_nil))))
theorem ok__law_value {P : Program} {w : World} {K : PySem.W.Frag} {mg : Str → Option Value} {base : Heap} {a : Addr} {fd : FuncData} (B : Fx P K mg) (U : FunD K "_law_value" "_law_value" (defArgs (top 34)) (defBody (top 34)) (defScope (top 34)) [] [] a fd) (hm : mg "_law_value" = some (.ref a))  : DFn P w K mg base "_law_value" 2 1 F__law_value :=
  DFn.mk' (fun_of U) hm sc__law_value (U.bindsN fun _ _ _ _ _ _ us hl => match us, hl with | [_, _], _ => rfl) rfl (fun cdv A outer s H E C => b__law_value B  C) (fun ds st _ => viaF_sem 4 g__law_value Good__law_value ds st)
theorem sc__law_is_met_right : FnScope N__law_is_met_right ["hand", "conic", "point"] (defScope (top 38)) := ⟨rfl, rfl, rfl, by decide +kernel, rfl, by decide +kernel, by decide +kernel⟩
theorem b__law_is_met_right {P : Program} {w : World} {K : PySem.W.Frag} {mg : Str → Option Value} {base : Heap} {f : Addr} {cdv : Value} {A : Around} {outer : List Env} {s : Shared} {H : Hp} {E : XK} (B : Fx P K mg) (G__law_draw : DFn P w K mg base "_law_draw" 2 1 F__law_draw) (G_other_point : DFn P w K mg base "other_point" 4 5 F_other_point) (G__law_other : DFn P w K mg base "_law_other" 4 2 F__law_other) (G__law_value : DFn P w K mg base "_law_value" 2 1 F__law_value) (G_is_conic_paper : DFn P w K mg base "is_conic_paper" 2 4 F_is_conic_paper) (G__law_divisor : DFn P w K mg base "_law_divisor" 1 1 F__law_divisor) (C : Ctx (cxD P w K mg base N__law_is_met_right "_law_is_met_right" (top 38) f cdv A outer s H E) (wE E) 5) : DSs (cxD P w K mg base N__law_is_met_right "_law_is_met_right" (top 38) f cdv A outer s H E) (wE E) (defBody (top 38)) g__law_is_met_right := by
  have SC := sc__law_is_met_right
  exact (ds_cons (ds_forC C rfl (di_range1 B.b_range (da_cons (de_int) da_nil)) (dg_name SC.nd rfl (by first | exact .inl rfl | exact .inr rfl)) (ds_cons (ds_par (i := 4) (j := 5) rfl SC.nd rfl rfl (by decide) rfl rfl (da_cons (de_sub (de_call C G__law_draw (da_cons (dv 0) (da_cons (de_int) da_nil))) (de_int)) (da_cons (de_sub (de_call C G__law_draw (da_cons (dv 0) (da_cons (de_int) da_nil))) (de_int)) da_nil)))
  (ds_cons (ds_if (dt_c (cm_eq C) (de_tup (da_cons (dv 4) (da_cons (dv 5) da_nil))) (de_tup (da_cons (de_int) (da_cons (de_int) da_nil)))) (ds_one (ds_set (i := 4) SC.nd rfl (by first | exact .inl rfl | exact .inr rfl) (de_int))) ds_nil)
  (ds_cons (ds_set (i := 6) SC.nd rfl (by first | exact .inl rfl | exact .inr rfl) (de_call C G_other_point (da_cons (dv 1) (da_cons (dv 2) (da_cons (dv 4) (da_cons (dv 5) da_nil))))))
  (ds_cons (ds_if (PW.pt (dw_or (dt_c (cm_ne C) (de_callB (call_repr C) cd_repr B.b_repr PyProof.Rows.boot_repr (da_cons (dv 6) da_nil)) (de_callB (call_repr C) cd_repr B.b_repr PyProof.Rows.boot_repr (da_cons (de_call C G__law_other (da_cons (dv 1) (da_cons (dv 2) (da_cons (dv 4) (da_cons (dv 5) da_nil))))) da_nil))) (dw_or1 (dt_c (cm_ne C) (de_call C G__law_value (da_cons (dv 1) (da_cons (dv 6) da_nil))) (de_int))))) (ds_one (ds_ret (de_bl))) ds_nil)
  (ds_cons (ds_asg (dv 2) (dg_tup rfl (dgs_cons (dg_name SC.nd rfl (by first | exact .inl rfl | exact .inr rfl)) (dgs_cons (dg_name SC.nd rfl (by first | exact .inl rfl | exact .inr rfl)) (dgs_cons (dg_name SC.nd rfl (by first | exact .inl rfl | exact .inr rfl)) dgs_nil)))))
  (ds_cons (ds_asg (dv 6) (dg_tup rfl (dgs_cons (dg_name SC.nd rfl (by first | exact .inl rfl | exact .inr rfl)) (dgs_cons (dg_name SC.nd rfl (by first | exact .inl rfl | exact .inr rfl)) (dgs_cons (dg_name SC.nd rfl (by first | exact .inl rfl | exact .inr rfl)) dgs_nil)))))
  (ds_cons (ds_if (PW.pt (dw_or (dt_c (cm_ne C) (de_sub (de_mul (dv 4) (de_sub (de_mul (dv 8) (dv 12)) (de_mul (dv 9) (dv 11)))) (de_mul (dv 5) (de_sub (de_mul (dv 7) (dv 12)) (de_mul (dv 9) (dv 10))))) (de_int)) (dw_or1 (dt_c cm_notB (de_call C G_is_conic_paper (da_cons (dv 1) (da_cons (de_tup (da_cons (de_str) (da_cons (dv 6) da_nil))) da_nil))) (de_bl))))) (ds_one (ds_ret (de_bl))) ds_nil)
  (ds_one (ds_if (dt_c (cm_ne C) (de_add (de_mul (de_mul (de_ix (dv 1) (de_int)) (dv 4)) (dv 4)) (de_mul (de_mul (de_ix (dv 1) (de_int)) (dv 5)) (dv 5))) (de_int)) (ds_cons (ds_set (i := 13) SC.nd rfl (by first | exact .inl rfl | exact .inr rfl) (de_call C G__law_divisor (da_cons (dv 2) da_nil)))
  (ds_cons (ds_set (i := 14) SC.nd rfl (by first | exact .inl rfl | exact .inr rfl) (de_callTy call_tuple_of cd_tuple B.b_tuple PyProof.Rows.boot_tuple (da_cons (de_lc (own := [("one", 15)]) C rfl SC.nd (di_seq (dv 2)) (blkOk (by kernel_rfl)) rfl (fun _ _ _ _ _ C => ⟨(dgx_name (by decide) (pg_name SC.nd rfl (.inl rfl) (by first | exact .inl rfl | exact .inr rfl))), dts_nil, (de_fdiv (dv 15) (dv 13))⟩)) da_nil)))
  (ds_one (ds_if (dt_c (cm_notInV C) (de_call C G_other_point (da_cons (dv 1) (da_cons (dv 6) (da_cons (dv 4) (da_cons (dv 5) da_nil))))) (de_tup (da_cons (dv 14) (da_cons (de_callTy call_tuple_of cd_tuple B.b_tuple PyProof.Rows.boot_tuple (da_cons (de_lc (own := [("one", 15)]) C rfl SC.nd (di_seq (dv 14)) (blkOk (by kernel_rfl)) rfl (fun _ _ _ _ _ C => ⟨(dgx_name (by decide) (pg_name SC.nd rfl (.inl rfl) (by first | exact .inl rfl | exact .inr rfl))), dts_nil, (de_sub (de_int) (dv 15))⟩)) da_nil)) da_nil)))) (ds_one (ds_ret (de_bl))) ds_nil)))) ds_nil))))))))))
  (ds_one (ds_ret (de_bl))))
theorem ok__law_is_met_right {P : Program} {w : World} {K : PySem.W.Frag} {mg : Str → Option Value} {base : Heap} {a : Addr} {fd : FuncData} (B : Fx P K mg) (U : FunD K "_law_is_met_right" "_law_is_met_right" (defArgs (top 38)) (defBody (top 38)) (defScope (top 38)) [] [] a fd) (hm : mg "_law_is_met_right" = some (.ref a)) (G__law_draw : DFn P w K mg base "_law_draw" 2 1 F__law_draw) (G_other_point : DFn P w K mg base "other_point" 4 5 F_other_point) (G__law_other : DFn P w K mg base "_law_other" 4 2 F__law_other) (G__law_value : DFn P w K mg base "_law_value" 2 1 F__law_value) (G_is_conic_paper : DFn P w K mg base "is_conic_paper" 2 4 F_is_conic_paper) (G__law_divisor : DFn P w K mg base "_law_divisor" 1 1 F__law_divisor) : DFn P w K mg base "_law_is_met_right" 3 6 F__law_is_met_right :=
  DFn.mk' (fun_of U) hm sc__law_is_met_right (U.bindsN fun _ _ _ _ _ _ us hl => match us, hl with | [_, _, _], _ => rfl) rfl (fun cdv A outer s H E C => b__law_is_met_right B G__law_draw G_other_point G__law_other G__law_value G_is_conic_paper G__law_divisor C) (fun ds st _ => viaF_sem 16 g__law_is_met_right Good__law_is_met_right ds st)
theorem sc__law_points : FnScope N__law_points ["conic", "most"] (defScope (top 36)) := ⟨rfl, rfl, rfl, by decide +kernel, rfl, by decide +kernel, by decide +kernel⟩
theorem b__law_points {P : Program} {w : World} {K : PySem.W.Frag} {mg : Str → Option Value} {base : Heap} {f : Addr} {cdv : Value} {A : Around} {outer : List Env} {s : Shared} {H : Hp} {E : XK} (B : Fx P K mg) (G__law_divisor : DFn P w K mg base "_law_divisor" 1 1 F__law_divisor) (C : Ctx (cxD P w K mg base N__law_points "_law_points" (top 36) f cdv A outer s H E) (wE E) 1) : DSs (cxD P w K mg base N__law_points "_law_points" (top 36) f cdv A outer s H E) (wE E) (defBody (top 36)) g__law_points := by
  have SC := sc__law_points
  exact (ds_cons (ds_par (i := 2) (j := 3) rfl SC.nd rfl rfl (by decide) rfl rfl (da_cons (de_dic0) (da_cons (de_lst da_nil) da_nil)))
  (ds_cons (ds_forC C rfl (di_range1 B.b_range (da_cons (de_add (dv 1) (de_int)) da_nil)) (dg_name SC.nd rfl (by first | exact .inl rfl | exact .inr rfl)) (ds_one (ds_dput C (dv 2) (de_mul (de_mul (de_ix (dv 0) (de_int)) (dv 4)) (dv 4)) (dv 4))))
  (ds_cons (ds_forC C rfl (di_range1 B.b_range (da_cons (de_add (dv 1) (de_int)) da_nil)) (dg_name SC.nd rfl (by first | exact .inl rfl | exact .inr rfl)) (ds_one (ds_forC C rfl (di_range1 B.b_range (da_cons (de_add (dv 1) (de_int)) da_nil)) (dg_name SC.nd rfl (by first | exact .inl rfl | exact .inr rfl)) (ds_cons (ds_set (i := 4) SC.nd rfl (by first | exact .inl rfl | exact .inr rfl) (de_dget2 C (dv 2) (de_sub (de_sub (de_int) (de_mul (de_mul (de_ix (dv 0) (de_int)) (dv 5)) (dv 5))) (de_mul (de_mul (de_ix (dv 0) (de_int)) (dv 6)) (dv 6))) (de_non)))
  (ds_one (ds_if (PW.pt (dw_and (dt_c cm_notN (dv 4) (de_non)) (dw_and1 (dt_c (cm_eq C) (de_call C G__law_divisor (da_cons (de_tup (da_cons (dv 5) (da_cons (dv 6) (da_cons (dv 4) da_nil)))) da_nil)) (de_int))))) (ds_one (ds_expr (de_append (dv 3) (da_cons (de_tup (da_cons (dv 5) (da_cons (dv 6) (da_cons (dv 4) da_nil)))) da_nil)))) ds_nil))))))
  (ds_one (ds_ret (de_callB (call_sortedD C) cd_sorted B.b_sorted PyProof.Rows.boot_sorted (da_cons (dv 3) da_nil)))))))
theorem ok__law_points {P : Program} {w : World} {K : PySem.W.Frag} {mg : Str → Option Value} {base : Heap} {a : Addr} {fd : FuncData} (B : Fx P K mg) (U : FunD K "_law_points" "_law_points" (defArgs (top 36)) (defBody (top 36)) (defScope (top 36)) [] [] a fd) (hm : mg "_law_points" = some (.ref a)) (G__law_divisor : DFn P w K mg base "_law_divisor" 1 1 F__law_divisor) : DFn P w K mg base "_law_points" 2 2 F__law_points :=
  DFn.mk' (fun_of U) hm sc__law_points (U.bindsN fun _ _ _ _ _ _ us hl => match us, hl with | [_, _], _ => rfl) rfl (fun cdv A outer s H E C => b__law_points B G__law_divisor C) (fun ds st _ => viaF_sem 7 g__law_points Good__law_points ds st)
theorem sc__law_is_list_right : FnScope N__law_is_list_right ["hand", "conic", "most"] (defScope (top 39)) := ⟨rfl, rfl, rfl, by decide +kernel, rfl, by decide +kernel, by decide +kernel⟩
theorem b__law_is_list_right {P : Program} {w : World} {K : PySem.W.Frag} {mg : Str → Option Value} {base : Heap} {f : Addr} {cdv : Value} {A : Around} {outer : List Env} {s : Shared} {H : Hp} {E : XK} (B : Fx P K mg) (G__law_points : DFn P w K mg base "_law_points" 2 2 F__law_points) (G_small_points : DFn P w K mg base "small_points" 2 4 F_small_points) (G_other_point : DFn P w K mg base "other_point" 4 5 F_other_point) (C : Ctx (cxD P w K mg base N__law_is_list_right "_law_is_list_right" (top 39) f cdv A outer s H E) (wE E) 5) : DSs (cxD P w K mg base N__law_is_list_right "_law_is_list_right" (top 39) f cdv A outer s H E) (wE E) (defBody (top 39)) g__law_is_list_right := by
  have SC := sc__law_is_list_right
  exact (ds_cons (ds_set (i := 3) SC.nd rfl (by first | exact .inl rfl | exact .inr rfl) (de_call C G__law_points (da_cons (dv 1) (da_cons (dv 2) da_nil))))
  (ds_cons (ds_set (i := 4) SC.nd rfl (by first | exact .inl rfl | exact .inr rfl) (de_call C G_small_points (da_cons (dv 1) (da_cons (dv 2) da_nil))))
  (ds_cons (ds_if (PW.pt (dw_or (dt_not (dt_truth (de_isi .lst B.b_isinstance B.b_list PyProof.Rows.boot_list (dv 4)))) (dw_or1 (dt_c (cm_ne C) (de_callB (call_repr C) cd_repr B.b_repr PyProof.Rows.boot_repr (da_cons (dv 4) da_nil)) (de_callB (call_repr C) cd_repr B.b_repr PyProof.Rows.boot_repr (da_cons (dv 3) da_nil)))))) (ds_one (ds_ret (de_bl))) ds_nil)
  (ds_cons (ds_expr (de_append (dv 4) (da_cons (de_non) da_nil)))
  (ds_cons (ds_if (dt_c (cm_ne C) (de_callB (call_repr C) cd_repr B.b_repr PyProof.Rows.boot_repr (da_cons (de_call C G_small_points (da_cons (dv 1) (da_cons (dv 2) da_nil))) da_nil)) (de_callB (call_repr C) cd_repr B.b_repr PyProof.Rows.boot_repr (da_cons (dv 3) da_nil))) (ds_one (ds_ret (de_bl))) ds_nil)
  (ds_cons (ds_forC C rfl (di_seq (de_slice (dv 3) dp_none (dp_some (de_int)))) (dg_name SC.nd rfl (by first | exact .inl rfl | exact .inr rfl)) (ds_one (ds_forC C rfl (di_seq (de_slice (dv 3) (dp_some (de_neg (de_int))) dp_none)) (dg_name SC.nd rfl (by first | exact .inl rfl | exact .inr rfl)) (ds_cons (ds_asg (de_tup (da_cons (dv 5) (da_cons (dv 6) da_nil))) (dg_tup rfl (dgs_cons (dg_tup rfl (dgs_cons (dg_name SC.nd rfl (by first | exact .inl rfl | exact .inr rfl)) (dgs_cons (dg_name SC.nd rfl (by first | exact .inl rfl | exact .inr rfl)) (dgs_cons (dg_name SC.nd rfl (by first | exact .inl rfl | exact .inr rfl)) dgs_nil)))) (dgs_cons (dg_tup rfl (dgs_cons (dg_name SC.nd rfl (by first | exact .inl rfl | exact .inr rfl)) (dgs_cons (dg_name SC.nd rfl (by first | exact .inl rfl | exact .inr rfl)) (dgs_cons (dg_name SC.nd rfl (by first | exact .inl rfl | exact .inr rfl)) dgs_nil)))) dgs_nil))))
  (ds_cons (ds_par (i := 13) (j := 14) rfl SC.nd rfl rfl (by decide) rfl rfl (da_cons (de_sub (de_mul (dv 7) (dv 12)) (de_mul (dv 10) (dv 9))) (da_cons (de_sub (de_mul (dv 8) (dv 12)) (de_mul (dv 11) (dv 9))) da_nil)))
  (ds_one (ds_if (PW.pt (dw_and (dt_c (cm_ne C) (de_tup (da_cons (dv 13) (da_cons (dv 14) da_nil))) (de_tup (da_cons (de_int) (da_cons (de_int) da_nil)))) (dw_and (dt_c cm_gt (dv 9) (de_int)) (dw_and1 (dt_c cm_gt (dv 12) (de_int)))))) (ds_one (ds_if (dt_c (cm_notInV C) (de_call C G_other_point (da_cons (dv 1) (da_cons (dv 5) (da_cons (dv 13) (da_cons (dv 14) da_nil))))) (de_tup (da_cons (dv 6) (da_cons (de_callTy call_tuple_of cd_tuple B.b_tuple PyProof.Rows.boot_tuple (da_cons (de_lc (own := [("part", 15)]) C rfl SC.nd (di_seq (dv 6)) (blkOk (by kernel_rfl)) rfl (fun _ _ _ _ _ C => ⟨(dgx_name (by decide) (pg_name SC.nd rfl (.inl rfl) (by first | exact .inl rfl | exact .inr rfl))), dts_nil, (de_sub (de_int) (dv 15))⟩)) da_nil)) da_nil)))) (ds_one (ds_ret (de_bl))) ds_nil)) ds_nil)))))))
  (ds_one (ds_ret (de_bl)))))))))
theorem ok__law_is_list_right {P : Program} {w : World} {K : PySem.W.Frag} {mg : Str → Option Value} {base : Heap} {a : Addr} {fd : FuncData} (B : Fx P K mg) (U : FunD K "_law_is_list_right" "_law_is_list_right" (defArgs (top 39)) (defBody (top 39)) (defScope (top 39)) [] [] a fd) (hm : mg "_law_is_list_right" = some (.ref a)) (G__law_points : DFn P w K mg base "_law_points" 2 2 F__law_points) (G_small_points : DFn P w K mg base "small_points" 2 4 F_small_points) (G_other_point : DFn P w K mg base "other_point" 4 5 F_other_point) : DFn P w K mg base "_law_is_list_right" 3 6 F__law_is_list_right :=
  DFn.mk' (fun_of U) hm sc__law_is_list_right (U.bindsN fun _ _ _ _ _ _ us hl => match us, hl with | [_, _, _], _ => rfl) rfl (fun cdv A outer s H E C => b__law_is_list_right B G__law_points G_small_points G_other_point C) (fun ds st _ => viaF_sem 16 g__law_is_list_right Good__law_is_list_right ds st)
theorem sc_law : FnScope N_law ["script"] (defScope (top 42)) := ⟨rfl, rfl, rfl, by decide +kernel, rfl, by decide +kernel, by decide +kernel⟩
theorem b_law {P : Program} {w : World} {K : PySem.W.Frag} {mg : Str → Option Value} {base : Heap} {f : Addr} {cdv : Value} {A : Around} {outer : List Env} {s : Shared} {H : Hp} {E : XK} (B : Fx P K mg) (G__law_hand : DFn P w K mg base "_law_hand" 1 1 F__law_hand) (G_small_points : DFn P w K mg base "small_points" 2 4 F_small_points) (G_other_point : DFn P w K mg base "other_point" 4 5 F_other_point) (G__law_are_refused : DFn P w K mg base "_law_are_refused" 1 7 F__law_are_refused) (G__law_with_point : DFn P w K mg base "_law_with_point" 1 4 F__law_with_point) (G__law_any : DFn P w K mg base "_law_any" 2 2 F__law_any) (G__law_is_met_right : DFn P w K mg base "_law_is_met_right" 3 6 F__law_is_met_right) (G__law_is_list_right : DFn P w K mg base "_law_is_list_right" 3 6 F__law_is_list_right) (G__law_draw : DFn P w K mg base "_law_draw" 2 1 F__law_draw) (G__law_number : DFn P w K mg base "_law_number" 2 3 F__law_number) (C : Ctx (cxD P w K mg base N_law "law" (top 42) f cdv A outer s H E) (wE E) 7) : DSs (cxD P w K mg base N_law "law" (top 42) f cdv A outer s H E) (wE E) (defBody (top 42)) g_law := by
  have SC := sc_law
  exact (ds_cons (ds_set (i := 1) SC.nd rfl (by first | exact .inl rfl | exact .inr rfl) (de_call C G__law_hand (da_cons (dv 0) da_nil)))
  (ds_cons (ds_if (PW.pt (dw_or (dt_c (cm_ne C) (de_call C G_small_points (da_cons (de_tup (da_cons (de_int) (da_cons (de_int) (da_cons (de_neg (de_int)) da_nil)))) (da_cons (de_int) da_nil))) (de_lst (da_cons (de_tup (da_cons (de_int) (da_cons (de_int) (da_cons (de_int) da_nil)))) da_nil))) (dw_or1 (dt_c (cm_ne C) (de_call C G_other_point (da_cons (de_tup (da_cons (de_int) (da_cons (de_int) (da_cons (de_neg (de_int)) da_nil)))) (da_cons (de_tup (da_cons (de_int) (da_cons (de_int) (da_cons (de_int) da_nil)))) (da_cons (de_int) (da_cons (de_int) da_nil))))) (de_tup (da_cons (de_neg (de_int)) (da_cons (de_int) (da_cons (de_int) da_nil)))))))) (ds_one (ds_ret (de_bl))) ds_nil)
  (ds_cons (ds_if (PW.pt (dw_or (dt_c (cm_ne C) (de_call C G_other_point (da_cons (de_tup (da_cons (de_int) (da_cons (de_neg (de_int)) (da_cons (de_int) da_nil)))) (da_cons (de_tup (da_cons (de_int) (da_cons (de_int) (da_cons (de_int) da_nil)))) (da_cons (de_int) (da_cons (de_int) da_nil))))) (de_tup (da_cons (de_int) (da_cons (de_int) (da_cons (de_int) da_nil))))) (dw_or1 (dt_not (dt_truth (de_call C G__law_are_refused (da_cons (dv 1) da_nil))))))) (ds_one (ds_ret (de_bl))) ds_nil)
  (ds_cons (ds_forC C rfl (di_range1 B.b_range (da_cons (de_int) da_nil)) (dg_name SC.nd rfl (by first | exact .inl rfl | exact .inr rfl)) (ds_cons (ds_asg (de_call C G__law_with_point (da_cons (dv 1) da_nil)) (dg_tup rfl (dgs_cons (dg_name SC.nd rfl (by first | exact .inl rfl | exact .inr rfl)) (dgs_cons (dg_name SC.nd rfl (by first | exact .inl rfl | exact .inr rfl)) dgs_nil))))
  (ds_cons (ds_set (i := 5) SC.nd rfl (by first | exact .inl rfl | exact .inr rfl) (de_call C G__law_any (da_cons (dv 1) (da_cons (de_lst (da_cons (de_int) (da_cons (de_int) (da_cons (de_int) (da_cons (de_neg (de_int)) da_nil))))) da_nil))))
  (ds_cons (ds_if (dt_not (dt_truth (de_call C G__law_is_met_right (da_cons (dv 1) (da_cons (dv 3) (da_cons (de_callTy call_tuple_of cd_tuple B.b_tuple PyProof.Rows.boot_tuple (da_cons (de_lc (own := [("one", 7)]) C rfl SC.nd (di_seq (dv 4)) (blkOk (by kernel_rfl)) rfl (fun _ _ _ _ _ C => ⟨(dgx_name (by decide) (pg_name SC.nd rfl (.inl rfl) (by first | exact .inl rfl | exact .inr rfl))), dts_nil, (de_mul (dv 5) (dv 7))⟩)) da_nil)) da_nil)))))) (ds_one (ds_ret (de_bl))) ds_nil)
  (ds_cons (ds_if (dt_not (dt_truth (de_call C G__law_is_list_right (da_cons (dv 1) (da_cons (dv 3) (da_cons (de_add (de_int) (de_call C G__law_draw (da_cons (dv 1) (da_cons (de_int) da_nil)))) da_nil)))))) (ds_one (ds_ret (de_bl))) ds_nil)
  (ds_cons (ds_set (i := 6) SC.nd rfl (by first | exact .inl rfl | exact .inr rfl) (de_callTy call_tuple_of cd_tuple B.b_tuple PyProof.Rows.boot_tuple (da_cons (de_lc (own := [("part", 8)]) C rfl SC.nd (di_range1 B.b_range (da_cons (de_int) da_nil)) (blkOk (by kernel_rfl)) rfl (fun _ _ _ _ _ C => ⟨(dgx_name (by decide) (pg_name SC.nd rfl (.inl rfl) (by first | exact .inl rfl | exact .inr rfl))), dts_nil, (de_call C G__law_number (da_cons (dv 1) (da_cons (de_int) da_nil)))⟩)) da_nil)))
  (ds_one (ds_if (dt_not (dt_truth (de_call C G__law_is_list_right (da_cons (dv 1) (da_cons (dv 6) (da_cons (de_call C G__law_any (da_cons (dv 1) (da_cons (de_lst (da_cons (de_int) (da_cons (de_int) (da_cons (de_int) da_nil)))) da_nil))) da_nil)))))) (ds_one (ds_ret (de_bl))) ds_nil))))))))
  (ds_one (ds_ret (de_bl)))))))
theorem ok_law {P : Program} {w : World} {K : PySem.W.Frag} {mg : Str → Option Value} {base : Heap} {a : Addr} {fd : FuncData} (B : Fx P K mg) (U : FunD K "law" "law" (defArgs (top 42)) (defBody (top 42)) (defScope (top 42)) [] [] a fd) (hm : mg "law" = some (.ref a)) (G__law_hand : DFn P w K mg base "_law_hand" 1 1 F__law_hand) (G_small_points : DFn P w K mg base "small_points" 2 4 F_small_points) (G_other_point : DFn P w K mg base "other_point" 4 5 F_other_point) (G__law_are_refused : DFn P w K mg base "_law_are_refused" 1 7 F__law_are_refused) (G__law_with_point : DFn P w K mg base "_law_with_point" 1 4 F__law_with_point) (G__law_any : DFn P w K mg base "_law_any" 2 2 F__law_any) (G__law_is_met_right : DFn P w K mg base "_law_is_met_right" 3 6 F__law_is_met_right) (G__law_is_list_right : DFn P w K mg base "_law_is_list_right" 3 6 F__law_is_list_right) (G__law_draw : DFn P w K mg base "_law_draw" 2 1 F__law_draw) (G__law_number : DFn P w K mg base "_law_number" 2 3 F__law_number) : DFn P w K mg base "law" 1 8 F_law :=
  DFn.mk' (fun_of U) hm sc_law (U.bindsN fun _ _ _ _ _ _ us hl => match us, hl with | [_], _ => rfl) rfl (fun cdv A outer s H E C => b_law B G__law_hand G_small_points G_other_point G__law_are_refused G__law_with_point G__law_any G__law_is_met_right G__law_is_list_right G__law_draw G__law_number C) (fun ds st _ => viaF_sem 9 g_law Good_law ds st)
end K72

set_option maxRecDepth 100000
set_option maxHeartbeats 0
namespace K72
open PySem PySem.Spec PyProof.Rows L2 DD
def dd (x : Str) (i : Nat) : He.DefD := ⟨(x, none), x, x, defArgs (top i), defBody (top i), defScope (top i), [], []⟩
def cd (x : Str) (i : Nat) : CDef := ⟨x, x ++ (".__init__" : Str), defArgs (inClass (top i) 0), defBody (inClass (top i) 0), defScope (inClass (top i) 0)⟩
def fn : List He.DefD := [dd "_law_hand" 29, dd "is_integer" 1, dd "is_conic" 21, dd "check_conic" 22, dd "whole_root" 4, dd "common_divisor" 2, dd "divisor_of" 3, dd "small_points" 25, dd "is_conic_paper" 24, dd "chord_point" 26, dd "other_point" 27, dd "_law_draw" 30, dd "_law_any" 31, dd "_law_word" 40, dd "_law_are_refused" 41, dd "_law_number" 32, dd "_law_with_point" 35, dd "_law_divisor" 33, dd "_law_other" 37, dd "_law_value" 34, dd "_law_is_met_right" 38, dd "_law_points" 36, dd "_law_is_list_right" 39, dd "law" 42]
def cn : List CDef := [cd "NoConic" 9, cd "NoFraction" 10]
def fa : List He.Fa := [.glo "_law_hand", .glo "is_integer", .glo "is_conic", .glo "check_conic", .glo "whole_root", .glo "common_divisor", .glo "divisor_of", .glo "small_points", .glo "is_conic_paper", .glo "chord_point", .glo "other_point", .glo "_law_draw", .glo "_law_any", .glo "_law_word", .glo "_law_are_refused", .glo "_law_number", .glo "_law_with_point", .glo "_law_divisor", .glo "_law_other", .glo "_law_value", .glo "_law_is_met_right", .glo "_law_points", .glo "_law_is_list_right", .glo "law", .free "ValueError", .free "abs", .free "all", .free "any", .free "bool", .free "int", .free "isinstance", .free "len", .free "list", .free "range", .free "repr", .free "sorted", .free "str", .free "sum", .free "super", .free "tuple", .free "zip", .int "MOST" 1000, .glo "FieldError", .glo "NoConic", .glo "NoFraction"]
def ex (K : PySem.W.Frag) : Bool := (["NoConic", "NoFraction"] : List Str).all (fun x => iniB K PySem.Challenge.pw_wholerays_k72_whole_small_points_and_oth.main.file x) && (excs.all (fun y => excB K y) && (excs.all (fun y => He.eqO (PySem.W.nsIn K mainGlobals y) (some (some (.ref (He.ga K y))))) && (excs.all (fun y => decide (PySem.W.exmOne K (.ref (He.ga K y)) (.ref (He.ga K "FieldError")) = some true)) && (excs.all (fun y => decide (PySem.W.kitOne K (.ref (He.ga K y)) (.ref (He.ga K "NoConic")) = some (kT y "NoConic"))) && (excs.all (fun y => decide (PySem.W.kitOne K (.ref (He.ga K y)) (.ref (He.ga K "NoFraction")) = some (kT y "NoFraction"))) && (excs.all (fun y => decide (PySem.W.kitOne K (.ref (He.ga K y)) (.type "ValueError") = some (kT y "ValueError")))))))))
abbrev R : PySem.W.OpenRow := PySem.W.OpenLaw.row PySem.Challenge.rw_wholerays_k72_whole_small_points_and_oth
abbrev hk : PySem.W.Hook := hookF 4 fa fn cn ex
def ob (s : PySem.W.SharedT) : AlF := obsF 4 fa fn cn ex (HandSHeadRun.getT s)
theorem ob_eq (s : PySem.W.SharedT) : ob s = hk.obs s.abs := obsF_eq (HandSHeadRun.getT_eq s)
def names : List Str := [Str.ofString "__name__", Str.ofString "is_integer", Str.ofString "common_divisor", Str.ofString "divisor_of", Str.ofString "whole_root", Str.ofString "power_of", Str.ofString "prime_divisors", Str.ofString "FieldError", Str.ofString "NoConic", Str.ofString "NoFraction", Str.ofString "by_four", Str.ofString "by_eight", Str.ofString "by_prime", Str.ofString "MOST", Str.ofString "REAL", Str.ofString "taken_out", Str.ofString "sign_at_place", Str.ofString "places_for", Str.ofString "is_conic", Str.ofString "check_conic", Str.ofString "barring_places", Str.ofString "is_conic_paper", Str.ofString "small_points", Str.ofString "chord_point", Str.ofString "other_point", Str.ofString "_law_hand", Str.ofString "_law_draw", Str.ofString "_law_any", Str.ofString "_law_number", Str.ofString "_law_divisor", Str.ofString "_law_value", Str.ofString "_law_with_point", Str.ofString "_law_points", Str.ofString "_law_other", Str.ofString "_law_is_met_right", Str.ofString "_law_is_list_right", Str.ofString "_law_word", Str.ofString "_law_are_refused"]
theorem run (w : World) : HandSHeadRun.RunEq R (PySem.W.view R.prog [42]) hk ob 3000 names w := by
  intro os
  kernel_rfl
theorem it_NoConic : IniText (cd "NoConic" 9).params (cd "NoConic" 9).body (cd "NoConic" 9).scope := ⟨_, _, _, _, _, _, rfl, rfl, fun _ _ _ _ _ _ _ _ _ _ => rfl, by kernel_rfl, by kernel_rfl, by kernel_rfl, by kernel_rfl, by decide +kernel, by kernel_rfl, by kernel_rfl, fun _ h => by rfl, _, fun _ => rfl⟩
theorem it_NoFraction : IniText (cd "NoFraction" 10).params (cd "NoFraction" 10).body (cd "NoFraction" 10).scope := ⟨_, _, _, _, _, _, rfl, rfl, fun _ _ _ _ _ _ _ _ _ _ => rfl, by kernel_rfl, by kernel_rfl, by kernel_rfl, by kernel_rfl, by decide +kernel, by kernel_rfl, by kernel_rfl, fun _ h => by rfl, _, fun _ => rfl⟩
theorem facts {K : PySem.W.Frag} {h : Heap} {mg : Str → Option Value} (X : K.In h) (G : h.Ns mainGlobals mg) (c : SaysF fa fn cn ex K) : Fx PySem.Challenge.pw_wholerays_k72_whole_small_points_and_oth K mg := by
  have cx := c.x
  unfold ex at cx
  obtain ⟨e0, cx⟩ := He.ba cx
  obtain ⟨e1, cx⟩ := He.ba cx
  obtain ⟨e2, cx⟩ := He.ba cx
  obtain ⟨e3, cx⟩ := He.ba cx
  obtain ⟨e4, cx⟩ := He.ba cx
  obtain ⟨e5, cx⟩ := He.ba cx
  have e6 := cx
  exact {
    b_ValueError := He.free_ok X G (c.d.fact 24 rfl)
    b_abs := He.free_ok X G (c.d.fact 25 rfl)
    b_all := He.free_ok X G (c.d.fact 26 rfl)
    b_any := He.free_ok X G (c.d.fact 27 rfl)
    b_bool := He.free_ok X G (c.d.fact 28 rfl)
    b_int := He.free_ok X G (c.d.fact 29 rfl)
    b_isinstance := He.free_ok X G (c.d.fact 30 rfl)
    b_len := He.free_ok X G (c.d.fact 31 rfl)
    b_list := He.free_ok X G (c.d.fact 32 rfl)
    b_range := He.free_ok X G (c.d.fact 33 rfl)
    b_repr := He.free_ok X G (c.d.fact 34 rfl)
    b_sorted := He.free_ok X G (c.d.fact 35 rfl)
    b_str := He.free_ok X G (c.d.fact 36 rfl)
    b_sum := He.free_ok X G (c.d.fact 37 rfl)
    b_super := He.free_ok X G (c.d.fact 38 rfl)
    b_tuple := He.free_ok X G (c.d.fact 39 rfl)
    b_zip := He.free_ok X G (c.d.fact 40 rfl)
    i_MOST := He.int_ok X G (c.d.fact 41 rfl)
    m_FieldError := He.glo_ok X G (c.d.fact 42 rfl)
    m_NoConic := He.glo_ok X G (c.d.fact 43 rfl)
    m_NoFraction := He.glo_ok X G (c.d.fact 44 rfl)
    x_NoConic := ini_of (d := cd "NoConic" 9) (c.cls 0 rfl) (List.all_eq_true.mp e0 "NoConic" (by decide +kernel)) it_NoConic (by kernel_rfl)
    x_NoFraction := ini_of (d := cd "NoFraction" 10) (c.cls 1 rfl) (List.all_eq_true.mp e0 "NoFraction" (by decide +kernel)) it_NoFraction (by kernel_rfl)
    ms := fun y hy => PySem.W.mg_of X G (He.eqO_ok (List.all_eq_true.mp e2 y hy))
    ec := fun y hy => excB_ok (List.all_eq_true.mp e1 y hy)
    cat := fun y hy => of_decide_eq_true (List.all_eq_true.mp e3 y hy)
    kt := fun y hy => ⟨of_decide_eq_true (List.all_eq_true.mp e4 y hy), of_decide_eq_true (List.all_eq_true.mp e5 y hy), of_decide_eq_true (List.all_eq_true.mp e6 y hy)⟩
  }
end K72

set_option maxRecDepth 100000
set_option maxHeartbeats 0
namespace K72
open PySem PySem.Spec PyProof.Rows L2 DD
theorem facts2 {w : World} {K : PySem.W.Frag} {h : Heap} {mg : Str → Option Value} {f : Addr} (X : K.In h) (G : h.Ns mainGlobals mg) (hfa : mg ("law" : Str) = some (.ref f)) (c : SaysF fa fn cn ex K) :
    ∃ fd : FuncData, (∀ (s : Shared) (v : Value), BindsTo s fd ⟨[v], []⟩ [(("script" : Str), v)]) ∧ ∀ base : Heap, K.In base → base.Ns mainGlobals mg → FnG PySem.Challenge.pw_wholerays_k72_whole_small_points_and_oth w K mg base 8 f fd ["script"] (spD K mg 1 F_law) := by
  have B := facts X G c
  obtain ⟨fd0, U0⟩ := c.d.def_ 0 (d := dd "_law_hand" 29) rfl
  obtain ⟨fd1, U1⟩ := c.d.def_ 1 (d := dd "is_integer" 1) rfl
  obtain ⟨fd2, U2⟩ := c.d.def_ 2 (d := dd "is_conic" 21) rfl
  obtain ⟨fd3, U3⟩ := c.d.def_ 3 (d := dd "check_conic" 22) rfl
  obtain ⟨fd4, U4⟩ := c.d.def_ 4 (d := dd "whole_root" 4) rfl
  obtain ⟨fd5, U5⟩ := c.d.def_ 5 (d := dd "common_divisor" 2) rfl
  obtain ⟨fd6, U6⟩ := c.d.def_ 6 (d := dd "divisor_of" 3) rfl
  obtain ⟨fd7, U7⟩ := c.d.def_ 7 (d := dd "small_points" 25) rfl
  obtain ⟨fd8, U8⟩ := c.d.def_ 8 (d := dd "is_conic_paper" 24) rfl
  obtain ⟨fd9, U9⟩ := c.d.def_ 9 (d := dd "chord_point" 26) rfl
  obtain ⟨fd10, U10⟩ := c.d.def_ 10 (d := dd "other_point" 27) rfl
  obtain ⟨fd11, U11⟩ := c.d.def_ 11 (d := dd "_law_draw" 30) rfl
  obtain ⟨fd12, U12⟩ := c.d.def_ 12 (d := dd "_law_any" 31) rfl
  obtain ⟨fd13, U13⟩ := c.d.def_ 13 (d := dd "_law_word" 40) rfl
  obtain ⟨fd14, U14⟩ := c.d.def_ 14 (d := dd "_law_are_refused" 41) rfl
  obtain ⟨fd15, U15⟩ := c.d.def_ 15 (d := dd "_law_number" 32) rfl
  obtain ⟨fd16, U16⟩ := c.d.def_ 16 (d := dd "_law_with_point" 35) rfl
  obtain ⟨fd17, U17⟩ := c.d.def_ 17 (d := dd "_law_divisor" 33) rfl
  obtain ⟨fd18, U18⟩ := c.d.def_ 18 (d := dd "_law_other" 37) rfl
  obtain ⟨fd19, U19⟩ := c.d.def_ 19 (d := dd "_law_value" 34) rfl
  obtain ⟨fd20, U20⟩ := c.d.def_ 20 (d := dd "_law_is_met_right" 38) rfl
  obtain ⟨fd21, U21⟩ := c.d.def_ 21 (d := dd "_law_points" 36) rfl
  obtain ⟨fd22, U22⟩ := c.d.def_ 22 (d := dd "_law_is_list_right" 39) rfl
  obtain ⟨fd23, U23⟩ := c.d.def_ 23 (d := dd "law" 42) rfl
  have m0 := He.glo_ok X G (c.d.fact 0 (f := .glo "_law_hand") rfl)
  have m1 := He.glo_ok X G (c.d.fact 1 (f := .glo "is_integer") rfl)
  have m2 := He.glo_ok X G (c.d.fact 2 (f := .glo "is_conic") rfl)
  have m3 := He.glo_ok X G (c.d.fact 3 (f := .glo "check_conic") rfl)
  have m4 := He.glo_ok X G (c.d.fact 4 (f := .glo "whole_root") rfl)
  have m5 := He.glo_ok X G (c.d.fact 5 (f := .glo "common_divisor") rfl)
  have m6 := He.glo_ok X G (c.d.fact 6 (f := .glo "divisor_of") rfl)
  have m7 := He.glo_ok X G (c.d.fact 7 (f := .glo "small_points") rfl)
  have m8 := He.glo_ok X G (c.d.fact 8 (f := .glo "is_conic_paper") rfl)
  have m9 := He.glo_ok X G (c.d.fact 9 (f := .glo "chord_point") rfl)
  have m10 := He.glo_ok X G (c.d.fact 10 (f := .glo "other_point") rfl)
  have m11 := He.glo_ok X G (c.d.fact 11 (f := .glo "_law_draw") rfl)
  have m12 := He.glo_ok X G (c.d.fact 12 (f := .glo "_law_any") rfl)
  have m13 := He.glo_ok X G (c.d.fact 13 (f := .glo "_law_word") rfl)
  have m14 := He.glo_ok X G (c.d.fact 14 (f := .glo "_law_are_refused") rfl)
  have m15 := He.glo_ok X G (c.d.fact 15 (f := .glo "_law_number") rfl)
  have m16 := He.glo_ok X G (c.d.fact 16 (f := .glo "_law_with_point") rfl)
  have m17 := He.glo_ok X G (c.d.fact 17 (f := .glo "_law_divisor") rfl)
  have m18 := He.glo_ok X G (c.d.fact 18 (f := .glo "_law_other") rfl)
  have m19 := He.glo_ok X G (c.d.fact 19 (f := .glo "_law_value") rfl)
  have m20 := He.glo_ok X G (c.d.fact 20 (f := .glo "_law_is_met_right") rfl)
  have m21 := He.glo_ok X G (c.d.fact 21 (f := .glo "_law_points") rfl)
  have m22 := He.glo_ok X G (c.d.fact 22 (f := .glo "_law_is_list_right") rfl)
  have m23 := He.glo_ok X G (c.d.fact 23 (f := .glo "law") rfl)
  have e := hfa.symm.trans m23
  cases e
  have b := FunD.bindsA (ps := ["script"]) U23 fun _ _ _ _ _ _ us hl => match us, hl with | [_], _ => rfl
  refine ⟨fd23, fun s v => b s [v] rfl, fun base _ _ => ?_⟩
  have G0 : DFn PySem.Challenge.pw_wholerays_k72_whole_small_points_and_oth w K mg base "_law_hand" 1 1 F__law_hand := ok__law_hand B U0 m0 
  have G1 : DFn PySem.Challenge.pw_wholerays_k72_whole_small_points_and_oth w K mg base "is_integer" 1 1 F_is_integer := ok_is_integer B U1 m1 
  have G2 : DFn PySem.Challenge.pw_wholerays_k72_whole_small_points_and_oth w K mg base "is_conic" 1 2 F_is_conic := ok_is_conic B U2 m2 G1
  have G3 : DFn PySem.Challenge.pw_wholerays_k72_whole_small_points_and_oth w K mg base "check_conic" 1 3 F_check_conic := ok_check_conic B U3 m3 G2
  have G4 : DFn PySem.Challenge.pw_wholerays_k72_whole_small_points_and_oth w K mg base "whole_root" 1 1 F_whole_root := ok_whole_root B U4 m4 
  have G5 : DFn PySem.Challenge.pw_wholerays_k72_whole_small_points_and_oth w K mg base "common_divisor" 2 1 F_common_divisor := ok_common_divisor B U5 m5 
  have G6 : DFn PySem.Challenge.pw_wholerays_k72_whole_small_points_and_oth w K mg base "divisor_of" 1 2 F_divisor_of := ok_divisor_of B U6 m6 G5
  have G7 : DFn PySem.Challenge.pw_wholerays_k72_whole_small_points_and_oth w K mg base "small_points" 2 4 F_small_points := ok_small_points B U7 m7 G3 G1 G4 G6
  have G8 : DFn PySem.Challenge.pw_wholerays_k72_whole_small_points_and_oth w K mg base "is_conic_paper" 2 4 F_is_conic_paper := ok_is_conic_paper B U8 m8 G3 G1
  have G9 : DFn PySem.Challenge.pw_wholerays_k72_whole_small_points_and_oth w K mg base "chord_point" 4 3 F_chord_point := ok_chord_point B U9 m9 G6
  have G10 : DFn PySem.Challenge.pw_wholerays_k72_whole_small_points_and_oth w K mg base "other_point" 4 5 F_other_point := ok_other_point B U10 m10 G8 G1 G9
  have G11 : DFn PySem.Challenge.pw_wholerays_k72_whole_small_points_and_oth w K mg base "_law_draw" 2 1 F__law_draw := ok__law_draw B U11 m11 
  have G12 : DFn PySem.Challenge.pw_wholerays_k72_whole_small_points_and_oth w K mg base "_law_any" 2 2 F__law_any := ok__law_any B U12 m12 G11
  have G13 : DFn PySem.Challenge.pw_wholerays_k72_whole_small_points_and_oth w K mg base "_law_word" 3 6 F__law_word := ok__law_word B U13 m13 G7 G10
  have G14 : DFn PySem.Challenge.pw_wholerays_k72_whole_small_points_and_oth w K mg base "_law_are_refused" 1 7 F__law_are_refused := ok__law_are_refused B U14 m14 G12 G13
  have G15 : DFn PySem.Challenge.pw_wholerays_k72_whole_small_points_and_oth w K mg base "_law_number" 2 3 F__law_number := ok__law_number B U15 m15 G11 G12
  have G16 : DFn PySem.Challenge.pw_wholerays_k72_whole_small_points_and_oth w K mg base "_law_with_point" 1 4 F__law_with_point := ok__law_with_point B U16 m16 G15 G11
  have G17 : DFn PySem.Challenge.pw_wholerays_k72_whole_small_points_and_oth w K mg base "_law_divisor" 1 1 F__law_divisor := ok__law_divisor B U17 m17 
  have G18 : DFn PySem.Challenge.pw_wholerays_k72_whole_small_points_and_oth w K mg base "_law_other" 4 2 F__law_other := ok__law_other B U18 m18 G17
  have G19 : DFn PySem.Challenge.pw_wholerays_k72_whole_small_points_and_oth w K mg base "_law_value" 2 1 F__law_value := ok__law_value B U19 m19 
  have G20 : DFn PySem.Challenge.pw_wholerays_k72_whole_small_points_and_oth w K mg base "_law_is_met_right" 3 6 F__law_is_met_right := ok__law_is_met_right B U20 m20 G11 G10 G18 G19 G8 G17
  have G21 : DFn PySem.Challenge.pw_wholerays_k72_whole_small_points_and_oth w K mg base "_law_points" 2 2 F__law_points := ok__law_points B U21 m21 G17
  have G22 : DFn PySem.Challenge.pw_wholerays_k72_whole_small_points_and_oth w K mg base "_law_is_list_right" 3 6 F__law_is_list_right := ok__law_is_list_right B U22 m22 G21 G7 G10
  have G23 : DFn PySem.Challenge.pw_wholerays_k72_whole_small_points_and_oth w K mg base "law" 1 8 F_law := ok_law B U23 m23 G0 G7 G10 G14 G16 G12 G20 G22 G11 G15
  exact FnG.mk' (fun_of U23) sc_law rfl (fun cdv A outer s H E C => b_law B G0 G7 G10 G14 G16 G12 G20 G22 G11 G15 C) (fun ds st _ => viaF_sem 9 g_law Good_law ds st)
end K72
open PySem PySem.W PySem.Calls PyProof.Rows in
theorem PySem.Challenge.cw_wholerays_k72_whole_small_points_and_oth_holds : PySem.Challenge.rw_wholerays_k72_whole_small_points_and_oth.Holds := by
  w_on; o_law
  refine HandSHeadRun.head_any (r := OpenLaw.row PySem.Challenge.rw_wholerays_k72_whole_small_points_and_oth) (q := view (OpenLaw.row PySem.Challenge.rw_wholerays_k72_whole_small_points_and_oth).prog [42]) (H := K72.hk) (ob := K72.ob) (M := 3000) (loose := K72.names) (d := HandSHeadRun.topDef (OpenLaw.row PySem.Challenge.rw_wholerays_k72_whole_small_points_and_oth).prog 42) (kwd := []) K72.ob_eq
    (by kernel_rfl) (fun s => by kernel_rfl) K72.run (by kernel_rfl) (by kernel_rfl) (by kernel_rfl) (by rfl) (by first | assumption | decide +kernel) (by decide +kernel) ⟨rfl, rfl, rfl, rfl, rfl, by decide +kernel⟩ ?hw ?hc
  case hw => w_witness2
  case hc =>
    refine DD.endWalk (l := PySem.Challenge.rw_wholerays_k72_whole_small_points_and_oth) (n := 63) (k := 8) (x := "script") rfl (by decide) (by kernel_rfl) ⟨rfl, by decide, by decide⟩ ?F
    intro w mg fa h Y G hmg0
    obtain ⟨K, KX, c⟩ := Y
    have hmg : mg ("law" : PySem.Str) = some (.ref fa) := by
      have e : (HandSHeadRun.topDef (OpenLaw.row PySem.Challenge.rw_wholerays_k72_whole_small_points_and_oth).prog 42).name = ("law" : PySem.Str) := by kernel_rfl
      rw [← e]
      exact hmg0
    obtain ⟨fd, hb, hF⟩ := K72.facts2 (w := w) KX G hmg c
    exact ⟨K, fd, K72.F_law, KX, hb, fun ns hl => K72.law_true ns hl, hF⟩

