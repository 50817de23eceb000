import PyProof.Rows.All
import Wide.All
import OpenK.AllK
import Wide.FinOn
import HandS.ForMost
import HandS.ForExc
import HandS.Wide
import HandS.Gcd
import HandS.IsInst
import HandS.SetFor
import HandS.Defaults
import HandS.TupAny
import HandS.Zip
import KE.GoesNew
import KE.GoesMore
import HandS.Rev
import HandS.CallSlots
import HandS.Comp
import HandS.Ends
import HandS.EndBits
import HandS.MakeKw
import HandS.MakeKwOnly
import HandS.List
import PyProof.ReprReads
import PyProof.CallFns
import PyProof.ReprRoads
import HandS.HeadHook1
import HandS.HeadHook2
import HandS.Words
import HandS.Codes
import KE.KStateDown
import HandS.More
import HandS.WordsExc
import HandS.Head0
import HandS.Head1
import HandS.Head2
import HandS.HeadEnd
import PySem.Challenge.RW_thinslopes_k77_all_results_keep_their_th
set_option Elab.async false
set_option linter.all false
set_option maxRecDepth 100000
set_option maxHeartbeats 4000000
namespace L3
open PySem PySem.Spec PyProof.Rows L2

/-! values as trees -/
inductive Ty where
  | int | bool | str | none | list | tuple | dict
  deriving DecidableEq
def Ty.name : Ty → String
  | .int => "int" | .bool => "bool" | .str => "str" | .none => "NoneType" | .list => "list" | .tuple => "tuple" | .dict => "dict"
inductive D where
  | non | bl (b : Bool) | int (i : Int) | str (s : Str) | tup (ds : List D) | lst (ds : List D)
  | scr (ds : List D) | ref (n : Nat) | obj (c : Nat) (ds : List D) | glo (g : Nat) | ty (n : Ty)

mutual
def D.beq : D → D → Bool
  | .non, .non => true
  | .bl a, .bl b => a == b
  | .int a, .int b => decide (a = b)
  | .str a, .str b => decide (a = b)
  | .tup a, .tup b => beqs a b
  | .lst a, .lst b => beqs a b
  | .scr a, .scr b => beqs a b
  | .ref a, .ref b => decide (a = b)
  | .obj c a, .obj d b => decide (c = d) && beqs a b
  | .glo a, .glo b => decide (a = b)
  | .ty a, .ty b => decide (a = b)
  | _, _ => false
def D.beqs : List D → List D → Bool
  | [], [] => true
  | a :: r, b :: s => D.beq a b && D.beqs r s
  | _, _ => false
end
mutual
theorem D.beq_refl : ∀ d : D, D.beq d d = true
  | .non => rfl
  | .bl b => by simp [D.beq]
  | .int b => by simp [D.beq]
  | .str b => by simp [D.beq]
  | .tup ds => by simp only [D.beq]; exact D.beqs_refl ds
  | .lst ds => by simp only [D.beq]; exact D.beqs_refl ds
  | .scr ds => by simp only [D.beq]; exact D.beqs_refl ds
  | .ref b => by simp [D.beq]
  | .obj c ds => by simp only [D.beq, decide_true, Bool.true_and]; exact D.beqs_refl ds
  | .glo b => by simp [D.beq]
  | .ty b => by simp [D.beq]
theorem D.beqs_refl : ∀ ds : List D, D.beqs ds ds = true
  | [] => rfl
  | d :: r => by simp only [D.beqs, D.beq_refl d, D.beqs_refl r, Bool.and_self]
end
mutual
theorem D.beq_eq : ∀ {a b : D}, D.beq a b = true → a = b
  | .non, b, h => by cases b <;> simp_all [D.beq]
  | .bl _, b, h => by cases b <;> simp_all [D.beq]
  | .int _, b, h => by cases b <;> simp_all [D.beq]
  | .str _, b, h => by cases b <;> simp_all [D.beq]
  | .ref _, b, h => by cases b <;> simp_all [D.beq]
  | .glo _, b, h => by cases b <;> simp_all [D.beq]
  | .ty _, b, h => by cases b <;> simp_all [D.beq]
  | .tup a, b, h => by
    cases b with
    | tup b => simp only [D.beq] at h; rw [D.beqs_eq h]
    | _ => simp [D.beq] at h
  | .lst a, b, h => by
    cases b with
    | lst b => simp only [D.beq] at h; rw [D.beqs_eq h]
    | _ => simp [D.beq] at h
  | .scr a, b, h => by
    cases b with
    | scr b => simp only [D.beq] at h; rw [D.beqs_eq h]
    | _ => simp [D.beq] at h
  | .obj c a, b, h => by
    cases b with
    | obj d b =>
      simp only [D.beq, Bool.and_eq_true, decide_eq_true_eq] at h
      rw [h.1, D.beqs_eq h.2]
    | _ => simp [D.beq] at h
theorem D.beqs_eq : ∀ {a b : List D}, D.beqs a b = true → a = b
  | [], b, h => by cases b <;> simp_all [D.beqs]
  | a :: r, b, h => by
    cases b with
    | nil => simp [D.beqs] at h
    | cons b s =>
      simp only [D.beqs, Bool.and_eq_true] at h
      rw [D.beq_eq h.1, D.beqs_eq h.2]
end
instance : DecidableEq D := fun a b => if h : D.beq a b = true then .isTrue (D.beq_eq h) else .isFalse fun e => h (e ▸ D.beq_refl a)

inductive Cell where
  | lst (ds : List D) | ins (c : Nat) (ds : List D) | dic (kvs : List (D × D))
  deriving DecidableEq

abbrev Mem := List Cell
abbrev St3 := List (Option D)
inductive Res (α : Type) where
  | ok (a : α) (M : Mem) | exc (c : Nat) (ds : List D) (M : Mem) | no
def Res.bind {α β : Type} : Res α → (α → Mem → Res β) → Res β
  | .ok a M, k => k a M
  | .exc c ds M, _ => .exc c ds M
  | .no, _ => .no
@[simp] theorem Res.bind_ok {α β : Type} {a : α} {M : Mem} {k : α → Mem → Res β} : (Res.ok a M).bind k = k a M := rfl
@[simp] theorem Res.bind_exc {α β : Type} {c ds M} {k : α → Mem → Res β} : (Res.exc c ds M : Res α).bind k = .exc c ds M := rfl
@[simp] theorem Res.bind_no {α β : Type} {k : α → Mem → Res β} : (Res.no : Res α).bind k = .no := rfl
abbrev EV := St3 → Mem → Res D
abbrev BV := St3 → Mem → Res Bool
abbrev AV := St3 → Mem → Res (List D)
abbrev Fn3 := List D → Mem → Res D
inductive Out where
  | nx (σ : St3) (M : Mem) | rt (d : D) (M : Mem) | bk (σ : St3) (M : Mem) | ct (σ : St3) (M : Mem) | exc (c : Nat) (ds : List D) (σ : St3) (M : Mem) | no
abbrev SV := St3 → Mem → Out

/-! how trees lie in the heap -/
structure Ct where
  K : PySem.W.Frag
  cls : Nat → Addr
  fl : Nat → List Str
  glo : Nat → Addr
def SqTK (K : PySem.W.Frag) (a : Addr) (xs : List V) : Prop :=
  ∃ (o : Obj) (its : Array Value) (n : Nat), K.lookup a = some o ∧ o.cls = .type "tuple" ∧ o.data = .seq its n ∧ its.size ≤ sizeLine ∧ Vals xs its.toList
def SqLK (K : PySem.W.Frag) (a : Addr) (xs : List V) : Prop :=
  ∃ (o : Obj) (its : Array Value) (n : Nat), K.lookup a = some o ∧ o.cls = .type "list" ∧ o.dict = none ∧ o.data = .seq its n ∧ its.size ≤ sizeLine ∧ Vals xs its.toList
mutual
def Rl (C : Ct) (α : List Addr) (H : Hp) : D → V → Prop
  | .non, v => v = .non
  | .bl b, v => v = .bl b
  | .int i, v => v = .int i
  | .str s, v => v = .str s
  | .tup ds, v => ∃ a vs, v = .ref a ∧ ((a ∉ α ∧ Rd H a (.tup vs)) ∨ SqTK C.K a vs) ∧ Rls C α H ds vs
  | .lst ds, v => ∃ a vs, v = .ref a ∧ a ∉ α ∧ H a = some (.lst vs) ∧ Rls C α H ds vs
  | .scr ds, v => ∃ a vs, v = .ref a ∧ ((a ∉ α ∧ Rd H a (.lst vs)) ∨ SqLK C.K a vs) ∧ Rls C α H ds vs
  | .ref n, v => ∃ a, α[n]? = some a ∧ v = .ref a
  | .obj c ds, v => ∃ a dx vs, v = .ref a ∧ a ∉ α ∧ H a = some (.ins (C.cls c) dx ((C.fl c).zip vs)) ∧ vs.length = (C.fl c).length ∧ Rls C α H ds vs
  | .glo g, v => v = .ref (C.glo g)
  | .ty n, v => v = .ty n.name
def Rls (C : Ct) (α : List Addr) (H : Hp) : List D → List V → Prop
  | [], vs => vs = []
  | d :: ds, vs => ∃ v r, vs = v :: r ∧ Rl C α H d v ∧ Rls C α H ds r
end
structure Ext (α : List Addr) (H : Hp) (α' : List Addr) (H' : Hp) : Prop where
  pre : ∃ t, α' = α ++ t ∧ ∀ a ∈ t, H a = none ∧ a ∉ α
  keep : ∀ a o, H a = some o → a ∉ α → H' a = some o
theorem Ext.refl (α : List Addr) (H : Hp) : Ext α H α H := ⟨⟨[], by simp, by simp⟩, fun _ _ h _ => h⟩
theorem Ext.notin {α α' : List Addr} {H H' : Hp} (e : Ext α H α' H') {a : Addr} {o : HO} (h : H a = some o) (n : a ∉ α) : a ∉ α' := by
  obtain ⟨t, rfl, ht⟩ := e.pre
  intro hm
  rcases List.mem_append.mp hm with hm | hm
  · exact n hm
  · rw [(ht a hm).1] at h; cases h
theorem Ext.trans {α1 α2 α3 : List Addr} {H1 H2 H3 : Hp} (a : Ext α1 H1 α2 H2) (b : Ext α2 H2 α3 H3) : Ext α1 H1 α3 H3 := by
  refine ⟨?_, fun x o h n => b.keep x o (a.keep x o h n) (a.notin h n)⟩
  obtain ⟨t, rfl, ht⟩ := a.pre
  obtain ⟨u, rfl, hu⟩ := b.pre
  refine ⟨t ++ u, by simp, fun x hx => ?_⟩
  rcases List.mem_append.mp hx with hx | hx
  · exact ht x hx
  · obtain ⟨h2, hn⟩ := hu x hx
    have n : x ∉ α1 := fun hm => hn (List.mem_append_left _ hm)
    refine ⟨?_, n⟩
    cases q : H1 x with
    | none => rfl
    | some o => rw [a.keep x o q n] at h2; cases h2
theorem Ext.get {α α' : List Addr} {H H' : Hp} (e : Ext α H α' H') {n : Nat} {a : Addr} (h : α[n]? = some a) : α'[n]? = some a := by
  obtain ⟨t, rfl, _⟩ := e.pre
  rw [List.getElem?_append_left (List.getElem?_eq_some_iff.mp h).1]; exact h
theorem Ext.rd {α α' : List Addr} {H H' : Hp} (e : Ext α H α' H') {a : Addr} {u : HO} (n : a ∉ α) (r : Rd H a u) : a ∉ α' ∧ Rd H' a u := by
  rcases r with r | ⟨o, r⟩
  · exact ⟨e.notin r n, .inl (e.keep _ _ r n)⟩
  · exact ⟨e.notin r n, .inr ⟨o, e.keep _ _ r n⟩⟩
mutual
theorem Rl.ext {C : Ct} {α α' : List Addr} {H H' : Hp} (e : Ext α H α' H') : ∀ {d : D} {v : V}, Rl C α H d v → Rl C α' H' d v
  | .non, _, h => h
  | .bl _, _, h => h
  | .int _, _, h => h
  | .str _, _, h => h
  | .glo _, _, h => h
  | .ty _, _, h => h
  | .ref n, _, ⟨a, h, q⟩ => ⟨a, e.get h, q⟩
  | .tup ds, _, ⟨a, vs, q, .inl ⟨n, r⟩, rs⟩ => ⟨a, vs, q, .inl (e.rd n r), Rls.ext e rs⟩
  | .tup ds, _, ⟨a, vs, q, .inr r, rs⟩ => ⟨a, vs, q, .inr r, Rls.ext e rs⟩
  | .lst ds, _, ⟨a, vs, q, n, r, rs⟩ => ⟨a, vs, q, e.notin r n, e.keep _ _ r n, Rls.ext e rs⟩
  | .scr ds, _, ⟨a, vs, q, .inl ⟨n, r⟩, rs⟩ => ⟨a, vs, q, .inl (e.rd n r), Rls.ext e rs⟩
  | .scr ds, _, ⟨a, vs, q, .inr r, rs⟩ => ⟨a, vs, q, .inr r, Rls.ext e rs⟩
  | .obj c ds, _, ⟨a, dx, vs, q, n, r, l, rs⟩ => ⟨a, dx, vs, q, e.notin r n, e.keep _ _ r n, l, Rls.ext e rs⟩
theorem Rls.ext {C : Ct} {α α' : List Addr} {H H' : Hp} (e : Ext α H α' H') : ∀ {ds : List D} {vs : List V}, Rls C α H ds vs → Rls C α' H' ds vs
  | [], _, h => h
  | _ :: _, _, ⟨v, r, q, h, hs⟩ => ⟨v, r, q, Rl.ext e h, Rls.ext e hs⟩
end
theorem Rls.length {C : Ct} {α : List Addr} {H : Hp} : ∀ {ds : List D} {vs : List V}, Rls C α H ds vs → vs.length = ds.length
  | [], _, h => by subst h; rfl
  | _ :: _, _, ⟨v, r, q, _, hs⟩ => by subst q; simp [Rls.length hs]
theorem Rls.get {C : Ct} {α : List Addr} {H : Hp} : ∀ {ds : List D} {vs : List V} {i : Nat} {d : D}, Rls C α H ds vs → ds[i]? = some d → ∃ v, vs[i]? = some v ∧ Rl C α H d v
  | [], _, _, _, _, e => by simp at e
  | _ :: _, _, 0, _, ⟨v, r, q, h, hs⟩, e => by subst q; simp at e; subst e; exact ⟨v, rfl, h⟩
  | _ :: ds, _, i + 1, d, ⟨v, r, q, h, hs⟩, e => by
    subst q
    obtain ⟨w, h1, h2⟩ := Rls.get (i := i) hs (by simpa using e)
    exact ⟨w, by simpa using h1, h2⟩
theorem Rls.append {C : Ct} {α : List Addr} {H : Hp} : ∀ {ds es : List D} {vs ws : List V}, Rls C α H ds vs → Rls C α H es ws → Rls C α H (ds ++ es) (vs ++ ws)
  | [], _, _, _, h, k => by cases h; exact k
  | _ :: _, _, _, _, ⟨v, r, q, h, hs⟩, k => by subst q; exact ⟨v, _, rfl, h, Rls.append hs k⟩
theorem Rls.one {C : Ct} {α : List Addr} {H : Hp} {d : D} {v : V} (h : Rl C α H d v) : Rls C α H [d] [v] := ⟨v, [], rfl, h, rfl⟩
theorem Rls.nil {C : Ct} {α : List Addr} {H : Hp} : Rls C α H [] [] := rfl
theorem Rls.cons {C : Ct} {α : List Addr} {H : Hp} {d : D} {v : V} {ds : List D} {vs : List V} (h : Rl C α H d v) (k : Rls C α H ds vs) : Rls C α H (d :: ds) (v :: vs) := ⟨v, vs, rfl, h, k⟩
theorem Rls.take {C : Ct} {α : List Addr} {H : Hp} : ∀ {ds : List D} {vs : List V} (n : Nat), Rls C α H ds vs → Rls C α H (ds.take n) (vs.take n)
  | [], _, n, h => by cases h; simp; rfl
  | _ :: _, _, 0, _ => by simp; rfl
  | _ :: _, _, n + 1, ⟨v, r, q, h, hs⟩ => by subst q; exact ⟨v, _, rfl, h, Rls.take n hs⟩
theorem Rls.drop {C : Ct} {α : List Addr} {H : Hp} : ∀ {ds : List D} {vs : List V} (n : Nat), Rls C α H ds vs → Rls C α H (ds.drop n) (vs.drop n)
  | [], _, n, h => by cases h; simp; rfl
  | _ :: _, _, 0, h => h
  | _ :: _, _, n + 1, ⟨v, r, q, h, hs⟩ => by subst q; exact Rls.drop n hs
theorem Rls.set {C : Ct} {α : List Addr} {H : Hp} {d : D} {v : V} (hv : Rl C α H d v) : ∀ {ds : List D} {vs : List V} (n : Nat), Rls C α H ds vs → Rls C α H (ds.set n d) (vs.set n v)
  | [], _, n, h => by cases h; exact rfl
  | _ :: _, _, 0, ⟨w, r, q, h, hs⟩ => by subst q; exact ⟨v, r, rfl, hv, hs⟩
  | _ :: _, _, n + 1, ⟨w, r, q, h, hs⟩ => by subst q; exact ⟨w, _, rfl, h, Rls.set hv n hs⟩

/-! cells -/
def RlC (C : Ct) (α : List Addr) (H : Hp) : Cell → Addr → Prop
  | .lst ds, a => ∃ vs, H a = some (.lst vs) ∧ Rls C α H ds vs
  | .ins c ds, a => ∃ dx vs, H a = some (.ins (C.cls c) dx ((C.fl c).zip vs)) ∧ vs.length ≤ (C.fl c).length ∧ Rls C α H ds vs
  | .dic kvs, a => ∃ kws : List (Key × V), H a = some (.dK kws) ∧ kws.length = kvs.length ∧ Rls C α H (kvs.map (·.1)) (kws.map fun p => kV p.1) ∧ Rls C α H (kvs.map (·.2)) (kws.map (·.2))
structure SMem (C : Ct) (α : List Addr) (M : Mem) (H : Hp) : Prop where
  len : α.length = M.length
  nd : α.Nodup
  cell : ∀ (n : Nat) (c : Cell) (a : Addr), M[n]? = some c → α[n]? = some a → RlC C α H c a
structure SSt (C : Ct) (α : List Addr) (H : Hp) (σ3 : St3) (σ : L2.St) : Prop where
  len : σ.length = σ3.length
  at_ : ∀ (i : Nat) d, σ3[i]? = some (some d) → ∃ v, σ[i]? = some (some v) ∧ Rl C α H d v
theorem SSt.ext {C : Ct} {α α' : List Addr} {H H' : Hp} {σ3 : St3} {σ : L2.St} (h : SSt C α H σ3 σ) (e : Ext α H α' H') : SSt C α' H' σ3 σ :=
  ⟨h.len, fun i d q => let ⟨v, a, b⟩ := h.at_ i d q; ⟨v, a, b.ext e⟩⟩
theorem SSt.set {C : Ct} {α : List Addr} {H : Hp} {σ3 : St3} {σ : L2.St} (h : SSt C α H σ3 σ) {d : D} {v : V} (r : Rl C α H d v) (i : Nat) : SSt C α H (σ3.set i (some d)) (σ.set i (some v)) := by
  refine ⟨by simp [h.len], fun j e q => ?_⟩
  by_cases hij : i = j
  · subst hij
    have hl : i < σ3.length := by
      have := (List.getElem?_eq_some_iff.mp q).1; simpa using this
    rw [List.getElem?_set_self hl] at q
    cases q
    exact ⟨v, by rw [List.getElem?_set_self (by rw [h.len]; exact hl)], r⟩
  · rw [List.getElem?_set_ne hij] at q ⊢
    exact h.at_ j e q
theorem RlC.tracked {C : Ct} {α : List Addr} {H : Hp} : ∀ {c : Cell} {a : Addr}, RlC C α H c a → ∃ o, H a = some o
  | .lst _, _, ⟨vs, h, _⟩ => ⟨_, h⟩
  | .ins _ _, _, ⟨dx, vs, h, _⟩ => ⟨_, h⟩
  | .dic _, _, ⟨kws, h, _⟩ => ⟨_, h⟩
theorem SMem.tracked {C : Ct} {α : List Addr} {M : Mem} {H : Hp} (h : SMem C α M H) {a : Addr} (ha : a ∈ α) : ∃ o, H a = some o := by
  obtain ⟨n, hn, e⟩ := List.getElem_of_mem ha
  have hM : n < M.length := by rw [← h.len]; exact hn
  exact (h.cell n M[n] a (List.getElem?_eq_getElem hM) (by rw [List.getElem?_eq_getElem hn, e])).tracked
theorem SMem.new {C : Ct} {α : List Addr} {M : Mem} {H : Hp} (h : SMem C α M H) {p : Addr} (hp : H p = none) : p ∉ α := fun hm => by
  obtain ⟨o, e⟩ := h.tracked hm
  rw [hp] at e; cases e
/-- a new object that is no cell -/
theorem Ext.laid {C : Ct} {α : List Addr} {M : Mem} {H : Hp} {p : Addr} {o : HO} (hp : H p = none) : Ext α H α (upd H p o) :=
  ⟨⟨[], by simp, by simp⟩, fun a u h _ => by rw [upd_ne (ne_of_none h hp)]; exact h⟩
theorem RlC.ext {C : Ct} {α α' : List Addr} {H H' : Hp} (e : Ext α H α' H') : ∀ {c : Cell} {a : Addr}, RlC C α H c a → H' a = H a → RlC C α' H' c a
  | .lst _, _, ⟨vs, h, r⟩, k => ⟨vs, k.trans h, r.ext e⟩
  | .ins _ _, _, ⟨dx, vs, h, l, r⟩, k => ⟨dx, vs, k.trans h, l, r.ext e⟩
  | .dic _, _, ⟨kws, h, l, r, r'⟩, k => ⟨kws, k.trans h, l, r.ext e, r'.ext e⟩
theorem SMem.laid {C : Ct} {α : List Addr} {M : Mem} {H : Hp} (h : SMem C α M H) {p : Addr} {o : HO} (hp : H p = none) : SMem C α M (upd H p o) :=
  ⟨h.len, h.nd, fun n c a h1 h2 => (h.cell n c a h1 h2).ext (Ext.laid (C := C) (M := M) hp) (by
    obtain ⟨u, e⟩ := (h.cell n c a h1 h2).tracked
    exact upd_ne (ne_of_none e hp))⟩
/-- a new cell -/
theorem Ext.cell {C : Ct} {α : List Addr} {M : Mem} {H : Hp} (h : SMem C α M H) {p : Addr} {o : HO} (hp : H p = none) : Ext α H (α ++ [p]) (upd H p o) :=
  ⟨⟨[p], rfl, fun a ha => by simp at ha; subst ha; exact ⟨hp, h.new hp⟩⟩, fun a u k _ => by rw [upd_ne (ne_of_none k hp)]; exact k⟩
theorem SMem.push {C : Ct} {α : List Addr} {M : Mem} {H : Hp} (h : SMem C α M H) {p : Addr} {o : HO} (hp : H p = none) {c : Cell} (hc : RlC C (α ++ [p]) (upd H p o) c p) : SMem C (α ++ [p]) (M ++ [c]) (upd H p o) := by
  refine ⟨by simp [h.len], ?_, fun n c' a h1 h2 => ?_⟩
  · rw [List.nodup_append]
    exact ⟨h.nd, by simp, fun a ha b hb => by simp at hb; subst hb; intro e; subst e; exact h.new hp ha⟩
  · by_cases hn : n < M.length
    · rw [List.getElem?_append_left hn] at h1
      rw [List.getElem?_append_left (by rw [h.len]; exact hn)] at h2
      refine (h.cell n c' a h1 h2).ext (Ext.cell h hp) ?_
      obtain ⟨u, e⟩ := (h.cell n c' a h1 h2).tracked
      exact upd_ne (ne_of_none e hp)
    · have hl : n < (M ++ [c]).length := (List.getElem?_eq_some_iff.mp h1).1
      have e : n = M.length := by simp at hl; omega
      subst e
      simp at h1
      have e2 : α.length = M.length := h.len
      rw [← e2] at h2
      simp at h2
      subst h1; subst h2
      exact hc
/-- a cell is written -/
theorem Ext.write {C : Ct} {α : List Addr} {M : Mem} {H : Hp} (h : SMem C α M H) {n : Nat} {a : Addr} {o : HO} (ha : α[n]? = some a) : Ext α H α (upd H a o) :=
  ⟨⟨[], by simp, by simp⟩, fun b u k nb => by
    have : b ≠ a := fun e => nb (by subst e; exact List.mem_of_getElem? ha)
    rw [upd_ne this]; exact k⟩
theorem nodup_at {α : List Addr} (nd : α.Nodup) {i j : Nat} {a : Addr} (hi : α[i]? = some a) (hj : α[j]? = some a) : i = j := by
  obtain ⟨h1, e1⟩ := List.getElem?_eq_some_iff.mp hi
  obtain ⟨h2, e2⟩ := List.getElem?_eq_some_iff.mp hj
  have q := List.pairwise_iff_getElem.mp nd
  rcases Nat.lt_trichotomy i j with k | k | k
  · exact absurd (e1.trans e2.symm) (q i j h1 h2 k)
  · exact k
  · exact absurd (e2.trans e1.symm) (q j i h2 h1 k)
theorem SMem.write {C : Ct} {α : List Addr} {M : Mem} {H : Hp} (h : SMem C α M H) {n : Nat} {a : Addr} {o : HO} {c : Cell} (ha : α[n]? = some a) (hc : RlC C α (upd H a o) c a) : SMem C α (M.set n c) (upd H a o) := by
  refine ⟨by simp [h.len], h.nd, fun m c' b h1 h2 => ?_⟩
  by_cases hm : n = m
  · subst hm
    rw [ha] at h2; cases h2
    have hl : n < M.length := by rw [← h.len]; exact (List.getElem?_eq_some_iff.mp ha).1
    rw [List.getElem?_set_self hl] at h1
    cases h1; exact hc
  · rw [List.getElem?_set_ne hm] at h1
    have hb : b ≠ a := fun e => hm (nodup_at h.nd (e ▸ ha) h2 |>.symm ▸ rfl)
    exact (h.cell m c' b h1 h2).ext (Ext.write h ha) (upd_ne hb)
end L3

set_option Elab.async false
set_option linter.all false
set_option maxRecDepth 100000
set_option maxHeartbeats 4000000
namespace L3
open PySem PySem.Spec PyProof.Rows L2

/-! what an end asks -/
def XD (C : Ct) (α : List Addr) (H : Hp) (c : Nat) (ds : List D) (dx : Option Addr) : Prop :=
  (dx = none ∧ ds = []) ∨ ∃ x vs, dx = some x ∧ H x = some (.xd ((C.fl c).zip vs)) ∧ vs.length = (C.fl c).length ∧ Rls C α H ds vs
theorem XD.ext {C : Ct} {α α' : List Addr} {H H' : Hp} {c ds dx} (h : XD C α H c ds dx) (n : ∀ x, dx = some x → x ∉ α) (e : Ext α H α' H') : XD C α' H' c ds dx := by
  rcases h with h | ⟨x, vs, q, k, l, r⟩
  · exact .inl h
  · exact .inr ⟨x, vs, q, e.keep _ _ k (n x q), l, r.ext e⟩
/-- the end of a piece of code that gives a value -/
def Fin {τ υ : Type} (C : Ct) (W : WX) (σ : L2.St) (Rel : List Addr → Hp → τ → υ → Prop) (α : List Addr) (H : Hp) (r : Res τ) (Q : υ → Hp → Prop) : Prop :=
  match r with
  | .ok d M' => ∀ α' H' v, Ext α H α' H' → SMem C α' M' H' → Rel α' H' d v → Q v H'
  | .exc c ds M' => ∀ α' H' dx, Ext α H α' H' → SMem C α' M' H' → XD C α' H' c ds dx → W (.ref (C.cls c)) dx σ H'
  | .no => False
section
variable {τ υ τ' υ' : Type} {C : Ct} {W : WX} {σ : L2.St} {Rel : List Addr → Hp → τ → υ → Prop} {Rel' : List Addr → Hp → τ' → υ' → Prop} {α α' : List Addr} {H H' : Hp}
theorem Fin.ext {r : Res τ} {Q : υ → Hp → Prop} (h : Fin C W σ Rel α H r Q) (e : Ext α H α' H') : Fin C W σ Rel α' H' r Q := by
  cases r with
  | ok d M => exact fun a b v e' m q => h a b v (e.trans e') m q
  | exc c ds M => exact fun a b dx e' m q => h a b dx (e.trans e') m q
  | no => exact h
theorem Fin.mono {r : Res τ} {Q Q' : υ → Hp → Prop} (h : Fin C W σ Rel α H r Q) (k : ∀ v H, Q v H → Q' v H) : Fin C W σ Rel α H r Q' := by
  cases r with
  | ok d M => exact fun a b v e m q => k _ _ (h a b v e m q)
  | exc c ds M => exact h
  | no => exact h
theorem Fin.bind {r : Res τ} {k : τ → Mem → Res τ'} {Q : υ' → Hp → Prop} (h : Fin C W σ Rel' α H (r.bind k) Q) :
    Fin C W σ Rel α H r fun v H1 => ∃ α1 M1 d, Ext α H α1 H1 ∧ SMem C α1 M1 H1 ∧ Rel α1 H1 d v ∧ Fin C W σ Rel' α1 H1 (k d M1) Q := by
  cases r with
  | ok d M => exact fun a b v e m q => ⟨a, M, d, e, m, q, Fin.ext h e⟩
  | exc c ds M => exact h
  | no => exact h
end
abbrev RD (C : Ct) : List Addr → Hp → D → V → Prop := fun α H d v => Rl C α H d v
abbrev RDs (C : Ct) : List Addr → Hp → List D → List V → Prop := fun α H d v => Rls C α H d v
abbrev RB : List Addr → Hp → Bool → Bool → Prop := fun _ _ d v => v = d
/-! lifted readings -/
def LE (C : Ct) (W : WX) (ev : EV) : TE := fun σ H Q => ∃ α σ3 M, SMem C α M H ∧ SSt C α H σ3 σ ∧ Fin C W σ (RD C) α H (ev σ3 M) Q
def LB (C : Ct) (W : WX) (bv : BV) : TT := fun σ H Q => ∃ α σ3 M, SMem C α M H ∧ SSt C α H σ3 σ ∧ Fin C W σ RB α H (bv σ3 M) Q
def LA (C : Ct) (W : WX) (av : AV) : TA := fun σ H Q => ∃ α σ3 M, SMem C α M H ∧ SSt C α H σ3 σ ∧ Fin C W σ (RDs C) α H (av σ3 M) Q
theorem PEimp {X : Cx} {e : Expr} {t t' : TE} (h : PE X e t) (k : ∀ σ H Q, t' σ H Q → t σ H Q) : PE X e t' := ⟨fun p s σ H Q I q => h.run p s σ H Q I (k _ _ _ q)⟩
theorem PTimp {X : Cx} {e : Expr} {t t' : TT} (h : PT X e t) (k : ∀ σ H Q, t' σ H Q → t σ H Q) : PT X e t' := ⟨fun p s σ H Q I q => h.run p s σ H Q I (k _ _ _ q)⟩
theorem PWimp {X : Cx} {e : Expr} {t t' : TT} (h : PW X e t) (k : ∀ σ H Q, t' σ H Q → t σ H Q) : PW X e t' := ⟨fun wh p s σ H Q I q => h.run wh p s σ H Q I (k _ _ _ q)⟩
theorem PAimp {X : Cx} {e : List Expr} {t t' : TA} (h : PA X e t) (k : ∀ σ H Q, t' σ H Q → t σ H Q) : PA X e t' := ⟨fun po p s σ H Q I q => h.run po p s σ H Q I (k _ _ _ q)⟩
theorem PSimp {X : Cx} {e : Stmt} {t t' : TS} (h : PS X e t) (k : ∀ D σ H, t' D σ H → t D σ H) : PS X e t' := ⟨fun p s σ H D I q => h.run p s σ H D I (k _ _ _ q)⟩
theorem PSsimp {X : Cx} {e : List Stmt} {t t' : TS} (h : PSs X e t) (k : ∀ D σ H, t' D σ H → t D σ H) : PSs X e t' := ⟨fun p s σ H D I q => h.run p s σ H D I (k _ _ _ q)⟩

/-! ### evaluators -/
def evVar (i : Nat) : EV := fun σ M => match σ[i]? with
  | some (some d) => .ok d M
  | _ => .no
def evC (d : D) : EV := fun _ M => .ok d M
def ev2 (op : D → D → Mem → Res D) (a b : EV) : EV := fun σ M => (a σ M).bind fun x M1 => (b σ M1).bind fun y M2 => op x y M2
def ev1 (op : D → Mem → Res D) (a : EV) : EV := fun σ M => (a σ M).bind fun x M1 => op x M1
def avNil : AV := fun _ M => .ok [] M
def avCons (a : EV) (r : AV) : AV := fun σ M => (a σ M).bind fun x M1 => (r σ M1).bind fun xs M2 => .ok (x :: xs) M2
def evA (k : List D → Mem → Res D) (t : AV) : EV := fun σ M => (t σ M).bind fun xs M1 => k xs M1
def evIf (c : BV) (a b : EV) : EV := fun σ M => (c σ M).bind fun k M1 => if k = true then a σ M1 else b σ M1
def bvE (e : EV) : BV := fun σ M => (e σ M).bind fun d M1 => match d with
  | .bl k => .ok k M1
  | _ => .no
def truD (M : Mem) : D → Option Bool
  | .non => some false
  | .bl b => some b
  | .int i => some (i != 0)
  | .str y => if y.length ≤ sizeLine then some ((y.length : Int) != 0) else none
  | .tup ds => some (!ds.isEmpty)
  | .lst ds => some (!ds.isEmpty)
  | .scr ds => some (!ds.isEmpty)
  | .ref n => match M[n]? with
    | some (.lst ds) => some (!ds.isEmpty)
    | some (.dic kvs) => some (!kvs.isEmpty)
    | _ => none
  | _ => none
def bvT (e : EV) : BV := fun σ M => (e σ M).bind fun d M1 => match truD M1 d with
  | some k => .ok k M1
  | none => .no
def bvNot (c : BV) : BV := fun σ M => (c σ M).bind fun k M1 => .ok (!k) M1
def bvAnd (a b : BV) : BV := fun σ M => (a σ M).bind fun k M1 => if k = true then b σ M1 else .ok false M1
def bvOr (a b : BV) : BV := fun σ M => (a σ M).bind fun k M1 => if k = true then .ok true M1 else b σ M1
def evNot (a : EV) : EV := fun σ M => (a σ M).bind fun d M1 => match d with
  | .bl k => .ok (.bl (!k)) M1
  | _ => .no
def evAnd (a b : EV) : EV := fun σ M => (a σ M).bind fun d M1 => match d with
  | .bl k => if k = true then b σ M1 else .ok (.bl false) M1
  | _ => .no
def evOr (a b : EV) : EV := fun σ M => (a σ M).bind fun d M1 => match d with
  | .bl k => if k = true then .ok (.bl true) M1 else b σ M1
  | _ => .no

/-! ### the rules -/
section
variable {X : Cx} {C : Ct} {W : WX} {a b c e : Expr} {eva evb evc : EV} {pos : Pos}
theorem l_var (i : Nat) {x : Str} (hN : X.N[i]? = some x := by rfl) (hv : Vis X.env.scope x := by first | exact Or.inl rfl | exact Or.inr (Or.inl rfl) | exact Or.inr (Or.inr rfl)) (hd : (x == ("__debug__" : Str)) = false := by decide)
    (hcd : (x == ("__classdict__" : Str)) = false := by decide) : PE X (.Name x pos) (LE C W (evVar i)) := by
  refine PEimp (pe_var hN hv hd hcd) fun σ H Q ⟨α, σ3, M, m, s, h⟩ => ?_
  unfold evVar at h
  cases q : σ3[i]? with
  | none => rw [q] at h; exact h.elim
  | some o =>
    cases o with
    | none => rw [q] at h; exact h.elim
    | some d =>
      rw [q] at h
      obtain ⟨v, k, r⟩ := s.at_ i d q
      exact ⟨v, k, h α H v (Ext.refl _ _) m r⟩
theorem l_c {d : D} {v : V} (h : PE X e (tC v)) (r : ∀ α H, Rl C α H d v) : PE X e (LE C W (evC d)) :=
  PEimp h fun σ H Q ⟨α, σ3, M, m, s, k⟩ => k α H v (Ext.refl _ _) m (r α H)
theorem l_int {i j pos} : PE X (.Constant (.int i) j pos) (LE C W (evC (.int i))) := l_c pe_int fun _ _ => rfl
theorem l_bl {b j pos} : PE X (.Constant (.bool b) j pos) (LE C W (evC (.bl b))) := l_c pe_bl fun _ _ => rfl
theorem l_non {j pos} : PE X (.Constant .none j pos) (LE C W (evC .non)) := l_c pe_non fun _ _ => rfl
theorem l_str {x j pos} : PE X (.Constant (.str x) j pos) (LE C W (evC (.str x))) := l_c pe_str fun _ _ => rfl
theorem l_glob {x : Str} {u : Value} {v : V} {d : D} (hg : Gl X x) (hm : X.mg x = some u) (r : RelV v u) (q : ∀ α H, Rl C α H d v) (hd : (x == ("__debug__" : Str)) = false := by decide) : PE X (.Name x pos) (LE C W (evC d)) :=
  l_c (pe_glob hg hm r hd) q
def LinkR (C : Ct) (r : R2) (op : D → D → Mem → Res D) : Prop :=
  ∀ (W : WX) (σ : L2.St) (α : List Addr) (M : Mem) (H : Hp) (x y : D) (v u : V) (Q : VK), SMem C α M H → Rl C α H x v → Rl C α H y u → Fin C W σ (RD C) α H (op x y M) Q → r v u H Q
theorem op2 {r : R2} {op : D → D → Mem → Res D} (lk : LinkR C r op) {σ : L2.St} {H : Hp} {Q : VK} (h : LE C W (ev2 op eva evb) σ H Q) : tOp r (LE C W eva) (LE C W evb) σ H Q := by
  obtain ⟨α, σ3, M, m, s, h⟩ := h
  refine ⟨α, σ3, M, m, s, (Fin.bind h).mono fun x H1 ⟨α1, M1, d, e1, m1, r1, h1⟩ => ?_⟩
  refine ⟨α1, σ3, M1, m1, s.ext e1, (Fin.bind h1).mono fun y H2 ⟨α2, M2, d2, e2, m2, r2, h2⟩ => ?_⟩
  exact lk W σ α2 M2 H2 d d2 x y Q m2 (r1.ext e2) r2 h2
theorem l_op {o : Operator} {r : R2} {op : D → D → Mem → Res D} (ho : OpR X (binaryOp o) r) (lk : LinkR C r op) (ha : PE X a (LE C W eva)) (hb : PE X b (LE C W evb)) : PE X (.BinOp a o b pos) (LE C W (ev2 op eva evb)) :=
  PEimp (pe_op ho ha hb) fun _ _ _ h => op2 lk h
theorem l_cmp {o : CmpOp} {r : R2} {op : D → D → Mem → Res D} (ho : OpR X (compareOp o) r) (lk : LinkR C r op) (ha : PE X a (LE C W eva)) (hb : PE X b (LE C W evb)) (hm : behindInMarks o b = false) : PE X (.Compare a [o] [b] pos) (LE C W (ev2 op eva evb)) :=
  PEimp (pe_cmpR ho ha hb hm) fun _ _ _ h => op2 lk h
def LinkU (C : Ct) (r : V → Hp → VK → Prop) (op : D → Mem → Res D) : Prop :=
  ∀ (W : WX) (σ : L2.St) (α : List Addr) (M : Mem) (H : Hp) (x : D) (v : V) (Q : VK), SMem C α M H → Rl C α H x v → Fin C W σ (RD C) α H (op x M) Q → r v H Q
theorem l_un {o : UnaryOp} {r : V → Hp → VK → Prop} {op : D → Mem → Res D} (ho : UnR X (unaryOp o) r) (lk : LinkU C r op) (ha : PE X a (LE C W eva)) : PE X (.UnaryOp o a pos) (LE C W (ev1 op eva)) :=
  PEimp (pe_un ho ha) fun σ H Q ⟨α, σ3, M, m, s, h⟩ => ⟨α, σ3, M, m, s, (Fin.bind h).mono fun x H1 ⟨α1, M1, d, e1, m1, r1, h1⟩ => lk W σ α1 M1 H1 d x Q m1 r1 h1⟩
/-! argument lists -/
theorem la_nil : PA X [] (LA C W avNil) := PAimp pa_nil fun σ H Q ⟨α, σ3, M, m, s, h⟩ => h α H [] (Ext.refl _ _) m rfl
theorem la_cons {es : List Expr} {av : AV} (ha : PE X e (LE C W eva)) (hr : PA X es (LA C W av)) (hs : starEach (e :: es) X.env = (false, eval e X.env) :: starEach es X.env := by rfl) : PA X (e :: es) (LA C W (avCons eva av)) := by
  refine PAimp (pa_cons ha hr hs) fun σ H Q ⟨α, σ3, M, m, s, h⟩ => ?_
  refine ⟨α, σ3, M, m, s, (Fin.bind h).mono fun x H1 ⟨α1, M1, d, e1, m1, r1, h1⟩ => ?_⟩
  refine ⟨α1, σ3, M1, m1, s.ext e1, (Fin.bind h1).mono fun y H2 ⟨α2, M2, d2, e2, m2, r2, h2⟩ => ?_⟩
  exact h2 α2 H2 _ (Ext.refl _ _) m2 ⟨x, y, rfl, r1.ext e2, r2⟩
def LinkA (C : Ct) (r : List V → Hp → VK → Prop) (op : List D → Mem → Res D) : Prop :=
  ∀ (W : WX) (σ : L2.St) (α : List Addr) (M : Mem) (H : Hp) (xs : List D) (vs : List V) (Q : VK), SMem C α M H → Rls C α H xs vs → Fin C W σ (RD C) α H (op xs M) Q → r vs H Q
theorem opA {r : List V → Hp → VK → Prop} {op : List D → Mem → Res D} {av : AV} (lk : LinkA C r op) {σ : L2.St} {H : Hp} {Q : VK} (h : LE C W (evA op av) σ H Q) : LA C W av σ H fun vs H1 => r vs H1 Q := by
  obtain ⟨α, σ3, M, m, s, h⟩ := h
  exact ⟨α, σ3, M, m, s, (Fin.bind h).mono fun x H1 ⟨α1, M1, d, e1, m1, r1, h1⟩ => lk W σ α1 M1 H1 d x Q m1 r1 h1⟩
def mkTup : List D → Mem → Res D := fun xs M => if xs.length ≤ sizeLine then .ok (.tup xs) M else .no
def mkLst : List D → Mem → Res D := fun xs M => if xs.length ≤ sizeLine then .ok (.lst xs) M else .no
def mkCell : List D → Mem → Res D := fun xs M => if xs.length ≤ sizeLine then .ok (.ref M.length) (M ++ [.lst xs]) else .no
theorem fin_new_tup {σ : L2.St} {α : List Addr} {M : Mem} {H : Hp} {xs : List D} {vs : List V} {Q : VK} (m : SMem C α M H) (r : Rls C α H xs vs) (h : Fin C W σ (RD C) α H (.ok (.tup xs) M) Q) : ∀ p, H p = none → Q (.ref p) (upd H p (.tup vs)) :=
  fun p hp => h α _ _ (Ext.laid (C := C) (M := M) hp) (m.laid hp) ⟨p, vs, rfl, .inl ⟨m.new hp, .inl upd_same⟩, r.ext (Ext.laid (C := C) (M := M) hp)⟩
theorem fin_new_lst {σ : L2.St} {α : List Addr} {M : Mem} {H : Hp} {xs : List D} {vs : List V} {Q : VK} (m : SMem C α M H) (r : Rls C α H xs vs) (h : Fin C W σ (RD C) α H (.ok (.lst xs) M) Q) : ∀ p, H p = none → Q (.ref p) (upd H p (.lst vs)) :=
  fun p hp => h α _ _ (Ext.laid (C := C) (M := M) hp) (m.laid hp) ⟨p, vs, rfl, m.new hp, upd_same, r.ext (Ext.laid (C := C) (M := M) hp)⟩
theorem fin_new_cell {σ : L2.St} {α : List Addr} {M : Mem} {H : Hp} {xs : List D} {vs : List V} {Q : VK} (m : SMem C α M H) (r : Rls C α H xs vs) (h : Fin C W σ (RD C) α H (.ok (.ref M.length) (M ++ [.lst xs])) Q) : ∀ p, H p = none → Q (.ref p) (upd H p (.lst vs)) :=
  fun p hp => h (α ++ [p]) _ _ (Ext.cell m hp) (m.push hp ⟨vs, upd_same, r.ext (Ext.cell m hp)⟩) ⟨p, by rw [← m.len]; simp, rfl⟩
theorem l_tup {es : List Expr} {x1} {av : AV} (h : PA X es (LA C W av)) : PE X (.Tuple es x1 pos) (LE C W (evA mkTup av)) := by
  refine PEimp (pe_tup h) fun σ H Q q => opA (r := fun xs H1 Q => xs.length ≤ sizeLine ∧ ∀ p, H1 p = none → Q (.ref p) (upd H1 p (.tup xs))) ?_ q
  intro W σ α M H xs vs Q m r k
  unfold mkTup at k
  split at k
  · exact ⟨by rw [r.length]; assumption, fin_new_tup m r k⟩
  · exact k.elim
theorem l_lst {es : List Expr} {av : AV} (h : PA X es (LA C W av)) : PE X (.List es pos) (LE C W (evA mkLst av)) := by
  refine PEimp (pe_lst h) fun σ H Q q => opA (r := fun xs H1 Q => xs.length ≤ sizeLine ∧ ∀ p, H1 p = none → Q (.ref p) (upd H1 p (.lst xs))) ?_ q
  intro W σ α M H xs vs Q m r k
  unfold mkLst at k
  split at k
  · exact ⟨by rw [r.length]; assumption, fin_new_lst m r k⟩
  · exact k.elim
theorem l_cell {es : List Expr} {av : AV} (h : PA X es (LA C W av)) : PE X (.List es pos) (LE C W (evA mkCell av)) := by
  refine PEimp (pe_lst h) fun σ H Q q => opA (r := fun xs H1 Q => xs.length ≤ sizeLine ∧ ∀ p, H1 p = none → Q (.ref p) (upd H1 p (.lst xs))) ?_ q
  intro W σ α M H xs vs Q m r k
  unfold mkCell at k
  split at k
  · exact ⟨by rw [r.length]; assumption, fin_new_cell m r k⟩
  · exact k.elim
/-! tests -/
theorem lt_val (h : PE X e (LE C W eva)) (he : ∀ whole, isTrue e X.env whole = (do let v ← whole; standAt e.pos; holding [v] (truthy v)) := by intro _; rfl) (hK : C.K = X.K := by rfl) : PT X e (LB C W (bvT eva)) := by
  refine PTimp (pt_truth h he) fun σ H Q ⟨α, σ3, M, m, s, h⟩ => ?_
  refine ⟨α, σ3, M, m, s, (Fin.bind h).mono fun x H1 ⟨α1, M1, d, e1, m1, r1, h1⟩ => ?_⟩
  cases q : truD M1 d with
  | none => rw [q] at h1; exact h1.elim
  | some k =>
    rw [q] at h1
    refine ⟨k, ?_, h1 α1 H1 k (Ext.refl _ _) m1 rfl⟩
    cases d with
    | non => cases r1; cases q; exact rfl
    | bl b => cases r1; cases q; exact rfl
    | int i => cases r1; cases q; exact rfl
    | str y =>
      cases r1
      have q' : (if y.length ≤ sizeLine then some ((y.length : Int) != 0) else none) = some k := q
      by_cases z : y.length ≤ sizeLine
      · rw [if_pos z] at q'; cases q'; exact ⟨z, rfl⟩
      · rw [if_neg z] at q'; cases q'
    | tup ds =>
      obtain ⟨p, vs, rfl, hp, rs⟩ := r1
      cases q
      refine .inr (.inl ⟨vs, ?_, ?_⟩)
      · rcases hp with ⟨_, hp⟩ | hp
        · exact Or.inl hp
        · rw [hK] at hp; exact .inr hp
      · have := rs.length
        cases vs <;> cases ds <;> simp_all
    | lst ds =>
      obtain ⟨p, vs, rfl, n, hp, rs⟩ := r1
      cases q
      refine .inl ⟨vs, .inl (.inl hp), ?_⟩
      have := rs.length
      cases vs <;> cases ds <;> simp_all
    | scr ds =>
      obtain ⟨p, vs, rfl, hp, rs⟩ := r1
      cases q
      refine .inl ⟨vs, ?_, ?_⟩
      · rcases hp with ⟨_, hp⟩ | hp
        · exact Or.inl hp
        · rw [hK] at hp; exact Or.inr hp
      · have := rs.length
        cases vs <;> cases ds <;> simp_all
    | ref n =>
      obtain ⟨p, hp, rfl⟩ := r1
      have q' : (match M1[n]? with
        | some (.lst ds) => some (!ds.isEmpty)
        | some (.dic kvs) => some (!kvs.isEmpty)
        | _ => none) = some k := q
      clear q
      cases z : M1[n]? with
      | none => rw [z] at q'; cases q'
      | some cl =>
        rw [z] at q'
        have rc := m1.cell n cl p z hp
        cases cl with
        | lst ds =>
          obtain ⟨vs, hv, rs⟩ := rc
          cases q'
          refine .inl ⟨vs, .inl (.inl hv), ?_⟩
          have := rs.length
          cases vs <;> cases ds <;> simp_all
        | dic kvs =>
          obtain ⟨kws, hv, hl, _⟩ := rc
          cases q'
          refine .inr (.inr ⟨kws, hv, ?_⟩)
          cases kws <;> cases kvs <;> simp_all
        | ins c ds => cases q'
    | obj c ds => cases q
    | glo g => cases q
    | ty n => cases q
variable {ta tb : BV}
theorem lt_cmp {o : CmpOp} {r : R2} {op : D → D → Mem → Res D} (ho : OpR X (compareOp o) r) (lk : LinkR C r op) (ha : PE X a (LE C W eva)) (hb : PE X b (LE C W evb)) (hm : behindInMarks o b = false) : PT X (.Compare a [o] [b] pos) (LB C W (bvE (ev2 op eva evb))) := by
  refine PTimp (pt_cmpR ho ha hb hm) fun σ H Q ⟨α, σ3, M, m, s, h⟩ => ?_
  show tOp r _ _ σ H fun x H' => ∃ k, x = .bl k ∧ Q k H'
  refine op2 (eva := eva) (evb := evb) lk ⟨α, σ3, M, m, s, ?_⟩
  refine (Fin.bind h).mono fun x H1 ⟨α1, M1, d, e1, m1, r1, h1⟩ => ?_
  cases d with
  | bl k => cases r1; exact ⟨k, rfl, h1 α1 H1 k (Ext.refl _ _) m1 rfl⟩
  | _ => exact h1.elim
theorem lw_and1 (ha : PT X a (LB C W ta)) : PW X (.BoolOp .And [a] pos) (LB C W ta) := pw_and1 ha
theorem lw_or1 (ha : PT X a (LB C W ta)) : PW X (.BoolOp .Or [a] pos) (LB C W ta) := pw_or1 ha
theorem lw_and {rest : List Expr} (ha : PT X a (LB C W ta)) (hb : PW X (.BoolOp .And (b :: rest) pos) (LB C W tb)) : PW X (.BoolOp .And (a :: b :: rest) pos) (LB C W (bvAnd ta tb)) := by
  refine PWimp (pw_and ha hb) fun σ H Q ⟨α, σ3, M, m, s, h⟩ => ?_
  refine ⟨α, σ3, M, m, s, (Fin.bind h).mono fun x H1 ⟨α1, M1, d, e1, m1, r1, h1⟩ => ?_⟩
  cases r1
  cases x with
  | true => rw [if_pos rfl]; exact ⟨α1, σ3, M1, m1, s.ext e1, h1⟩
  | false => rw [if_neg Bool.false_ne_true]; exact h1 α1 H1 _ (Ext.refl _ _) m1 rfl
theorem lw_or {rest : List Expr} (ha : PT X a (LB C W ta)) (hb : PW X (.BoolOp .Or (b :: rest) pos) (LB C W tb)) : PW X (.BoolOp .Or (a :: b :: rest) pos) (LB C W (bvOr ta tb)) := by
  refine PWimp (pw_or ha hb) fun σ H Q ⟨α, σ3, M, m, s, h⟩ => ?_
  refine ⟨α, σ3, M, m, s, (Fin.bind h).mono fun x H1 ⟨α1, M1, d, e1, m1, r1, h1⟩ => ?_⟩
  cases r1
  cases x with
  | true => rw [if_pos rfl]; exact h1 α1 H1 _ (Ext.refl _ _) m1 rfl
  | false => rw [if_neg Bool.false_ne_true]; exact ⟨α1, σ3, M1, m1, s.ext e1, h1⟩
theorem lt_not (ha : PT X a (LB C W ta)) : PT X (.UnaryOp .Not a pos) (LB C W (bvNot ta)) := by
  refine PTimp (pt_not ha) fun σ H Q ⟨α, σ3, M, m, s, h⟩ => ?_
  refine ⟨α, σ3, M, m, s, (Fin.bind h).mono fun x H1 ⟨α1, M1, d, e1, m1, r1, h1⟩ => ?_⟩
  cases r1
  exact h1 α1 H1 _ (Ext.refl _ _) m1 rfl
theorem l_if (hc : PT X c (LB C W ta)) (ha : PE X a (LE C W eva)) (hb : PE X b (LE C W evb)) : PE X (.IfExp c a b pos) (LE C W (evIf ta eva evb)) := by
  refine PEimp (pe_ifExp hc ha hb) fun σ H Q ⟨α, σ3, M, m, s, h⟩ => ?_
  refine ⟨α, σ3, M, m, s, (Fin.bind h).mono fun x H1 ⟨α1, M1, d, e1, m1, r1, h1⟩ => ?_⟩
  cases r1
  cases x with
  | true => rw [if_pos rfl]; exact ⟨α1, σ3, M1, m1, s.ext e1, h1⟩
  | false => rw [if_neg Bool.false_ne_true]; exact ⟨α1, σ3, M1, m1, s.ext e1, h1⟩
/-! True | False as values -/
theorem l_one {op} (h : PE X a (LE C W eva)) : PE X (.BoolOp op [a] pos) (LE C W eva) := pe_one h
theorem l_and {rest : List Expr} (ha : PE X a (LE C W eva)) (hb : PE X (.BoolOp .And (b :: rest) pos) (LE C W evb)) : PE X (.BoolOp .And (a :: b :: rest) pos) (LE C W (evAnd eva evb)) := by
  refine PEimp (pe_and ha hb) fun σ H Q ⟨α, σ3, M, m, s, h⟩ => ?_
  refine ⟨α, σ3, M, m, s, (Fin.bind h).mono fun x H1 ⟨α1, M1, d, e1, m1, r1, h1⟩ => ?_⟩
  cases d with
  | bl k =>
    cases r1
    refine ⟨k, rfl, ?_⟩
    cases k with
    | true => rw [if_pos rfl]; exact ⟨α1, σ3, M1, m1, s.ext e1, h1⟩
    | false => rw [if_neg Bool.false_ne_true]; exact h1 α1 H1 _ (Ext.refl _ _) m1 rfl
  | _ => exact h1.elim
theorem l_or {rest : List Expr} (ha : PE X a (LE C W eva)) (hb : PE X (.BoolOp .Or (b :: rest) pos) (LE C W evb)) : PE X (.BoolOp .Or (a :: b :: rest) pos) (LE C W (evOr eva evb)) := by
  refine PEimp (pe_or ha hb) fun σ H Q ⟨α, σ3, M, m, s, h⟩ => ?_
  refine ⟨α, σ3, M, m, s, (Fin.bind h).mono fun x H1 ⟨α1, M1, d, e1, m1, r1, h1⟩ => ?_⟩
  cases d with
  | bl k =>
    cases r1
    refine ⟨k, rfl, ?_⟩
    cases k with
    | true => rw [if_pos rfl]; exact h1 α1 H1 _ (Ext.refl _ _) m1 rfl
    | false => rw [if_neg Bool.false_ne_true]; exact ⟨α1, σ3, M1, m1, s.ext e1, h1⟩
  | _ => exact h1.elim
theorem l_not (ha : PE X a (LE C W eva)) : PE X (.UnaryOp .Not a pos) (LE C W (evNot eva)) := by
  refine PEimp (pe_not ha) fun σ H Q ⟨α, σ3, M, m, s, h⟩ => ?_
  refine ⟨α, σ3, M, m, s, (Fin.bind h).mono fun x H1 ⟨α1, M1, d, e1, m1, r1, h1⟩ => ?_⟩
  cases d with
  | bl k => cases r1; exact ⟨k, rfl, h1 α1 H1 _ (Ext.refl _ _) m1 rfl⟩
  | _ => exact h1.elim
end
end L3

set_option Elab.async false
set_option linter.all false
set_option maxRecDepth 100000
set_option maxHeartbeats 4000000
namespace L3
open PySem PySem.Spec PyProof.Rows L2

def FinS (C : Ct) (W : WX) (D : Ends) (α : List Addr) (H : Hp) : Out → Prop
  | .nx σ3 M => ∀ α' H' σ, Ext α H α' H' → SMem C α' M H' → SSt C α' H' σ3 σ → D.nx σ H'
  | .rt d M => ∀ α' H' v, Ext α H α' H' → SMem C α' M H' → Rl C α' H' d v → D.rt v H'
  | .bk σ3 M => ∀ α' H' σ, Ext α H α' H' → SMem C α' M H' → SSt C α' H' σ3 σ → D.bk σ H'
  | .ct σ3 M => ∀ α' H' σ, Ext α H α' H' → SMem C α' M H' → SSt C α' H' σ3 σ → D.ct σ H'
  | .exc c ds σ3 M => ∀ α' H' σ dx, Ext α H α' H' → SMem C α' M H' → SSt C α' H' σ3 σ → XD C α' H' c ds dx → W (.ref (C.cls c)) dx σ H'
  | .no => False
section
variable {C : Ct} {W : WX} {D D' : Ends} {α α' : List Addr} {H H' : Hp}
theorem FinS.ext {o : Out} (h : FinS C W D α H o) (e : Ext α H α' H') : FinS C W D α' H' o := by
  cases o with
  | nx σ M => exact fun a b s e' m q => h a b s (e.trans e') m q
  | rt d M => exact fun a b s e' m q => h a b s (e.trans e') m q
  | bk σ M => exact fun a b s e' m q => h a b s (e.trans e') m q
  | ct σ M => exact fun a b s e' m q => h a b s (e.trans e') m q
  | exc c ds σ M => exact fun a b s dx e' m q x => h a b s dx (e.trans e') m q x
  | no => exact h
end
def LS (C : Ct) (W : WX) (sv : SV) : TS := fun D σ H => ∃ α σ3 M, SMem C α M H ∧ SSt C α H σ3 σ ∧ FinS C W D α H (sv σ3 M)
def Res.out {τ : Type} (r : Res τ) (σ : St3) (k : τ → Mem → Out) : Out := match r with
  | .ok d M => k d M
  | .exc c ds M => .exc c ds σ M
  | .no => .no
@[simp] theorem Res.out_ok {τ : Type} {a : τ} {M σ} {k : τ → Mem → Out} : (Res.ok a M).out σ k = k a M := rfl
@[simp] theorem Res.out_exc {τ : Type} {c ds M σ} {k : τ → Mem → Out} : (Res.exc c ds M : Res τ).out σ k = .exc c ds σ M := rfl
@[simp] theorem Res.out_no {τ : Type} {σ} {k : τ → Mem → Out} : (Res.no : Res τ).out σ k = .no := rfl
section
variable {τ υ : Type} {C : Ct} {W : WX} {Rel : List Addr → Hp → τ → υ → Prop} {D : Ends} {α : List Addr} {H : Hp} {σ3 : St3} {σ : L2.St}
theorem FinS.out {r : Res τ} {k : τ → Mem → Out} (s : SSt C α H σ3 σ) (h : FinS C W D α H (r.out σ3 k)) :
    Fin C W σ Rel α H r fun v H1 => ∃ α1 M1 d, Ext α H α1 H1 ∧ SMem C α1 M1 H1 ∧ Rel α1 H1 d v ∧ FinS C W D α1 H1 (k d M1) := by
  cases r with
  | ok d M => exact fun a b v e m q => ⟨a, M, d, e, m, q, FinS.ext h e⟩
  | exc c ds M => exact fun a b dx e m q => h a b σ dx e m (s.ext e) q
  | no => exact h
end
/-! evaluators -/
def svNext : SV := fun σ M => .nx σ M
def svBreak : SV := fun σ M => .bk σ M
def svCont : SV := fun σ M => .ct σ M
def svNever : SV := fun _ _ => .no
def svSeq (a b : SV) : SV := fun σ M => match a σ M with
  | .nx σ' M' => b σ' M'
  | o => o
def svE (e : EV) : SV := fun σ M => (e σ M).out σ fun _ M1 => .nx σ M1
def svRet (e : EV) : SV := fun σ M => (e σ M).out σ fun d M1 => .rt d M1
def svRetN : SV := fun _ M => .rt .non M
def svIf (c : BV) (a b : SV) : SV := fun σ M => (c σ M).out σ fun k M1 => if k = true then a σ M1 else b σ M1
abbrev GV := D → SV
abbrev GVs := List D → SV
def gvName (i : Nat) : GV := fun d σ M => .nx (σ.set i (some d)) M
def gvNil : GVs := fun ds σ M => match ds with
  | [] => .nx σ M
  | _ => .no
def gvCons (g : GV) (r : GVs) : GVs := fun ds σ M => match ds with
  | d :: ds => (match g d σ M with
    | .nx σ' M' => r ds σ' M'
    | o => o)
  | [] => .no
def gvTup (n : Nat) (g : GVs) : GV := fun d σ M => match d with
  | .tup ds => if ds.length = n then g ds σ M else .no
  | _ => .no
def gvSub (o i : EV) (st : D → D → D → Mem → Option Mem) : GV := fun d σ M => (o σ M).out σ fun x M1 => (i σ M1).out σ fun y M2 => match st x y d M2 with
  | some M3 => .nx σ M3
  | none => .no
def Out.only : Out → Out
  | .nx σ M => .nx σ M
  | .exc c ds σ M => .exc c ds σ M
  | _ => .no
@[simp] theorem Out.only_nx {σ M} : (Out.nx σ M).only = .nx σ M := rfl
@[simp] theorem Out.only_exc {c ds σ M} : (Out.exc c ds σ M).only = .exc c ds σ M := rfl
@[simp] theorem Out.only_no : Out.no.only = .no := rfl
def svAsg (e : EV) (g : GV) : SV := fun σ M => (e σ M).out σ fun d M1 => (g d σ M1).only
def svSet (i : Nat) (e : EV) : SV := svAsg e (gvName i)
def svPar (i j : Nat) (t : AV) : SV := fun σ M => (t σ M).out σ fun ds M1 => match ds with
  | [x, y] => .nx ((σ.set i (some x)).set j (some y)) M1
  | _ => .no
def svAug (i : Nat) (op : D → D → Mem → Res D) (e : EV) : SV := fun σ M => match σ[i]? with
  | some (some x) => (e σ M).out σ fun y M1 => (op x y M1).out σ fun z M2 => .nx (σ.set i (some z)) M2
  | _ => .no
def svWhile (c : BV) (b : SV) : Nat → SV
  | 0, _, _ => .no
  | n + 1, σ, M => (c σ M).out σ fun k M1 => if k = true then (match b σ M1 with
      | .nx σ' M' => svWhile c b n σ' M'
      | .ct σ' M' => svWhile c b n σ' M'
      | .bk σ' M' => .nx σ' M'
      | o => o) else .nx σ M1
structure Src where
  items : List D
  watch : List (Nat × List D)
def watched (w : List (Nat × List D)) (M : Mem) : Bool := w.all fun p => decide (M[p.1]? = some (.lst p.2))
abbrev IV := St3 → Mem → Res Src
def svLoop (w : List (Nat × List D)) (g : GV) (b : SV) : List D → SV
  | [], σ, M => if watched w M = true then .nx σ M else .no
  | d :: r, σ, M => if watched w M = true then (match g d σ M with
      | .nx σ1 M1 => (match b σ1 M1 with
        | .nx σ2 M2 => svLoop w g b r σ2 M2
        | .ct σ2 M2 => svLoop w g b r σ2 M2
        | .bk σ2 M2 => .nx σ2 M2
        | o => o)
      | .exc c ds σ1 M1 => .exc c ds σ1 M1
      | _ => .no) else .no
def svFor (it : IV) (g : GV) (b : SV) : SV := fun σ M => (it σ M).out σ fun s M1 => svLoop s.watch g b s.items σ M1

/-! rules -/
section
variable {X : Cx} {C : Ct} {W : WX} {e : Expr} {eva evb : EV} {pos : Pos} {sa sb : SV} {tc : BV}
theorem s_pass : PS X (.Pass pos) (LS C W svNext) := PSimp ps_pass fun D σ H ⟨α, σ3, M, m, s, h⟩ => h α H σ (Ext.refl _ _) m s
theorem s_break : PS X (.Break pos) (LS C W svBreak) := PSimp ps_break fun D σ H ⟨α, σ3, M, m, s, h⟩ => h α H σ (Ext.refl _ _) m s
theorem s_cont : PS X (.Continue pos) (LS C W svCont) := PSimp ps_continue fun D σ H ⟨α, σ3, M, m, s, h⟩ => h α H σ (Ext.refl _ _) m s
theorem s_never {st : Stmt} : PS X st (LS C W svNever) := PSimp ps_never fun D σ H ⟨α, σ3, M, m, s, h⟩ => h
theorem s_expr (he : PE X e (LE C W eva)) (hs : swapsWith e none pos.line X.env = pure false := by rfl) : PS X (.Expr e pos) (LS C W (svE eva)) :=
  PSimp (ps_expr he hs) fun D σ H ⟨α, σ3, M, m, s, h⟩ => ⟨α, σ3, M, m, s, (FinS.out s h).mono fun v H1 ⟨α1, M1, d, e1, m1, r1, h1⟩ => h1 α1 H1 σ (Ext.refl _ _) m1 (s.ext e1)⟩
theorem s_ret (he : PE X e (LE C W eva)) : PS X (.Return (some e) pos) (LS C W (svRet eva)) :=
  PSimp (ps_ret he) fun D σ H ⟨α, σ3, M, m, s, h⟩ => ⟨α, σ3, M, m, s, (FinS.out s h).mono fun v H1 ⟨α1, M1, d, e1, m1, r1, h1⟩ => h1 α1 H1 v (Ext.refl _ _) m1 r1⟩
theorem s_retN : PS X (.Return none pos) (LS C W svRetN) := PSimp ps_retN fun D σ H ⟨α, σ3, M, m, s, h⟩ => h α H _ (Ext.refl _ _) m rfl
theorem ss_nil : PSs X [] (LS C W svNext) := PSsimp pss_nil fun D σ H ⟨α, σ3, M, m, s, h⟩ => h α H σ (Ext.refl _ _) m s
theorem ss_one {st : Stmt} (h : PS X st (LS C W sa)) : PSs X [st] (LS C W sa) := pss_one h
theorem ss_cons {st : Stmt} {rest : List Stmt} (h1 : PS X st (LS C W sa)) (h2 : PSs X rest (LS C W sb)) : PSs X (st :: rest) (LS C W (svSeq sa sb)) := by
  refine PSsimp (pss_cons h1 h2) fun D σ H ⟨α, σ3, M, m, s, h⟩ => ⟨α, σ3, M, m, s, ?_⟩
  unfold svSeq at h
  cases q : sa σ3 M with
  | nx σ' M' => rw [q] at h; exact fun α' H' σ1 e1 m1 s1 => ⟨α', σ', M', m1, s1, FinS.ext h e1⟩
  | rt d M' => rw [q] at h; exact h
  | bk σ' M' => rw [q] at h; exact h
  | ct σ' M' => rw [q] at h; exact h
  | exc c ds σ' M' => rw [q] at h; exact h
  | no => rw [q] at h; exact h
theorem s_if {c : Expr} {a b : List Stmt} (hc : PT X c (LB C W tc)) (ha : PSs X a (LS C W sa)) (hb : PSs X b (LS C W sb)) : PS X (.If c a b pos) (LS C W (svIf tc sa sb)) := by
  refine PSimp (ps_if hc ha hb) fun D σ H ⟨α, σ3, M, m, s, h⟩ => ⟨α, σ3, M, m, s, (FinS.out s h).mono fun k H1 ⟨α1, M1, d, e1, m1, r1, h1⟩ => ?_⟩
  cases r1
  cases k with
  | true => rw [if_pos rfl]; exact ⟨α1, σ3, M1, m1, s.ext e1, h1⟩
  | false => rw [if_neg Bool.false_ne_true]; exact ⟨α1, σ3, M1, m1, s.ext e1, h1⟩
/-! targets -/
def LG (C : Ct) (W : WX) (gv : GV) : TG := fun v σ H Q => ∃ α σ3 M d, SMem C α M H ∧ SSt C α H σ3 σ ∧ Rl C α H d v ∧ FinS C W { nx := Q, rt := fun _ _ => False } α H (gv d σ3 M)
def LGs (C : Ct) (W : WX) (gv : GVs) : TGs := fun vs σ H Q => ∃ α σ3 M ds, SMem C α M H ∧ SSt C α H σ3 σ ∧ Rls C α H ds vs ∧ FinS C W { nx := Q, rt := fun _ _ => False } α H (gv ds σ3 M)
theorem PGimp {t : Expr} {g g' : TG} (h : PG X t g) (k : ∀ v σ H Q, g' v σ H Q → g v σ H Q) : PG X t g' := ⟨fun p s σ H v u Q I r q => h.run p s σ H v u Q I r (k _ _ _ _ q)⟩
theorem PGsimp {t : List Expr} {g g' : TGs} (h : PGs X t g) (k : ∀ v σ H Q, g' v σ H Q → g v σ H Q) : PGs X t g' := ⟨fun p s σ H v u Q I r q => h.run p s σ H v u Q I r (k _ _ _ _ q)⟩
theorem g_name (i : Nat) {x : Str} (hN : X.N.Nodup) (hi : X.N[i]? = some x := by rfl) (hx : Loc X.env.scope x := by first | exact Or.inl rfl | exact Or.inr rfl) (hf : X.fn x = true ∨ X.env.scope.names.lookup x = some .local := by first | exact .inl rfl | exact .inr rfl | assumption) : PG X (.Name x pos) (LG C W (gvName i)) :=
  PGimp (pg_name hN hi hx hf) fun v σ H Q ⟨α, σ3, M, d, m, s, r, h⟩ => h α H _ (Ext.refl _ _) m (s.set r i)
theorem gs_nil : PGs X [] (LGs C W gvNil) := PGsimp pgs_nil fun vs σ H Q ⟨α, σ3, M, ds, m, s, r, h⟩ => by
  cases ds with
  | nil => cases r; exact ⟨rfl, h α H σ (Ext.refl _ _) m s⟩
  | cons d ds => exact h.elim
theorem gs_cons {es : List Expr} {g : GV} {r : GVs} (h1 : PG X e (LG C W g)) (h2 : PGs X es (LGs C W r)) (hs : (assignEach (e :: es) X.env).map (·.2) = assign e X.env :: (assignEach es X.env).map (·.2) := by rfl) : PGs X (e :: es) (LGs C W (gvCons g r)) := by
  refine PGsimp (pgs_cons h1 h2 hs) fun vs σ H Q ⟨α, σ3, M, ds, m, s, rl, h⟩ => ?_
  cases ds with
  | nil => exact h.elim
  | cons d ds =>
    obtain ⟨v, vr, rfl, rv, rr⟩ := rl
    refine ⟨v, vr, rfl, α, σ3, M, d, m, s, rv, ?_⟩
    have h : FinS C W { nx := Q, rt := fun _ _ => False } α H (match g d σ3 M with
      | .nx σ' M' => r ds σ' M'
      | o => o) := h
    cases q : g d σ3 M with
    | nx σ' M' => rw [q] at h; exact fun α' H' σ1 e1 m1 s1 => ⟨α', σ', M', ds, m1, s1, rr.ext e1, FinS.ext h e1⟩
    | rt d M' => rw [q] at h; exact h
    | bk σ' M' => rw [q] at h; exact h
    | ct σ' M' => rw [q] at h; exact h
    | exc c ds σ' M' => rw [q] at h; exact h
    | no => rw [q] at h; exact h
theorem g_tup {es : List Expr} {k n : Nat} {g : GVs} (hc : X.calm = true) (h : PGs X es (LGs C W g)) (hn : (assignEach es X.env).length = n := by rfl) (hst : (assignEach es X.env).findIdx? (·.1) = none := by rfl) (hK : C.K = X.K := by rfl) : PG X (.Tuple es k pos) (LG C W (gvTup n g)) := by
  refine PGimp (pg_tup hc h hn hst) fun v σ H Q ⟨α, σ3, M, d, m, s, r, h⟩ => ?_
  cases d with
  | tup ds =>
    obtain ⟨a, vs, rfl, ha, rs⟩ := r
    have h : FinS C W { nx := Q, rt := fun _ _ => False } α H (if ds.length = n then g ds σ3 M else .no) := h
    by_cases z : ds.length = n
    · rw [if_pos z] at h
      refine ⟨a, vs, rfl, ?_, by rw [rs.length]; exact z, α, σ3, M, ds, m, s, rs, h⟩
      rcases ha with ⟨_, ha⟩ | ha
      · exact Or.inl ha
      · rw [hK] at ha; exact Or.inr ha
    · rw [if_neg z] at h; exact h.elim
  | _ => exact h.elim
def LinkSet (C : Ct) (t : TSet) (st : D → D → D → Mem → Option Mem) : Prop :=
  ∀ (α : List Addr) (M M' : Mem) (H : Hp) (x y z : D) (v u w : V) (Q : Hp → Prop), SMem C α M H → Rl C α H x v → Rl C α H y u → Rl C α H z w → st x y z M = some M' →
    (∀ α' H', Ext α H α' H' → SMem C α' M' H' → Q H') → t v u w H Q
theorem g_sub {o i : Expr} {t : TSet} {st : D → D → D → Mem → Option Mem} (ho : PE X o (LE C W eva)) (hi : PE X i (LE C W evb)) (hs : PSet X t) (lk : LinkSet C t st)
    (ha : ∀ v, assign (.Subscript o i pos) X.env v = (do
      let ov ← holding [v] (eval o X.env)
      let iv ← holding [v, ov] (eval i X.env)
      standAt pos
      holding [v, ov, iv] (setItem ov iv v)
      release [v, ov, iv] []) := by intro _; rfl) : PG X (.Subscript o i pos) (LG C W (gvSub eva evb st)) := by
  refine PGimp (pg_sub ho hi hs ha) fun v σ H Q ⟨α, σ3, M, d, m, s, r, h⟩ => ?_
  refine ⟨α, σ3, M, m, s, (FinS.out s h).mono fun x H1 ⟨α1, M1, d1, e1, m1, r1, h1⟩ => ?_⟩
  refine ⟨α1, σ3, M1, m1, s.ext e1, (FinS.out (s.ext e1) h1).mono fun y H2 ⟨α2, M2, d2, e2, m2, r2, h2⟩ => ?_⟩
  cases q : st d1 d2 d M2 with
  | none => rw [q] at h2; exact h2.elim
  | some M3 =>
    rw [q] at h2
    exact lk α2 M2 M3 H2 d1 d2 d x y v _ m2 (r1.ext e2) r2 (r.ext (e1.trans e2)) q fun α' H' e' m' => h2 α' H' σ e' m' (s.ext (e1.trans (e2.trans e')))
theorem s_asg {tg : Expr} {g : GV} (he : PE X e (LE C W eva)) (hg : PG X tg (LG C W g)) (hs : swapsWithSole [tg] e pos.line X.env = pure false := by rfl) (hw : swappedStores [tg] e X.env = pure none := by rfl)
    (h1 : (assignEach [tg] X.env).map (·.2) = [assign tg X.env] := by rfl) : PS X (.Assign [tg] e pos) (LS C W (svAsg eva g)) := by
  refine PSimp (ps_asg he hg hs hw h1) fun D σ H ⟨α, σ3, M, m, s, h⟩ => ⟨α, σ3, M, m, s, (FinS.out s h).mono fun v H1 ⟨α1, M1, d, e1, m1, r1, h2⟩ => ?_⟩
  refine ⟨α1, σ3, M1, d, m1, s.ext e1, r1, ?_⟩
  have h2 : FinS C W D α1 H1 (g d σ3 M1).only := h2
  show FinS C W _ α1 H1 (g d σ3 M1)
  cases q : g d σ3 M1 with
  | nx σ' M' => rw [q] at h2; exact h2
  | exc c ds σ' M' => rw [q] at h2; exact h2
  | no => rw [q] at h2; exact h2
  | rt d M' => rw [q] at h2; exact h2.elim
  | bk σ' M' => rw [q] at h2; exact h2.elim
  | ct σ' M' => rw [q] at h2; exact h2.elim
theorem s_set (i : Nat) {x : Str} {pos' : Pos} (hN : X.N.Nodup) (he : PE X e (LE C W eva)) (hi : X.N[i]? = some x := by rfl) (hx : Loc X.env.scope x := by first | exact Or.inl rfl | exact Or.inr rfl) (hs : swapsWith e (some (.Name x pos')) pos.line X.env = pure false := by rfl) (hf : X.fn x = true ∨ X.env.scope.names.lookup x = some .local := by first | exact .inl rfl | exact .inr rfl | assumption) :
    PS X (.Assign [.Name x pos'] e pos) (LS C W (svSet i eva)) :=
  PSimp (ps_set hN hi hx he hs hf) fun D σ H ⟨α, σ3, M, m, s, h⟩ => ⟨α, σ3, M, m, s, (FinS.out s h).mono fun v H1 ⟨α1, M1, d, e1, m1, r1, h2⟩ => h2 α1 H1 _ (Ext.refl _ _) m1 ((s.ext e1).set r1 i)⟩
theorem s_par (i j : Nat) {x y : Str} {a b : Expr} {ta : AV} {px py pt : Pos} {kt k2 pt2} (hc : X.calm = true) (hN : X.N.Nodup) (ha : PA X [a, b] (LA C W ta)) (hi : X.N[i]? = some x := by rfl) (hj : X.N[j]? = some y := by rfl) (hij : i ≠ j := by decide)
    (hx : X.env.scope.names.lookup x = some .local := by rfl) (hy : X.env.scope.names.lookup y = some .local := by rfl)
    (hw : swappedStores [.Tuple [.Name x px, .Name y py] kt pt] (.Tuple [a, b] k2 pt2) X.env = pure (some [x, y]) := by rfl)
    (hs : swapsWithSole [.Tuple [.Name x px, .Name y py] kt pt] (.Tuple [a, b] k2 pt2) pos.line X.env = pure false := by rfl) : PS X (.Assign [.Tuple [.Name x px, .Name y py] kt pt] (.Tuple [a, b] k2 pt2) pos) (LS C W (svPar i j ta)) := by
  refine PSimp (ps_par hc hN hi hj hij hx hy ha hw hs) fun D σ H ⟨α, σ3, M, m, s, h⟩ => ⟨α, σ3, M, m, s, (FinS.out s h).mono fun vs H1 ⟨α1, M1, ds, e1, m1, r1, h2⟩ => ?_⟩
  match ds, r1, h2 with
  | [d1, d2], r1, h2 =>
    obtain ⟨v, r, e2, rv, w, r', e3, rw', e4⟩ := r1
    subst e4; subst e3; subst e2
    exact ⟨v, w, rfl, h2 α1 H1 _ (Ext.refl _ _) m1 (((s.ext e1).set rv i).set rw' j)⟩
  | [], _, h2 => exact h2.elim
  | [_], _, h2 => exact h2.elim
  | _ :: _ :: _ :: _, _, h2 => exact h2.elim
/-! while -/
theorem s_while {c : Expr} {body : List Stmt} (n : Nat) (hp : PassesOwn (model X.prog X.w) X.A X.env X.xe) (hc : PT X c (LB C W tc)) (hb : PSs X body (LS C W sb)) : PS X (.While c body [] pos) (LS C W (svWhile tc sb n)) := by
  refine PSimp (ps_while hp hc hb) fun D σ H ⟨α, σ3, M, m, s, h⟩ => ?_
  refine ⟨fun k σ H => ∃ α σ3 M, SMem C α M H ∧ SSt C α H σ3 σ ∧ FinS C W D α H (svWhile tc sb k σ3 M), ⟨n, α, σ3, M, m, s, h⟩, ?_⟩
  rintro k σ H ⟨α, σ3, M, m, s, h⟩
  cases k with
  | zero => exact h.elim
  | succ k =>
    refine ⟨α, σ3, M, m, s, (FinS.out s h).mono fun b H1 ⟨α1, M1, d, e1, m1, r1, h1⟩ => ?_⟩
    cases r1
    cases b with
    | false => rw [if_neg Bool.false_ne_true]; exact h1 α1 H1 σ (Ext.refl _ _) m1 (s.ext e1)
    | true =>
      rw [if_pos rfl]
      refine ⟨fun σ H => ∃ α σ3 M, SMem C α M H ∧ SSt C α H σ3 σ ∧ FinS C W D α H (svWhile tc sb k σ3 M), fun σ' H' q => ⟨k, Nat.lt_succ_self k, q⟩, α1, σ3, M1, m1, s.ext e1, ?_⟩
      have h2 : FinS C W D α1 H1 (match sb σ3 M1 with
        | .nx σ' M' => svWhile tc sb k σ' M'
        | .ct σ' M' => svWhile tc sb k σ' M'
        | .bk σ' M' => .nx σ' M'
        | o => o) := h1
      cases q : sb σ3 M1 with
      | nx σ' M' => rw [q] at h2; exact fun α' H' σ1 e2 m2 s2 => ⟨α', σ', M', m2, s2, FinS.ext h2 e2⟩
      | ct σ' M' => rw [q] at h2; exact fun α' H' σ1 e2 m2 s2 => ⟨α', σ', M', m2, s2, FinS.ext h2 e2⟩
      | bk σ' M' => rw [q] at h2; exact h2
      | rt d M' => rw [q] at h2; exact h2
      | exc c ds σ' M' => rw [q] at h2; exact h2
      | no => rw [q] at h2; exact h2
/-! for -/
/-- an iterator walks these items, while what it watches stands -/
def JOk (C : Ct) (J : It) (src : Src) (α : List Addr) (H : Hp) : Prop :=
  ∀ α' M' H', Ext α H α' H' → SMem C α' M' H' → watched src.watch M' = true → ∀ i : Nat,
    (∀ d, src.items[i]? = some d → J.go i H' ∧ ∀ x H2, J.yld i H' x H2 → Ext α' H' α' H2 ∧ SMem C α' M' H2 ∧ Rl C α' H2 d x) ∧ (src.items.length = i → J.stop i H')
theorem JOk.ext {C : Ct} {J : It} {src : Src} {α α' : List Addr} {H H' : Hp} (h : JOk C J src α H) (e : Ext α H α' H') : JOk C J src α' H' := fun a M b e' m w => h a M b (e.trans e') m w
def LI (C : Ct) (W : WX) (iv : IV) : TI := fun σ H R => ∃ α σ3 M, SMem C α M H ∧ SSt C α H σ3 σ ∧ Fin C W σ (fun α H src J => JOk C J src α H) α H (iv σ3 M) R
theorem PIimp {tg it : Expr} {t t' : TI} (h : PI X tg it t) (k : ∀ σ H R, t' σ H R → t σ H R) : PI X tg it t' := ⟨fun p s σ H R I q => h.run p s σ H R I (k _ _ _ q)⟩
theorem s_for {tg iter : Expr} {body : List Stmt} {iv : IV} {g : GV} (hp : PassesOwn (model X.prog X.w) X.A X.env X.xe) (hc : X.calm = true) (hi : PI X tg iter (LI C W iv)) (hg : PG X tg (LG C W g)) (hb : PSs X body (LS C W sb))
    (hs : ∀ x, foldedSetIterable iter X.env x = pure x := by intro _; rfl) : PS X (.For tg iter body [] pos) (LS C W (svFor iv g sb)) := by
  refine PSimp (ps_for hp hc hi hg hb hs) fun D σ H ⟨α, σ3, M, m, s, h⟩ => ⟨α, σ3, M, m, s, (FinS.out s h).mono fun J H1 ⟨α1, M1, src, e1, m1, j1, h1⟩ => ?_⟩
  refine ⟨fun i k σ H => i + k = src.items.length ∧ ∃ α' σ3 M, Ext α1 H1 α' H ∧ SMem C α' M H ∧ SSt C α' H σ3 σ ∧ FinS C W D α' H (svLoop src.watch g sb (src.items.drop i) σ3 M), ⟨src.items.length, by omega, α1, σ3, M1, Ext.refl _ _, m1, s.ext e1, h1⟩, ?_⟩
  rintro i k σ H ⟨hk, α', σ3, M, e2, m2, s2, h2⟩
  cases z : src.items[i]? with
  | none =>
    have hl : src.items.length ≤ i := List.getElem?_eq_none_iff.mp z
    rw [List.drop_eq_nil_of_le hl] at h2
    have h2 : FinS C W D α' H (if watched src.watch M = true then .nx σ3 M else .no) := h2
    by_cases hw : watched src.watch M = true
    · rw [if_pos hw] at h2
      exact .inl ⟨(j1 α' M H e2 m2 hw i).2 (by omega), h2 α' H σ (Ext.refl _ _) m2 s2⟩
    · rw [if_neg hw] at h2; exact h2.elim
  | some d =>
    have hl : i < src.items.length := (List.getElem?_eq_some_iff.mp z).1
    have hd : src.items.drop i = d :: src.items.drop (i + 1) := by
      rw [List.drop_eq_getElem_cons hl]
      congr 1
      exact (List.getElem?_eq_some_iff.mp z).2
    rw [hd] at h2
    have h2 : FinS C W D α' H (if watched src.watch M = true then (match g d σ3 M with
      | .nx σ1 M1 => (match sb σ1 M1 with
        | .nx σ2 M2 => svLoop src.watch g sb (src.items.drop (i + 1)) σ2 M2
        | .ct σ2 M2 => svLoop src.watch g sb (src.items.drop (i + 1)) σ2 M2
        | .bk σ2 M2 => .nx σ2 M2
        | o => o)
      | .exc c ds σ1 M1 => .exc c ds σ1 M1
      | _ => .no) else .no) := h2
    by_cases hw : watched src.watch M = true
    · rw [if_pos hw] at h2
      obtain ⟨go, yld⟩ := (j1 α' M H e2 m2 hw i).1 d z
      refine .inr ⟨go, fun σ H => (i + 1) + (k - 1) = src.items.length ∧ ∃ α' σ3 M, Ext α1 H1 α' H ∧ SMem C α' M H ∧ SSt C α' H σ3 σ ∧ FinS C W D α' H (svLoop src.watch g sb (src.items.drop (i + 1)) σ3 M), fun σ' H' q => ⟨k - 1, by omega, q⟩, fun x H2 y => ?_⟩
      obtain ⟨e3, m3, r3⟩ := yld x H2 y
      refine ⟨α', σ3, M, d, m3, s2.ext e3, r3, ?_⟩
      have h2 := FinS.ext h2 e3
      cases q : g d σ3 M with
      | exc c ds σ' M' => rw [q] at h2; exact h2
      | no => rw [q] at h2; exact h2
      | rt d M' => rw [q] at h2; exact h2.elim
      | bk σ' M' => rw [q] at h2; exact h2.elim
      | ct σ' M' => rw [q] at h2; exact h2.elim
      | nx σ1 M1 =>
        rw [q] at h2
        refine fun α4 H4 σ4 e4 m4 s4 => ⟨α4, σ1, M1, m4, s4, ?_⟩
        have h2 := FinS.ext h2 e4
        have h2 : FinS C W D α4 H4 (match sb σ1 M1 with
          | .nx σ2 M2 => svLoop src.watch g sb (src.items.drop (i + 1)) σ2 M2
          | .ct σ2 M2 => svLoop src.watch g sb (src.items.drop (i + 1)) σ2 M2
          | .bk σ2 M2 => .nx σ2 M2
          | o => o) := h2
        cases q : sb σ1 M1 with
        | nx σ' M' => rw [q] at h2; exact fun α' H' σ1 e5 m5 s5 => ⟨by omega, α', σ', M', e2.trans (e3.trans (e4.trans e5)), m5, s5, FinS.ext h2 e5⟩
        | ct σ' M' => rw [q] at h2; exact fun α' H' σ1 e5 m5 s5 => ⟨by omega, α', σ', M', e2.trans (e3.trans (e4.trans e5)), m5, s5, FinS.ext h2 e5⟩
        | bk σ' M' => rw [q] at h2; exact h2
        | rt d M' => rw [q] at h2; exact h2
        | exc c ds σ' M' => rw [q] at h2; exact h2
        | no => rw [q] at h2; exact h2
    · rw [if_neg hw] at h2; exact h2.elim
/-! augmented assignment -/
theorem s_aug (i : Nat) {x : Str} {o : Operator} {r : TIp} {op : D → D → Mem → Res D} {pos' : Pos} (hN : X.N.Nodup) (he : PE X e (LE C W eva)) (ho : PIp X o r) (lk : LinkR C r op) (hi : X.N[i]? = some x := by rfl) (hx : Loc X.env.scope x := by first | exact Or.inl rfl | exact Or.inr rfl) (hf : X.fn x = true ∨ X.env.scope.names.lookup x = some .local := by first | exact .inl rfl | exact .inr rfl | assumption) :
    PS X (.AugAssign (.Name x pos') o e pos) (LS C W (svAug i op eva)) := by
  refine PSimp (ps_aug hN hi hx he ho (hf := hf)) fun D σ H ⟨α, σ3, M, m, s, h⟩ => ?_
  unfold svAug at h
  cases q : σ3[i]? with
  | none => rw [q] at h; exact h.elim
  | some z =>
    cases z with
    | none => rw [q] at h; exact h.elim
    | some d0 =>
      rw [q] at h
      obtain ⟨v0, k0, r0⟩ := s.at_ i d0 q
      refine ⟨v0, k0, α, σ3, M, m, s, (FinS.out s h).mono fun y H1 ⟨α1, M1, d, e1, m1, r1, h2⟩ => ?_⟩
      refine lk W σ α1 M1 H1 d0 d v0 y _ m1 (r0.ext e1) r1 ?_
      exact (FinS.out (s.ext e1) h2).mono fun z H2 ⟨α2, M2, dz, e2, m2, rz, h3⟩ => h3 α2 H2 _ (Ext.refl _ _) m2 (((s.ext (e1.trans e2))).set rz i)
end
end L3

set_option Elab.async false
set_option linter.all false
set_option maxRecDepth 100000
set_option maxHeartbeats 4000000
namespace L3
open PySem PySem.Spec PyProof.Rows L2

/-! sequences, seen through the cells -/
def listOf (M : Mem) : D → Option (List D)
  | .lst ds => some ds
  | .scr ds => some ds
  | .ref n => match M[n]? with
    | some (.lst ds) => some ds
    | _ => none
  | _ => none
/-- lists that the program made -/
def madeOf (M : Mem) : D → Option (List D)
  | .lst ds => some ds
  | .ref n => match M[n]? with
    | some (.lst ds) => some ds
    | _ => none
  | _ => none
def tupOf : D → Option (List D)
  | .tup ds => some ds
  | _ => none
section
variable {C : Ct} {W : WX} {σ : L2.St} {α : List Addr} {M : Mem} {H : Hp}
theorem SqT_of {K : PySem.W.Frag} {a : Addr} {vs : List V} (hK : C.K = K) (h : (a ∉ α ∧ Rd H a (.tup vs)) ∨ SqTK C.K a vs) : SqT K H a vs := by
  rcases h with ⟨_, h⟩ | h
  · exact Or.inl h
  · rw [hK] at h; exact Or.inr h
theorem SqL_of {K : PySem.W.Frag} {a : Addr} {vs : List V} (hK : C.K = K) (h : (a ∉ α ∧ Rd H a (.lst vs)) ∨ SqLK C.K a vs) : SqL K H a vs := by
  rcases h with ⟨_, h⟩ | h
  · exact Or.inl h
  · rw [hK] at h; exact Or.inr h
theorem ref_lst {n : Nat} {ds : List D} {v : V} (m : SMem C α M H) (r : Rl C α H (.ref n) v) (h : M[n]? = some (.lst ds)) : ∃ a vs, v = .ref a ∧ α[n]? = some a ∧ H a = some (.lst vs) ∧ Rls C α H ds vs := by
  obtain ⟨a, ha, rfl⟩ := r
  obtain ⟨vs, hv, rs⟩ := m.cell n _ a h ha
  exact ⟨a, vs, rfl, ha, hv, rs⟩
theorem madeOf_ok {d : D} {ds : List D} {v : V} (m : SMem C α M H) (r : Rl C α H d v) (h : madeOf M d = some ds) : ∃ a vs, v = .ref a ∧ H a = some (.lst vs) ∧ Rls C α H ds vs := by
  cases d with
  | lst es =>
    cases h
    obtain ⟨a, vs, rfl, _, h, rs⟩ := r
    exact ⟨a, vs, rfl, h, rs⟩
  | ref n =>
    have h : (match M[n]? with
      | some (.lst ds) => some ds
      | _ => none) = some ds := h
    cases q : M[n]? with
    | none => rw [q] at h; cases h
    | some c =>
      rw [q] at h
      cases c with
      | lst es =>
        cases h
        obtain ⟨a, vs, e, _, hv, rs⟩ := ref_lst m r q
        exact ⟨a, vs, e, hv, rs⟩
      | _ => cases h
  | _ => cases h
theorem listOf_ok {K : PySem.W.Frag} {d : D} {ds : List D} {v : V} (hK : C.K = K) (m : SMem C α M H) (r : Rl C α H d v) (h : listOf M d = some ds) : ∃ a vs, v = .ref a ∧ SqL K H a vs ∧ Rls C α H ds vs := by
  cases d with
  | scr es =>
    cases h
    obtain ⟨a, vs, rfl, h, rs⟩ := r
    exact ⟨a, vs, rfl, SqL_of hK h, rs⟩
  | lst es =>
    obtain ⟨a, vs, e, hv, rs⟩ := madeOf_ok (M := M) m r h
    exact ⟨a, vs, e, .inl (.inl hv), rs⟩
  | ref n =>
    obtain ⟨a, vs, e, hv, rs⟩ := madeOf_ok (M := M) m r h
    exact ⟨a, vs, e, .inl (.inl hv), rs⟩
  | _ => cases h
theorem tupOf_ok {K : PySem.W.Frag} {d : D} {ds : List D} {v : V} (hK : C.K = K) (r : Rl C α H d v) (h : tupOf d = some ds) : ∃ a vs, v = .ref a ∧ SqT K H a vs ∧ Rls C α H ds vs := by
  cases d with
  | tup es =>
    cases h
    obtain ⟨a, vs, rfl, h, rs⟩ := r
    exact ⟨a, vs, rfl, SqT_of hK h, rs⟩
  | _ => cases h
theorem fin_ok {d : D} {v : V} {Q : VK} (m : SMem C α M H) (r : Rl C α H d v) (h : Fin C W σ (RD C) α H (.ok d M) Q) : Q v H := h α H v (Ext.refl _ _) m r
end

/-! ### numbers -/
def mulOk (i j : Int) : Bool := decide (i.natAbs < 2 ^ 64) || (decide (j.natAbs < 2 ^ 64) || decide (i.natAbs.log2 + j.natAbs.log2 < 100000000))
theorem mulOk_ok {i j : Int} (h : mulOk i j = true) : IntMulOk i j := by
  unfold mulOk at h
  rcases Bool.or_eq_true_iff.mp h with h | h
  · exact .of_left (intBits_le_64 (by have := of_decide_eq_true h; omega) (by have := of_decide_eq_true h; omega))
  rcases Bool.or_eq_true_iff.mp h with h | h
  · exact .of_right (intBits_le_64 (by have := of_decide_eq_true h; omega) (by have := of_decide_eq_true h; omega))
  have h3 := of_decide_eq_true h
  have b : ∀ x : Int, Builtin.Int.intBits x ≤ x.natAbs.log2 + 1 := fun x => by
    unfold Builtin.Int.intBits
    split <;> omega
  have h1 := b i
  have h2 := b j
  have e : bitsLine = 134217728 := by decide
  unfold IntMulOk
  intro z
  rw [Bool.and_eq_true] at z
  have z2 := z.2
  unfold Builtin.Int.intTooBig at z2
  have z3 := of_decide_eq_true z2
  rw [e] at z3
  omega
def divOk (j : Int) : Bool := decide (j ≠ 0) && decide (j.natAbs.log2 < 9000)
def powOk (i j : Int) : Bool := decide (0 ≤ j) && (decide (j ≤ 1000000) && decide (i.natAbs < 2 ^ 64))
section
variable {X : Cx}
theorem op_mulX : OpR X (binaryOp .Mult) (rI (fun i j => mulOk i j = true) fun i j => .int (i * j)) := opI fun _ _ _ _ _ _ _ hc q => mul_int q (mulOk_ok hc)
theorem op_divX : OpR X (binaryOp .FloorDiv) (rI (fun _ j => divOk j = true) fun i j => .int (i.fdiv j)) := opI fun i j _ _ _ _ _ hc q => by
  obtain ⟨h1, h2⟩ := Bool.and_eq_true_iff.mp hc
  exact floordiv_int (of_decide_eq_true h1) q (.inl (PyProof.noPylong_of_log2 (of_decide_eq_true h2)))
theorem op_powX : OpR X (binaryOp .Pow) (rI (fun i j => powOk i j = true) fun i j => .int (i ^ j.toNat)) := opI fun i j _ _ _ _ _ hc q => by
  obtain ⟨h1, h2⟩ := Bool.and_eq_true_iff.mp hc
  obtain ⟨h2, h3⟩ := Bool.and_eq_true_iff.mp h2
  exact pow_int_small (of_decide_eq_true h1) (of_decide_eq_true h2) (of_decide_eq_true h3) q
end
/-- two ints in -/
def int2 (ok : Int → Int → Bool) (f : Int → Int → D) : D → D → Mem → Res D := fun x y M => match x, y with
  | .int i, .int j => if ok i j = true then .ok (f i j) M else .no
  | _, _ => .no
theorem lk_int2 {C : Ct} {ok : Int → Int → Bool} {P : Int → Int → Prop} {f : Int → Int → D} {g : Int → Int → V} (hp : ∀ i j, ok i j = true → P i j) (hg : ∀ i j α H, Rl C α H (f i j) (g i j)) : LinkR C (rI P g) (int2 ok f) := by
  intro W σ α M H x y v u Q m rx ry h
  cases x with
  | int i =>
    cases y with
    | int j =>
      cases rx; cases ry
      have h : Fin C W σ (RD C) α H (if ok i j = true then .ok (f i j) M else .no) Q := h
      by_cases z : ok i j = true
      · rw [if_pos z] at h; exact ⟨i, j, rfl, rfl, hp i j z, h α H _ (Ext.refl _ _) m (hg i j α H)⟩
      · rw [if_neg z] at h; exact h.elim
    | _ => exact h.elim
  | _ => exact h.elim
theorem lk_int2' {C : Ct} {f : Int → Int → D} {g : Int → Int → V} (hg : ∀ i j α H, Rl C α H (f i j) (g i j)) : LinkR C (rI0 g) (int2 (fun _ _ => true) f) := fun W σ α M H x y v u Q m rx ry h =>
  let ⟨i, j, a, b, _, q⟩ := lk_int2 (P := fun _ _ => True) (fun _ _ _ => trivial) hg W σ α M H x y v u Q m rx ry h
  ⟨i, j, a, b, q⟩
theorem lk_or {C : Ct} {r r' : R2} {op op' op2 : D → D → Mem → Res D} (h : LinkR C r op) (h' : LinkR C r' op') (hs : ∀ x y M, op2 x y M = op x y M ∨ op2 x y M = op' x y M) : LinkR C (fun x y H Q => r x y H Q ∨ r' x y H Q) op2 := by
  intro W σ α M H x y v u Q m rx ry k
  rcases hs x y M with e | e
  · exact .inl (h W σ α M H x y v u Q m rx ry (by rw [← e]; exact k))
  · exact .inr (h' W σ α M H x y v u Q m rx ry (by rw [← e]; exact k))
/-! + -/
def newL (cell : Bool) (ds : List D) (M : Mem) : Res D := if ds.length ≤ sizeLine then (if cell = true then .ok (.ref M.length) (M ++ [.lst ds]) else .ok (.lst ds) M) else .no
theorem newL_ok {C : Ct} {W : WX} {σ : L2.St} {α : List Addr} {M : Mem} {H : Hp} {cell : Bool} {ds : List D} {vs : List V} {Q : VK} (m : SMem C α M H) (r : Rls C α H ds vs) (h : Fin C W σ (RD C) α H (newL cell ds M) Q) :
    vs.length ≤ sizeLine ∧ ∀ p, H p = none → Q (.ref p) (upd H p (.lst vs)) := by
  unfold newL at h
  by_cases z : ds.length ≤ sizeLine
  · rw [if_pos z] at h
    refine ⟨by rw [r.length]; exact z, ?_⟩
    cases cell with
    | true => rw [if_pos rfl] at h; exact fin_new_cell m r h
    | false => rw [if_neg Bool.false_ne_true] at h; exact fin_new_lst m r h
  · rw [if_neg z] at h; exact h.elim
def catL (cell : Bool) : D → D → Mem → Res D := fun x y M => match madeOf M x, madeOf M y with
  | some a, some b => newL cell (a ++ b) M
  | _, _ => .no
theorem lk_catL {C : Ct} {cell : Bool} : LinkR C rCat (catL cell) := by
  intro W σ α M H x y v u Q m rx ry h
  unfold catL at h
  cases qx : madeOf M x with
  | none => rw [qx] at h; exact h.elim
  | some a =>
    cases qy : madeOf M y with
    | none => rw [qx, qy] at h; exact h.elim
    | some b =>
      rw [qx, qy] at h
      obtain ⟨p, vs, rfl, hp, rs⟩ := madeOf_ok m rx qx
      obtain ⟨q, ws, rfl, hq, rt⟩ := madeOf_ok m ry qy
      obtain ⟨h1, h2⟩ := newL_ok m (rs.append rt) h
      exact ⟨p, q, vs, ws, rfl, rfl, hp, hq, by rw [List.length_append] at h1; exact h1, h2⟩
def catT : D → D → Mem → Res D := fun x y M => match x, y with
  | .tup a, .tup b => if a.length + b.length ≤ sizeLine then .ok (.tup (a ++ b)) M else .no
  | _, _ => .no
def dAdd (cell : Bool) : D → D → Mem → Res D := fun x y M => match x with
  | .int _ => int2 (fun _ _ => true) (fun i j => .int (i + j)) x y M
  | .tup _ => catT x y M
  | _ => catL cell x y M
def dMulL (cell : Bool) : D → D → Mem → Res D := fun x y M => match madeOf M x, y with
  | some a, .int k => if -(2 ^ 63) ≤ k ∧ k < 2 ^ 63 then newL cell (List.replicate k.toNat a).flatten M else .no
  | _, _ => .no
def dSub : D → D → Mem → Res D := int2 (fun _ _ => true) fun i j => .int (i - j)
def dMul (cell : Bool) : D → D → Mem → Res D := fun x y M => match x with
  | .int _ => int2 mulOk (fun i j => .int (i * j)) x y M
  | _ => dMulL cell x y M
def dDiv : D → D → Mem → Res D := int2 (fun _ j => divOk j) fun i j => .int (i.fdiv j)
def dMod : D → D → Mem → Res D := int2 (fun _ j => decide (j ≠ 0)) fun i j => .int (i.fmod j)
def dPow : D → D → Mem → Res D := int2 powOk fun i j => .int (i ^ j.toNat)
def dAnd : D → D → Mem → Res D := int2 (fun _ _ => true) fun i j => .int (Builtin.bitAnd i j)
def dLt : D → D → Mem → Res D := int2 (fun _ _ => true) fun i j => .bl (decide (i < j))
def dLe : D → D → Mem → Res D := int2 (fun _ _ => true) fun i j => .bl (decide (i ≤ j))
def dGt : D → D → Mem → Res D := int2 (fun _ _ => true) fun i j => .bl (decide (j < i))
def dGe : D → D → Mem → Res D := int2 (fun _ _ => true) fun i j => .bl (decide (j ≤ i))
section
variable {X : Cx} {C : Ct} {W : WX} {a b c e : Expr} {eva evb evc : EV} {pos : Pos}
/-- t + u -/
theorem lk_catT {K : PySem.W.Frag} (hK : C.K = K) : LinkR C (rCatA K) catT := by
  intro W σ α M H x y v u Q m rx ry h
  cases x with
  | tup a =>
    cases y with
    | tup b =>
      have h : Fin C W σ (RD C) α H (if a.length + b.length ≤ sizeLine then .ok (.tup (a ++ b)) M else .no) Q := h
      by_cases z : a.length + b.length ≤ sizeLine
      · rw [if_pos z] at h
        obtain ⟨p, vs, rfl, hp, rs⟩ := rx
        obtain ⟨q, ws, rfl, hq, rt⟩ := ry
        have l1 := rs.length
        have l2 := rt.length
        refine ⟨p, q, vs, ws, rfl, rfl, SqT_of hK hp, SqT_of hK hq, by rw [l1, l2]; exact z, fun e => ?_, fun _ e => ?_, fun _ _ => fin_new_tup m (rs.append rt) h⟩
        · subst e
          have : a = [] := List.length_eq_zero_iff.mp (by simpa using l1.symm)
          subst this
          exact fin_ok (d := .tup b) m ⟨q, ws, rfl, hq, rt⟩ h
        · subst e
          have : b = [] := List.length_eq_zero_iff.mp (by simpa using l2.symm)
          subst this
          rw [List.append_nil] at h
          exact fin_ok (d := .tup a) m ⟨p, vs, rfl, hp, rs⟩ h
      · rw [if_neg z] at h; exact h.elim
    | _ => exact h.elim
  | _ => exact h.elim
theorem l_add (cell : Bool) (ha : PE X a (LE C W eva)) (hb : PE X b (LE C W evb)) (hK : C.K = X.K := by rfl) : PE X (.BinOp a .Add b pos) (LE C W (ev2 (dAdd cell) eva evb)) := by
  refine l_op (op_add.or (op_catA.or op_cat)) ?_ ha hb
  refine lk_or (lk_int2' (f := fun i j => .int (i + j)) fun _ _ _ _ => rfl) (lk_or (lk_catT hK) (lk_catL (cell := cell)) (op2 := fun x y M => match x with
    | .tup _ => catT x y M
    | _ => catL cell x y M) fun x y M => ?_) fun x y M => ?_
  · cases x <;> first | exact .inl rfl | exact .inr rfl
  · cases x <;> first | exact .inl rfl | exact .inr rfl
theorem l_sub (ha : PE X a (LE C W eva)) (hb : PE X b (LE C W evb)) : PE X (.BinOp a .Sub b pos) (LE C W (ev2 dSub eva evb)) := l_op op_sub (lk_int2' fun _ _ _ _ => rfl) ha hb
theorem lk_rep {cell : Bool} : LinkR C rRep (dMulL cell) := by
  intro W σ α M H x y v u Q m rx ry h
  unfold dMulL at h
  cases qx : madeOf M x with
  | none => rw [qx] at h; exact h.elim
  | some a =>
    rw [qx] at h
    cases y with
    | int k =>
      cases ry
      have h : Fin C W σ (RD C) α H (if -(2 ^ 63) ≤ k ∧ k < 2 ^ 63 then newL cell (List.replicate k.toNat a).flatten M else .no) Q := h
      by_cases z : -(2 ^ 63) ≤ k ∧ k < 2 ^ 63
      · rw [if_pos z] at h
        obtain ⟨p, vs, rfl, hp, rs⟩ := madeOf_ok m rx qx
        have rr : ∀ n : Nat, Rls C α H (List.replicate n a).flatten (List.replicate n vs).flatten := fun n => by
          induction n with
          | zero => exact rfl
          | succ n ih => rw [List.replicate_succ, List.replicate_succ, List.flatten_cons, List.flatten_cons]; exact rs.append ih
        obtain ⟨h1, h2⟩ := newL_ok m (rr _) h
        refine ⟨p, k, vs, rfl, rfl, hp, z.1, z.2, ?_, h2⟩
        rw [List.length_flatten, List.map_replicate, List.sum_replicate_nat] at h1
        rw [Nat.mul_comm]; exact h1
      · rw [if_neg z] at h; exact h.elim
    | _ => exact h.elim
theorem l_mul (cell : Bool) (ha : PE X a (LE C W eva)) (hb : PE X b (LE C W evb)) : PE X (.BinOp a .Mult b pos) (LE C W (ev2 (dMul cell) eva evb)) := by
  refine l_op (op_mulX.or op_rep) ?_ ha hb
  refine lk_or (lk_int2 (f := fun i j => .int (i * j)) (fun _ _ z => z) fun _ _ _ _ => rfl) (lk_rep (cell := cell)) fun x y M => ?_
  cases x <;> first | exact .inl rfl | exact .inr rfl
theorem l_div (ha : PE X a (LE C W eva)) (hb : PE X b (LE C W evb)) : PE X (.BinOp a .FloorDiv b pos) (LE C W (ev2 dDiv eva evb)) := l_op op_divX (lk_int2 (fun _ _ z => z) fun _ _ _ _ => rfl) ha hb
theorem l_mod (ha : PE X a (LE C W eva)) (hb : PE X b (LE C W evb)) : PE X (.BinOp a .Mod b pos) (LE C W (ev2 dMod eva evb)) := l_op op_modN (lk_int2 (fun _ _ z => of_decide_eq_true z) fun _ _ _ _ => rfl) ha hb
theorem l_pow (ha : PE X a (LE C W eva)) (hb : PE X b (LE C W evb)) : PE X (.BinOp a .Pow b pos) (LE C W (ev2 dPow eva evb)) := l_op op_powX (lk_int2 (fun _ _ z => z) fun _ _ _ _ => rfl) ha hb
theorem l_band (ha : PE X a (LE C W eva)) (hb : PE X b (LE C W evb)) : PE X (.BinOp a .BitAnd b pos) (LE C W (ev2 dAnd eva evb)) := l_op op_and (lk_int2' fun _ _ _ _ => rfl) ha hb
def dNeg : D → Mem → Res D := fun x M => match x with
  | .int i => .ok (.int (-i)) M
  | _ => .no
theorem l_neg (ha : PE X a (LE C W eva)) : PE X (.UnaryOp .USub a pos) (LE C W (ev1 dNeg eva)) := by
  refine l_un un_neg (fun W σ α M H x v Q m r h => ?_) ha
  cases x with
  | int i => cases r; exact ⟨i, rfl, fin_ok (d := .int (-i)) m rfl h⟩
  | _ => exact h.elim
/-! comparisons of ints; bool(a < b) as test or value: l_cmp, lt_cmp with these -/
theorem lk_lt : LinkR C (rI0 fun i j => .bl (decide (i < j))) dLt := lk_int2' fun _ _ _ _ => rfl
theorem lk_le : LinkR C (rI0 fun i j => .bl (decide (i ≤ j))) dLe := lk_int2' fun _ _ _ _ => rfl
theorem lk_gt : LinkR C (rI0 fun i j => .bl (decide (j < i))) dGt := lk_int2' fun _ _ _ _ => rfl
theorem lk_ge : LinkR C (rI0 fun i j => .bl (decide (j ≤ i))) dGe := lk_int2' fun _ _ _ _ => rfl
/-! is None -/
def isNon : D → Bool
  | .non => true
  | _ => false
def dIsN : D → D → Mem → Res D := fun x y M => if isNon y = true then .ok (.bl (isNon x)) M else .no
def dNotN : D → D → Mem → Res D := fun x y M => if isNon y = true then .ok (.bl (!isNon x)) M else .no
theorem isNon_rel {α : List Addr} {H : Hp} {x : D} {v : V} (r : Rl C α H x v) : decide (v = .non) = isNon x := by
  cases x with
  | non => cases r; rfl
  | bl b => cases r; rfl
  | int b => cases r; rfl
  | str b => cases r; rfl
  | tup ds => obtain ⟨a, vs, rfl, _⟩ := r; rfl
  | lst ds => obtain ⟨a, vs, rfl, _⟩ := r; rfl
  | scr ds => obtain ⟨a, vs, rfl, _⟩ := r; rfl
  | ref n => obtain ⟨a, _, rfl⟩ := r; rfl
  | obj c ds => obtain ⟨a, dx, vs, rfl, _⟩ := r; rfl
  | glo g => cases r; rfl
  | ty n => cases r; rfl
theorem isNon_eq {α : List Addr} {H : Hp} {x : D} {v : V} (r : Rl C α H x v) (h : isNon x = true) : v = .non := by
  rw [← isNon_rel r] at h; exact of_decide_eq_true h
theorem lk_isN : LinkR C (fun x y H Q => y = .non ∧ Q (.bl (decide (x = .non))) H) dIsN := by
  intro W σ α M H x y v u Q m rx ry h
  unfold dIsN at h
  by_cases z : isNon y = true
  · rw [if_pos z] at h
    exact ⟨isNon_eq ry z, by rw [isNon_rel rx]; exact fin_ok (d := .bl (isNon x)) m rfl h⟩
  · rw [if_neg z] at h; exact h.elim
theorem lk_notN : LinkR C (fun x y H Q => y = .non ∧ Q (.bl (!decide (x = .non))) H) dNotN := by
  intro W σ α M H x y v u Q m rx ry h
  unfold dNotN at h
  by_cases z : isNon y = true
  · rw [if_pos z] at h
    exact ⟨isNon_eq ry z, by rw [isNon_rel rx]; exact fin_ok (d := .bl (!isNon x)) m rfl h⟩
  · rw [if_neg z] at h; exact h.elim
/-! == of data -/
def mapO (f : D → Option PyData) : List D → Option (List PyData)
  | [] => some []
  | d :: r => match f d, mapO f r with
    | some p, some ps => some (p :: ps)
    | _, _ => none
def leaf : D → Option PyData
  | .non => some .none
  | .bl b => some (.bool b)
  | .int i => some (.int i)
  | .str s => if PySem.PyData.strOk s = true then some (.str s) else none
  | _ => none
def py (M : Mem) : Nat → D → Option PyData
  | 0, d => leaf d
  | n + 1, d => match d with
    | .tup ds => (mapO (py M n) ds).map .tuple
    | .lst ds => (mapO (py M n) ds).map .list
    | .scr ds => (mapO (py M n) ds).map .list
    | .ref k => (match M[k]? with
      | some (.lst ds) => (mapO (py M n) ds).map .list
      | _ => none)
    | d => leaf d
section
variable {K : PySem.W.Frag} {α : List Addr} {M : Mem} {H : Hp}
theorem leaf_ok {d : D} {p : PyData} {v : V} (r : Rl C α H d v) (h : leaf d = some p) : Dp K H v p ∧ p.canLay0 = true ∧ p.depth = 0 := by
  cases d with
  | non => cases h; cases r; exact ⟨.non, by simp [PyData.canLay0], by simp [PyData.depth]⟩
  | bl b => cases h; cases r; exact ⟨.bl b, by simp [PyData.canLay0], by simp [PyData.depth]⟩
  | int i => cases h; cases r; exact ⟨.int i, by simp [PyData.canLay0], by simp [PyData.depth]⟩
  | str s =>
    cases r
    have h : (if PySem.PyData.strOk s = true then some (.str s) else none) = some p := h
    by_cases z : PySem.PyData.strOk s = true
    · rw [if_pos z] at h; cases h; exact ⟨.str s, by simp [PyData.canLay0, z], by simp [PyData.depth]⟩
    · rw [if_neg z] at h; cases h
  | _ => cases h
theorem mapO_ok {f : D → Option PyData} {n : Nat} (hf : ∀ d p v, Rl C α H d v → f d = some p → Dp K H v p ∧ p.canLay0 = true ∧ p.depth ≤ n) :
    ∀ {ds : List D} {ps : List PyData} {vs : List V}, Rls C α H ds vs → mapO f ds = some ps → DpAll K H vs ps ∧ PyData.canLayAll0 ps = true ∧ PyData.depthAll ps ≤ n
  | [], ps, vs, r, h => by cases h; cases r; exact ⟨.nil, by simp [PyData.canLayAll0], by simp [PyData.depthAll]⟩
  | d :: ds, ps, vs, r, h => by
    obtain ⟨v, vr, rfl, rv, rr⟩ := r
    have h : (match f d, mapO f ds with
      | some p, some ps => some (p :: ps)
      | _, _ => none) = some ps := h
    cases q : f d with
    | none => rw [q] at h; cases h
    | some p =>
      cases q2 : mapO f ds with
      | none => rw [q, q2] at h; cases h
      | some qs =>
        rw [q, q2] at h
        cases h
        obtain ⟨a1, a2, a3⟩ := hf d p v rv q
        obtain ⟨b1, b2, b3⟩ := mapO_ok hf rr q2
        exact ⟨.cons a1 b1, by simp [PyData.canLayAll0, a2, b2], by simp only [PyData.depthAll]; omega⟩
theorem py_ok (hK : C.K = K) (m : SMem C α M H) : ∀ (n : Nat) (d : D) (p : PyData) (v : V), Rl C α H d v → py M n d = some p → Dp K H v p ∧ p.canLay0 = true ∧ p.depth ≤ n
  | 0, d, p, v, r, h => let ⟨a, b, c⟩ := leaf_ok (K := K) r h; ⟨a, b, by omega⟩
  | n + 1, d, p, v, r, h => by
    have lst : ∀ {ds : List D} {a : Addr} {vs : List V}, v = .ref a → SqL K H a vs → Rls C α H ds vs → (mapO (py M n) ds).map PyData.list = some p → Dp K H v p ∧ p.canLay0 = true ∧ p.depth ≤ n + 1 := fun {ds a vs} e hs rs hm => by
      subst e
      cases q : mapO (py M n) ds with
      | none => rw [q] at hm; cases hm
      | some ps =>
        rw [q] at hm; cases hm
        obtain ⟨a1, a2, a3⟩ := mapO_ok (py_ok hK m n) rs q
        exact ⟨.lst hs a1, by simp [PyData.canLay0, a2], by simp only [PyData.depth]; omega⟩
    cases d with
    | tup ds =>
      obtain ⟨a, vs, rfl, hs, rs⟩ := r
      have h : (mapO (py M n) ds).map PyData.tuple = some p := h
      cases q : mapO (py M n) ds with
      | none => rw [q] at h; cases h
      | some ps =>
        rw [q] at h; cases h
        obtain ⟨a1, a2, a3⟩ := mapO_ok (py_ok hK m n) rs q
        exact ⟨.tup (SqT_of hK hs) a1, by simp [PyData.canLay0, a2], by simp only [PyData.depth]; omega⟩
    | lst ds => obtain ⟨a, vs, e, _, hs, rs⟩ := r; exact lst e (.inl (.inl hs)) rs h
    | scr ds => obtain ⟨a, vs, e, hs, rs⟩ := r; exact lst e (SqL_of hK hs) rs h
    | ref k =>
      have h : (match M[k]? with
        | some (.lst ds) => (mapO (py M n) ds).map PyData.list
        | _ => none) = some p := h
      cases q : M[k]? with
      | none => rw [q] at h; cases h
      | some c =>
        rw [q] at h
        cases c with
        | lst ds =>
          obtain ⟨a, vs, e, _, hv, rs⟩ := ref_lst m r q
          exact lst e (.inl (.inl hv)) rs h
        | _ => cases h
    | non => obtain ⟨a, b, c⟩ := leaf_ok (K := K) r h; exact ⟨a, b, by omega⟩
    | bl b => obtain ⟨a, b, c⟩ := leaf_ok (K := K) r h; exact ⟨a, b, by omega⟩
    | int b => obtain ⟨a, b, c⟩ := leaf_ok (K := K) r h; exact ⟨a, b, by omega⟩
    | str b => obtain ⟨a, b, c⟩ := leaf_ok (K := K) r h; exact ⟨a, b, by omega⟩
    | _ => cases h
end
def dEq : D → D → Mem → Res D := fun x y M => match py M 8 x, py M 8 y with
  | some a, some b => .ok (.bl (PyData.eqv a b)) M
  | _, _ => .no
def dNe : D → D → Mem → Res D := fun x y M => match py M 8 x, py M 8 y with
  | some a, some b => .ok (.bl (!PyData.eqv a b)) M
  | _, _ => .no
theorem shaped_of {p : PyData} (h1 : p.canLay0 = true) (h2 : p.depth ≤ 8) : SeqAt.shaped p = true := by
  unfold SeqAt.shaped
  rw [h1, decide_eq_true (by omega)]; rfl
theorem lk_eq {K : PySem.W.Frag} (hK : C.K = K) : LinkR C (rEqD K) dEq := by
  intro W σ α M H x y v u Q m rx ry h
  unfold dEq at h
  cases qx : py M 8 x with
  | none => rw [qx] at h; exact h.elim
  | some a =>
    cases qy : py M 8 y with
    | none => rw [qx, qy] at h; exact h.elim
    | some b =>
      rw [qx, qy] at h
      obtain ⟨a1, a2, a3⟩ := py_ok hK m 8 x a v rx qx
      obtain ⟨b1, b2, b3⟩ := py_ok hK m 8 y b u ry qy
      exact ⟨a, b, a1, b1, shaped_of a2 a3, shaped_of b2 b3, fin_ok (d := .bl (PyData.eqv a b)) m rfl h⟩
theorem lk_ne {K : PySem.W.Frag} (hK : C.K = K) : LinkR C (rNeD K) dNe := by
  intro W σ α M H x y v u Q m rx ry h
  unfold dNe at h
  cases qx : py M 8 x with
  | none => rw [qx] at h; exact h.elim
  | some a =>
    cases qy : py M 8 y with
    | none => rw [qx, qy] at h; exact h.elim
    | some b =>
      rw [qx, qy] at h
      obtain ⟨a1, a2, a3⟩ := py_ok hK m 8 x a v rx qx
      obtain ⟨b1, b2, b3⟩ := py_ok hK m 8 y b u ry qy
      exact ⟨a, b, a1, b1, shaped_of a2 a3, shaped_of b2 b3, fin_ok (d := .bl (!PyData.eqv a b)) m rfl h⟩
/-! x in s -/
def flatD : D → Bool
  | .non => true | .bl _ => true | .int _ => true | .str _ => true | _ => false
def eqF : D → D → Bool
  | .non, .non => true
  | .bl a, .bl b => a == b
  | .bl a, .int b => (if a then 1 else 0) == b
  | .int a, .bl b => a == (if b then 1 else 0)
  | .int a, .int b => a == b
  | .str a, .str b => a == b
  | _, _ => false
def seqOf (M : Mem) (d : D) : Option (List D) := match d with
  | .tup ds => some ds
  | d => listOf M d
def dIn (neg : Bool) : D → D → Mem → Res D := fun x y M => match seqOf M y with
  | some ds => if flatD x = true ∧ ds.all flatD = true then .ok (.bl (if neg then !(ds.any fun z => eqF z x) else ds.any fun z => eqF z x)) M else .no
  | none => .no
theorem flat_rel {α : List Addr} {H : Hp} {x : D} {v : V} (r : Rl C α H x v) (h : flatD x = true) : flatV v = true := by
  cases x <;> first | (cases r; rfl) | cases h
theorem eqF_rel {α : List Addr} {H : Hp} {x y : D} {v u : V} (r : Rl C α H x v) (q : Rl C α H y u) (h : flatD x = true) (k : flatD y = true) : eqV v u = eqF x y := by
  cases x <;> first | exact Bool.noConfusion h | (cases y <;> first | exact Bool.noConfusion k | (cases r; cases q; rfl))
theorem any_rel {α : List Addr} {H : Hp} {x : D} {v : V} (r : Rl C α H x v) (h : flatD x = true) : ∀ {ds : List D} {vs : List V}, Rls C α H ds vs → ds.all flatD = true → vs.all flatV = true ∧ inV v vs = ds.any fun z => eqF z x
  | [], vs, rs, _ => by cases rs; exact ⟨rfl, rfl⟩
  | d :: ds, vs, rs, k => by
    obtain ⟨w, wr, rfl, rw', rr⟩ := rs
    rw [List.all_cons, Bool.and_eq_true] at k
    obtain ⟨a, b⟩ := any_rel r h rr k.2
    refine ⟨by rw [List.all_cons, flat_rel rw' k.1, a]; rfl, ?_⟩
    have b : (wr.any fun y => eqV y v) = ds.any fun z => eqF z x := b
    show ((w :: wr).any fun y => eqV y v) = _
    rw [List.any_cons, List.any_cons, b, eqF_rel rw' r k.1 h]
theorem lk_in {K : PySem.W.Frag} {neg : Bool} (hK : C.K = K) : LinkR C (rIn K neg) (dIn neg) := by
  intro W σ α M H x y v u Q m rx ry h
  unfold dIn at h
  cases q : seqOf M y with
  | none => rw [q] at h; exact h.elim
  | some ds =>
    rw [q] at h
    have h : Fin C W σ (RD C) α H (if flatD x = true ∧ ds.all flatD = true then .ok (.bl (if neg then !(ds.any fun z => eqF z x) else ds.any fun z => eqF z x)) M else .no) Q := h
    by_cases z : flatD x = true ∧ ds.all flatD = true
    · rw [if_pos z] at h
      have key : ∃ a vs, u = .ref a ∧ (SqL K H a vs ∨ SqT K H a vs) ∧ Rls C α H ds vs := by
        cases y with
        | tup es => cases q; obtain ⟨a, vs, e, hs, rs⟩ := tupOf_ok (C := C) hK ry rfl; exact ⟨a, vs, e, .inr hs, rs⟩
        | lst es => obtain ⟨a, vs, e, hs, rs⟩ := listOf_ok hK m ry q; exact ⟨a, vs, e, .inl hs, rs⟩
        | scr es => obtain ⟨a, vs, e, hs, rs⟩ := listOf_ok hK m ry q; exact ⟨a, vs, e, .inl hs, rs⟩
        | ref n => obtain ⟨a, vs, e, hs, rs⟩ := listOf_ok hK m ry q; exact ⟨a, vs, e, .inl hs, rs⟩
        | _ => cases q
      obtain ⟨a, vs, e, hs, rs⟩ := key
      obtain ⟨k1, k2⟩ := any_rel rx z.1 rs z.2
      refine ⟨a, vs, e, hs, flat_rel rx z.1, k1, ?_⟩
      rw [k2]
      exact fin_ok (d := .bl _) m rfl h
    · rw [if_neg z] at h; exact h.elim
/-! s[i] -/
def dIx : D → D → Mem → Res D := fun x y M => match y with
  | .int i => (match x with
    | .str z => if z.length ≤ sizeLine then (match atI z.cps.toList i with
      | some c => .ok (.str ⟨#[c]⟩) M
      | none => .no) else .no
    | x => match seqOf M x with
      | some ds => (match atI ds i with
        | some d => .ok d M
        | none => .no)
      | none => .no)
  | _ => .no
theorem atI_rel {α : List Addr} {H : Hp} {ds : List D} {vs : List V} (r : Rls C α H ds vs) {i : Int} {d : D} (h : atI ds i = some d) : ∃ v, atI vs i = some v ∧ Rl C α H d v := by
  unfold atI at h ⊢
  rw [r.length]
  cases q : ixN ds.length i with
  | none => rw [q] at h; cases h
  | some j => rw [q] at h; exact r.get h
theorem lk_ix {K : PySem.W.Frag} (hK : C.K = K) : LinkR C (rIx K) dIx := by
  intro W σ α M H x y v u Q m rx ry h
  cases y with
  | int i =>
    cases ry
    cases x with
    | str z =>
      cases rx
      have h : Fin C W σ (RD C) α H (if z.length ≤ sizeLine then (match atI z.cps.toList i with
        | some c => .ok (.str ⟨#[c]⟩) M
        | none => .no) else .no) Q := h
      by_cases hz : z.length ≤ sizeLine
      · rw [if_pos hz] at h
        cases q : atI z.cps.toList i with
        | none => rw [q] at h; exact h.elim
        | some c => rw [q] at h; exact .inr (.inr ⟨z, i, c, rfl, rfl, hz, q, fin_ok (d := .str ⟨#[c]⟩) m rfl h⟩)
      · rw [if_neg hz] at h; exact h.elim
    | tup es =>
      have h : Fin C W σ (RD C) α H (match atI es i with
        | some d => .ok d M
        | none => .no) Q := h
      obtain ⟨a, vs, rfl, hs, rs⟩ := tupOf_ok (C := C) hK rx rfl
      cases q : atI es i with
      | none => rw [q] at h; exact h.elim
      | some d => rw [q] at h; obtain ⟨w, h1, h2⟩ := atI_rel rs q; exact .inr (.inl ⟨a, vs, i, w, rfl, rfl, hs, h1, fin_ok m h2 h⟩)
    | lst es =>
      have h : Fin C W σ (RD C) α H (match atI es i with
        | some d => .ok d M
        | none => .no) Q := h
      obtain ⟨a, vs, rfl, hs, rs⟩ := listOf_ok (M := M) hK m rx rfl
      cases q : atI es i with
      | none => rw [q] at h; exact h.elim
      | some d => rw [q] at h; obtain ⟨w, h1, h2⟩ := atI_rel rs q; exact .inl ⟨a, vs, i, w, rfl, rfl, hs, h1, fin_ok m h2 h⟩
    | scr es =>
      have h : Fin C W σ (RD C) α H (match atI es i with
        | some d => .ok d M
        | none => .no) Q := h
      obtain ⟨a, vs, rfl, hs, rs⟩ := listOf_ok (M := M) hK m rx rfl
      cases q : atI es i with
      | none => rw [q] at h; exact h.elim
      | some d => rw [q] at h; obtain ⟨w, h1, h2⟩ := atI_rel rs q; exact .inl ⟨a, vs, i, w, rfl, rfl, hs, h1, fin_ok m h2 h⟩
    | ref n =>
      have h : Fin C W σ (RD C) α H (match listOf M (.ref n) with
        | some ds => (match atI ds i with
          | some d => .ok d M
          | none => .no)
        | none => .no) Q := h
      cases q0 : listOf M (.ref n) with
      | none => rw [q0] at h; exact h.elim
      | some es =>
        rw [q0] at h
        have h : Fin C W σ (RD C) α H (match atI es i with
          | some d => .ok d M
          | none => .no) Q := h
        obtain ⟨a, vs, rfl, hs, rs⟩ := listOf_ok hK m rx q0
        cases q : atI es i with
        | none => rw [q] at h; exact h.elim
        | some d => rw [q] at h; obtain ⟨w, h1, h2⟩ := atI_rel rs q; exact .inl ⟨a, vs, i, w, rfl, rfl, hs, h1, fin_ok m h2 h⟩
    | _ => exact h.elim
  | _ => exact h.elim
theorem l_ix (ha : PE X a (LE C W eva)) (hb : PE X b (LE C W evb)) (hs : PlainIx b := by exact fun _ _ => rfl) (hK : C.K = X.K := by rfl) : PE X (.Subscript a b pos) (LE C W (ev2 dIx eva evb)) :=
  PEimp (pe_ix ix_seq ha hb hs) fun _ _ _ h => op2 (lk_ix hK) h
end
end L3

set_option Elab.async false
set_option linter.all false
set_option maxRecDepth 100000
set_option maxHeartbeats 4000000
namespace L3
open PySem PySem.Spec PyProof.Rows L2

/-! lists (false) and tuples (true) alike -/
def ItAt : Bool → Heap → Addr → Addr → Nat → Prop
  | true, h, it, a, i => h.IsTupleIter it a i
  | false, h, it, a, i => h.IsListIter it a i
def IsAt : Bool → Heap → Addr → Array Value → Prop
  | true, h, a, vs => h.IsTuple a vs
  | false, h, a, vs => h.IsList a vs
def SqAt : Bool → PySem.W.Frag → Hp → Addr → List V → Prop
  | true, K, H, a, xs => SqT K H a xs
  | false, K, H, a, xs => SqL K H a xs
def objIt : Bool → Addr → Obj
  | true, a => { cls := .type "tuple_iterator", data := .fields #[.ref a, .int 0 0] }
  | false, a => { cls := .type "list_iterator", data := .fields #[.ref a, .int 0 0] }
section
variable {X : Cx} {pins : List (Addr × Obj)} {σ : L2.St} {H : Hp} {s : Shared} {a : Addr} {xs ys : List V} {k : Bool}
theorem sq_is (I : Inv X pins σ H s) (h : SqAt k X.K H a xs) : ∃ its : List Value, Vals xs its ∧ IsAt k s.heap a its.toArray ∧ a < s.heap.objs.size := by
  cases k with
  | true => obtain ⟨its, r, p, _⟩ := I.tuple h; exact ⟨its, r, p, p.lt⟩
  | false => obtain ⟨its, r, p, _⟩ := I.list h; exact ⟨its, r, p.isList, p.lt⟩
theorem sq_inj (I : Inv X pins σ H s) (h : SqAt k X.K H a xs) (h' : SqAt k X.K H a ys) : xs = ys := by
  cases k with
  | true => exact I.tuple_inj h h'
  | false => exact I.list_inj h h'
theorem draws_at {P : Program} {w : World} {A : Around} (k : Bool) (hh : A.handled = none) (it a : Addr) (hne : a ≠ it) (its : Array Value) :
    Draws P w A it [it, a] its.size (fun i v => its[i]? = some v) (fun i h => ItAt k h it a i ∧ IsAt k h a its) := by
  cases k with
  | true => exact Draws.tuple hh it a hne its
  | false => exact Draws.list hh it a hne its
theorem begins_at (k : Bool) (a : Addr) (its : Array Value) : Begins (.ref a) (objIt k a) fun h => IsAt k h a its := by
  cases k with
  | true => exact begins_tuple a its
  | false => exact begins_list a its
theorem itAt_new {k : Bool} {h : Heap} {it a : Addr} (e : h.get? it = some (objIt k a)) : ItAt k h it a 0 := by
  cases k with
  | true => exact ⟨_, e, rfl, rfl⟩
  | false => exact ⟨_, e, rfl, rfl⟩
theorem ItAt.obj {k : Bool} {h : Heap} {it a : Addr} {i : Nat} (e : ItAt k h it a i) : ∃ o, h.get? it = some o ∧ ∀ v, o.data ≠ .cell v := by
  cases k with
  | true => obtain ⟨o, e, _, d⟩ := e; exact ⟨o, e, fun v z => by rw [d] at z; cases z⟩
  | false => obtain ⟨o, e, _, d⟩ := e; exact ⟨o, e, fun v z => by rw [d] at z; cases z⟩
theorem ItAt.keep {k : Bool} {h h' : Heap} {it a : Addr} {i : Nat} (e : ItAt k h it a i) (q : ∀ o, h.get? it = some o → h'.get? it = some o) : ItAt k h' it a i := by
  cases k with
  | true => exact Heap.IsTupleIter.at e q
  | false => exact Heap.IsListIter.at e q
end
/-! zip of two, each a list or a tuple -/
def JzAt (K : PySem.W.Frag) (k1 k2 : Bool) (a b : Addr) : It where
  go := fun i H => ∃ xs ys, SqAt k1 K H a xs ∧ SqAt k2 K H b ys ∧ i < min xs.length ys.length
  yld := fun i H v H' => ∃ T x y, v = .ref T ∧ H T = none ∧ H' = upd H T (.tup [x, y]) ∧ (∀ xs, SqAt k1 K H a xs → xs[i]? = some x) ∧ ∀ ys, SqAt k2 K H b ys → ys[i]? = some y
  stop := fun i H => ∃ xs ys, SqAt k1 K H a xs ∧ SqAt k2 K H b ys ∧ i = min xs.length ys.length
def zipSt (k1 k2 : Bool) (a b z TI TO i1 i2 : Addr) (i : Nat) (h : Heap) : Prop :=
  IsZip h z TI TO .none ∧ IsTupOf2 h TI (.ref i1) (.ref i2) ∧ (∃ x y, IsTupOf2 h TO x y) ∧ ItAt k1 h i1 a i ∧ ItAt k2 h i2 b i
theorem turn_zipAt {P : Program} {w : World} {K : PySem.W.Frag} {elts : List Expr} {kk : Nat} {tpos : Pos} (k1 k2 : Bool) {a b z TI TO i1 i2 : Addr} (S : ZipSep2 z TI TO i1 i2 [i1, a] [i2, b]) (n1 : a ≠ i1) (n2 : b ≠ i2) :
    Turn P w K (.Tuple elts kk tpos) (JzAt K k1 k2 a b) [z, TI, TO, i1, i2] z (zipSt k1 k2 a b z TI TO i1 i2) where
  mem := by simp
  obj := fun i h st c hc => by
    obtain ⟨h1, h2, ⟨x, y, h3⟩, h4, h5⟩ := st
    simp only [List.mem_cons, List.not_mem_nil, or_false] at hc
    rcases hc with q | q | q | q | q <;> subst q
    · exact ⟨_, h1, fun v q => nomatch q⟩
    · exact ⟨_, h2, fun v q => nomatch q⟩
    · exact ⟨_, h3, fun v q => nomatch q⟩
    · exact h4.obj
    · exact h5.obj
  keep := fun i h h' st k => by
    obtain ⟨h1, h2, ⟨x, y, h3⟩, h4, h5⟩ := st
    exact ⟨k z (by simp) _ h1, k TI (by simp) _ h2, ⟨x, y, k TO (by simp) _ h3⟩, h4.keep fun o q => k i1 (by simp) o q, h5.keep fun o q => k i2 (by simp) o q⟩
  item := by
    intro X hP hw hK hc i pins s σ H E I hf st hg
    subst hP hw hK
    obtain ⟨h1, h2, h3, h4, h5⟩ := st
    obtain ⟨xs, ys, hx, hy, hi⟩ := hg
    obtain ⟨us, ru, pu, _⟩ := sq_is I hx
    obtain ⟨ws, rw', pw, _⟩ := sq_is I hy
    have G := GoesN.zip2 (elts := elts) (x1 := kk) (pos := tpos) S (draws_at (P := X.prog) (w := X.w) (A := X.A.in1) k1 (I.ok.hd hc) i1 a n1 us.toArray) (draws_at (P := X.prog) (w := X.w) (A := X.A.in1) k2 (I.ok.hd hc) i2 b n2 ws.toArray)
    refine G.goes i s _ E (by simp only [List.size_toArray, ← ru.length, ← rw'.length]; exact hi) ⟨h1, h2, h3, ⟨h4, pu⟩, ⟨h5, pw⟩⟩ fun v h' tk hv st' kp _ => ?_
    obtain ⟨T, u, u2, rfl, hT, e1, e2, tT⟩ := hv
    obtain ⟨g1, g2, g3, ⟨g4, _⟩, ⟨g5, _⟩⟩ := st'
    have b1 : i < xs.length := Nat.lt_of_lt_of_le hi (Nat.min_le_left _ _)
    have b2 : i < ys.length := Nat.lt_of_lt_of_le hi (Nat.min_le_right _ _)
    obtain ⟨u', eu, ru'⟩ := ru.get (List.getElem?_eq_getElem b1)
    obtain ⟨w', ew, rw''⟩ := rw'.get (List.getElem?_eq_getElem b2)
    have q1 : us[i]? = some u := by simpa using e1
    have q2 : ws[i]? = some u2 := by simpa using e2
    rw [eu] at q1; rw [ew] at q2
    cases q1; cases q2
    have new : ObjOk X.prog X.w (upd H T (.tup [xs[i], ys[i]])) h' T (.tup [xs[i], ys[i]]) := ⟨by show 2 ≤ sizeLine; decide, [u, u2], .cons ru' (.cons rw'' .nil), tT⟩
    have sub : ∀ c, c ∈ [z, TO, i1, i2] → c ∈ [z, TI, TO, i1, i2] := fun c hc => by simp only [List.mem_cons, List.not_mem_nil, or_false] at hc ⊢; rcases hc with q | q | q | q <;> simp [q]
    have I1 := I.turnedNew (t' := tk) (ch := [z, TO, i1, i2]) kp (fun c hc => hf c (sub c hc)) hT new
    refine ⟨.ref T, _, I1, rfl, ⟨T, xs[i], ys[i], rfl, I.hok.fresh hT, rfl, fun l hl => ?_, fun l hl => ?_⟩, ⟨g1, g2, g3, g4, g5⟩, fun c hc => ?_⟩
    · rw [sq_inj I hl hx]; exact List.getElem?_eq_getElem b1
    · rw [sq_inj I hl hy]; exact List.getElem?_eq_getElem b2
    · have hlt : c < s.heap.objs.size := by
        obtain ⟨x, y, h3⟩ := h3
        simp only [List.mem_cons, List.not_mem_nil, or_false] at hc
        rcases hc with q | q | q | q | q <;> subst q
        · exact Heap.lt_size h1
        · exact Heap.lt_size h2
        · exact Heap.lt_size h3
        · obtain ⟨_, e, _⟩ := h4.obj; exact Heap.lt_size e
        · obtain ⟨_, e, _⟩ := h5.obj; exact Heap.lt_size e
      rw [upd_ne (Nat.ne_of_lt (Nat.lt_of_lt_of_le hlt hT))]
      exact (hf c hc).1
  done := by
    intro X hP hw hK hc i pins s σ H E I hf st hg
    subst hP hw hK
    obtain ⟨h1, h2, h3, h4, h5⟩ := st
    obtain ⟨xs, ys, hx, hy, hi⟩ := hg
    obtain ⟨us, ru, pu, _⟩ := sq_is I hx
    obtain ⟨ws, rw', pw, _⟩ := sq_is I hy
    have G := GoesN.zip2 (elts := elts) (x1 := kk) (pos := tpos) S (draws_at (P := X.prog) (w := X.w) (A := X.A.in1) k1 (I.ok.hd hc) i1 a n1 us.toArray) (draws_at (P := X.prog) (w := X.w) (A := X.A.in1) k2 (I.ok.hd hc) i2 b n2 ws.toArray)
    have en : i = min us.toArray.size ws.toArray.size := by simp only [List.size_toArray, ← ru.length, ← rw'.length]; exact hi
    subst en
    have sub : ∀ c, c ∈ [z, TO, i1, i2] → c ∈ [z, TI, TO, i1, i2] := fun c hc => by simp only [List.mem_cons, List.not_mem_nil, or_false] at hc ⊢; rcases hc with q | q | q | q <;> simp [q]
    exact G.stops s _ E ⟨h1, h2, h3, ⟨h4, pu⟩, ⟨h5, pw⟩⟩ fun h' tk kp _ => I.turnedL (t' := tk) (ch := [z, TO, i1, i2]) kp fun c hc => hf c (sub c hc)
  self := fun A i s Q E st h => wpAny_pyIter_zip st.1 h
def iZipM (K : PySem.W.Frag) (ta : TA) : TI := fun σ H R => ta σ H fun vs H1 => ∃ k1 k2 a b xs ys, vs = [.ref a, .ref b] ∧ SqAt k1 K H1 a xs ∧ SqAt k2 K H1 b ys ∧ R (JzAt K k1 k2 a b) H1
theorem fp_new {X : Cx} {pins : List (Addr × Obj)} {σ : L2.St} {H : Hp} {s : Shared} (I : Inv X pins σ H s) {c : Addr} (h : s.heap.objs.size ≤ c) : FpOk X pins H c := I.fpOk h (I.hok.fresh h)
theorem pi_zipM {X : Cx} {e e2 : Expr} {ta : TA} {p pos tpos : Pos} {elts : List Expr} {kk : Nat} (hg : Gl X "zip") (hm : X.mg "zip" = none) (ha : PA X [e, e2] ta)
    (hs : starEach [e, e2] X.env = (false, eval e X.env) :: starEach [e2] X.env := by rfl) (hpl : (backTo pos (starEach [e2] X.env)).any (·.1) = false := by rfl) :
    PI X (.Tuple elts kk tpos) (.Call (.Name "zip" p) [e, e2] [] pos) (iZipM X.K ta) := by
  refine ⟨fun pins s σ H R I h => Call_ (ld_blt I hg hm PyProof.Rows.boot_zip (PyProof.Rows.callWith_type1 (thn (ha.run pos pins s σ H _ I h) fun us s1 ⟨vs, H1, I1, r1, q1⟩ => ?_) hs hpl))⟩
  obtain ⟨k1, k2, a, b, xs, ys, rfl, hx, hy, q⟩ := q1
  obtain ⟨u1, u2, rfl, r1, r2⟩ := Vals.two r1
  cases r1; cases r2
  obtain ⟨us, ru, pu, la⟩ := sq_is I1 hx
  obtain ⟨ws, rw', pw, lb⟩ := sq_is I1 hy
  refine zip_begins2 (begins_at k1 a us.toArray) (begins_at k2 b ws.toArray) pu pw fun h' g1 g2 g3 g4 g5 gs kp => wpAny_pyIter_zip g1 ?_
  have I2 : Inv X pins σ H1 { s1 with heap := h' } := I1.kept (t' := s1.toks) kp
  refine ⟨s1.heap.objs.size + 4, [s1.heap.objs.size + 4, s1.heap.objs.size + 2, s1.heap.objs.size + 3, s1.heap.objs.size, s1.heap.objs.size + 1], _, _, H1, rfl, I2,
    turn_zipAt k1 k2 (zip_sep2 (N := s1.heap.objs.size) (fp1 := [a]) (fp2 := [b]) (by simpa using la) (by simpa using lb)) (Nat.ne_of_lt la) (Nat.ne_of_lt (Nat.lt_succ_of_lt lb)), ⟨g1, g2, ⟨_, _, g3⟩, itAt_new g4, itAt_new g5⟩, fun c hc => ?_, q⟩
  simp only [List.mem_cons, List.not_mem_nil, or_false] at hc
  refine fp_new I1 ?_
  rcases hc with q | q | q | q | q <;> subst q <;> first | exact Nat.le_add_right _ _ | exact Nat.le_refl _
/-! enumerate of a list or a tuple -/
def JeAt (K : PySem.W.Frag) (k : Bool) (a : Addr) : It where
  go := fun i H => ∃ xs, SqAt k K H a xs ∧ i < xs.length
  yld := fun i H v H' => ∃ T x, v = .ref T ∧ H T = none ∧ H' = upd H T (.tup [.int (i : Nat), x]) ∧ ∀ xs, SqAt k K H a xs → xs[i]? = some x
  stop := fun i H => ∃ xs, SqAt k K H a xs ∧ i = xs.length
def enumSt (k : Bool) (a e it : Addr) (i : Nat) (h : Heap) : Prop := (∃ old, IsEnum h e it (0 + (i : Int)) old) ∧ ItAt k h it a i
theorem turn_enumAt {P : Program} {w : World} {K : PySem.W.Frag} {elts : List Expr} {kk : Nat} {tpos : Pos} (k : Bool) {a e it : Addr} (n1 : a ≠ it) (n2 : e ≠ it) (n3 : e ≠ a) :
    Turn P w K (.Tuple elts kk tpos) (JeAt K k a) [e, it] e (enumSt k a e it) where
  mem := by simp
  obj := fun i h st c hc => by
    obtain ⟨⟨old, h1⟩, h2⟩ := st
    simp only [List.mem_cons, List.not_mem_nil, or_false] at hc
    rcases hc with q | q <;> subst q
    · exact ⟨_, h1, fun v q => nomatch q⟩
    · exact h2.obj
  keep := fun i h h' st k => by
    obtain ⟨⟨old, h1⟩, h2⟩ := st
    exact ⟨⟨old, k e (by simp) _ h1⟩, h2.keep fun o q => k it (by simp) o q⟩
  item := by
    intro X hP hw hK hc i pins s σ H E I hf st hg
    subst hP hw hK
    obtain ⟨⟨old, h1⟩, h2⟩ := st
    obtain ⟨xs, hx, hi⟩ := hg
    obtain ⟨us, ru, pu, _⟩ := sq_is I hx
    have G := GoesN.enumFrom (elts := elts) (x1 := kk) (pos := tpos) 0 (draws_at (P := X.prog) (w := X.w) (A := X.A.in1) k (I.ok.hd hc) it a n1 us.toArray) e n2 (by simp [n2, n3]) (by simp)
    refine G.goes i s _ E (by simp only [List.size_toArray, ← ru.length]; exact hi) ⟨⟨old, h1⟩, h2, pu⟩ fun v h' tk hv st' kp _ => ?_
    obtain ⟨T, t, u, rfl, hT, e1, tT⟩ := hv
    obtain ⟨⟨old', g1⟩, g2, _⟩ := st'
    obtain ⟨u', eu, ru'⟩ := ru.get (List.getElem?_eq_getElem hi)
    have q1 : us[i]? = some u := by simpa using e1
    rw [eu] at q1
    cases q1
    rw [Int.zero_add] at tT
    have new : ObjOk X.prog X.w (upd H T (.tup [.int (i : Nat), xs[i]])) h' T (.tup [.int (i : Nat), xs[i]]) := ⟨by show 2 ≤ sizeLine; decide, [.int (i : Nat) t, u], .cons ⟨_, rfl⟩ (.cons ru' .nil), tT⟩
    have I1 := I.turnedNew (t' := tk) (ch := [e, it]) kp hf hT new
    refine ⟨.ref T, _, I1, rfl, ⟨T, xs[i], rfl, I.hok.fresh hT, rfl, fun l hl => ?_⟩, ⟨⟨old', g1⟩, g2⟩, fun c hc => ?_⟩
    · rw [sq_inj I hl hx]; exact List.getElem?_eq_getElem hi
    · have hlt : c < s.heap.objs.size := by
        simp only [List.mem_cons, List.not_mem_nil, or_false] at hc
        rcases hc with q | q <;> subst q
        · exact Heap.lt_size h1
        · obtain ⟨_, e, _⟩ := h2.obj; exact Heap.lt_size e
      rw [upd_ne (Nat.ne_of_lt (Nat.lt_of_lt_of_le hlt hT))]
      exact (hf c hc).1
  done := by
    intro X hP hw hK hc i pins s σ H E I hf st hg
    subst hP hw hK
    obtain ⟨⟨old, h1⟩, h2⟩ := st
    obtain ⟨xs, hx, hi⟩ := hg
    obtain ⟨us, ru, pu, _⟩ := sq_is I hx
    have G := GoesN.enumFrom (elts := elts) (x1 := kk) (pos := tpos) 0 (draws_at (P := X.prog) (w := X.w) (A := X.A.in1) k (I.ok.hd hc) it a n1 us.toArray) e n2 (by simp [n2, n3]) (by simp)
    have en : i = us.toArray.size := by simp only [List.size_toArray, ← ru.length]; exact hi
    subst en
    exact G.stops s _ E ⟨⟨old, h1⟩, h2, pu⟩ fun h' tk kp _ => I.turnedL (t' := tk) (ch := [e, it]) kp hf
  self := fun A i s Q E st h => let ⟨⟨_, h1⟩, _⟩ := st; wpAny_pyIter_enum h1 h
set_option maxHeartbeats 2000000 in
/-- enumerate(v) makes its two cells -/
theorem enum_made {v : Value} {o : Obj} {Hh : Heap → Prop} (B : Begins v o Hh) :
    Meets (Builtin.«enumerate.__new__» ⟨[.type "enumerate", v], []⟩) (fun _ R s => Hh s.heap ∧
      R (.ok (.ret (.ref (s.heap.push o).objs.size))) { s with heap := (s.heap.push o).push { cls := .type "enumerate", data := .fields #[.none, .bool false, .ref s.heap.objs.size, rawInt 0, .none, .none] } }) :=
  .of_wp fun P w A R s hh => by
    obtain ⟨hp, g, dr, tk, os⟩ := s
    obtain ⟨h1, hR⟩ := hh
    have sb := sub_enumerate
    have go : ∀ {B' : Around} {E : Value → Shared → Prop} {Q : Value → Shared → Prop}, Q (.ref hp.objs.size) ⟨hp.push o, g, dr, tk, os⟩ → wpAny (model P w) B' (pyIter v) Q E ⟨hp, g, dr, tk, os⟩ :=
      fun q => B.iter P w _ _ ⟨hp, g, dr, tk, os⟩ _ h1 q
    wp_walk using go
    refine wpAny_stack_any fun st => wpAny_pure ?_
    split
    · rename_i cc _ _ _ _ _
      cases (cc == Value.type "enumerate") <;> (wp_walk using go; exact ⟨_, rfl, hR⟩)
    · wp_walk using go
      exact ⟨_, rfl, hR⟩
theorem call_enum {P : Program} {w : World} {A : Around} {E : Value → Shared → Prop} {s : Shared} {v : Value} {o : Obj} {Hh : Heap → Prop} {Q : Value → Shared → Prop} (B : Begins v o Hh) (h1 : Hh s.heap)
    (h : ∀ h', IsEnum h' (s.heap.objs.size + 1) s.heap.objs.size 0 .none → h'.get? s.heap.objs.size = some o → (∀ b u, s.heap.get? b = some u → h'.get? b = some u) → Q (.ref (s.heap.objs.size + 1)) { s with heap := h' }) :
    wpAny (model P w) A (call (.type "enumerate") [v]) Q E s := by
  refine callType_new F.called_enumerate (by decide) (F.typeCall_enumerate_1 _) (F.newCall_enumerate_1 _) (fun x => F.args_object_init_2 x _) F.entry_enumerate_new (enum_made B) ⟨h1, ?_⟩
  have z : (s.heap.push o).objs.size = s.heap.objs.size + 1 := Heap.size_push ..
  show _ ∧ _
  rw [z]
  have en : IsEnum ((s.heap.push o).push { cls := .type "enumerate", data := .fields #[.none, .bool false, .ref s.heap.objs.size, rawInt 0, .none, .none] }) (s.heap.objs.size + 1) s.heap.objs.size 0 .none := by
    have q := Heap.get?_push_size (s.heap.push o) (o := { cls := .type "enumerate", data := .fields #[.none, .bool false, .ref s.heap.objs.size, rawInt 0, .none, .none] }) rfl
    rw [z] at q
    exact q
  exact ⟨⟨_, en, rfl⟩, h _ en (Heap.get?_push_of_some _ (Heap.get?_push_size _ B.free)) fun b u q => Heap.get?_push_of_some _ (Heap.get?_push_of_some _ q)⟩
def iEnumM (K : PySem.W.Frag) (ta : TA) : TI := fun σ H R => ta σ H fun vs H1 => ∃ k a xs, vs = [.ref a] ∧ SqAt k K H1 a xs ∧ R (JeAt K k a) H1
theorem pi_enumM {X : Cx} {e : Expr} {ta : TA} {p pos tpos : Pos} {elts : List Expr} {kk : Nat} (hg : Gl X "enumerate") (hm : X.mg "enumerate" = none) (ha : PA X [e] ta) (hs : starEach [e] X.env = [(false, eval e X.env)] := by rfl) :
    PI X (.Tuple elts kk tpos) (.Call (.Name "enumerate" p) [e] [] pos) (iEnumM X.K ta) := by
  refine ⟨fun pins s σ H R I h => Call_ (ld_blt I hg hm boot_enumerate (PyProof.Rows.callWith_type1 (thn (ha.run pos pins s σ H _ I h) fun us s1 ⟨vs, H1, I1, r1, q1⟩ => ?_) hs rfl))⟩
  obtain ⟨k, a, xs, rfl, hx, q⟩ := q1
  obtain ⟨u1, rfl, r2⟩ := Vals.one r1
  obtain rfl : u1 = Value.ref a := r2
  obtain ⟨us, ru, pu, la⟩ := sq_is I1 hx
  refine call_enum (begins_at k a us.toArray) pu fun h' g1 g2 kp => wpAny_pyIter_enum g1 ?_
  have I2 : Inv X pins σ H1 { s1 with heap := h' } := I1.kept (t' := s1.toks) kp
  refine ⟨s1.heap.objs.size + 1, [s1.heap.objs.size + 1, s1.heap.objs.size], _, _, H1, rfl, I2, turn_enumAt k (Nat.ne_of_lt la) (Nat.succ_ne_self _) (Nat.ne_of_gt (Nat.lt_succ_of_lt la)), ⟨⟨_, g1⟩, itAt_new g2⟩, fun c hc => ?_, q⟩
  simp only [List.mem_cons, List.not_mem_nil, or_false] at hc
  refine fp_new I1 ?_
  rcases hc with q | q <;> subst q <;> first | exact Nat.le_add_right _ _ | exact Nat.le_refl _
/-! ### what a loop walks -/
def srcOf (M : Mem) : D → Option (Bool × Src)
  | .tup ds => some (true, ⟨ds, []⟩)
  | .lst ds => some (false, ⟨ds, []⟩)
  | .scr ds => some (false, ⟨ds, []⟩)
  | .ref n => match M[n]? with
    | some (.lst ds) => some (false, ⟨ds, [(n, ds)]⟩)
    | _ => none
  | _ => none
/-- at every later time the source stands -/
def SrcOk (C : Ct) (k : Bool) (a : Addr) (src : Src) (α : List Addr) (H : Hp) : Prop :=
  ∀ α' M' H', Ext α H α' H' → SMem C α' M' H' → watched src.watch M' = true → ∃ vs, SqAt k C.K H' a vs ∧ Rls C α' H' src.items vs
theorem SrcOk.ext {C : Ct} {k : Bool} {a : Addr} {src : Src} {α α' : List Addr} {H H' : Hp} (h : SrcOk C k a src α H) (e : Ext α H α' H') : SrcOk C k a src α' H' := fun x y z e' m w => h x y z (e.trans e') m w
theorem srcOf_ok {C : Ct} {α : List Addr} {M : Mem} {H : Hp} {d : D} {v : V} {k : Bool} {src : Src} (m : SMem C α M H) (r : Rl C α H d v) (h : srcOf M d = some (k, src)) :
    ∃ a, v = .ref a ∧ SrcOk C k a src α H ∧ ∃ vs, SqAt k C.K H a vs ∧ Rls C α H src.items vs := by
  have done : ∀ {a : Addr}, v = .ref a → SrcOk C k a src α H → watched src.watch M = true → ∃ a, v = .ref a ∧ SrcOk C k a src α H ∧ ∃ vs, SqAt k C.K H a vs ∧ Rls C α H src.items vs :=
    fun {a} e s w => ⟨a, e, s, s α M H (Ext.refl _ _) m w⟩
  cases d with
  | tup ds =>
    cases h
    obtain ⟨a, vs, rfl, hs, rs⟩ := r
    refine done rfl (fun α' M' H' e m' _ => ⟨vs, ?_, rs.ext e⟩) rfl
    rcases hs with ⟨n, hs⟩ | hs
    · exact Or.inl (e.rd n hs).2
    · exact Or.inr hs
  | lst ds =>
    cases h
    obtain ⟨a, vs, rfl, n, hs, rs⟩ := r
    exact done rfl (fun α' M' H' e m' _ => ⟨vs, .inl (.inl (e.keep _ _ hs n)), rs.ext e⟩) rfl
  | scr ds =>
    cases h
    obtain ⟨a, vs, rfl, hs, rs⟩ := r
    refine done rfl (fun α' M' H' e m' _ => ⟨vs, ?_, rs.ext e⟩) rfl
    rcases hs with ⟨n, hs⟩ | hs
    · exact Or.inl (e.rd n hs).2
    · exact Or.inr hs
  | ref n =>
    have h : (match M[n]? with
      | some (.lst ds) => some (false, (⟨ds, [(n, ds)]⟩ : Src))
      | _ => none) = some (k, src) := h
    cases q : M[n]? with
    | none => rw [q] at h; cases h
    | some c =>
      rw [q] at h
      cases c with
      | lst ds =>
        cases h
        obtain ⟨a, ha, rfl⟩ := r
        refine done rfl (fun α' M' H' e m' w => ?_) (by simp [watched, q])
        have w' : M'[n]? = some (.lst ds) := by simpa [watched] using w
        obtain ⟨vs, hv, rs⟩ := m'.cell n _ a w' (e.get ha)
        exact ⟨vs, .inl (.inl hv), rs⟩
      | _ => cases h
  | _ => cases h
theorem watched_app {a b : List (Nat × List D)} {M : Mem} (h : watched (a ++ b) M = true) : watched a M = true ∧ watched b M = true := by
  unfold watched at h ⊢
  rw [List.all_append, Bool.and_eq_true] at h
  exact h
def ivSeq (e : EV) : IV := fun σ M => (e σ M).bind fun d M1 => match srcOf M1 d with
  | some (_, s) => .ok s M1
  | none => .no
def rangeD (lo : Int) (n : Nat) : List D := (List.range n).map fun i => .int (lo + ((i : Nat) : Int))
def inR (i : Int) : Bool := decide (-(2 ^ 62) ≤ i) && decide (i < 2 ^ 62)
/-- one int, or nothing -/
def oneInt : List D → Option Int
  | [.int j] => some j
  | _ => none
def twoInt : List D → Option (Int × Int)
  | [.int i, .int j] => some (i, j)
  | _ => none
def oneD : List D → Option D
  | [d] => some d
  | _ => none
def twoD : List D → Option (D × D)
  | [d, e] => some (d, e)
  | _ => none
def ivR1 (t : AV) : IV := fun σ M => (t σ M).bind fun ds M1 => match oneInt ds with
  | some j => if inR j = true then .ok ⟨rangeD 0 j.toNat, []⟩ M1 else .no
  | none => .no
def ivR2 (t : AV) : IV := fun σ M => (t σ M).bind fun ds M1 => match twoInt ds with
  | some (i, j) => if inR i = true ∧ inR j = true then .ok ⟨rangeD i (j - i).toNat, []⟩ M1 else .no
  | none => .no
def enumD : Nat → List D → List D
  | _, [] => []
  | k, d :: r => .tup [.int (k : Nat), d] :: enumD (k + 1) r
def ivEnum (t : AV) : IV := fun σ M => (t σ M).bind fun ds M1 => match (oneD ds).bind (srcOf M1) with
  | some (_, s) => .ok ⟨enumD 0 s.items, s.watch⟩ M1
  | none => .no
def ivZip (t : AV) : IV := fun σ M => (t σ M).bind fun ds M1 => match (twoD ds).bind fun p => (srcOf M1 p.1).bind fun s => (srcOf M1 p.2).map fun u => (s, u) with
  | some (s, u) => .ok ⟨List.zipWith (fun x y => .tup [x, y]) s.2.items u.2.items, s.2.watch ++ u.2.watch⟩ M1
  | none => .no
def ivRev (e : EV) : IV := fun σ M => (e σ M).bind fun d M1 => match srcOf M1 d with
  | some (_, s) => .ok ⟨s.items.reverse, s.watch⟩ M1
  | none => .no
theorem enumD_get : ∀ (ds : List D) (k i : Nat) (x : D), (enumD k ds)[i]? = some x → ∃ d, ds[i]? = some d ∧ x = .tup [.int ((k + i : Nat) : Int), d]
  | [], k, i, x, h => by simp [enumD] at h
  | d :: r, k, 0, x, h => by simp [enumD] at h; exact ⟨d, rfl, by rw [← h]; simp⟩
  | d :: r, k, i + 1, x, h => by
    obtain ⟨e, h1, h2⟩ := enumD_get r (k + 1) i x (by simpa [enumD] using h)
    exact ⟨e, by simpa using h1, by rw [h2]; congr 2; congr 1; omega⟩
theorem enumD_length : ∀ (ds : List D) (k : Nat), (enumD k ds).length = ds.length
  | [], _ => rfl
  | _ :: r, k => by simp [enumD, enumD_length r (k + 1)]
section
variable {X : Cx} {C : Ct} {W : WX} {e e2 : Expr} {eva evb : EV} {tg : Expr} {p pos tpos : Pos} {av : AV}
/-- an item that is yielded with the heap as it is -/
theorem jok_same {J : It} {src : Src} {α : List Addr} {H : Hp} (h : ∀ α' M' H', Ext α H α' H' → SMem C α' M' H' → watched src.watch M' = true → ∀ i : Nat,
    (∀ d, src.items[i]? = some d → J.go i H' ∧ ∀ x H2, J.yld i H' x H2 → H2 = H' ∧ Rl C α' H' d x) ∧ (src.items.length = i → J.stop i H')) : JOk C J src α H :=
  fun α' M' H' e m w i => ⟨fun d z => let ⟨a, b⟩ := (h α' M' H' e m w i).1 d z; ⟨a, fun x H2 y => by obtain ⟨rfl, r⟩ := b x H2 y; exact ⟨Ext.refl _ _, m, r⟩⟩, (h α' M' H' e m w i).2⟩
def Jk : Bool → PySem.W.Frag → Addr → It
  | true, K, a => Itt K a
  | false, K, a => Itl K a
theorem jok_seq {k : Bool} {a : Addr} {src : Src} {α : List Addr} {H : Hp} (s : SrcOk C k a src α H) : JOk C (Jk k C.K a) src α H := by
  refine jok_same fun α' M' H' e m w i => ?_
  obtain ⟨vs, hs, rs⟩ := s α' M' H' e m w
  cases k with
  | true =>
    refine ⟨fun d z => ?_, fun z => ⟨vs, hs, by rw [rs.length]; exact Nat.le_of_eq z⟩⟩
    obtain ⟨v, h1, h2⟩ := rs.get z
    refine ⟨⟨vs, v, hs, h1⟩, fun x H2 y => ⟨y.1, ?_⟩⟩
    have := y.2 vs hs
    rw [h1] at this; cases this; exact h2
  | false =>
    refine ⟨fun d z => ?_, fun z => ⟨vs, hs, by rw [rs.length]; exact Nat.le_of_eq z⟩⟩
    obtain ⟨v, h1, h2⟩ := rs.get z
    refine ⟨⟨vs, v, hs, h1⟩, fun x H2 y => ⟨y.1, ?_⟩⟩
    have := y.2 vs hs
    rw [h1] at this; cases this; exact h2
theorem i_seq (he : PE X e (LE C W eva)) (hK : C.K = X.K := by rfl) : PI X tg e (LI C W (ivSeq eva)) := by
  refine ⟨fun pins s σ H R I ⟨α, σ3, M, m, st, h⟩ => ?_⟩
  have h1 := Fin.bind (Rel := RD C) h
  have hb : ∀ k : Bool, (∀ d M1, eva σ3 M = .ok d M1 → ∀ q src, srcOf M1 d = some (q, src) → q = k) → wpAny (model X.prog X.w) X.A (eval e X.env) (fun v s1 => wpAny (model X.prog X.w) X.A (pyIter v) (PIE X pins σ tg R) X.xe s1) X.xe s := fun k hk => by
    have core : ∀ v H1, (∃ α1 M1 d, eva σ3 M = .ok d M1 ∧ Ext α H α1 H1 ∧ SMem C α1 M1 H1 ∧ Rl C α1 H1 d v ∧ Fin C W σ (fun α H src J => JOk C J src α H) α1 H1 (match srcOf M1 d with
        | some (_, s) => .ok s M1
        | none => .no) R) → ∃ a, v = .ref a ∧ (∃ xs, SqAt k X.K H1 a xs) ∧ R (Jk k X.K a) H1 := by
      rintro v H1 ⟨α1, M1, d, ev, e1, m1, r1, h2⟩
      cases q : srcOf M1 d with
      | none => rw [q] at h2; exact h2.elim
      | some ks =>
        obtain ⟨k', src⟩ := ks
        rw [q] at h2
        obtain rfl := hk d M1 ev k' src q
        obtain ⟨a, rfl, so, vs, hs, rs⟩ := srcOf_ok m1 r1 q
        rw [← hK]
        exact ⟨a, rfl, ⟨vs, hs⟩, h2 α1 H1 _ (Ext.refl _ _) m1 (jok_seq so)⟩
    have rd : LE C W eva σ H fun v H1 => ∃ a, v = .ref a ∧ (∃ xs, SqAt k X.K H1 a xs) ∧ R (Jk k X.K a) H1 := by
      refine ⟨α, σ3, M, m, st, ?_⟩
      cases z : eva σ3 M with
      | ok d M1 =>
        have h : Fin C W σ (fun α H src J => JOk C J src α H) α H ((eva σ3 M).bind _) R := h
        rw [z] at h
        exact fun α1 H1 v e1 m1 r1 => core v H1 ⟨α1, M1, d, z, e1, m1, r1, Fin.ext h e1⟩
      | exc c ds M1 =>
        have h : Fin C W σ (fun α H src J => JOk C J src α H) α H ((eva σ3 M).bind _) R := h
        rw [z] at h
        exact h
      | no =>
        have h : Fin C W σ (fun α H src J => JOk C J src α H) α H ((eva σ3 M).bind _) R := h
        rw [z] at h
        exact h
    cases k with
    | true => exact (pi_tup he).run pins s σ H R I rd
    | false => exact (pi_list he).run pins s σ H R I rd
  cases z : eva σ3 M with
  | ok d M1 =>
    cases q : srcOf M1 d with
    | none =>
      refine hb true fun d' M' e' q' src h' => ?_
      rw [z] at e'; cases e'
      rw [q] at h'; cases h'
    | some ks =>
      refine hb ks.1 fun d' M' e' q' src h' => ?_
      rw [z] at e'; cases e'
      rw [q] at h'; cases h'; rfl
  | exc c ds M1 => exact hb true fun d' M' e' => by rw [z] at e'; cases e'
  | no => exact hb true fun d' M' e' => by rw [z] at e'; cases e'
theorem range_get {lo : Int} {n i : Nat} {d : D} (h : (rangeD lo n)[i]? = some d) : i < n ∧ d = .int (lo + (i : Nat)) := by
  unfold rangeD at h
  rw [List.getElem?_map] at h
  by_cases hi : i < n
  · rw [List.getElem?_range hi] at h; cases h; exact ⟨hi, rfl⟩
  · rw [List.getElem?_eq_none (by simpa using hi)] at h; cases h
theorem jok_range {lo : Int} {n : Nat} {α : List Addr} {H : Hp} : JOk C (Itr lo n) ⟨rangeD lo n, []⟩ α H := by
  refine jok_same fun α' M' H' e m w i => ⟨fun d z => ?_, fun z => ?_⟩
  · obtain ⟨h1, rfl⟩ := range_get z
    exact ⟨h1, fun x H2 y => ⟨y.1, y.2⟩⟩
  · have z : (rangeD lo n).length = i := z
    unfold rangeD at z
    rw [List.length_map, List.length_range] at z
    exact Nat.le_of_eq z
theorem inR_ok {i : Int} (h : inR i = true) : -(2 ^ 62) ≤ i ∧ i < 2 ^ 62 := by
  obtain ⟨a, b⟩ := Bool.and_eq_true_iff.mp h
  exact ⟨of_decide_eq_true a, of_decide_eq_true b⟩
theorem Rls.int1 {α : List Addr} {H : Hp} {i : Int} {vs : List V} (h : Rls C α H [.int i] vs) : vs = [.int i] := by
  obtain ⟨v, r, rfl, a, b⟩ := h; cases a; cases b; rfl
theorem Rls.int2 {α : List Addr} {H : Hp} {i j : Int} {vs : List V} (h : Rls C α H [.int i, .int j] vs) : vs = [.int i, .int j] := by
  obtain ⟨v, r, rfl, a, v2, r2, rfl, b, c⟩ := h; cases a; cases b; cases c; rfl
theorem oneInt_ok {α : List Addr} {H : Hp} {ds : List D} {vs : List V} {j : Int} (h : oneInt ds = some j) (r : Rls C α H ds vs) : vs = [.int j] := by
  unfold oneInt at h
  split at h
  · cases h; exact r.int1
  · cases h
theorem twoInt_ok {α : List Addr} {H : Hp} {ds : List D} {vs : List V} {i j : Int} (h : twoInt ds = some (i, j)) (r : Rls C α H ds vs) : vs = [.int i, .int j] := by
  unfold twoInt at h
  split at h
  · cases h; exact r.int2
  · cases h
theorem i_range1 {a : Expr} (hg : Gl X "range") (hm : X.mg "range" = none) (ha : PA X [a] (LA C W av)) (hs : starEach [a] X.env = [(false, eval a X.env)] := by rfl) : PI X tg (.Call (.Name "range" p) [a] [] pos) (LI C W (ivR1 av)) := by
  refine PIimp (pi_range1 hg hm ha hs) fun σ H R ⟨α, σ3, M, m, st, h⟩ => ⟨α, σ3, M, m, st, (Fin.bind h).mono fun vs H1 ⟨α1, M1, ds, e1, m1, r1, h1⟩ => ?_⟩
  cases q : oneInt ds with
  | none => rw [q] at h1; exact h1.elim
  | some j =>
    rw [q] at h1
    have h1 : Fin C W σ (fun α H src J => JOk C J src α H) α1 H1 (if inR j = true then .ok ⟨rangeD 0 j.toNat, []⟩ M1 else .no) R := h1
    by_cases z : inR j = true
    · rw [if_pos z] at h1
      exact ⟨j, oneInt_ok q r1, (inR_ok z).1, (inR_ok z).2, h1 α1 H1 _ (Ext.refl _ _) m1 jok_range⟩
    · rw [if_neg z] at h1; exact h1.elim
theorem i_range2 {a b : Expr} (hg : Gl X "range") (hm : X.mg "range" = none) (ha : PA X [a, b] (LA C W av)) (hs : starEach [a, b] X.env = [(false, eval a X.env), (false, eval b X.env)] := by rfl) (hs2 : starEach [b] X.env = [(false, eval b X.env)] := by rfl) : PI X tg (.Call (.Name "range" p) [a, b] [] pos) (LI C W (ivR2 av)) := by
  refine PIimp (pi_range2 hg hm ha hs hs2) fun σ H R ⟨α, σ3, M, m, st, h⟩ => ⟨α, σ3, M, m, st, (Fin.bind h).mono fun vs H1 ⟨α1, M1, ds, e1, m1, r1, h1⟩ => ?_⟩
  cases q : twoInt ds with
  | none => rw [q] at h1; exact h1.elim
  | some ij =>
    obtain ⟨i, j⟩ := ij
    rw [q] at h1
    have h1 : Fin C W σ (fun α H src J => JOk C J src α H) α1 H1 (if inR i = true ∧ inR j = true then .ok ⟨rangeD i (j - i).toNat, []⟩ M1 else .no) R := h1
    by_cases z : inR i = true ∧ inR j = true
    · rw [if_pos z] at h1
      exact ⟨i, j, twoInt_ok q r1, ⟨(inR_ok z.1).1, (inR_ok z.1).2, (inR_ok z.2).1, (inR_ok z.2).2⟩, h1 α1 H1 _ (Ext.refl _ _) m1 jok_range⟩
    · rw [if_neg z] at h1; exact h1.elim
theorem tup2_rl {α : List Addr} {H : Hp} {M : Mem} {d e : D} {v u : V} {T : Addr} (m : SMem C α M H) (hT : H T = none) (rd : Rl C α H d v) (re : Rl C α H e u) : Ext α H α (upd H T (.tup [v, u])) ∧ SMem C α M (upd H T (.tup [v, u])) ∧ Rl C α (upd H T (.tup [v, u])) (.tup [d, e]) (.ref T) := by
  have ex := Ext.laid (C := C) (α := α) (M := M) (o := HO.tup [v, u]) hT
  exact ⟨ex, m.laid hT, T, [v, u], rfl, .inl ⟨m.new hT, .inl upd_same⟩, (Rls.cons rd (Rls.one re)).ext ex⟩
theorem jok_enum {k : Bool} {a : Addr} {src : Src} {α : List Addr} {H : Hp} (s : SrcOk C k a src α H) : JOk C (JeAt C.K k a) ⟨enumD 0 src.items, src.watch⟩ α H := by
  intro α' M' H' e m w i
  obtain ⟨vs, hs, rs⟩ := s α' M' H' e m w
  refine ⟨fun d z => ?_, fun z => ⟨vs, hs, by rw [rs.length]; have z : (enumD 0 src.items).length = i := z; rw [enumD_length] at z; exact z.symm⟩⟩
  obtain ⟨d0, h0, rfl⟩ := enumD_get _ _ _ _ z
  obtain ⟨v, h1, h2⟩ := rs.get h0
  refine ⟨⟨vs, hs, (List.getElem?_eq_some_iff.mp h1).1⟩, fun x H2 y => ?_⟩
  obtain ⟨T, x', rfl, hT, rfl, hx⟩ := y
  have := hx vs hs
  rw [h1] at this; cases this
  rw [Nat.zero_add]
  exact tup2_rl m hT (d := .int (i : Nat)) rfl h2
theorem jok_zip {k1 k2 : Bool} {a b : Addr} {s u : Src} {α : List Addr} {H : Hp} (hs : SrcOk C k1 a s α H) (hu : SrcOk C k2 b u α H) : JOk C (JzAt C.K k1 k2 a b) ⟨List.zipWith (fun x y => .tup [x, y]) s.items u.items, s.watch ++ u.watch⟩ α H := by
  intro α' M' H' e m w i
  obtain ⟨w1, w2⟩ := watched_app w
  obtain ⟨vs, h1, r1⟩ := hs α' M' H' e m w1
  obtain ⟨ws, h2, r2⟩ := hu α' M' H' e m w2
  refine ⟨fun d z => ?_, fun z => ⟨vs, ws, h1, h2, ?_⟩⟩
  · have z : (List.zipWith (fun x y => D.tup [x, y]) s.items u.items)[i]? = some d := z
    rw [List.getElem?_zipWith] at z
    cases q1 : s.items[i]? with
    | none => rw [q1] at z; cases z
    | some d1 =>
      cases q2 : u.items[i]? with
      | none => rw [q1, q2] at z; cases z
      | some d2 =>
        rw [q1, q2] at z; cases z
        obtain ⟨v1, g1, t1⟩ := r1.get q1
        obtain ⟨v2, g2, t2⟩ := r2.get q2
        refine ⟨⟨vs, ws, h1, h2, Nat.lt_min.mpr ⟨(List.getElem?_eq_some_iff.mp g1).1, (List.getElem?_eq_some_iff.mp g2).1⟩⟩, fun x H2 y => ?_⟩
        obtain ⟨T, x1, x2, rfl, hT, rfl, hx1, hx2⟩ := y
        have e1 := hx1 vs h1
        have e2 := hx2 ws h2
        rw [g1] at e1; rw [g2] at e2
        cases e1; cases e2
        exact tup2_rl m hT t1 t2
  · have z : (List.zipWith (fun x y => D.tup [x, y]) s.items u.items).length = i := z
    rw [List.length_zipWith] at z
    rw [r1.length, r2.length]; exact z.symm
theorem i_enum {elts : List Expr} {kk : Nat} (hg : Gl X "enumerate") (hm : X.mg "enumerate" = none) (ha : PA X [e] (LA C W av)) (hs : starEach [e] X.env = [(false, eval e X.env)] := by rfl) (hK : C.K = X.K := by rfl) : PI X (.Tuple elts kk tpos) (.Call (.Name "enumerate" p) [e] [] pos) (LI C W (ivEnum av)) := by
  refine PIimp (pi_enumM hg hm ha hs) fun σ H R ⟨α, σ3, M, m, st, h⟩ => ⟨α, σ3, M, m, st, (Fin.bind h).mono fun vs H1 ⟨α1, M1, ds, e1, m1, r1, h1⟩ => ?_⟩
  match ds, r1, h1 with
  | [d], r1, h1 =>
    obtain ⟨v, _, rfl, rv, rfl⟩ := r1
    have h1 : Fin C W σ (fun α H src J => JOk C J src α H) α1 H1 (match srcOf M1 d with
      | some (_, s) => .ok ⟨enumD 0 s.items, s.watch⟩ M1
      | none => .no) R := h1
    cases q : srcOf M1 d with
    | none => rw [q] at h1; exact h1.elim
    | some ks =>
      obtain ⟨k, src⟩ := ks
      rw [q] at h1
      obtain ⟨a, rfl, so, xs, hx, rx⟩ := srcOf_ok m1 rv q
      rw [← hK]
      exact ⟨k, a, xs, rfl, hx, h1 α1 H1 _ (Ext.refl _ _) m1 (jok_enum so)⟩
  | [], _, h1 => exact h1.elim
  | _ :: _ :: _, _, h1 => exact h1.elim
theorem i_zip {elts : List Expr} {kk : Nat} (hg : Gl X "zip") (hm : X.mg "zip" = none) (ha : PA X [e, e2] (LA C W av)) (hs : starEach [e, e2] X.env = (false, eval e X.env) :: starEach [e2] X.env := by rfl) (hpl : (backTo pos (starEach [e2] X.env)).any (·.1) = false := by rfl) (hK : C.K = X.K := by rfl) : PI X (.Tuple elts kk tpos) (.Call (.Name "zip" p) [e, e2] [] pos) (LI C W (ivZip av)) := by
  refine PIimp (pi_zipM hg hm ha hs hpl) fun σ H R ⟨α, σ3, M, m, st, h⟩ => ⟨α, σ3, M, m, st, (Fin.bind h).mono fun vs H1 ⟨α1, M1, ds, e1, m1, r1, h1⟩ => ?_⟩
  match ds, r1, h1 with
  | [d, d'], r1, h1 =>
    obtain ⟨v, _, rfl, rv, v', _, rfl, rv', rfl⟩ := r1
    have h1 : Fin C W σ (fun α H src J => JOk C J src α H) α1 H1 (match (srcOf M1 d).bind fun s => (srcOf M1 d').map fun u => (s, u) with
      | some (s, u) => .ok ⟨List.zipWith (fun x y => .tup [x, y]) s.2.items u.2.items, s.2.watch ++ u.2.watch⟩ M1
      | none => .no) R := h1
    cases q : srcOf M1 d with
    | none => rw [q] at h1; exact h1.elim
    | some ks =>
      cases q' : srcOf M1 d' with
      | none => rw [q, q'] at h1; exact h1.elim
      | some ks' =>
        obtain ⟨k, src⟩ := ks
        obtain ⟨k', src'⟩ := ks'
        rw [q, q'] at h1
        obtain ⟨a, rfl, so, xs, hx, rx⟩ := srcOf_ok m1 rv q
        obtain ⟨b, rfl, so', ys, hy, ry⟩ := srcOf_ok m1 rv' q'
        rw [← hK]
        exact ⟨k, k', a, b, xs, ys, rfl, hx, hy, h1 α1 H1 _ (Ext.refl _ _) m1 (jok_zip so so')⟩
  | [], _, h1 => exact h1.elim
  | [_], _, h1 => exact h1.elim
  | _ :: _ :: _ :: _, _, h1 => exact h1.elim
end
end L3

set_option Elab.async false
set_option linter.all false
set_option maxRecDepth 100000
set_option maxHeartbeats 4000000
namespace L3
open PySem PySem.Spec PyProof.Rows L2

/-! ### cells that nobody needs any more -/
mutual
def frzD (rf : Nat → Option D) : D → Option D
  | .non => some .non
  | .bl b => some (.bl b)
  | .int i => some (.int i)
  | .str s => some (.str s)
  | .glo g => some (.glo g)
  | .ty n => some (.ty n)
  | .ref n => rf n
  | .tup ds => (frzDs rf ds).map .tup
  | .lst ds => (frzDs rf ds).map .lst
  | .scr ds => (frzDs rf ds).map .scr
  | .obj c ds => (frzDs rf ds).map (.obj c)
def frzDs (rf : Nat → Option D) : List D → Option (List D)
  | [] => some []
  | d :: r => match frzD rf d, frzDs rf r with
    | some a, some b => some (a :: b)
    | _, _ => none
end
def frzR (nf : Nat → Nat) (b : Nat) (M : Mem) : Nat → Nat → Option D
  | 0, k => if k < b then some (.ref k) else none
  | n + 1, k => if k < b then some (.ref k) else match M[k]? with
    | some (.lst ds) => (frzDs (frzR nf b M n) ds).map .lst
    | some (.ins c ds) => if ds.length = nf c then (frzDs (frzR nf b M n) ds).map (.obj c) else none
    | _ => none
def trimR (nf : Nat → Nat) (M : Mem) : Res D → Res D
  | .ok d M' => if M'.take M.length = M then (match frzD (frzR nf M.length M' 6) d with
    | some d' => .ok d' M
    | none => .ok d M') else .ok d M'
  | .exc c ds M' => if M'.take M.length = M then (match frzDs (frzR nf M.length M' 6) ds with
    | some ds' => .exc c ds' M
    | none => .exc c ds M') else .exc c ds M'
  | .no => .no
def evTrim (nf : Nat → Nat) (e : EV) : EV := fun σ M => trimR nf M (e σ M)
section
variable {C : Ct} {α t : List Addr} {H H0 : Hp}
theorem nin_left {a : Addr} (h : a ∉ α ++ t) : a ∉ α := fun hm => h (List.mem_append_left _ hm)
mutual
theorem Rl.back : ∀ {d : D} {v v0 : V}, Rl C α H0 d v0 → Rl C (α ++ t) H d v → Rl C α H d v
  | .non, _, _, _, h => h
  | .bl _, _, _, _, h => h
  | .int _, _, _, _, h => h
  | .str _, _, _, _, h => h
  | .glo _, _, _, _, h => h
  | .ty _, _, _, _, h => h
  | .ref n, _, _, ⟨a0, h0, _⟩, ⟨a, h, q⟩ => by
    rw [List.getElem?_append_left (List.getElem?_eq_some_iff.mp h0).1] at h
    exact ⟨a, h, q⟩
  | .tup ds, _, _, ⟨_, _, _, _, r0⟩, ⟨a, vs, q, .inl ⟨n, r⟩, rs⟩ => ⟨a, vs, q, .inl ⟨nin_left n, r⟩, Rls.back r0 rs⟩
  | .tup ds, _, _, ⟨_, _, _, _, r0⟩, ⟨a, vs, q, .inr r, rs⟩ => ⟨a, vs, q, .inr r, Rls.back r0 rs⟩
  | .lst ds, _, _, ⟨_, _, _, _, _, r0⟩, ⟨a, vs, q, n, r, rs⟩ => ⟨a, vs, q, nin_left n, r, Rls.back r0 rs⟩
  | .scr ds, _, _, ⟨_, _, _, _, r0⟩, ⟨a, vs, q, .inl ⟨n, r⟩, rs⟩ => ⟨a, vs, q, .inl ⟨nin_left n, r⟩, Rls.back r0 rs⟩
  | .scr ds, _, _, ⟨_, _, _, _, r0⟩, ⟨a, vs, q, .inr r, rs⟩ => ⟨a, vs, q, .inr r, Rls.back r0 rs⟩
  | .obj c ds, _, _, ⟨_, _, _, _, _, _, _, r0⟩, ⟨a, dx, vs, q, n, r, l, rs⟩ => ⟨a, dx, vs, q, nin_left n, r, l, Rls.back r0 rs⟩
theorem Rls.back : ∀ {ds : List D} {vs vs0 : List V}, Rls C α H0 ds vs0 → Rls C (α ++ t) H ds vs → Rls C α H ds vs
  | [], _, _, _, h => h
  | _ :: _, _, _, ⟨_, _, _, h0, r0⟩, ⟨v, r, q, h, hs⟩ => ⟨v, r, q, Rl.back h0 h, Rls.back r0 hs⟩
end
theorem RlC.back {c : Cell} {a : Addr} (h0 : RlC C α H0 c a) (h : RlC C (α ++ t) H c a) : RlC C α H c a := by
  cases c with
  | lst ds => obtain ⟨vs0, _, r0⟩ := h0; obtain ⟨vs, e, r⟩ := h; exact ⟨vs, e, r0.back r⟩
  | ins c ds => obtain ⟨_, vs0, _, _, r0⟩ := h0; obtain ⟨dx, vs, e, l, r⟩ := h; exact ⟨dx, vs, e, l, r0.back r⟩
  | dic kvs => obtain ⟨_, _, _, r0, r1⟩ := h0; obtain ⟨kws, e, l, r, r'⟩ := h; exact ⟨kws, e, l, r0.back r, r1.back r'⟩
mutual
theorem frzD_ok {rf : Nat → Option D} (hr : ∀ k d a, rf k = some d → (α ++ t)[k]? = some a → Rl C α H d (.ref a)) : ∀ {d d' : D} {v : V}, Rl C (α ++ t) H d v → frzD rf d = some d' → Rl C α H d' v
  | .non, _, _, h, e => by cases e; exact h
  | .bl _, _, _, h, e => by cases e; exact h
  | .int _, _, _, h, e => by cases e; exact h
  | .str _, _, _, h, e => by cases e; exact h
  | .glo _, _, _, h, e => by cases e; exact h
  | .ty _, _, _, h, e => by cases e; exact h
  | .ref n, d', _, ⟨a, h, q⟩, e => by subst q; exact hr n d' a e h
  | .tup ds, d', _, ⟨a, vs, q, hh, rs⟩, e => by
    have e : (frzDs rf ds).map D.tup = some d' := e
    cases z : frzDs rf ds with
    | none => rw [z] at e; cases e
    | some ds' =>
      rw [z] at e; cases e
      refine ⟨a, vs, q, ?_, frzDs_ok hr rs z⟩
      rcases hh with ⟨n, r⟩ | r
      · exact .inl ⟨nin_left n, r⟩
      · exact .inr r
  | .lst ds, d', _, ⟨a, vs, q, n, r, rs⟩, e => by
    have e : (frzDs rf ds).map D.lst = some d' := e
    cases z : frzDs rf ds with
    | none => rw [z] at e; cases e
    | some ds' => rw [z] at e; cases e; exact ⟨a, vs, q, nin_left n, r, frzDs_ok hr rs z⟩
  | .scr ds, d', _, ⟨a, vs, q, hh, rs⟩, e => by
    have e : (frzDs rf ds).map D.scr = some d' := e
    cases z : frzDs rf ds with
    | none => rw [z] at e; cases e
    | some ds' =>
      rw [z] at e; cases e
      refine ⟨a, vs, q, ?_, frzDs_ok hr rs z⟩
      rcases hh with ⟨n, r⟩ | r
      · exact .inl ⟨nin_left n, r⟩
      · exact .inr r
  | .obj c ds, d', _, ⟨a, dx, vs, q, n, r, l, rs⟩, e => by
    have e : (frzDs rf ds).map (D.obj c) = some d' := e
    cases z : frzDs rf ds with
    | none => rw [z] at e; cases e
    | some ds' => rw [z] at e; cases e; exact ⟨a, dx, vs, q, nin_left n, r, l, frzDs_ok hr rs z⟩
theorem frzDs_ok {rf : Nat → Option D} (hr : ∀ k d a, rf k = some d → (α ++ t)[k]? = some a → Rl C α H d (.ref a)) : ∀ {ds ds' : List D} {vs : List V}, Rls C (α ++ t) H ds vs → frzDs rf ds = some ds' → Rls C α H ds' vs
  | [], _, _, h, e => by cases e; exact h
  | d :: ds, ds', _, ⟨v, r, q, h, hs⟩, e => by
    have e : (match frzD rf d, frzDs rf ds with
      | some a, some b => some (a :: b)
      | _, _ => none) = some ds' := e
    cases z : frzD rf d with
    | none => rw [z] at e; cases e
    | some a =>
      cases z2 : frzDs rf ds with
      | none => rw [z, z2] at e; cases e
      | some b => rw [z, z2] at e; cases e; exact ⟨v, r, q, frzD_ok hr h z, frzDs_ok hr hs z2⟩
end
theorem frzDs_length {rf : Nat → Option D} : ∀ {ds ds' : List D}, frzDs rf ds = some ds' → ds'.length = ds.length
  | [], _, e => by cases e; rfl
  | d :: ds, ds', e => by
    have e : (match frzD rf d, frzDs rf ds with
      | some a, some b => some (a :: b)
      | _, _ => none) = some ds' := e
    cases z : frzD rf d with
    | none => rw [z] at e; cases e
    | some a =>
      cases z2 : frzDs rf ds with
      | none => rw [z, z2] at e; cases e
      | some b => rw [z, z2] at e; cases e; simp [frzDs_length z2]
theorem frzR_ok {nf : Nat → Nat} (hn : ∀ c, nf c = (C.fl c).length) {M : Mem} (m : SMem C (α ++ t) M H) : ∀ (n k : Nat) (d : D) (a : Addr), frzR nf α.length M n k = some d → (α ++ t)[k]? = some a → Rl C α H d (.ref a)
  | 0, k, d, a, e, h => by
    have e : (if k < α.length then some (D.ref k) else none) = some d := e
    by_cases z : k < α.length
    · rw [if_pos z] at e; cases e
      rw [List.getElem?_append_left z] at h
      exact ⟨a, h, rfl⟩
    · rw [if_neg z] at e; cases e
  | n + 1, k, d, a, e, h => by
    have e : (if k < α.length then some (D.ref k) else match M[k]? with
      | some (.lst ds) => (frzDs (frzR nf α.length M n) ds).map .lst
      | some (.ins c ds) => if ds.length = nf c then (frzDs (frzR nf α.length M n) ds).map (.obj c) else none
      | _ => none) = some d := e
    by_cases z : k < α.length
    · rw [if_pos z] at e; cases e
      rw [List.getElem?_append_left z] at h
      exact ⟨a, h, rfl⟩
    · rw [if_neg z] at e
      have na : a ∉ α := fun hm => by
        obtain ⟨j, hj, ej⟩ := List.getElem_of_mem hm
        have h2 : (α ++ t)[j]? = some a := by rw [List.getElem?_append_left hj, List.getElem?_eq_getElem hj, ej]
        have := nodup_at m.nd h2 h
        omega
      cases q : M[k]? with
      | none => rw [q] at e; cases e
      | some c =>
        rw [q] at e
        have rc := m.cell k c a q h
        cases c with
        | lst ds =>
          have e : (frzDs (frzR nf α.length M n) ds).map D.lst = some d := e
          obtain ⟨vs, hv, rs⟩ := rc
          cases y : frzDs (frzR nf α.length M n) ds with
          | none => rw [y] at e; cases e
          | some ds' => rw [y] at e; cases e; exact ⟨a, vs, rfl, na, hv, frzDs_ok (frzR_ok hn m n) rs y⟩
        | ins c ds =>
          have e : (if ds.length = nf c then (frzDs (frzR nf α.length M n) ds).map (D.obj c) else none) = some d := e
          obtain ⟨dx, vs, hv, l, rs⟩ := rc
          by_cases w : ds.length = nf c
          · rw [if_pos w] at e
            cases y : frzDs (frzR nf α.length M n) ds with
            | none => rw [y] at e; cases e
            | some ds' => rw [y] at e; cases e; exact ⟨a, dx, vs, rfl, na, hv, by rw [rs.length, w, hn], frzDs_ok (frzR_ok hn m n) rs y⟩
          · rw [if_neg w] at e; cases e
        | dic kvs => cases e
end
section
variable {C : Ct} {W : WX} {σ : L2.St} {α : List Addr} {M : Mem} {H : Hp}
theorem SMem.back {α' : List Addr} {M' : Mem} {H' : Hp} (m : SMem C α M H) (e : Ext α H α' H') (m' : SMem C α' M' H') (p : M'.take M.length = M) : SMem C α M H' ∧ Ext α H α H' ∧ ∃ t, α' = α ++ t := by
  obtain ⟨t, rfl, ht⟩ := e.pre
  refine ⟨⟨m.len, m.nd, fun n c a h1 h2 => ?_⟩, ⟨⟨[], by simp, by simp⟩, e.keep⟩, t, rfl⟩
  have h3 : M'[n]? = some c := by
    have hn : n < M.length := (List.getElem?_eq_some_iff.mp h1).1
    rw [← p] at h1
    rw [List.getElem?_take] at h1
    rw [if_pos hn] at h1; exact h1
  have h4 : (α ++ t)[n]? = some a := by rw [List.getElem?_append_left (List.getElem?_eq_some_iff.mp h2).1]; exact h2
  exact (m.cell n c a h1 h2).back (m'.cell n c a h3 h4)
theorem Fin.trim {nf : Nat → Nat} (hn : ∀ c, nf c = (C.fl c).length) (m : SMem C α M H) {r : Res D} {Q : VK} (h : Fin C W σ (RD C) α H (trimR nf M r) Q) : Fin C W σ (RD C) α H r Q := by
  cases r with
  | no => exact h
  | ok d M' =>
    have h : Fin C W σ (RD C) α H (if M'.take M.length = M then (match frzD (frzR nf M.length M' 6) d with
      | some d' => .ok d' M
      | none => .ok d M') else .ok d M') Q := h
    by_cases z : M'.take M.length = M
    · rw [if_pos z] at h
      cases q : frzD (frzR nf M.length M' 6) d with
      | none => rw [q] at h; exact h
      | some d' =>
        rw [q] at h
        intro α' H' v e m' r'
        obtain ⟨m2, e2, t, rfl⟩ := m.back e m' z
        rw [← m.len] at q
        exact h α H' v e2 m2 (frzD_ok (fun k d a h1 h2 => frzR_ok hn m' 6 k d a h1 h2) r' q)
    · rw [if_neg z] at h; exact h
  | exc c ds M' =>
    have h : Fin C W σ (RD C) α H (if M'.take M.length = M then (match frzDs (frzR nf M.length M' 6) ds with
      | some ds' => .exc c ds' M
      | none => .exc c ds M') else .exc c ds M') Q := h
    by_cases z : M'.take M.length = M
    · rw [if_pos z] at h
      cases q : frzDs (frzR nf M.length M' 6) ds with
      | none => rw [q] at h; exact h
      | some d' =>
        rw [q] at h
        intro α' H' dx e m' r'
        obtain ⟨m2, e2, t, rfl⟩ := m.back e m' z
        rw [← m.len] at q
        refine h α H' dx e2 m2 ?_
        rcases r' with ⟨a, b⟩ | ⟨x, vs, a, b, l, rs⟩
        · subst b; cases q; exact .inl ⟨a, rfl⟩
        · exact .inr ⟨x, vs, a, b, l, frzDs_ok (fun k d a h1 h2 => frzR_ok hn m' 6 k d a h1 h2) rs q⟩
    · rw [if_neg z] at h; exact h
end
section
variable {X : Cx} {C : Ct} {W : WX} {a b e : Expr} {ev eva evb : EV} {pos : Pos} {nf : Nat → Nat}
theorem trim_imp (hn : ∀ c, nf c = (C.fl c).length) : ∀ σ H Q, LE C W (evTrim nf ev) σ H Q → LE C W ev σ H Q := fun σ H Q ⟨α, σ3, M, m, s, h⟩ => ⟨α, σ3, M, m, s, Fin.trim hn m h⟩
theorem l_trim (hn : ∀ c, nf c = (C.fl c).length) (h : PE X e (LE C W ev)) : PE X e (LE C W (evTrim nf ev)) := PEimp h (trim_imp hn)
end

/-! ### defs and calls -/
def start3 (n : Nat) (ds : List D) : St3 := ds.map some ++ List.replicate (n - ds.length) none
def endB : Out → Res D
  | .nx _ M => .ok .non M
  | .rt d M => .ok d M
  | .exc c ds _ M => .exc c ds M
  | _ => .no
def fnB (n : Nat) (body : SV) : Fn3 := fun ds M => endB (body (start3 n ds) M)
def spF (C : Ct) (g : Fn3) (ar : Nat) : Sp := fun vs H Q E => vs.length = ar ∧ ∃ α M ds, SMem C α M H ∧ Rls C α H ds vs ∧ Fin C (fun cls d _ H => E cls d H) [] (RD C) α H (g ds M) Q
theorem start_ok {C : Ct} {α : List Addr} {H : Hp} {N : List Str} {ds : List D} {vs : List V} (r : Rls C α H ds vs) : SSt C α H (start3 N.length ds) (L2.start N vs) := by
  have l := r.length
  refine ⟨by simp [L2.start, start3, l], fun i d h => ?_⟩
  unfold start3 at h
  unfold L2.start
  by_cases z : i < ds.length
  · rw [List.getElem?_append_left (by simpa using z)] at h
    rw [List.getElem?_append_left (by simpa [l] using z)]
    rw [List.getElem?_map] at h ⊢
    cases q : ds[i]? with
    | none => rw [q] at h; cases h
    | some d' =>
      rw [q] at h; cases h
      obtain ⟨v, h1, h2⟩ := r.get q
      exact ⟨v, by rw [h1]; rfl, h2⟩
  · rw [List.getElem?_append_right (by simpa using z)] at h
    rw [List.getElem?_replicate] at h
    split at h <;> cases h
theorem FinS.endB {C : Ct} {E : XK} {α : List Addr} {H : Hp} {o : Out} {Q : VK} (h : Fin C (fun cls d _ H => E cls d H) [] (RD C) α H (endB o) Q) : FinS C (fun cls d _ H => E cls d H) { nx := fun _ H' => Q .non H', rt := Q } α H o := by
  cases o with
  | nx σ M => exact fun a b s e m q => h a b _ e m rfl
  | rt d M => exact fun a b v e m q => h a b v e m q
  | exc c ds σ M => exact fun a b s dx e m q x => h a b dx e m x
  | bk σ M => exact h.elim
  | ct σ M => exact h.elim
  | no => exact h
def WF : WX := fun _ _ _ _ => False
theorem passF {X : Cx} (σ : L2.St) : PassesAt (L2.CX X.prog X.w) X σ (WE WF σ) := fun _ _ _ _ _ _ c => by
  obtain ⟨a, B, H', cls, d, _, _, _, _, _, _, _, z⟩ := c
  exact z.elim
def evCall (g : Fn3) (ar : Nat) (dd : List D) (av : AV) : EV := evA (fun ds M => if (ds ++ dd).length = ar then g (ds ++ dd) M else .no) av
section
variable {X : Cx} {C : Ct} {W : WX} {k : Nat} {f : Addr} {fd : FuncData} {ps : List Str} {g : Fn3} {ar : Nat} {x : Str} {p pos : Pos} {e : Expr} {es : List Expr} {av : AV} {dvs : List V} {ds : List Value} {dd : List D}
theorem call_ok (hdd : ∀ α H, Rls C α H dd dvs) {σ : L2.St} {H : Hp} {Q : VK} (h : LE C W (evCall g ar dd av) σ H Q) : tCallSD (spF C g ar) dvs (WE W) (LA C W av) σ H Q := by
  obtain ⟨α, σ3, M, m, s, h⟩ := h
  refine ⟨α, σ3, M, m, s, (Fin.bind h).mono fun vs H1 ⟨α1, M1, xs, e1, m1, r1, h1⟩ => ?_⟩
  have h1 : Fin C W σ (RD C) α1 H1 (if (xs ++ dd).length = ar then g (xs ++ dd) M1 else .no) Q := h1
  have r2 := Rls.append r1 (hdd α1 H1)
  by_cases z : (xs ++ dd).length = ar
  · rw [if_pos z] at h1
    refine ⟨by rw [r2.length]; exact z, α1, M1, xs ++ dd, m1, r2, ?_⟩
    cases q : g (xs ++ dd) M1 with
    | ok d M => rw [q] at h1; exact h1
    | exc c es M => rw [q] at h1; exact h1
    | no => rw [q] at h1; exact h1.elim
  · rw [if_neg z] at h1; exact h1.elim
end

/-! ### list comprehensions -/
def wipe3 (σ : St3) : List Nat → St3
  | [] => σ
  | v :: vs => (wipe3 σ vs).set v none
theorem SSt.unset {C : Ct} {α : List Addr} {H : Hp} {σ3 : St3} {σ : L2.St} (h : SSt C α H σ3 σ) (i : Nat) : SSt C α H (σ3.set i none) (σ.set i none) := by
  refine ⟨by simp [h.len], fun j e q => ?_⟩
  by_cases hij : i = j
  · subst hij
    have hl : i < σ3.length := by
      have := (List.getElem?_eq_some_iff.mp q).1; simpa using this
    rw [List.getElem?_set_self hl] at q
    cases q
  · rw [List.getElem?_set_ne hij] at q ⊢
    exact h.at_ j e q
theorem SSt.wipe {C : Ct} {α : List Addr} {H : Hp} {σ3 : St3} {σ : L2.St} (h : SSt C α H σ3 σ) : ∀ vs : List Nat, SSt C α H (wipe3 σ3 vs) (L2.wipe σ vs)
  | [] => h
  | v :: vs => (SSt.wipe h vs).unset v
theorem wipe_get (σ : L2.St) (j : Nat) : ∀ vs : List Nat, (L2.wipe σ vs)[j]? = if j ∈ vs then σ[j]?.map (fun _ => none) else σ[j]?
  | [] => by simp [L2.wipe]
  | v :: vs => by
    unfold L2.wipe
    have hl := L2.wipe_length σ vs
    by_cases hv : v = j
    · subst hv
      rw [if_pos List.mem_cons_self]
      by_cases z : v < σ.length
      · rw [List.getElem?_set_self (by rw [hl]; exact z), List.getElem?_eq_getElem z]; rfl
      · rw [List.getElem?_eq_none (by rw [List.length_set, hl]; omega), List.getElem?_eq_none (by omega)]; rfl
    · rw [List.getElem?_set_ne hv, wipe_get σ j vs]
      by_cases z : j ∈ vs
      · rw [if_pos z, if_pos (List.mem_cons_of_mem _ z)]
      · rw [if_neg z, if_neg (fun hm => by rcases List.mem_cons.mp hm with q | q; exact hv q.symm; exact z q)]
theorem wipe_wipe (σ : L2.St) (vs : List Nat) : L2.wipe (L2.wipe σ vs) vs = L2.wipe σ vs := by
  apply List.ext_getElem?
  intro j
  rw [wipe_get, wipe_get]
  by_cases z : j ∈ vs
  · rw [if_pos z, if_pos z]; cases σ[j]? <;> rfl
  · rw [if_neg z, if_neg z]
theorem wipe_set {σ : L2.St} {vs : List Nat} {i : Nat} {x : Option V} (h : i ∈ vs) : L2.wipe (σ.set i x) vs = L2.wipe σ vs := by
  apply List.ext_getElem?
  intro j
  rw [wipe_get, wipe_get]
  by_cases z : j ∈ vs
  · rw [if_pos z, if_pos z]
    by_cases hij : i = j
    · subst hij
      by_cases y : i < σ.length
      · rw [List.getElem?_set_self y, List.getElem?_eq_getElem y]; rfl
      · rw [List.getElem?_eq_none (by simpa using y), List.getElem?_eq_none (by omega)]
    · rw [List.getElem?_set_ne hij]
  · rw [if_neg z, if_neg z, List.getElem?_set_ne (fun (e : i = j) => z (by rw [← e]; exact h))]
abbrev CGV := D → St3 → Option St3
abbrev CGVs := List D → St3 → Option St3
def cgName (i : Nat) : CGV := fun d σ => some (σ.set i (some d))
def cgNil : CGVs := fun ds σ => match ds with
  | [] => some σ
  | _ => none
def cgCons (g : CGV) (r : CGVs) : CGVs := fun ds σ => match ds with
  | d :: ds => (g d σ).bind fun σ' => r ds σ'
  | [] => none
def cgTup (n : Nat) (g : CGVs) : CGV := fun d σ => match d with
  | .tup ds => if ds.length = n then g ds σ else none
  | _ => none
/-- a comprehension's target: g is its reading, gv what it does -/
def LCG (C : Ct) (vs : List Nat) (g : TG) (gv : CGV) : Prop := ∀ α M H d x σ3 σ σ3' (Q : L2.St → Hp → Prop), SMem C α M H → SSt C α H σ3 σ → Rl C α H d x → gv d σ3 = some σ3' →
  (∀ σ', SSt C α H σ3' σ' → L2.wipe σ' vs = L2.wipe σ vs → Q σ' H) → g x σ H Q
def LCGs (C : Ct) (vs : List Nat) (g : TGs) (gv : CGVs) : Prop := ∀ α M H ds xs σ3 σ σ3' (Q : L2.St → Hp → Prop), SMem C α M H → SSt C α H σ3 σ → Rls C α H ds xs → gv ds σ3 = some σ3' →
  (∀ σ', SSt C α H σ3' σ' → L2.wipe σ' vs = L2.wipe σ vs → Q σ' H) → g xs σ H Q
section
variable {C : Ct} {vs : List Nat} {K : PySem.W.Frag}
theorem lcg_name {i : Nat} (h : i ∈ vs) : LCG C vs (L2.gName i) (cgName i) := fun α M H d x σ3 σ σ3' Q m s r e q => by
  have e : some (σ3.set i (some d)) = some σ3' := e
  cases e
  exact q _ (s.set r i) (wipe_set h)
theorem lcg_tup {n : Nat} {g : TGs} {gv : CGVs} (hK : C.K = K) (h : LCGs C vs g gv) : LCG C vs (L2.gTup K n g) (cgTup n gv) := fun α M H d x σ3 σ σ3' Q m s r e q => by
  cases d with
  | tup ds =>
    have e : (if ds.length = n then gv ds σ3 else none) = some σ3' := e
    by_cases z : ds.length = n
    · rw [if_pos z] at e
      obtain ⟨a, xs, rfl, ha, rs⟩ := r
      exact ⟨a, xs, rfl, SqT_of hK ha, by rw [rs.length]; exact z, h α M H ds xs σ3 σ σ3' Q m s rs e q⟩
    · rw [if_neg z] at e; cases e
  | _ => cases e
theorem lcg_nil : LCGs C vs L2.gNil cgNil := fun α M H ds xs σ3 σ σ3' Q m s r e q => by
  cases ds with
  | nil =>
    have e : some σ3 = some σ3' := e
    cases e; cases r
    exact ⟨rfl, q σ s rfl⟩
  | cons d ds => cases e
theorem lcg_cons {g : TG} {gr : TGs} {gv : CGV} {gvr : CGVs} (h1 : LCG C vs g gv) (h2 : LCGs C vs gr gvr) : LCGs C vs (L2.gCons g gr) (cgCons gv gvr) := fun α M H ds xs σ3 σ σ3' Q m s r e q => by
  cases ds with
  | nil => cases e
  | cons d ds =>
    have e : (gv d σ3).bind (fun σ' => gvr ds σ') = some σ3' := e
    obtain ⟨x, xr, rfl, rx, rr⟩ := r
    cases z : gv d σ3 with
    | none => rw [z] at e; cases e
    | some σ1 =>
      rw [z] at e
      exact ⟨x, xr, rfl, h1 α M H d x σ3 σ σ1 _ m s rx z fun σ' s' w => h2 α M H ds xr σ1 σ' σ3' _ m s' rr e fun σ2 s2 w2 => q σ2 s2 (w2.trans w)⟩
end
def bvYes : BV := fun _ M => .ok true M
theorem lts_nil {X : Cx} {C : Ct} {W : WX} : PTs X [] (LB C W bvYes) := ⟨fun pins s σ H Q I ⟨α, σ3, M, m, st, h⟩ => pts_nil.run pins s σ H Q I (h α H true (Ext.refl _ _) m rfl)⟩
theorem lts_one {X : Cx} {C : Ct} {W : WX} {c : Expr} {tc : BV} (h : PT X c (LB C W tc)) : PTs X [c] (LB C W tc) := pts_one h
def lcLoop (w : List (Nat × List D)) (n0 : Nat) (g : CGV) (tt : BV) (te : EV) (σ : St3) : List D → Mem → Option Mem
  | [], M => if watched w M = true then some M else none
  | d :: r, M => if watched w M = true then (match g d σ with
    | some σ1 => (match tt σ1 M with
      | .ok b M1 => if b = true then (match te σ1 M1 with
        | .ok y M2 => (match M2[n0]? with
          | some (.lst acc) => if acc.length < sizeLine then lcLoop w n0 g tt te σ r (M2.set n0 (.lst (acc ++ [y]))) else none
          | _ => none)
        | _ => none) else lcLoop w n0 g tt te σ r M1
      | _ => none)
    | none => none) else none
def evLc (iv : IV) (vs : List Nat) (g : CGV) (tt : BV) (te : EV) : EV := fun σ M => (iv σ M).bind fun s M1 => match lcLoop s.watch M1.length g tt te (wipe3 σ vs) s.items (M1 ++ [.lst []]) with
  | some M2 => .ok (.ref M1.length) M2
  | none => .no
section
variable {X : Cx} {C : Ct} {W : WX}
theorem lc_imp {iv : IV} {vs : List Nat} {g : TG} {gv : CGV} {tt : BV} {te : EV} (hg : LCG C vs g gv) {σ : L2.St} {H : Hp} {Q : VK} (h : LE C W (evLc iv vs gv tt te) σ H Q) : tLc (LI C W iv) g (LB C WF tt) (LE C WF te) vs σ H Q := by
  obtain ⟨α, σ3, M, m, s, h⟩ := h
  refine ⟨α, σ3, M, m, s, (Fin.bind h).mono fun J H1 ⟨α1, M1, src, e1, m1, j1, h1⟩ => fun L hL => ?_⟩
  have h1 : Fin C W σ (RD C) α1 H1 (match lcLoop src.watch M1.length gv tt te (wipe3 σ3 vs) src.items (M1 ++ [.lst []]) with
    | some M2 => .ok (.ref M1.length) M2
    | none => .no) Q := h1
  cases z0 : lcLoop src.watch M1.length gv tt te (wipe3 σ3 vs) src.items (M1 ++ [.lst []]) with
  | none => rw [z0] at h1; exact h1.elim
  | some Mf =>
    rw [z0] at h1
    have x1 : Ext α1 H1 (α1 ++ [L]) (upd H1 L (.lst [])) := Ext.cell m1 hL
    have nL : α1.length = M1.length := m1.len
    refine ⟨fun i k H => i + k = src.items.length ∧ ∃ α' M', Ext (α1 ++ [L]) (upd H1 L (.lst [])) α' H ∧ SMem C α' M' H ∧ lcLoop src.watch M1.length gv tt te (wipe3 σ3 vs) (src.items.drop i) M' = some Mf,
      ⟨src.items.length, by omega, α1 ++ [L], M1 ++ [.lst []], Ext.refl _ _, m1.push (c := .lst []) hL ⟨[], upd_same, rfl⟩, by rw [List.drop_zero]; exact z0⟩, ?_⟩
    rintro i k H ⟨hk, α', M', e2, m2, h2⟩
    have gL : α'[M1.length]? = some L := e2.get (by rw [← nL]; simp)
    cases z : src.items[i]? with
    | none =>
      have hl : src.items.length ≤ i := List.getElem?_eq_none_iff.mp z
      rw [List.drop_eq_nil_of_le hl] at h2
      have h2 : (if watched src.watch M' = true then some M' else none) = some Mf := h2
      by_cases hw : watched src.watch M' = true
      · rw [if_pos hw] at h2
        have h2 := Option.some.inj h2
        subst h2
        exact .inl ⟨(j1 α' M' H (x1.trans e2) m2 hw i).2 (by omega), h1 α' H (.ref L) (x1.trans e2) m2 ⟨L, gL, rfl⟩⟩
      · rw [if_neg hw] at h2; cases h2
    | some d =>
      have hl : i < src.items.length := (List.getElem?_eq_some_iff.mp z).1
      have hd : src.items.drop i = d :: src.items.drop (i + 1) := by
        rw [List.drop_eq_getElem_cons hl]
        congr 1
        exact (List.getElem?_eq_some_iff.mp z).2
      rw [hd] at h2
      unfold lcLoop at h2
      by_cases hw : watched src.watch M' = true
      · rw [if_pos hw] at h2
        obtain ⟨go, yld⟩ := (j1 α' M' H (x1.trans e2) m2 hw i).1 d z
        refine .inr ⟨go, fun H => (i + 1) + (k - 1) = src.items.length ∧ ∃ α' M', Ext (α1 ++ [L]) (upd H1 L (.lst [])) α' H ∧ SMem C α' M' H ∧ lcLoop src.watch M1.length gv tt te (wipe3 σ3 vs) (src.items.drop (i + 1)) M' = some Mf, fun H' q => ⟨k - 1, by omega, q⟩, fun x H2 y => ?_⟩
        obtain ⟨e3, m3, r3⟩ := yld x H2 y
        cases q1 : gv d (wipe3 σ3 vs) with
        | none => rw [q1] at h2; cases h2
        | some σ1 =>
          rw [q1] at h2
          refine hg α' M' H2 d x (wipe3 σ3 vs) (L2.wipe σ vs) σ1 _ m3 ((s.ext (e1.trans (x1.trans (e2.trans e3)))).wipe vs) r3 q1 fun σ' s' w' => ⟨by rw [w', wipe_wipe], ?_⟩
          refine ⟨α', σ1, M', m3, s', ?_⟩
          have h2 : (match tt σ1 M' with
            | .ok b M1' => if b = true then (match te σ1 M1' with
              | .ok y M2 => (match M2[M1.length]? with
                | some (.lst acc) => if acc.length < sizeLine then lcLoop src.watch M1.length gv tt te (wipe3 σ3 vs) (src.items.drop (i + 1)) (M2.set M1.length (.lst (acc ++ [y]))) else none
                | _ => none)
              | _ => none) else lcLoop src.watch M1.length gv tt te (wipe3 σ3 vs) (src.items.drop (i + 1)) M1'
            | _ => none) = some Mf := h2
          cases q2 : tt σ1 M' with
          | no => rw [q2] at h2; cases h2
          | exc c ds M5 => rw [q2] at h2; cases h2
          | ok b M5 =>
            rw [q2] at h2
            intro α5 H5 b' e5 m5 rb
            have rb : b' = b := rb
            subst rb
            have h2 : (if b' = true then (match te σ1 M5 with
              | .ok y M2 => (match M2[M1.length]? with
                | some (.lst acc) => if acc.length < sizeLine then lcLoop src.watch M1.length gv tt te (wipe3 σ3 vs) (src.items.drop (i + 1)) (M2.set M1.length (.lst (acc ++ [y]))) else none
                | _ => none)
              | _ => none) else lcLoop src.watch M1.length gv tt te (wipe3 σ3 vs) (src.items.drop (i + 1)) M5) = some Mf := h2
            cases b' with
            | false =>
              rw [if_neg Bool.false_ne_true] at h2 ⊢
              exact ⟨by omega, α5, M5, e2.trans (e3.trans e5), m5, h2⟩
            | true =>
              rw [if_pos rfl] at h2 ⊢
              refine ⟨α5, σ1, M5, m5, s'.ext e5, ?_⟩
              cases q3 : te σ1 M5 with
              | no => rw [q3] at h2; cases h2
              | exc c ds M5 => rw [q3] at h2; cases h2
              | ok y M6 =>
                rw [q3] at h2
                intro α6 H6 yv e6 m6 ry
                have h2 : (match M6[M1.length]? with
                  | some (.lst acc) => if acc.length < sizeLine then lcLoop src.watch M1.length gv tt te (wipe3 σ3 vs) (src.items.drop (i + 1)) (M6.set M1.length (.lst (acc ++ [y]))) else none
                  | _ => none) = some Mf := h2
                have gL6 : α6[M1.length]? = some L := e6.get (e5.get (e3.get gL))
                cases q4 : M6[M1.length]? with
                | none => rw [q4] at h2; cases h2
                | some cl =>
                  rw [q4] at h2
                  cases cl with
                  | lst acc =>
                    have h2 : (if acc.length < sizeLine then lcLoop src.watch M1.length gv tt te (wipe3 σ3 vs) (src.items.drop (i + 1)) (M6.set M1.length (.lst (acc ++ [y]))) else none) = some Mf := h2
                    obtain ⟨as, ha, ra⟩ := m6.cell _ _ L q4 gL6
                    by_cases hz : acc.length < sizeLine
                    · rw [if_pos hz] at h2
                      have ew : Ext α6 H6 α6 (upd H6 L (.lst (as ++ [yv]))) := Ext.write m6 gL6
                      exact ⟨as, ha, by rw [ra.length]; exact hz, by omega, α6, _, e2.trans (e3.trans (e5.trans (e6.trans ew))), m6.write (c := .lst (acc ++ [y])) gL6 ⟨_, upd_same, (ra.append (Rls.one ry)).ext ew⟩, h2⟩
                    · rw [if_neg hz] at h2; cases h2
                  | _ => cases h2
      · rw [if_neg hw] at h2; cases h2
variable {elt tg iter : Expr} {ifs : List Expr} {scope : Scope} {own : List (Str × Nat)} {pos spos py : Pos} {iv : IV} {g : TG} {gv : CGV} {tt : BV} {te ev : EV}
/-- ev: evLc iv (own.map (·.2)) gv tt te, or that trimmed -/
theorem l_lc (hT : ∀ σ H Q, LE C W ev σ H Q → LE C W (evLc iv (own.map (·.2)) gv tt te) σ H Q) (hc : X.calm = true) (hN : X.N.Nodup) (hi : PI X tg iter (LI C W iv)) (ok : BlkOk X.N X.env.scope scope own) (hgv : LCG C (own.map (·.2)) g gv)
    (hg : ∀ (s : Shared) (H : Hp) (C : Addr) (cl : List (Str × Addr)) (fp : List Addr), PG (X.blk s H scope (compEnvC scope cl C X.env) fp) tg g) (ht : ∀ (s : Shared) (H : Hp) (C' : Addr) (cl : List (Str × Addr)) (fp : List Addr), PTs (X.blk s H scope (compEnvC scope cl C' X.env) fp) ifs (LB C WF tt))
    (he : ∀ (s : Shared) (H : Hp) (C' : Addr) (cl : List (Str × Addr)) (fp : List Addr), PE (X.blk s H scope (compEnvC scope cl C' X.env) fp) elt (LE C WF te)) (hs : ∀ x, foldedSetIterable iter X.env x = pure x := by intro _; rfl) :
    PE X (.ListComp elt [⟨tg, iter, ifs, 0⟩] scope pos) (LE C W ev) := PEimp (pe_lc hc hN hi ok hg ht he hs) fun σ H Q h => lc_imp hgv (hT σ H Q h)
theorem s_setLc (i : Nat) {y : Str} (hT : ∀ σ H Q, LE C W ev σ H Q → LE C W (evLc iv (own.map (·.2)) gv tt te) σ H Q) (hc : X.calm = true) (hN : X.N.Nodup) (hy : X.N[i]? = some y) (hyl : X.env.scope.names.lookup y = some .local)
    (hsw : swapsWith (.ListComp elt [⟨tg, iter, ifs, 0⟩] scope pos) (some (.Name y py)) spos.line X.env = pure true) (hi : PI X tg iter (LI C W iv)) (ok : BlkOk X.N X.env.scope scope own) (hgv : LCG C (own.map (·.2)) g gv)
    (hg : ∀ (s : Shared) (H : Hp) (C : Addr) (cl : List (Str × Addr)) (fp : List Addr), PG (X.blk s H scope (compEnvC scope cl C X.env) fp) tg g) (ht : ∀ (s : Shared) (H : Hp) (C' : Addr) (cl : List (Str × Addr)) (fp : List Addr), PTs (X.blk s H scope (compEnvC scope cl C' X.env) fp) ifs (LB C WF tt))
    (he : ∀ (s : Shared) (H : Hp) (C' : Addr) (cl : List (Str × Addr)) (fp : List Addr), PE (X.blk s H scope (compEnvC scope cl C' X.env) fp) elt (LE C WF te)) (hs : ∀ x, foldedSetIterable iter X.env x = pure x := by intro _; rfl) :
    PS X (.Assign [.Name y py] (.ListComp elt [⟨tg, iter, ifs, 0⟩] scope pos) spos) (LS C W (svSet i ev)) := by
  refine PSimp (ps_setLc hc hN hy hyl hsw hi ok hg ht he hs) fun D σ H ⟨α, σ3, M, m, s, h⟩ => ?_
  show tLc _ _ _ _ _ σ H fun v H1 => L2.gName i v σ H1 D.nx
  refine lc_imp (W := W) hgv (hT σ H _ ⟨α, σ3, M, m, s, ?_⟩)
  exact (FinS.out s h).mono fun v H1 ⟨α1, M1, d, e1, m1, r1, h2⟩ => h2 α1 H1 _ (Ext.refl _ _) m1 ((s.ext e1).set r1 i)
end
end L3

set_option Elab.async false
set_option linter.all false
set_option maxRecDepth 100000
set_option maxHeartbeats 4000000
namespace L3
open PySem PySem.Spec PyProof.Rows L2

/-! ### promises that hold where no repr is under way -/
structure FnG (P : Program) (w : World) (K : PySem.W.Frag) (mg : Str → Option Value) (base : Heap) (k : Nat) (f : Addr) (fd : FuncData) (ps : List Str) (sp : Sp) : Prop where
  len : ∀ vs H Q E, sp vs H Q E → vs.length = ps.length
  run : ∀ (A : Around) (st : List Env) (s : Shared) (H : Hp) (args : Args) (us : List Value) (vs : List V) (Q : VK) (E : XK), Room k A → A.guards = some [] → Env0 P w K mg base A st s H → BindsTo s fd args (ps.zip us) → Vals vs us → sp vs H Q E →
    codeAny (model P w) A (.call (.ref f) args) (CR (L2.CX P w) st P w H s Q E) s
theorem FnG.mono {P : Program} {w : World} {K : PySem.W.Frag} {mg : Str → Option Value} {base : Heap} {j k : Nat} {f : Addr} {fd : FuncData} {ps : List Str} {sp : Sp} (F : FnG P w K mg base j f fd ps sp) (h : j ≤ k) : FnG P w K mg base k f fd ps sp :=
  ⟨F.len, fun A st s H args us vs Q E r g => F.run A st s H args us vs Q E (Room.mono r h) g⟩
theorem FnG.imp {P : Program} {w : World} {K : PySem.W.Frag} {mg : Str → Option Value} {base : Heap} {k : Nat} {f : Addr} {fd : FuncData} {ps : List Str} {sp sp' : Sp} (F : FnG P w K mg base k f fd ps sp)
    (h : ∀ vs H Q E, sp' vs H Q E → sp vs H Q E) : FnG P w K mg base k f fd ps sp' :=
  ⟨fun vs H Q E q => F.len vs H Q E (h _ _ _ _ q), fun A st s H args us vs Q E r g e b v q => F.run A st s H args us vs Q E r g e b v (h _ _ _ _ q)⟩
section
variable {P : Program} {w : World} {K : PySem.W.Frag} {mg : Str → Option Value} {base : Heap} {x qual : Str} {params : Arguments} {body : List Stmt} {scope : Scope} {dvs : List V} {kws : List (Str × V)} {f : Addr} {fd : FuncData}
theorem fn_g {sp : Sp} {N ps : List Str} {k : Nat} (F : FunD K x qual params body scope dvs kws f fd) (S : FnScope N ps scope) (len : ∀ vs H Q E, sp vs H Q E → vs.length = ps.length)
    (hb : ∀ (cdv : Value) (A : Around) (st : List Env) (s : Shared) (H : Hp) (vs : List V) (Q : VK) (E : XK), Room k (A.deeper (envOfC qual scope s.heap.objs.size f cdv)) → A.guards = some [] → sp vs H Q E →
      ∃ t, PSs (cxOf (L2.CX P w) P w K mg base N qual scope f cdv A st s H E) body t ∧ t { nx := fun _ H' => Q .non H', rt := Q } (L2.start N vs) H) : FnG P w K mg base (k + 1) f fd ps sp := by
  obtain ⟨oc, od, dV, kV, doc, pm, an, cdv, ct, osl, rfl, lk, cd, _, _⟩ := F.ex
  refine ⟨len, fun A st s H args us vs Q E room gd env bind rel q => ?_⟩
  have inK : K.In s.heap := env.mod.kin.keeps fun b o h => (env.bs b o h).1
  have noLim : s.heap.NoLimit := env.mod.nolimit.keeps fun b o h => (env.bs b o h).1
  have kinds : ∀ y ∈ ps.zip us, scope.names.lookup y.1 = some .local ∨ (scope.names.lookup y.1 = some .cell ∧ ((cellsFrom (s.heap.objs.size + 1) scope.names []).lookup y.1).isSome = true) := by
    rintro ⟨n, v⟩ hy
    rcases S.par n (List.of_mem_zip hy).1 with z | z
    · exact Or.inl z
    · exact Or.inr ⟨z, PySem.W.cellsFrom_some _ _ _ (Or.inl z)⟩
  refine codeAny_call_function room.depth (inK _ _ lk) rfl S.co S.gen rfl (PySem.W.codeRec_of inK cd) (bind _ _ _ _ (wpAny_newFunctionEnv_cells S.kind kinds fun env' he s1 in1 => ?_))
  subst he
  refine ⟨noLim.keeps in1.toInCall.keep, codeAny_func ?_⟩
  obtain ⟨t, run, want⟩ := hb cdv A st s H vs Q E (Room.deeper room _) gd q
  have inv := inv_start (CX := L2.CX P w) (cd := cdv) (f := f) (qual := qual) (E := E) S room.hd env (len _ _ _ _ q) rel in1
  refine wpAny_mono (run.run [] s1 (L2.start N vs) H _ inv want) (fun fl s' g => ?_) fun _ _ g => g
  cases fl with
  | next => obtain ⟨σ', H', J, g⟩ := g; exact ⟨.non, H', J.os, J.bare, J.base, J.hok, rfl, g⟩
  | ret u => obtain ⟨v, σ', H', J, rv, g⟩ := g; exact ⟨v, H', J.os, J.bare, J.base, J.hok, rv, g⟩
  | brk => obtain ⟨_, _, _, g⟩ := g; exact g.elim
  | cont => obtain ⟨_, _, _, g⟩ := g; exact g.elim
theorem fn_ok {C : Ct} {N ps : List Str} {k n ar : Nat} {sv : SV} (F : FunD K x qual params body scope dvs kws f fd) (S : FnScope N ps scope) (hn : N.length = n) (hp : ps.length = ar)
    (hb : ∀ (cdv : Value) (A : Around) (st : List Env) (s : Shared) (H : Hp) (E : XK), Room k (A.deeper (envOfC qual scope s.heap.objs.size f cdv)) → (A.deeper (envOfC qual scope s.heap.objs.size f cdv)).guards = some [] →
      PSs (cxOf (L2.CX P w) P w K mg base N qual scope f cdv A st s H E) body (LS C (fun cls d _ H => E cls d H) sv)) : FnG P w K mg base (k + 1) f fd ps (spF C (fnB n sv) ar) := by
  subst hn hp
  refine fn_g F S (fun vs H Q E h => h.1) fun cdv A st s H vs Q E room gd ⟨l, α, M, ds, m, r, h⟩ => ?_
  exact ⟨_, hb cdv A st s H E room gd, α, start3 N.length ds, M, m, start_ok r, FinS.endB h⟩
end
section
variable {X : Cx} {C : Ct} {W : WX} {k : Nat} {f : Addr} {fd : FuncData} {ps : List Str} {sp : Sp} {g : Fn3} {ar : Nat} {x : Str} {p pos : Pos} {e : Expr} {es : List Expr} {t : TA} {av : AV} {dvs : List V} {ds : List Value} {dd : List D}
theorem run_g {pins : List (Addr × Obj)} {σ : L2.St} {H : Hp} {s : Shared} {Q : VK} {E : XK} {args : Args} {us : List Value} {vs : List V} (F : FnG X.prog X.w X.K X.mg X.base k f fd ps sp) (hr : Room k X.A) (gd : X.A.guards = some []) (hx : PassesAt (L2.CX X.prog X.w) X σ E)
    (I : Inv X pins σ H s) (hb : BindsTo s fd args (ps.zip us)) (r : Vals vs us) (h : sp vs H Q E) : codeAny (model X.prog X.w) X.A (.call (.ref f) args) (fun R s' => match R with
      | .ok (.ret u) => EP X pins σ Q u s'
      | .ok _ => False
      | .error e => X.xe e s') s := by
  refine codeAny_mono (F.run X.A X.stack s H args us vs Q E hr gd I.env0 hb r h) fun R s' q => ?_
  cases R with
  | error e => exact hx pins H s e s' I q
  | ok fl => cases fl <;> first | exact I.after q | exact False.elim q
theorem pe_g (F : FnG X.prog X.w X.K X.mg X.base k f fd ps sp) (hr : Room k X.A) (gd : X.A.guards = some []) (hg : Gl X x) (hm : X.mg x = some (.ref f)) (hk : PySem.W.keepIn X.K (.ref f) = true) (hb : Binds X.K fd ps ds) (hd : Vals dvs ds) (hx : ∀ σ, PassesAt (L2.CX X.prog X.w) X σ (WE W σ))
    (ha : PA X (e :: es) t) (hdb : (x == ("__debug__" : Str)) = false := by decide) (he : starEach (e :: es) X.env = (false, eval e X.env) :: starEach es X.env := by rfl) (hpl : (backTo pos (starEach es X.env)).any (·.1) = false := by rfl) : PE X (.Call (.Name x p) (e :: es) [] pos) (tCallSD sp dvs (WE W) t) := by
  refine ⟨fun pins s σ H Q I h => wpAny_Call_Name_kw (ld_glob I hg hm (PySem.W.callWith_K (h₀ := X.base) I.ok.mod.kin hk (thn (ha.run pos pins s σ H _ I h) fun us s1 ⟨vs, H1, I1, r, q⟩ => ⟨I1.kIn, ?_⟩) he hpl) hdb)⟩
  have rr := r.append hd
  have hl : (us ++ ds).length = ps.length := rr.length.symm.trans (F.len _ _ _ _ q)
  refine wpAny_call (codeAny_mono (run_g F hr gd (hx σ) I1 (hb s1 us I1.kIn hl) rr q) fun R s' z => ?_)
  cases R with
  | error e => exact z
  | ok fl => cases fl <;> first | exact z | exact False.elim z
theorem l_call (F : FnG X.prog X.w X.K X.mg X.base k f fd ps (spF C g ar)) (hr : Room k X.A) (gd : X.A.guards = some []) (hg : Gl X x) (hm : X.mg x = some (.ref f)) (hk : PySem.W.keepIn X.K (.ref f) = true) (hb : Binds X.K fd ps ds) (hd : Vals dvs ds) (hx : ∀ σ, PassesAt (L2.CX X.prog X.w) X σ (WE W σ)) (hdd : ∀ α H, Rls C α H dd dvs)
    (ha : PA X (e :: es) (LA C W av)) (hdb : (x == ("__debug__" : Str)) = false := by decide) (he : starEach (e :: es) X.env = (false, eval e X.env) :: starEach es X.env := by rfl) (hpl : (backTo pos (starEach es X.env)).any (·.1) = false := by rfl) :
    PE X (.Call (.Name x p) (e :: es) [] pos) (LE C W (evCall g ar dd av)) := PEimp (pe_g F hr gd hg hm hk hb hd hx ha hdb he hpl) fun _ _ _ h => call_ok hdd h
end

/-! ### new instances -/
theorem under_guards {A : Around} {C : Addr} {us : List Value} {kw : List (Str × Value)} (h : A.guards = some []) : (A.under (.builtin "type.__call__" ⟨.ref C :: us, kw⟩)).guards = some [] := by
  have n : ¬ ("type.__call__" ∈ guardIds) := by decide
  simp [Around.under, pushGuards, Code.guards, Code.isGuard, h, n]
def tNew (C : Addr) (sp : Sp) (gV : List V → List V → List V) (n m : Nat) (E : L2.St → XK) (t tk : TA) : TE := fun σ H Q => t σ H fun vs H1 => tk σ H1 fun zs H2 => vs.length = n ∧ zs.length = m ∧
  ∀ x dx, H2 x = none → H2 dx = none → dx ≠ x → sp (gV (.ref x :: vs) zs) (upd (upd H2 dx (.own x)) x (.ins C dx [])) (fun v H3 => v = .non ∧ Q (.ref x) H3) (E σ)
section
variable {X : Cx} {C : Addr} {W : WX} {k n : Nat} {f : Addr} {fd : FuncData} {ps ks : List Str} {sp : Sp} {x : Str} {p pos : Pos} {e : Expr} {es : List Expr} {kws : List Keyword} {t tk : TA} {g : List Value → List Value → List Value} {gV : List V → List V → List V}
theorem run_new {pins : List (Addr × Obj)} {σ : L2.St} {H : Hp} {s : Shared} {Q : VK} {E : XK} {us ws : List Value} {vs zs : List V} (M : Mk X.K C f) (F : FnG X.prog X.w X.K X.mg X.base k f fd ps sp) (hr : Room (k + 1) X.A) (gd : X.A.guards = some []) (hb : KBn X.K fd ps (n + 1) ks g gV)
    (hx : PassesAt (L2.CX X.prog X.w) X σ E) (I : Inv X pins σ H s) (r : Vals vs us) (rz : Vals zs ws) (l1 : vs.length = n) (l2 : zs.length = ks.length)
    (h : ∀ x dx, H x = none → H dx = none → dx ≠ x → sp (gV (.ref x :: vs) zs) (upd (upd H dx (.own x)) x (.ins C dx [])) (fun v H2 => v = .non ∧ Q (.ref x) H2) E) :
    wpAny (model X.prog X.w) X.A (call (.ref C) us (ks.zip ws)) (EP X pins σ Q) X.xe s := by
  obtain ⟨m, hmm⟩ : ∃ m, s.heap.objs.size = m := ⟨_, rfl⟩
  have want := h (m + 1) m (I.hok.fresh (by rw [hmm]; exact Nat.le_succ _)) (I.hok.fresh (by rw [hmm]; exact Nat.le_refl _)) (Nat.ne_of_lt (Nat.lt_succ_self _))
  have I2 := Inv.made (C := C) I
  have rr := hb.rel (vs := V.ref (m + 1) :: vs) (us := Value.ref (m + 1) :: us) (.cons rfl r) rz
  have go := F.run (X.A.under (.builtin "type.__call__" ⟨.ref C :: us, ks.zip ws⟩)) X.stack _ _ ⟨Value.ref (m + 1) :: us, ks.zip ws⟩ _ _ _ _ (hr.make C us (ks.zip ws)) (under_guards gd) (hmm ▸ I2.env0.make C us (ks.zip ws))
    (hb.to _ (Value.ref (m + 1) :: us) ws (hmm ▸ I2.kIn) (congrArg Nat.succ (r.length.symm.trans l1)) (rz.length.symm.trans l2)) rr want
  subst hmm
  refine wpAny_call (make_map (f := f) I.kIn M.makes M.init (beq_iff_eq.mp M.fn) (codeAny_mono go fun R s' q => ?_))
  cases R with
  | error e => exact hx pins _ _ e s' I2 q
  | ok fl =>
    cases fl with
    | ret u =>
      obtain ⟨v, H', I3, rv, ev, q3⟩ := I2.after q
      subst ev
      exact ⟨rv, V.ref (s.heap.objs.size + 1), H', I3, rfl, q3⟩
    | _ => exact False.elim q
theorem kbn_pos {dvs : List V} {ds : List Value} (hb : Binds X.K fd ps ds) (hd : Vals dvs ds) (hl : n + 1 + dvs.length = ps.length) : KBn X.K fd ps (n + 1) [] (fun us _ => us ++ ds) (fun vs _ => vs ++ dvs) where
  to := fun s us ws hk l1 l2 => hb s us hk (by rw [List.length_append, l1, ← hd.length]; exact hl)
  rel := fun r _ => r.append hd
theorem pe_newP (M : Mk X.K C f) (F : FnG X.prog X.w X.K X.mg X.base k f fd ps sp) (hr : Room (k + 1) X.A) (gd : X.A.guards = some []) (hg : Gl X x) (hm : X.mg x = some (.ref C)) (hb : KBn X.K fd ps (n + 1) [] g gV) (hx : ∀ σ, PassesAt (L2.CX X.prog X.w) X σ (WE W σ))
    (ha : PA X (e :: es) t) (hdb : (x == ("__debug__" : Str)) = false := by decide) (he : starEach (e :: es) X.env = (false, eval e X.env) :: starEach es X.env := by rfl) (hpl : (backTo pos (starEach es X.env)).any (·.1) = false := by rfl) :
    PE X (.Call (.Name x p) (e :: es) [] pos) (tNew C sp gV n 0 (WE W) t (fun _ H Q => Q [] H)) := by
  refine ⟨fun pins s σ H Q I h => wpAny_Call_Name_kw (ld_glob I hg hm (PySem.W.callWith_K (h₀ := X.base) I.ok.mod.kin M.kp (thn (ha.run pos pins s σ H _ I h) fun us s1 ⟨vs, H1, I1, r, l1, l2, q⟩ => ⟨I1.kIn, ?_⟩) he hpl) hdb)⟩
  exact run_new (ks := []) (ws := []) M F hr gd hb (hx σ) I1 r .nil l1 rfl q
theorem pe_newK0 (M : Mk X.K C f) (F : FnG X.prog X.w X.K X.mg X.base k f fd ps sp) (hr : Room (k + 1) X.A) (gd : X.A.guards = some []) (hg : Gl X x) (hm : X.mg x = some (.ref C)) (hb : KBn X.K fd ps 1 ks g gV) (hx : ∀ σ, PassesAt (L2.CX X.prog X.w) X σ (WE W σ)) (hkw : PK X kws tk)
    (hall : (backToKw pos (keywordEach kws X.env)).all (·.1.isSome) = true := by rfl) (hks : (backToKw pos (keywordEach kws X.env)).filterMap (·.1) = ks := by rfl) (hdb : (x == ("__debug__" : Str)) = false := by decide)
    (hpl : ((backTo pos (starEach [] X.env)).any (·.1) || (backToKw pos (keywordEach kws X.env)).any (·.1.isNone)) = false := by rfl) :
    PE X (.Call (.Name x p) [] kws pos) (tNew C sp gV 0 ks.length (WE W) (fun _ H Q => Q [] H) tk) := by
  refine ⟨fun pins s σ H Q I h => wpAny_Call_Name_kw (ld_glob I hg hm (PySem.W.callWith_KW0 (h₀ := X.base) I.ok.mod.kin M.kp hall ?_ hpl) hdb)⟩
  refine thn (hkw.run pos pins s σ H _ I h) fun ws s2 ⟨zs, H2, I2, rz, l1, l2, q2⟩ => ⟨I2.kIn, ?_⟩
  rw [hks]
  exact run_new (us := []) (vs := []) M F hr gd hb (hx σ) I2 .nil rz rfl l2 q2
theorem pe_newKW (M : Mk X.K C f) (F : FnG X.prog X.w X.K X.mg X.base k f fd ps sp) (hr : Room (k + 1) X.A) (gd : X.A.guards = some []) (hg : Gl X x) (hm : X.mg x = some (.ref C)) (hb : KBn X.K fd ps (n + 1) ks g gV) (hx : ∀ σ, PassesAt (L2.CX X.prog X.w) X σ (WE W σ)) (ha : PA X (e :: es) t) (hkw : PK X kws tk)
    (hall : (backToKw pos (keywordEach kws X.env)).all (·.1.isSome) = true := by rfl) (hks : (backToKw pos (keywordEach kws X.env)).filterMap (·.1) = ks := by rfl) (hdb : (x == ("__debug__" : Str)) = false := by decide)
    (he : starEach (e :: es) X.env = (false, eval e X.env) :: starEach es X.env := by rfl) (hpl : ((backTo pos (starEach (e :: es) X.env)).any (·.1) || (backToKw pos (keywordEach kws X.env)).any (·.1.isNone)) = false := by rfl) :
    PE X (.Call (.Name x p) (e :: es) kws pos) (tNew C sp gV n ks.length (WE W) t tk) := by
  refine ⟨fun pins s σ H Q I h => wpAny_Call_Name_kw (ld_glob I hg hm (PySem.W.callWith_KW (h₀ := X.base) I.ok.mod.kin M.kp hall (thn (ha.run pos pins s σ H _ I h) fun us s1 ⟨vs, H1, I1, r, q⟩ => ?_) hpl he) hdb)⟩
  refine thn (hkw.run pos pins s1 σ H1 _ I1 q) fun ws s2 ⟨zs, H2, I2, rz, l1, l2, q2⟩ => ⟨I2.kIn, ?_⟩
  rw [hks]
  exact run_new M F hr gd hb (hx σ) I2 r rz l1 l2 q2
end
/-! in trees: a new cell, then __init__ -/
def newR (c : Nat) (g : Fn3) (ar : Nat) (args : List D) (M : Mem) : Res D := if args.length + 1 = ar then (match g (.ref M.length :: args) (M ++ [.ins c []]) with
  | .ok .non M2 => .ok (.ref M.length) M2
  | .exc k ds M2 => .exc k ds M2
  | _ => .no) else .no
def evNew (c : Nat) (g : Fn3) (ar : Nat) (gd : List D → List D → List D) (n m : Nat) (av ak : AV) : EV := fun σ M => (av σ M).bind fun xs M1 => (ak σ M1).bind fun ys M2 => if xs.length = n ∧ ys.length = m then newR c g ar (gd xs ys) M2 else .no
def LK (C : Ct) (W : WX) (X : Cx) (kws : List Keyword) (av : AV) : Prop := PK X kws (LA C W av)
theorem lk_nil {X : Cx} {C : Ct} {W : WX} : LK C W X [] avNil := ⟨fun po p s σ H Q I ⟨α, σ3, M, m, st, h⟩ => pk_nil.run po p s σ H Q I (h α H [] (Ext.refl _ _) m rfl)⟩
theorem lk_cons {X : Cx} {C : Ct} {W : WX} {kws : List Keyword} {nm : Option Str} {e : Expr} {kpos : Pos} {ev : EV} {av : AV} (ha : PE X e (LE C W ev)) (hr : LK C W X kws av) : LK C W X (⟨nm, e, kpos⟩ :: kws) (avCons ev av) := by
  refine ⟨fun po p s σ H Q I ⟨α, σ3, M, m, st, h⟩ => (pk_cons ha hr).run po p s σ H Q I ⟨α, σ3, M, m, st, (Fin.bind h).mono fun x H1 ⟨α1, M1, d, e1, m1, r1, h1⟩ => ?_⟩⟩
  refine ⟨α1, σ3, M1, m1, st.ext e1, (Fin.bind h1).mono fun y H2 ⟨α2, M2, d2, e2, m2, r2, h2⟩ => ?_⟩
  exact h2 α2 H2 _ (Ext.refl _ _) m2 ⟨x, y, rfl, r1.ext e2, r2⟩
section
variable {X : Cx} {C : Ct} {W : WX} {k n m c : Nat} {f : Addr} {fd : FuncData} {ps ks : List Str} {g : Fn3} {ar : Nat} {av ak : AV} {gV : List V → List V → List V} {gd : List D → List D → List D}
/-- how arguments go round, the same of trees and of values -/
def Goes (C : Ct) (n m : Nat) (gd : List D → List D → List D) (gV : List V → List V → List V) : Prop := ∀ α H xs ys vs zs (x : V), xs.length = n → ys.length = m → Rls C α H xs vs → Rls C α H ys zs → ∃ us, gV (x :: vs) zs = x :: us ∧ Rls C α H (gd xs ys) us
theorem new_imp (hg : Goes C n m gd gV) {σ : L2.St} {H : Hp} {Q : VK} {t tk : TA} (h : LE C W (evNew c g ar gd n m av ak) σ H Q) (ht : ∀ σ H Q, LA C W av σ H Q → t σ H Q) (htk : ∀ σ H Q, LA C W ak σ H Q → tk σ H Q) : tNew (C.cls c) (spF C g ar) gV n m (WE W) t tk σ H Q := by
  obtain ⟨α, σ3, M, mm, s, h⟩ := h
  refine ht _ _ _ ⟨α, σ3, M, mm, s, (Fin.bind h).mono fun vs H1 ⟨α1, M1, xs, e1, m1, r1, h1⟩ => ?_⟩
  refine htk _ _ _ ⟨α1, σ3, M1, m1, s.ext e1, (Fin.bind h1).mono fun zs H2 ⟨α2, M2, ys, e2, m2, r2, h2⟩ => ?_⟩
  have h2 : Fin C W σ (RD C) α2 H2 (if xs.length = n ∧ ys.length = m then newR c g ar (gd xs ys) M2 else .no) Q := h2
  by_cases z : xs.length = n ∧ ys.length = m
  · rw [if_pos z] at h2
    have r1 := Rls.ext e2 r1
    refine ⟨by rw [r1.length]; exact z.1, by rw [r2.length]; exact z.2, fun x dx hx hdx hne => ?_⟩
    obtain ⟨us, eu, ru⟩ := hg α2 H2 xs ys vs zs (.ref x) z.1 z.2 r1 r2
    rw [eu]
    unfold newR at h2
    by_cases y : (gd xs ys).length + 1 = ar
    · rw [if_pos y] at h2
      have hx' : upd H2 dx (.own x) x = none := by rw [upd_ne (fun q => hne q.symm)]; exact hx
      have ma : SMem C α2 M2 (upd H2 dx (.own x)) := m2.laid hdx
      have ea : Ext α2 H2 α2 (upd H2 dx (.own x)) := Ext.laid (C := C) (M := M2) hdx
      have eb : Ext α2 (upd H2 dx (.own x)) (α2 ++ [x]) (upd (upd H2 dx (.own x)) x (.ins (C.cls c) dx [])) := Ext.cell ma hx'
      have mb : SMem C (α2 ++ [x]) (M2 ++ [.ins c []]) (upd (upd H2 dx (.own x)) x (.ins (C.cls c) dx [])) := ma.push (c := .ins c []) hx' ⟨dx, [], by rw [List.zip_nil_right]; exact upd_same, Nat.zero_le _, rfl⟩
      refine ⟨by rw [List.length_cons, ru.length]; exact y, α2 ++ [x], M2 ++ [.ins c []], .ref M2.length :: gd xs ys, mb, ⟨.ref x, us, rfl, ⟨x, by rw [← m2.len]; simp, rfl⟩, ru.ext (ea.trans eb)⟩, ?_⟩
      have gx : (α2 ++ [x])[M2.length]? = some x := by rw [← m2.len]; simp
      cases q : g (.ref M2.length :: gd xs ys) (M2 ++ [.ins c []]) with
      | no => rw [q] at h2; exact h2.elim
      | exc k ds M3 => rw [q] at h2; exact fun α3 H3 d3 e3 m3 x3 => h2 α3 H3 d3 (ea.trans (eb.trans e3)) m3 x3
      | ok d M3 =>
        rw [q] at h2
        cases d with
        | non => exact fun α3 H3 v e3 m3 r3 => ⟨r3, h2 α3 H3 (.ref x) (ea.trans (eb.trans e3)) m3 ⟨x, e3.get gx, rfl⟩⟩
        | _ => exact h2.elim
    · rw [if_neg y] at h2; exact h2.elim
  · rw [if_neg z] at h2; exact h2.elim
end
section
variable {X : Cx} {C : Ct} {W : WX} {k n c : Nat} {f cl : Addr} {fd : FuncData} {ps ks : List Str} {g : Fn3} {ar : Nat} {x : Str} {p pos : Pos} {e : Expr} {es : List Expr} {kws : List Keyword} {av ak : AV} {gB : List Value → List Value → List Value} {gV : List V → List V → List V} {gd : List D → List D → List D}
theorem l_newP (hC : C.cls c = cl) (M : Mk X.K cl f) (F : FnG X.prog X.w X.K X.mg X.base k f fd ps (spF C g ar)) (hr : Room (k + 1) X.A) (gu : X.A.guards = some []) (hg : Gl X x) (hm : X.mg x = some (.ref cl)) (hb : KBn X.K fd ps (n + 1) [] gB gV) (hgo : Goes C n 0 gd gV) (hx : ∀ σ, PassesAt (L2.CX X.prog X.w) X σ (WE W σ))
    (ha : PA X (e :: es) (LA C W av)) (hdb : (x == ("__debug__" : Str)) = false := by decide) (he : starEach (e :: es) X.env = (false, eval e X.env) :: starEach es X.env := by rfl) (hpl : (backTo pos (starEach es X.env)).any (·.1) = false := by rfl) :
    PE X (.Call (.Name x p) (e :: es) [] pos) (LE C W (evNew c g ar gd n 0 av avNil)) := by
  subst hC
  exact PEimp (pe_newP M F hr gu hg hm hb hx ha hdb he hpl) fun σ H Q h => new_imp hgo h (fun _ _ _ z => z) fun σ H Q ⟨α, σ3, M, m, s, z⟩ => z α H [] (Ext.refl _ _) m rfl
theorem l_newK0 (hC : C.cls c = cl) (M : Mk X.K cl f) (F : FnG X.prog X.w X.K X.mg X.base k f fd ps (spF C g ar)) (hr : Room (k + 1) X.A) (gu : X.A.guards = some []) (hg : Gl X x) (hm : X.mg x = some (.ref cl)) (hb : KBn X.K fd ps 1 ks gB gV) (hgo : Goes C 0 ks.length gd gV) (hx : ∀ σ, PassesAt (L2.CX X.prog X.w) X σ (WE W σ)) (hkw : LK C W X kws ak)
    (hall : (backToKw pos (keywordEach kws X.env)).all (·.1.isSome) = true := by rfl) (hks : (backToKw pos (keywordEach kws X.env)).filterMap (·.1) = ks := by rfl) (hdb : (x == ("__debug__" : Str)) = false := by decide)
    (hpl : ((backTo pos (starEach [] X.env)).any (·.1) || (backToKw pos (keywordEach kws X.env)).any (·.1.isNone)) = false := by rfl) :
    PE X (.Call (.Name x p) [] kws pos) (LE C W (evNew c g ar gd 0 ks.length avNil ak)) := by
  subst hC
  exact PEimp (pe_newK0 M F hr gu hg hm hb hx hkw hall hks hdb hpl) fun σ H Q h => new_imp hgo h (fun σ H Q ⟨α, σ3, M, m, s, z⟩ => z α H [] (Ext.refl _ _) m rfl) fun _ _ _ z => z
end

/-! ### a law's end -/
theorem walk_g {l : PySem.W.OpenLaw} {n k : Nat} {q : Program} {loose : List Str} {XP : (Str → Option Value) → Heap → Prop} {YP : World → Heap → Prop} {d : DefRec} {x : Str}
    (hn : l.most = some n) (hn2 : n ≤ sizeLine) (hdf : d.params.defaults = []) (hr : Room k callerA)
    (F : ∀ (w : World) (mg : Str → Option Value) (fa : Addr) (h : Heap), YP w h → h.Ns mainGlobals mg → mg d.name = some (.ref fa) →
      ∃ (C : Ct) (fd : FuncData) (g : Fn3), C.K.In h ∧ (∀ (s : Shared) (u : Value), BindsTo s fd ⟨[u], []⟩ [(x, u)]) ∧
        (∀ ns : List Int, ns.length ≤ n → (∀ z ∈ ns, Builtin.Int.intBits z ≤ 1048576) → ∃ M, g [.scr (ns.map D.int)] [] = .ok (.bl true) M) ∧
        ∀ base : Heap, C.K.In base → base.Ns mainGlobals mg → FnG l.prog w C.K mg base k fa fd [x] (spF C g 1)) :
    PySem.W.WalkO q loose XP YP l.row.toRowW d [] (fun f vs => PySem.call f vs) := by
  refine Att.attach_callB hn hdf fun w s₀ s₁ mg mb fa o pm cd doc a vs ns G Y ho hd hcd hmg hobj hints hlen hbits gens => ?_
  obtain ⟨C, fd, g, KX, bind, pure_, FG⟩ := F w mg fa _ Y G.T.g hmg
  obtain ⟨Mf, law⟩ := pure_ ns hlen hbits
  have rints : ∀ (H : Hp) (is : List Int), Rls C [] H (is.map D.int) (is.map V.int) := fun H is => by
    induction is with
    | nil => exact rfl
    | cons i r ih => exact ⟨.int i, _, rfl, rfl, ih⟩
  have go : ∀ H : Hp, (∀ b u, H b = some u → b = a ∧ C.K.lookup a = none ∧ u = .frz { cls := .type "list", data := .seq vs.toArray } (.lst (ns.map V.int))) → Rl C [] H (.scr (ns.map D.int)) (.ref a) →
      codeAny (model l.prog w) callerA (.call (.ref fa) ⟨[.ref a], []⟩) (fun r s' => r = .ok (.ret (.bool true)) ∧ OldK s₁.heap s'.heap ∧ s'.os = s₁.os ∧ AllBare s'.gens) s₁ := by
    intro H hH rel
    have ok : HOk l.prog w H s₁.heap := fun b u e => by
      obtain ⟨rfl, _, rfl⟩ := hH b u e
      exact ⟨hobj, by rw [List.length_map]; exact Nat.le_trans hlen hn2, vs, _, vals_ints hints, hobj⟩
    have seen : ∀ {b : Addr} {u : Obj}, s₁.heap.get? b = some u → (b = a → C.K.lookup a ≠ none ∨ u.cls ≠ .type "list") → (hidT s₁.heap H).get? b = some u := fun {b u} e n => hidT_get e (by
      cases z : H b with
      | none => rfl
      | some v =>
        obtain ⟨rfl, z2, _⟩ := hH b v z
        rcases n rfl with n | n
        · exact absurd z2 n
        · rw [hobj] at e; cases e; exact absurd rfl n)
    have kin : C.K.In (hidT s₁.heap H) := fun b u e => seen (KX b u e) fun q => .inl (by rw [← q, e]; exact fun z => nomatch z)
    have nsp : ∀ {b : Addr} {m : Str → Option Value}, s₁.heap.Ns b m → (hidT s₁.heap H).Ns b m := fun {b m} ⟨u, es, ep, e, dd, r⟩ => ⟨u, es, ep, hidT_get e (by
      cases z : H b with
      | none => rfl
      | some v =>
        obtain ⟨rfl, _, _⟩ := hH b v z
        rw [hobj] at e; cases e; cases dd), dd, r⟩
    have env : Env0 l.prog w C.K mg (hidT s₁.heap H) callerA [] s₁ H := ⟨rfl, ⟨kin, nsp G.T.g, ⟨mb, nsp G.T.b, G.T.builtins⟩, (let ⟨mc, h1, h2⟩ := G.T.nolimit; ⟨mc, nsp h1, h2⟩)⟩, fun b u e => of_hidT e, Nat.le_of_eq (hidT_size _ _), trivial, fun b hb => absurd hb (by simp [frs]), ok, .of_eq gens⟩
    have run := (FG _ kin (nsp G.T.g)).run callerA [] s₁ H ⟨[.ref a], []⟩ [.ref a] [.ref a] (fun v _ => v = .bl true) (fun _ _ _ => False) hr rfl env (bind s₁ (.ref a)) (.cons rfl .nil)
      ⟨rfl, [], [], [.scr (ns.map D.int)], ⟨rfl, List.nodup_nil, fun n c b h => by simp at h⟩, Rls.one rel, by rw [law]; exact fun α' H' v _ _ r => r⟩
    refine codeAny_mono run fun r s' z => ?_
    cases r with
    | error e =>
      obtain ⟨_, _, _, _, _, _, _, _, _, _, _, _, z⟩ := z
      exact z.elim
    | ok fl =>
      cases fl with
      | ret u =>
        obtain ⟨v, H', os, bare, un, ok', rv, z⟩ := z
        obtain rfl : v = .bl true := z
        obtain rfl : u = Value.bool true := rv
        refine ⟨rfl, OldK.of_keep fun b u e => ?_, os, bare⟩
        cases z : H b with
        | none => exact un.keep b u e z (fun y => absurd y (by simp [frs])) (by simp)
        | some v =>
          obtain ⟨rfl, _, rfl⟩ := hH b v z
          have h2 := ok' b _ (un.frzs b _ _ z)
          rw [hobj] at e; cases e
          exact h2.1
      | _ => exact False.elim z
  cases hk : C.K.lookup a with
  | some o' =>
    have e := KX a o' hk
    rw [hobj] at e
    cases e
    exact go (fun _ => none) (fun b u z => nomatch z) ⟨a, _, rfl, .inr ⟨_, vs.toArray, _, hk, rfl, rfl, rfl, by rw [List.size_toArray, hints.length]; exact Nat.le_trans hlen hn2, by simpa using vals_ints hints⟩, rints _ ns⟩
  | none =>
    refine go (fun b => if b = a then some (.frz { cls := .type "list", data := .seq vs.toArray } (.lst (ns.map V.int))) else none) (fun b u z => ?_) ⟨a, _, rfl, .inl ⟨by simp, .inr ⟨_, if_pos rfl⟩⟩, rints _ ns⟩
    by_cases y : b = a
    · rw [if_pos y] at z; cases z; exact ⟨y, hk, rfl⟩
    · rw [if_neg y] at z; cases z
end L3

set_option Elab.async false
set_option linter.all false
set_option maxRecDepth 100000
set_option maxHeartbeats 4000000
namespace L3
open PySem PySem.Spec PyProof.Rows L2

/-! ### own classes: fields by codes -/
structure CtOk (C : Ct) (T : List (List Nat)) (nm : List Str) : Prop where
  fl : ∀ c, C.fl c = (T.getD c []).map (nm.getD · Str.empty)
  nd : nm.Nodup
  low : ∀ l ∈ T, (∀ j ∈ l, j < nm.length) ∧ l.length < 1000
  cls : ∀ c f, f ∈ C.fl c → Cls C.K (C.cls c) ∧ NoAttr C.K (C.cls c) f
def nfT (T : List (List Nat)) : Nat → Nat := fun c => (T.getD c []).length
theorem CtOk.nf {C : Ct} {T : List (List Nat)} {nm : List Str} (k : CtOk C T nm) : ∀ c, nfT T c = (C.fl c).length := fun c => by rw [k.fl, List.length_map]; rfl
theorem getD_mem {T : List (List Nat)} {c : Nat} : T.getD c [] = [] ∨ T.getD c [] ∈ T := by
  rw [List.getD_eq_getElem?_getD]
  cases h : T[c]? with
  | none => exact .inl rfl
  | some l => exact .inr (List.mem_of_getElem? h)
theorem CtOk.same {C : Ct} {T : List (List Nat)} {nm : List Str} (k : CtOk C T nm) {c j g : Nat} {f : Str} (hj : nm[j]? = some f) (hg : g ∈ T.getD c []) : nm.getD g Str.empty = f ↔ g = j := by
  have hl : g < nm.length := by
    rcases getD_mem (T := T) (c := c) with h | h
    · rw [h] at hg; cases hg
    · exact (k.low _ h).1 g hg
  obtain ⟨h1, h2⟩ := List.getElem?_eq_some_iff.mp hj
  rw [List.getD_eq_getElem?_getD, List.getElem?_eq_getElem hl]
  show nm[g] = f ↔ g = j
  constructor
  · intro e
    rw [← h2] at e
    have q := List.pairwise_iff_getElem.mp k.nd
    rcases Nat.lt_trichotomy g j with z | z | z
    · exact absurd e (q g j hl h1 z)
    · exact z
    · exact absurd e.symm (q j g h1 hl z)
  · intro e; subst e; exact h2
def lkN : List Nat → List D → Nat → Option D
  | g :: fs, d :: ds, j => if g = j then some d else lkN fs ds j
  | _, _, _ => none
def putN : List Nat → Nat → D → List D → Option (List D)
  | g :: fs, j, y, d :: ds => if g = j then some (y :: ds) else (putN fs j y ds).map (d :: ·)
  | g :: fs, j, y, [] => if g = j then some [y] else none
  | [], _, _, _ => none
theorem lkN_ok {C : Ct} {α : List Addr} {H : Hp} {nm : Nat → Str} {f : Str} {j : Nat} {d : D} : ∀ {fs : List Nat} {ds : List D} {vs : List V}, (∀ g ∈ fs, nm g = f ↔ g = j) → Rls C α H ds vs → lkN fs ds j = some d → ∃ v, ((fs.map nm).zip vs).lookup f = some v ∧ Rl C α H d v
  | [], _, _, _, _, h => by simp [lkN] at h
  | _ :: _, [], _, _, _, h => by simp [lkN] at h
  | g :: fs, e :: ds, _, hs, ⟨v, r, q, hv, hr⟩, h => by
    subst q
    have h : (if g = j then some e else lkN fs ds j) = some d := h
    have hg := hs g List.mem_cons_self
    show ∃ w, List.lookup f ((nm g, v) :: (fs.map nm).zip r) = some w ∧ _
    by_cases z : g = j
    · rw [if_pos z] at h; cases h
      have e1 : (f == nm g) = true := beq_iff_eq.mpr (hg.mpr z).symm
      exact ⟨v, by rw [List.lookup_cons, e1], hv⟩
    · rw [if_neg z] at h
      have e1 : (f == nm g) = false := by
        cases q : f == nm g with
        | false => rfl
        | true => exact absurd (hg.mp (beq_iff_eq.mp q).symm) z
      obtain ⟨w, h1, h2⟩ := lkN_ok (fun g hg => hs g (List.mem_cons_of_mem _ hg)) hr h
      exact ⟨w, by rw [List.lookup_cons, e1]; exact h1, h2⟩
theorem putN_ok {C : Ct} {α : List Addr} {H : Hp} {nm : Nat → Str} {f : Str} {j : Nat} {y : D} {u : V} (hu : Rl C α H y u) : ∀ {fs : List Nat} {ds ds' : List D} {vs : List V}, (∀ g ∈ fs, nm g = f ↔ g = j) → Rls C α H ds vs → putN fs j y ds = some ds' →
    ∃ vs', putF f u ((fs.map nm).zip vs) = (fs.map nm).zip vs' ∧ Rls C α H ds' vs' ∧ (vs.length ≤ fs.length → vs'.length ≤ fs.length)
  | [], _, _, _, _, _, h => by simp [putN] at h
  | g :: fs, [], ds', _, hs, r, h => by
    cases r
    have h : (if g = j then some [y] else none) = some ds' := h
    by_cases z : g = j
    · rw [if_pos z] at h; cases h
      have e := (hs g List.mem_cons_self).mpr z
      refine ⟨[u], ?_, Rls.one hu, fun _ => by simp⟩
      show putF f u [] = [(nm g, u)] ++ (fs.map nm).zip []
      rw [e]; simp [putF]
    · rw [if_neg z] at h; cases h
  | g :: fs, e :: ds, ds', _, hs, ⟨v, r, q, hv, hr⟩, h => by
    subst q
    have h : (if g = j then some (y :: ds) else (putN fs j y ds).map (e :: ·)) = some ds' := h
    have hg := hs g List.mem_cons_self
    have pf : putF f u ((nm g, v) :: (fs.map nm).zip r) = if nm g = f then (nm g, u) :: (fs.map nm).zip r else (nm g, v) :: putF f u ((fs.map nm).zip r) := rfl
    show ∃ vs', putF f u ((nm g, v) :: (fs.map nm).zip r) = (nm g :: fs.map nm).zip vs' ∧ _
    by_cases z : g = j
    · rw [if_pos z] at h; cases h
      rw [pf, if_pos (hg.mpr z)]
      exact ⟨u :: r, rfl, Rls.cons hu hr, fun l => by simpa using l⟩
    · rw [if_neg z] at h
      rw [pf, if_neg (fun e => z (hg.mp e))]
      cases w : putN fs j y ds with
      | none => rw [w] at h; cases h
      | some es =>
        rw [w] at h; cases h
        obtain ⟨vs', h1, h2, h3⟩ := putN_ok hu (fun g hg => hs g (List.mem_cons_of_mem _ hg)) hr w
        exact ⟨v :: vs', by rw [h1]; rfl, Rls.cons hv h2, fun l => by have := h3 (by simpa using l); simpa using this⟩
def dFld (T : List (List Nat)) (j : Nat) : D → Mem → Res D := fun x M => match x with
  | .obj c ds => (match lkN (T.getD c []) ds j with
    | some d => .ok d M
    | none => .no)
  | .ref n => (match M[n]? with
    | some (.ins c ds) => (match lkN (T.getD c []) ds j with
      | some d => .ok d M
      | none => .no)
    | _ => .no)
  | _ => .no
section
variable {X : Cx} {C : Ct} {W : WX} {T : List (List Nat)} {nm : List Str} {eva evb : EV} {e o value : Expr} {f : Str} {j : Nat} {pos pos' : Pos}
theorem lkN_mem {fs : List Nat} {ds : List D} {d : D} (h : lkN fs ds j = some d) : j ∈ fs := by
  induction fs generalizing ds with
  | nil => simp [lkN] at h
  | cons g fs ih =>
    cases ds with
    | nil => simp [lkN] at h
    | cons e ds =>
      have h : (if g = j then some e else lkN fs ds j) = some d := h
      by_cases z : g = j
      · subst z; exact List.mem_cons_self
      · rw [if_neg z] at h; exact List.mem_cons_of_mem _ (ih h)
theorem putN_mem {fs : List Nat} {ds ds' : List D} {y : D} (h : putN fs j y ds = some ds') : j ∈ fs := by
  induction fs generalizing ds ds' with
  | nil => simp [putN] at h
  | cons g fs ih =>
    by_cases z : g = j
    · subst z; exact List.mem_cons_self
    · cases ds with
      | nil => have h : (if g = j then some [y] else none) = some ds' := h; rw [if_neg z] at h; cases h
      | cons e ds =>
        have h : (if g = j then some (y :: ds) else (putN fs j y ds).map (e :: ·)) = some ds' := h
        rw [if_neg z] at h
        cases w : putN fs j y ds with
        | none => rw [w] at h; cases h
        | some es => exact List.mem_cons_of_mem _ (ih w)
theorem CtOk.mem (k : CtOk C T nm) {c : Nat} (hj : nm[j]? = some f) (h : j ∈ T.getD c []) : f ∈ C.fl c := by
  rw [k.fl]
  exact List.mem_map.mpr ⟨j, h, by rw [List.getD_eq_getElem?_getD, hj]; rfl⟩
theorem l_fld (j : Nat) (k : CtOk C T nm) (hj : nm[j]? = some f) (he : PE X e (LE C W eva)) (hb : attributeBase e f X.env (eval e X.env) = eval e X.env := by rfl) (hK : C.K = X.K := by rfl) : PE X (.Attribute e f pos) (LE C W (ev1 (dFld T j) eva)) := by
  refine PEimp (pe_fld he hb) fun σ H Q ⟨α, σ3, M, m, s, h⟩ => ⟨α, σ3, M, m, s, (Fin.bind h).mono fun x H1 ⟨α1, M1, d, e1, m1, r1, h1⟩ => ?_⟩
  have core : ∀ (c : Nat) (ds : List D) (a dx : Addr) (vs : List V), x = .ref a → H1 a = some (.ins (C.cls c) dx ((C.fl c).zip vs)) → Rls C α1 H1 ds vs → Fin C W σ (RD C) α1 H1 (match lkN (T.getD c []) ds j with
      | some d => .ok d M1
      | none => .no) Q → ∃ a Cl dx fs v, x = .ref a ∧ H1 a = some (.ins Cl dx fs) ∧ Cls X.K Cl ∧ NoAttr X.K Cl f ∧ fs.lookup f = some v ∧ Q v H1 := by
    intro c ds a dx vs e ha rs h2
    cases q : lkN (T.getD c []) ds j with
    | none => rw [q] at h2; exact h2.elim
    | some d =>
      rw [q] at h2
      obtain ⟨v, h3, h4⟩ := lkN_ok (nm := (nm.getD · Str.empty)) (f := f) (fun g hg => k.same hj hg) rs q
      obtain ⟨c1, c2⟩ := k.cls c f (k.mem hj (lkN_mem q))
      rw [← hK]
      exact ⟨a, C.cls c, dx, _, v, e, ha, c1, c2, by rw [k.fl]; exact h3, fin_ok m1 h4 h2⟩
  cases d with
  | obj c ds =>
    obtain ⟨a, dx, vs, rfl, n, ha, l, rs⟩ := r1
    exact core c ds a dx vs rfl ha rs h1
  | ref n =>
    obtain ⟨a, ha, rfl⟩ := r1
    have h1 : Fin C W σ (RD C) α1 H1 (match M1[n]? with
      | some (.ins c ds) => (match lkN (T.getD c []) ds j with
        | some d => .ok d M1
        | none => .no)
      | _ => .no) Q := h1
    cases q : M1[n]? with
    | none => rw [q] at h1; exact h1.elim
    | some cl =>
      rw [q] at h1
      cases cl with
      | ins c ds =>
        obtain ⟨dx, vs, hv, l, rs⟩ := m1.cell n _ a q ha
        exact core c ds a dx vs rfl hv rs h1
      | _ => exact h1.elim
  | _ => exact h1.elim
def svFld (T : List (List Nat)) (j : Nat) (o v : EV) : SV := fun σ M => (v σ M).out σ fun y M1 => (o σ M1).out σ fun x M2 => match x with
  | .ref n => (match M2[n]? with
    | some (.ins c ds) => (match putN (T.getD c []) j y ds with
      | some ds' => .nx σ (M2.set n (.ins c ds'))
      | none => .no)
    | _ => .no)
  | _ => .no
theorem s_fld (j : Nat) (k : CtOk C T nm) (hj : nm[j]? = some f) (ho : PE X o (LE C W eva)) (hv : PE X value (LE C W evb)) (hs : swapsWith value (some (.Attribute o f pos')) pos.line X.env = pure false := by rfl) (hK : C.K = X.K := by rfl) : PS X (.Assign [.Attribute o f pos'] value pos) (LS C W (svFld T j eva evb)) := by
  refine PSimp (ps_fld ho hv hs) fun D σ H ⟨α, σ3, M, m, s, h⟩ => ⟨α, σ3, M, m, s, (FinS.out s h).mono fun u H1 ⟨α1, M1, y, e1, m1, r1, h1⟩ => ?_⟩
  refine ⟨α1, σ3, M1, m1, s.ext e1, (FinS.out (s.ext e1) h1).mono fun x H2 ⟨α2, M2, d, e2, m2, r2, h2⟩ => ?_⟩
  cases d with
  | ref n =>
    obtain ⟨a, ha, rfl⟩ := r2
    have h2 : FinS C W D α2 H2 (match M2[n]? with
      | some (.ins c ds) => (match putN (T.getD c []) j y ds with
        | some ds' => .nx σ3 (M2.set n (.ins c ds'))
        | none => .no)
      | _ => .no) := h2
    cases q : M2[n]? with
    | none => rw [q] at h2; exact h2.elim
    | some cl =>
      rw [q] at h2
      cases cl with
      | ins c ds =>
        have h2 : FinS C W D α2 H2 (match putN (T.getD c []) j y ds with
          | some ds' => .nx σ3 (M2.set n (.ins c ds'))
          | none => .no) := h2
        obtain ⟨dx, vs, hv, l, rs⟩ := m2.cell n _ a q ha
        cases q2 : putN (T.getD c []) j y ds with
        | none => rw [q2] at h2; exact h2.elim
        | some ds' =>
          rw [q2] at h2
          obtain ⟨vs', g1, g2, g3⟩ := putN_ok (nm := (nm.getD · Str.empty)) (f := f) (r1.ext e2) (fun g hg => k.same hj hg) rs q2
          obtain ⟨c1, c2⟩ := k.cls c f (k.mem hj (putN_mem q2))
          have lf : (C.fl c).length < 1000 := by
            rw [k.fl, List.length_map]
            rcases getD_mem (T := T) (c := c) with z | z
            · rw [z]; decide
            · exact (k.low _ z).2
          have hz : ((C.fl c).zip vs).length < 1000 := by rw [List.length_zip]; omega
          rw [← hK]
          refine ⟨a, C.cls c, dx, _, rfl, hv, c1, c2, hz, ?_⟩
          have ep : putF f u ((C.fl c).zip vs) = (C.fl c).zip vs' := by rw [k.fl]; exact g1
          rw [ep]
          have ew : Ext α2 H2 α2 (upd H2 a (.ins (C.cls c) dx ((C.fl c).zip vs'))) := Ext.write m2 ha
          have lv : vs'.length ≤ (C.fl c).length := by
            rw [k.fl, List.length_map] at l ⊢
            exact g3 l
          exact h2 α2 _ σ ew (m2.write (c := .ins c ds') ha ⟨dx, vs', upd_same, lv, g2.ext ew⟩) (s.ext (e1.trans (e2.trans ew)))
      | _ => exact h2.elim
  | _ => exact h2.elim
end
end L3

set_option Elab.async false
set_option linter.all false
set_option maxRecDepth 100000
set_option maxHeartbeats 4000000
namespace L3
open PySem PySem.Spec PyProof.Rows L2

/-! ### a, b, .. = xs, xs a list -/
section
variable {prog : Program} {w : World} {A : Around} {E : Value → Shared → Prop} {s : Shared}
theorem drawL {it l : Addr} {items : Array Value} (hne : l ≠ it) : ∀ (n i : Nat) (s : Shared) (Q : List Value → Shared → Prop), s.heap.IsListIter it l i → s.heap.IsList l items → i + n ≤ items.size →
    (∀ h', h'.IsListIter it l (i + n) → Heap.SameBut it s.heap h' → Q ((items.toList.drop i).take n) { s with heap := h' }) → wpAny (model prog w) A (PySem.draw (.ref it) n) Q E s
  | 0, i, s, Q, hi, _, _, q => wpAny_pure (by simpa using q s.heap hi (Heap.SameBut.refl ..))
  | n + 1, i, s, Q, hi, hl, le, q => by
    have lt : i < items.size := by omega
    show wpAny _ _ (pyNext (.ref it) >>= _) Q E s
    refine wpAny_bind (wpAny_pyNext_list_item hi hl (x := items[i]) (by simp [lt]) fun h1 i1 s1 => ?_)
    refine wpAny_bind (wpAny_holding (drawL hne n (i + 1) _ _ i1 (hl.extBut s1.extBut hne) (by omega) fun h2 i2 s2 => wpAny_pure ?_))
    have e : items.toList.drop i = items[i] :: items.toList.drop (i + 1) := by simp [List.drop_eq_getElem_cons, lt]
    have z := q h2 (by rw [show i + (n + 1) = i + 1 + n by omega]; exact i2) (s1.trans s2)
    rw [e, List.take_succ_cons] at z
    exact z
theorem unpackL {l : Addr} {items : Array Value} {Q : List Value → Shared → Prop} (hh : A.handled = none) (hl : s.heap.IsList l items)
    (q : ∀ h', Heap.ExtBut s.heap.objs.size s.heap h' → Q items.toList { s with heap := h' }) : wpAny (model prog w) A (unpackItems (.ref l) items.size none) Q E s := by
  have lt : l ≠ s.heap.objs.size := by obtain ⟨o, ho, _⟩ := hl; exact Nat.ne_of_lt (Heap.lt_size ho)
  have all : List.take items.size (List.drop 0 items.toList) = items.toList := by
    rw [List.drop_zero]; exact List.take_of_length_le (by simp)
  have push : (s.heap.push { cls := .type "list_iterator", data := .fields #[.ref l, .int 0 0] }).IsList l items := hl.at fun o e => Heap.get?_push_of_some _ e
  unfold unpackItems
  refine wpAny_bind ?_
  unfold notIterableAtAll
  refine wpAny_bind (wpAny_specialOf hl.typeIs slot_list_iter.lookup (wpAny_pure ?_))
  simp only [Bool.false_eq_true, if_false]
  refine wpAny_bind (wpAny_holding (wpAny_pyIter_list hl (wpAny_bind (wpAny_holding (drawL lt items.size 0 _ _ ⟨_, Heap.get?_push_size _ rfl, rfl, rfl⟩ push (by omega) fun h1 i1 s1 => ?_)))))
  rw [all, if_neg (by simp)]
  refine wpAny_bind (wpAny_holding (wpAny_pyNext_list_end hh i1 (push.extBut s1.extBut lt) (by simp) fun h2 e2 => ?_))
  simp only [Option.isSome_none, Bool.false_eq_true, if_false]
  exact wpAny_pure (q h2 fun b o hb e => e2 b o hb (s1.extBut b o hb (Heap.get?_push_of_some _ e)))
end
def gLst (K : PySem.W.Frag) (n : Nat) (t : TGs) : TG := fun v σ H Q => ∃ a xs, v = .ref a ∧ SqL K H a xs ∧ xs.length = n ∧ t xs σ H Q
theorem pg_lst {X : Cx} {es : List Expr} {k : Nat} {t : TGs} {n : Nat} {pos : Pos} (hc : X.calm = true) (h : PGs X es t) (hn : (assignEach es X.env).length = n := by rfl) (hst : (assignEach es X.env).findIdx? (·.1) = none := by rfl) : PG X (.Tuple es k pos) (gLst X.K n t) := by
  refine ⟨fun pins s σ H v u Q I r q => ?_⟩
  obtain ⟨a, xs, rfl, hs, hl, q⟩ := q
  cases r
  obtain ⟨its, rv, pl, _⟩ := I.list hs
  rw [PyProof.Rows.assign_Tuple]
  refine wpAny_bind (wpAny_standAt ?_)
  unfold unpack
  have en : (assignEach es X.env).length = its.toArray.size := by rw [List.size_toArray, hn, ← hl, rv.length]
  rw [en, hst]
  refine wpAny_bind (wpAny_holding (unpackL (I.ok.hd hc) pl.isList fun h' hx => ?_))
  exact h.run pins _ σ H xs _ Q (I.kept (t' := s.toks) fun b o e => hx b o (Nat.ne_of_lt (Heap.lt_size e)) e) (by simpa using rv) q
def gvUnp (n : Nat) (g : GVs) : GV := fun d σ M => match listOf M d with
  | some ds => if ds.length = n then g ds σ M else .no
  | none => .no
theorem g_unp {X : Cx} {C : Ct} {W : WX} {es : List Expr} {k n : Nat} {g : GVs} {pos : Pos} (hc : X.calm = true) (h : PGs X es (LGs C W g)) (hn : (assignEach es X.env).length = n := by rfl) (hst : (assignEach es X.env).findIdx? (·.1) = none := by rfl) (hK : C.K = X.K := by rfl) : PG X (.Tuple es k pos) (LG C W (gvUnp n g)) := by
  refine PGimp (pg_lst hc h hn hst) fun v σ H Q ⟨α, σ3, M, d, m, s, r, h⟩ => ?_
  have h : FinS C W { nx := Q, rt := fun _ _ => False } α H (match listOf M d with
    | some ds => if ds.length = n then g ds σ3 M else .no
    | none => .no) := h
  cases q : listOf M d with
  | none => rw [q] at h; exact h.elim
  | some ds =>
    rw [q] at h
    have h : FinS C W { nx := Q, rt := fun _ _ => False } α H (if ds.length = n then g ds σ3 M else .no) := h
    obtain ⟨a, vs, rfl, hs, rs⟩ := listOf_ok hK m r q
    by_cases z : ds.length = n
    · rw [if_pos z] at h
      exact ⟨a, vs, rfl, hs, by rw [rs.length]; exact z, α, σ3, M, ds, m, s, rs, h⟩
    · rw [if_neg z] at h; exact h.elim

/-! ### built-in functions -/
section
variable {X : Cx} {C : Ct} {W : WX} {x : Str} {id T : String} {r : List V → Hp → VK → Prop} {op : List D → Mem → Res D} {p pos : Pos} {e : Expr} {es : List Expr} {av : AV}
theorem l_blt (hc : CallR X (.builtin id) r) (lk : LinkA C r op) (hg : Gl X x) (hm : X.mg x = none) (hv : bootBuiltins x = some (.builtin id)) (ha : PA X (e :: es) (LA C W av)) (hn : x ≠ "__name__" := by decide) (hdb : (x == ("__debug__" : Str)) = false := by decide)
    (he : starEach (e :: es) X.env = (false, eval e X.env) :: starEach es X.env := by rfl) (hpl : (backTo pos (starEach es X.env)).any (·.1) = false := by rfl) : PE X (.Call (.Name x p) (e :: es) [] pos) (LE C W (evA op av)) :=
  PEimp (pe_callB hc hg hm hv ha hn hdb he hpl) fun _ _ _ h => opA lk h
theorem l_bltT (hc : CallR X (.type T) r) (lk : LinkA C r op) (hg : Gl X x) (hm : X.mg x = none) (hv : bootBuiltins x = some (.type T)) (ha : PA X (e :: es) (LA C W av)) (hn : x ≠ "__name__" := by decide) (hdb : (x == ("__debug__" : Str)) = false := by decide)
    (he : starEach (e :: es) X.env = (false, eval e X.env) :: starEach es X.env := by rfl) (hpl : (backTo pos (starEach es X.env)).any (·.1) = false := by rfl) : PE X (.Call (.Name x p) (e :: es) [] pos) (LE C W (evA op av)) :=
  PEimp (pe_callTy hc hg hm hv ha hn hdb he hpl) fun _ _ _ h => opA lk h
end
/-- one tree in -/
def a1 (op : D → Mem → Res D) : List D → Mem → Res D := fun xs M => match xs with
  | [x] => op x M
  | _ => .no
def a2 (op : D → D → Mem → Res D) : List D → Mem → Res D := fun xs M => match xs with
  | [x, y] => op x y M
  | _ => .no
theorem lk_a1 {C : Ct} {op : D → Mem → Res D} {r : List V → Hp → VK → Prop} (h : ∀ (W : WX) (σ : L2.St) (α : List Addr) (M : Mem) (H : Hp) (x : D) (v : V) (Q : VK), SMem C α M H → Rl C α H x v → Fin C W σ (RD C) α H (op x M) Q → r [v] H Q) : LinkA C r (a1 op) := by
  intro W σ α M H xs vs Q m rs k
  match xs, rs, k with
  | [x], rs, k => obtain ⟨v, _, rfl, rv, rfl⟩ := rs; exact h W σ α M H x v Q m rv k
  | [], _, k => exact k.elim
  | _ :: _ :: _, _, k => exact k.elim
theorem lk_a2 {C : Ct} {op : D → D → Mem → Res D} {r : List V → Hp → VK → Prop} (h : ∀ (W : WX) (σ : L2.St) (α : List Addr) (M : Mem) (H : Hp) (x y : D) (v u : V) (Q : VK), SMem C α M H → Rl C α H x v → Rl C α H y u → Fin C W σ (RD C) α H (op x y M) Q → r [v, u] H Q) : LinkA C r (a2 op) := by
  intro W σ α M H xs vs Q m rs k
  match xs, rs, k with
  | [x, y], rs, k => obtain ⟨v, _, rfl, rv, u, _, rfl, ru, rfl⟩ := rs; exact h W σ α M H x y v u Q m rv ru k
  | [], _, k => exact k.elim
  | [_], _, k => exact k.elim
  | _ :: _ :: _ :: _, _, k => exact k.elim
def dInt : D → Mem → Res D := fun x M => match x with
  | .int i => .ok (.int i) M
  | .bl b => .ok (.int (if b then 1 else 0)) M
  | _ => .no
def dAbs : D → Mem → Res D := fun x M => match x with
  | .int i => .ok (.int (if i < 0 then -i else i)) M
  | _ => .no
def dLen : D → Mem → Res D := fun x M => match x with
  | .str z => if z.length ≤ sizeLine then .ok (.int (z.length : Nat)) M else .no
  | x => match seqOf M x with
    | some ds => .ok (.int (ds.length : Nat)) M
    | none => .no
def dMax2 : D → D → Mem → Res D := int2 (fun _ _ => true) fun i j => .int (if j > i then j else i)
def dMin2 : D → D → Mem → Res D := int2 (fun _ _ => true) fun i j => .int (if j < i then j else i)
def dGcd : D → D → Mem → Res D := int2 (fun _ _ => true) fun i j => .int ((Nat.gcd i.natAbs j.natAbs : Nat) : Int)
def dListOf (cell : Bool) : D → Mem → Res D := fun x M => match seqOf M x with
  | some ds => newL cell ds M
  | none => .no
def dTupOf : D → Mem → Res D := fun x M => match x with
  | .tup ds => .ok (.tup ds) M
  | x => match listOf M x with
    | some ds => if ds.length ≤ sizeLine then .ok (.tup ds) M else .no
    | none => .no
def tyOf (M : Mem) : D → Option Ty
  | .non => some .none
  | .bl _ => some .bool
  | .int _ => some .int
  | .str _ => some .str
  | .tup _ => some .tuple
  | .lst _ => some .list
  | .scr _ => some .list
  | .ref n => match M[n]? with
    | some (.lst _) => some .list
    | some (.dic _) => some .dict
    | _ => none
  | _ => none
def isTy : Ty → Ty → Bool
  | .bool, .int => true
  | a, b => decide (a = b)
def dIsi : D → D → Mem → Res D := fun x y M => match y with
  | .ty t => (match tyOf M x with
    | some u => .ok (.bl (isTy u t)) M
    | none => .no)
  | _ => .no
section
variable {X : Cx} {C : Ct}
theorem seqOf_ok {K : PySem.W.Frag} {α : List Addr} {M : Mem} {H : Hp} {d : D} {ds : List D} {v : V} (hK : C.K = K) (m : SMem C α M H) (r : Rl C α H d v) (h : seqOf M d = some ds) : ∃ a vs, v = .ref a ∧ (SqL K H a vs ∨ SqT K H a vs) ∧ Rls C α H ds vs := by
  cases d with
  | tup es => cases h; obtain ⟨a, vs, e, hs, rs⟩ := tupOf_ok (C := C) hK r rfl; exact ⟨a, vs, e, .inr hs, rs⟩
  | lst es => obtain ⟨a, vs, e, hs, rs⟩ := listOf_ok hK m r h; exact ⟨a, vs, e, .inl hs, rs⟩
  | scr es => obtain ⟨a, vs, e, hs, rs⟩ := listOf_ok hK m r h; exact ⟨a, vs, e, .inl hs, rs⟩
  | ref n => obtain ⟨a, vs, e, hs, rs⟩ := listOf_ok hK m r h; exact ⟨a, vs, e, .inl hs, rs⟩
  | _ => cases h
theorem lk_int : LinkA C (fun xs H Q => (∃ i, xs = [.int i] ∧ Q (.int i) H) ∨ ∃ k, xs = [.bl k] ∧ Q (.int (if k then 1 else 0)) H) (a1 dInt) := lk_a1 fun W σ α M H x v Q m r h => by
  cases x with
  | int i => cases r; exact .inl ⟨i, rfl, fin_ok (d := .int i) m rfl h⟩
  | bl b => cases r; exact .inr ⟨b, rfl, fin_ok (d := .int (if b then 1 else 0)) m rfl h⟩
  | _ => exact h.elim
theorem lk_abs : LinkA C (fun xs H Q => ∃ i, xs = [.int i] ∧ Q (.int (if i < 0 then -i else i)) H) (a1 dAbs) := lk_a1 fun W σ α M H x v Q m r h => by
  cases x with
  | int i => cases r; exact ⟨i, rfl, fin_ok (d := .int (if i < 0 then -i else i)) m rfl h⟩
  | _ => exact h.elim
theorem lk_len {K : PySem.W.Frag} (hK : C.K = K) : LinkA C (fun xs H Q => ∃ x n, xs = [x] ∧ LenV K x H n ∧ Q (.int n) H) (a1 dLen) := lk_a1 fun W σ α M H x v Q m r h => by
  have core : ∀ ds, seqOf M x = some ds → Fin C W σ (RD C) α H (.ok (.int (ds.length : Nat)) M) Q → ∃ y n, [v] = [y] ∧ LenV K y H n ∧ Q (.int n) H := fun ds q h => by
    obtain ⟨a, vs, rfl, hs, rs⟩ := seqOf_ok hK m r q
    have z := fin_ok (d := .int (ds.length : Nat)) (v := .int (ds.length : Nat)) m rfl h
    rw [← rs.length] at z
    rcases hs with hs | hs
    · exact ⟨_, vs.length, rfl, .inl ⟨vs, hs, rfl⟩, z⟩
    · exact ⟨_, vs.length, rfl, .inr ⟨vs, hs, rfl⟩, z⟩
  cases x with
  | str z =>
    cases r
    have h : Fin C W σ (RD C) α H (if z.length ≤ sizeLine then .ok (.int (z.length : Nat)) M else .no) Q := h
    by_cases y : z.length ≤ sizeLine
    · rw [if_pos y] at h; exact ⟨_, z.length, rfl, ⟨y, rfl⟩, fin_ok (d := .int (z.length : Nat)) m rfl h⟩
    · rw [if_neg y] at h; exact h.elim
  | tup es => exact core es rfl h
  | lst es => exact core es rfl h
  | scr es => exact core es rfl h
  | ref n =>
    have h : Fin C W σ (RD C) α H (match seqOf M (.ref n) with
      | some ds => .ok (.int (ds.length : Nat)) M
      | none => .no) Q := h
    cases q : seqOf M (.ref n) with
    | none => rw [q] at h; exact h.elim
    | some ds => rw [q] at h; exact core ds q h
  | _ => exact h.elim
theorem lk_max2 : LinkA C (fun xs H Q => ∃ i j, xs = [.int i, .int j] ∧ Q (.int (if j > i then j else i)) H) (a2 dMax2) := lk_a2 fun W σ α M H x y v u Q m rx ry h => by
  obtain ⟨i, j, rfl, rfl, q⟩ := lk_int2' (f := fun i j => .int (if j > i then j else i)) (g := fun i j => .int (if j > i then j else i)) (C := C) (fun _ _ _ _ => rfl) W σ α M H x y v u Q m rx ry h
  exact ⟨i, j, rfl, q⟩
theorem lk_min2 : LinkA C (fun xs H Q => ∃ i j, xs = [.int i, .int j] ∧ Q (.int (if j < i then j else i)) H) (a2 dMin2) := lk_a2 fun W σ α M H x y v u Q m rx ry h => by
  obtain ⟨i, j, rfl, rfl, q⟩ := lk_int2' (f := fun i j => .int (if j < i then j else i)) (g := fun i j => .int (if j < i then j else i)) (C := C) (fun _ _ _ _ => rfl) W σ α M H x y v u Q m rx ry h
  exact ⟨i, j, rfl, q⟩
theorem lk_gcd : LinkA C rGcd (a2 dGcd) := lk_a2 fun W σ α M H x y v u Q m rx ry h => by
  obtain ⟨i, j, rfl, rfl, q⟩ := lk_int2' (f := fun i j => .int ((Nat.gcd i.natAbs j.natAbs : Nat) : Int)) (g := fun i j => .int ((Nat.gcd i.natAbs j.natAbs : Nat) : Int)) (C := C) (fun _ _ _ _ => rfl) W σ α M H x y v u Q m rx ry h
  exact ⟨i, j, rfl, q⟩
theorem lk_listOf {K : PySem.W.Frag} {cell : Bool} (hK : C.K = K) : LinkA C (fun xs H Q => ∃ p ys, xs = [.ref p] ∧ (SqL K H p ys ∨ SqT K H p ys) ∧ ∀ l, H l = none → Q (.ref l) (upd H l (.lst ys))) (a1 (dListOf cell)) := lk_a1 fun W σ α M H x v Q m r h => by
  unfold dListOf at h
  cases q : seqOf M x with
  | none => rw [q] at h; exact h.elim
  | some ds =>
    rw [q] at h
    obtain ⟨a, vs, rfl, hs, rs⟩ := seqOf_ok hK m r q
    exact ⟨a, vs, rfl, hs, (newL_ok m rs h).2⟩
theorem lk_tupOf {K : PySem.W.Frag} (hK : C.K = K) : LinkA C (fun xs H Q => ∃ p ys, xs = [.ref p] ∧ ((SqL K H p ys ∧ ∀ l, H l = none → Q (.ref l) (upd H l (.tup ys))) ∨ (SqT K H p ys ∧ Q (.ref p) H))) (a1 dTupOf) := lk_a1 fun W σ α M H x v Q m r h => by
  have core : ∀ ds, listOf M x = some ds → Fin C W σ (RD C) α H (if ds.length ≤ sizeLine then .ok (.tup ds) M else .no) Q → ∃ p ys, [v] = [.ref p] ∧ ((SqL K H p ys ∧ ∀ l, H l = none → Q (.ref l) (upd H l (.tup ys))) ∨ (SqT K H p ys ∧ Q (.ref p) H)) := fun ds q h => by
    obtain ⟨a, vs, rfl, hs, rs⟩ := listOf_ok hK m r q
    by_cases z : ds.length ≤ sizeLine
    · rw [if_pos z] at h; exact ⟨a, vs, rfl, .inl ⟨hs, fin_new_tup m rs h⟩⟩
    · rw [if_neg z] at h; exact h.elim
  cases x with
  | tup ds =>
    have h : Fin C W σ (RD C) α H (.ok (.tup ds) M) Q := h
    have q := fin_ok m r h
    obtain ⟨a, vs, rfl, hs, rs⟩ := r
    exact ⟨a, vs, rfl, .inr ⟨SqT_of hK hs, q⟩⟩
  | lst es => exact core es rfl h
  | scr es => exact core es rfl h
  | ref n =>
    have h : Fin C W σ (RD C) α H (match listOf M (.ref n) with
      | some ds => if ds.length ≤ sizeLine then .ok (.tup ds) M else .no
      | none => .no) Q := h
    cases q : listOf M (.ref n) with
    | none => rw [q] at h; exact h.elim
    | some ds => rw [q] at h; exact core ds q h
  | _ => exact h.elim
theorem kitTy {K : PySem.W.Frag} (a b : Ty) : PySem.W.kitOne K (.type a.name) (.type b.name) = some (isTy a b) := by
  cases a <;> cases b <;> exact kit_ty (by decide +kernel)
theorem lk_isi {K : PySem.W.Frag} (hK : C.K = K) : LinkA C (rIsi K) (a2 dIsi) := lk_a2 fun W σ α M H x y v u Q m rx ry h => by
  cases y with
  | ty t =>
    cases ry
    have h : Fin C W σ (RD C) α H (match tyOf M x with
      | some u => .ok (.bl (isTy u t)) M
      | none => .no) Q := h
    have core : ∀ k, tyOf M x = some k → TyX K H v (.type k.name) → rIsi K [v, .ty t.name] H Q := fun k q tx => by
      rw [q] at h
      exact ⟨v, .ty t.name, .type k.name, .type t.name, isTy k t, rfl, .ty _, tx, kitTy k t, fin_ok (d := .bl (isTy k t)) m rfl h⟩
    have lst : ∀ a vs, SqL K H a vs → TyX K H (.ref a) (.type "list") := fun a vs hs => by
      rcases hs with (hs | ⟨o, hs⟩) | ⟨o, its, n, e, c, _⟩
      · exact .base (.lst hs)
      · exact .base (.frz hs)
      · exact .kList e c
    have tup : ∀ a vs, SqT K H a vs → TyX K H (.ref a) (.type "tuple") := fun a vs hs => by
      rcases hs with (hs | ⟨o, hs⟩) | ⟨o, its, n, e, c, _⟩
      · exact .base (.tup hs)
      · exact .fTuple hs
      · exact .kTuple e c
    cases x with
    | non => cases rx; exact core .none rfl (.base .non)
    | bl b => cases rx; exact core .bool rfl (.base (.bl b))
    | int b => cases rx; exact core .int rfl (.base (.int b))
    | str b => cases rx; exact core .str rfl (.base (.str b))
    | tup ds => obtain ⟨a, vs, rfl, hs, rs⟩ := tupOf_ok (C := C) hK rx rfl; exact core .tuple rfl (tup a vs hs)
    | lst ds => obtain ⟨a, vs, rfl, hs, rs⟩ := listOf_ok (M := M) hK m rx rfl; exact core .list rfl (lst a vs hs)
    | scr ds => obtain ⟨a, vs, rfl, hs, rs⟩ := listOf_ok (M := M) hK m rx rfl; exact core .list rfl (lst a vs hs)
    | ref n =>
      obtain ⟨a, ha, rfl⟩ := rx
      cases q : M[n]? with
      | none => have e : tyOf M (.ref n) = none := by simp [tyOf, q]
                rw [e] at h; exact h.elim
      | some cl =>
        have rc := m.cell n cl a q ha
        cases cl with
        | lst ds => obtain ⟨vs, hv, rs⟩ := rc; exact core .list (by simp [tyOf, q]) (.base (.lst hv))
        | dic kvs => obtain ⟨kws, hv, _⟩ := rc; exact core .dict (by simp [tyOf, q]) (.base (.dK hv))
        | ins c ds =>
          have e : tyOf M (.ref n) = none := by simp [tyOf, q]
          rw [e] at h; exact h.elim
    | _ => exact h.elim
  | _ => exact h.elim
end
end L3

set_option Elab.async false
set_option linter.all false
set_option maxRecDepth 100000
set_option maxHeartbeats 4000000
namespace L3
open PySem PySem.Spec PyProof.Rows L2

/-! ### methods -/
def LinkM (C : Ct) (r : V → List V → Hp → VK → Prop) (op : D → List D → Mem → Res D) : Prop :=
  ∀ (W : WX) (σ : L2.St) (α : List Addr) (M : Mem) (H : Hp) (x : D) (xs : List D) (v : V) (vs : List V) (Q : VK), SMem C α M H → Rl C α H x v → Rls C α H xs vs → Fin C W σ (RD C) α H (op x xs M) Q → r v vs H Q
def isL (M : Mem) (x : D) : Bool := (listOf M x).isSome
def evM (ok : Mem → D → Bool) (op : D → List D → Mem → Res D) (o : EV) (t : AV) : EV := fun σ M => (o σ M).bind fun x M1 => if ok M1 x = true then (t σ M1).bind fun xs M2 => op x xs M2 else .no
section
variable {X : Cx} {C : Ct} {W : WX} {T id : String} {name : Str} {r : V → List V → Hp → VK → Prop} {op : D → List D → Mem → Res D} {ok : Mem → D → Bool} {o e : Expr} {es : List Expr} {evo : EV} {av : AV} {apos cpos : Pos}
def TyOk (C : Ct) (K : PySem.W.Frag) (T : String) (ok : Mem → D → Bool) : Prop := ∀ α M H x v, SMem C α M H → Rl C α H x v → ok M x = true → tyV K T v H
theorem ty_list {K : PySem.W.Frag} (hK : C.K = K) : TyOk C K "list" isL := fun α M H x v m r h => by
  unfold isL at h
  cases q : listOf M x with
  | none => rw [q] at h; cases h
  | some ds => obtain ⟨a, vs, rfl, hs, rs⟩ := listOf_ok hK m r q; exact .inl ⟨rfl, vs, hs⟩
theorem l_bm (ty : TyOk C X.K T ok) (lk : LinkM C r op) (pa : PlainAttrs T) (slot : Slot T name id) (hty : typeOf (.builtin id) = pure (.type "method_descriptor")) (hm : MtR X id r) (ho : PE X o (LE C W evo)) (ha : PA X (e :: es) (LA C W av))
    (hbase : attributeBase o name X.env (eval o X.env) = eval o X.env := by rfl)
    (hfew : ((backTo cpos (starEach (e :: es) X.env)).all (fun x => !x.1) && (backToKw cpos (keywordEach [] X.env)).all (fun x => x.1.isSome)
      && decide ((e :: es).length + ([] : List Keyword).length + (if ([] : List Keyword).isEmpty then 0 else 1) < 30)) = true := by rfl)
    (hline : (apos.endLine == cpos.line) = true := by rfl) (hs : starEach (e :: es) X.env = (false, eval e X.env) :: starEach es X.env := by rfl) (hplain : (backTo cpos (starEach es X.env)).any (·.1) = false := by rfl) :
    PE X (.Call (.Attribute o name apos) (e :: es) [] cpos) (LE C W (evM ok op evo av)) := by
  refine PEimp (pe_bm pa slot hty hm ho ha hbase hfew hline hs hplain) fun σ H Q ⟨α, σ3, M, m, s, h⟩ => ⟨α, σ3, M, m, s, (Fin.bind h).mono fun x H1 ⟨α1, M1, d, e1, m1, r1, h1⟩ => ?_⟩
  have h1 : Fin C W σ (RD C) α1 H1 (if ok M1 d = true then (av σ3 M1).bind fun xs M2 => op d xs M2 else .no) Q := h1
  by_cases z : ok M1 d = true
  · rw [if_pos z] at h1
    exact ⟨ty α1 M1 H1 d x m1 r1 z, α1, σ3, M1, m1, s.ext e1, (Fin.bind h1).mono fun vs H2 ⟨α2, M2, xs, e2, m2, r2, h2⟩ => lk W σ α2 M2 H2 d xs x vs Q m2 (r1.ext e2) r2 h2⟩
  · rw [if_neg z] at h1; exact h1.elim
theorem l_bm0 (ty : TyOk C X.K T ok) (lk : LinkM C r op) (pa : PlainAttrs T) (slot : Slot T name id) (hty : typeOf (.builtin id) = pure (.type "method_descriptor")) (hm : MtR X id r) (ho : PE X o (LE C W evo))
    (hbase : attributeBase o name X.env (eval o X.env) = eval o X.env := by rfl) (hline : (apos.endLine == cpos.line) = true := by rfl) :
    PE X (.Call (.Attribute o name apos) [] [] cpos) (LE C W (evM ok op evo avNil)) := by
  refine PEimp (pe_bm0 pa slot hty hm ho hbase hline) fun σ H Q ⟨α, σ3, M, m, s, h⟩ => ⟨α, σ3, M, m, s, (Fin.bind h).mono fun x H1 ⟨α1, M1, d, e1, m1, r1, h1⟩ => ?_⟩
  have h1 : Fin C W σ (RD C) α1 H1 (if ok M1 d = true then op d [] M1 else .no) Q := h1
  by_cases z : ok M1 d = true
  · rw [if_pos z] at h1
    exact ⟨ty α1 M1 H1 d x m1 r1 z, lk W σ α1 M1 H1 d [] x [] Q m1 r1 rfl h1⟩
  · rw [if_neg z] at h1; exact h1.elim
/-- a list cell -/
def cellOf (M : Mem) : D → Option (Nat × List D)
  | .ref n => match M[n]? with
    | some (.lst ds) => some (n, ds)
    | _ => none
  | _ => none
theorem cellOf_ok {α : List Addr} {M : Mem} {H : Hp} {x : D} {v : V} {n : Nat} {ds : List D} (m : SMem C α M H) (r : Rl C α H x v) (h : cellOf M x = some (n, ds)) : ∃ a vs, v = .ref a ∧ α[n]? = some a ∧ H a = some (.lst vs) ∧ Rls C α H ds vs ∧ M[n]? = some (.lst ds) := by
  cases x with
  | ref k =>
    have h : (match M[k]? with
      | some (.lst ds) => some (k, ds)
      | _ => none) = some (n, ds) := h
    cases q : M[k]? with
    | none => rw [q] at h; cases h
    | some cl =>
      rw [q] at h
      cases cl with
      | lst es =>
        cases h
        obtain ⟨a, vs, e, ha, hv, rs⟩ := ref_lst m r q
        exact ⟨a, vs, e, ha, hv, rs, q⟩
      | _ => cases h
  | _ => cases h
theorem fin_write {α : List Addr} {M : Mem} {H : Hp} {σ : L2.St} {n : Nat} {a : Addr} {d : D} {v : V} {ds : List D} {vs : List V} {Q : VK} (m : SMem C α M H) (ha : α[n]? = some a) (rs : Rls C α H ds vs) (rd : Rl C α H d v) (h : Fin C W σ (RD C) α H (.ok d (M.set n (.lst ds))) Q) : Q v (upd H a (.lst vs)) :=
  have e : Ext α H α (upd H a (.lst vs)) := Ext.write m ha
  h α _ v e (m.write (c := .lst ds) ha ⟨vs, upd_same, rs.ext e⟩) (rd.ext e)
def dAppend : D → List D → Mem → Res D := fun x xs M => match xs with
  | [y] => (match cellOf M x with
    | some (n, ds) => if ds.length < sizeLine then .ok .non (M.set n (.lst (ds ++ [y]))) else .no
    | none => .no)
  | _ => .no
theorem lk_append : LinkM C rAppend dAppend := by
  intro W σ α M H x xs v vs Q m rx rs h
  match xs, rs, h with
  | [y], rs, h =>
    obtain ⟨u, _, rfl, ru, rfl⟩ := rs
    have h : Fin C W σ (RD C) α H (match cellOf M x with
      | some (n, ds) => if ds.length < sizeLine then .ok .non (M.set n (.lst (ds ++ [y]))) else .no
      | none => .no) Q := h
    cases q : cellOf M x with
    | none => rw [q] at h; exact h.elim
    | some nd =>
      obtain ⟨n, ds⟩ := nd
      rw [q] at h
      have h : Fin C W σ (RD C) α H (if ds.length < sizeLine then .ok .non (M.set n (.lst (ds ++ [y]))) else .no) Q := h
      obtain ⟨a, ws, rfl, ha, hv, rs, _⟩ := cellOf_ok m rx q
      by_cases z : ds.length < sizeLine
      · rw [if_pos z] at h
        exact ⟨a, ws, u, rfl, rfl, hv, by rw [rs.length]; exact z, fin_write (d := .non) m ha (rs.append (Rls.one ru)) rfl h⟩
      · rw [if_neg z] at h; exact h.elim
  | [], _, h => exact h.elim
  | _ :: _ :: _, _, h => exact h.elim
def dPop : D → List D → Mem → Res D := fun x xs M => match xs with
  | [] => (match cellOf M x with
    | some (n, ds) => (match ds[ds.length - 1]? with
      | some d => .ok d (M.set n (.lst ds.dropLast))
      | none => .no)
    | none => .no)
  | _ => .no
theorem Rls.dropLast {α : List Addr} {H : Hp} {ds : List D} {vs : List V} (h : Rls C α H ds vs) : Rls C α H ds.dropLast vs.dropLast := by
  rw [List.dropLast_eq_take, List.dropLast_eq_take, h.length]; exact h.take _
theorem lk_pop : LinkM C rPop dPop := by
  intro W σ α M H x xs v vs Q m rx rs h
  cases xs with
  | cons y ys => exact h.elim
  | nil =>
    cases rs
    have h : Fin C W σ (RD C) α H (match cellOf M x with
      | some (n, ds) => (match ds[ds.length - 1]? with
        | some d => .ok d (M.set n (.lst ds.dropLast))
        | none => .no)
      | none => .no) Q := h
    cases q : cellOf M x with
    | none => rw [q] at h; exact h.elim
    | some nd =>
      obtain ⟨n, ds⟩ := nd
      rw [q] at h
      have h : Fin C W σ (RD C) α H (match ds[ds.length - 1]? with
        | some d => .ok d (M.set n (.lst ds.dropLast))
        | none => .no) Q := h
      obtain ⟨a, ws, rfl, ha, hv, rs, _⟩ := cellOf_ok m rx q
      cases q2 : ds[ds.length - 1]? with
      | none => rw [q2] at h; exact h.elim
      | some d =>
        rw [q2] at h
        obtain ⟨u, hu, ru⟩ := rs.get q2
        exact ⟨a, ws, u, rfl, rfl, hv, by rw [rs.length]; exact hu, fin_write m ha (Rls.dropLast rs) ru h⟩
end
/-! ### xs[i] = v -/
def stL : D → D → D → Mem → Option Mem := fun x y z M => match cellOf M x, y with
  | some (n, ds), .int k => (match ixN ds.length k with
    | some j => some (M.set n (.lst (ds.set j z)))
    | none => none)
  | _, _ => none
theorem lk_stL {C : Ct} : LinkSet C rSetL stL := by
  intro α M M' H x y z v u w Q m rx ry rz h q
  unfold stL at h
  cases q1 : cellOf M x with
  | none => rw [q1] at h; cases h
  | some nd =>
    obtain ⟨n, ds⟩ := nd
    rw [q1] at h
    cases y with
    | int k =>
      cases ry
      have h : (match ixN ds.length k with
        | some j => some (M.set n (.lst (ds.set j z)))
        | none => none) = some M' := h
      obtain ⟨a, ws, rfl, ha, hv, rs, _⟩ := cellOf_ok m rx q1
      cases q2 : ixN ds.length k with
      | none => rw [q2] at h; cases h
      | some j =>
        rw [q2] at h; cases h
        have e : Ext α H α (upd H a (.lst (ws.set j w))) := Ext.write m ha
        exact ⟨a, ws, k, j, rfl, rfl, hv, by rw [rs.length]; exact q2, q α _ e (m.write (c := .lst (ds.set j z)) ha ⟨_, upd_same, (rs.set rz j).ext e⟩)⟩
    | _ => cases h
/-! ### x[lo:hi] -/
abbrev OV := St3 → Mem → Res (Option Int)
def ovN : OV := fun _ M => .ok none M
def ovS (e : EV) : OV := fun σ M => (e σ M).bind fun d M1 => match d with
  | .int i => .ok (some i) M1
  | _ => .no
abbrev RO : List Addr → Hp → Option Int → Option Int → Prop := fun _ _ d v => v = d
def LO (C : Ct) (W : WX) (ov : OV) : TO := fun σ H Q => ∃ α σ3 M, SMem C α M H ∧ SSt C α H σ3 σ ∧ Fin C W σ RO α H (ov σ3 M) Q
def cutD (ds : List D) (lo hi : Option Int) : List D := (ds.drop (HT.sIx ds.length 0 lo)).take (HT.sIx ds.length ds.length hi - HT.sIx ds.length 0 lo)
def dSl (cell : Bool) (x : D) (lo hi : Option Int) (M : Mem) : Res D := match x with
  | .str z => if z.length ≤ sizeLine then .ok (.str (cutS z lo hi)) M else .no
  | .tup ds => if HT.sIx ds.length 0 lo = 0 ∧ HT.sIx ds.length ds.length hi = ds.length then .ok (.tup ds) M else .ok (.tup (cutD ds lo hi)) M
  | x => match listOf M x with
    | some ds => newL cell (cutD ds lo hi) M
    | none => .no
def evSl (cell : Bool) (e : EV) (lo hi : OV) : EV := fun σ M => (e σ M).bind fun x M1 => (lo σ M1).bind fun l M2 => (hi σ M2).bind fun h M3 => dSl cell x l h M3
section
variable {X : Cx} {C : Ct} {W : WX} {e : Expr} {ev : EV} {lo hi : Option Expr} {ol oh : OV} {pos p2 : Pos}
theorem lo_none : PO X none (LO C W ovN) := ⟨fun pins s σ H Q I ⟨α, σ3, M, m, st, h⟩ => po_none.run pins s σ H Q I (h α H none (Ext.refl _ _) m rfl)⟩
theorem lo_some (h : PE X e (LE C W ev)) : PO X (some e) (LO C W (ovS ev)) := ⟨fun pins s σ H Q I ⟨α, σ3, M, m, st, z⟩ => (po_some h).run pins s σ H Q I ⟨α, σ3, M, m, st, (Fin.bind z).mono fun x H1 ⟨α1, M1, d, e1, m1, r1, h1⟩ => by
  cases d with
  | int i => cases r1; exact ⟨i, rfl, h1 α1 H1 (some i) (Ext.refl _ _) m1 rfl⟩
  | _ => exact h1.elim⟩⟩
theorem cut_ok {α : List Addr} {H : Hp} {ds : List D} {vs : List V} (r : Rls C α H ds vs) : Rls C α H (cutD ds lo' hi') (cutV vs lo' hi') := by
  unfold cutD cutV
  rw [r.length]
  exact (r.drop _).take _
theorem l_sl (cell : Bool) (he : PE X e (LE C W ev)) (hl : PO X lo (LO C W ol)) (hh : PO X hi (LO C W oh)) (hK : C.K = X.K := by rfl) : PE X (.Subscript e (.Slice lo hi none p2) pos) (LE C W (evSl cell ev ol oh)) := by
  refine PEimp (pe_slice (sl_list.or (sl_tupA.or sl_str)) he hl hh) fun σ H Q ⟨α, σ3, M, m, s, h⟩ => ⟨α, σ3, M, m, s, (Fin.bind h).mono fun x H1 ⟨α1, M1, d, e1, m1, r1, h1⟩ => ?_⟩
  refine ⟨α1, σ3, M1, m1, s.ext e1, (Fin.bind h1).mono fun l H2 ⟨α2, M2, l', e2, m2, rl, h2⟩ => ?_⟩
  cases rl
  refine ⟨α2, σ3, M2, m2, s.ext (e1.trans e2), (Fin.bind h2).mono fun u H3 ⟨α3, M3, u', e3, m3, ru, h3⟩ => ?_⟩
  cases ru
  have r1 := r1.ext (e2.trans e3)
  have core : ∀ ds, listOf M3 d = some ds → Fin C W σ (RD C) α3 H3 (newL cell (cutD ds l u) M3) Q → rSlL X.K x l u H3 Q := fun ds q h => by
    obtain ⟨a, vs, rfl, hs, rs⟩ := listOf_ok hK m3 r1 q
    exact ⟨a, vs, rfl, hs, (newL_ok m3 (cut_ok rs) h).2⟩
  cases d with
  | str z =>
    cases r1
    have h3 : Fin C W σ (RD C) α3 H3 (if z.length ≤ sizeLine then .ok (.str (cutS z l u)) M3 else .no) Q := h3
    by_cases y : z.length ≤ sizeLine
    · rw [if_pos y] at h3; exact .inr (.inr ⟨z, rfl, y, fin_ok (d := .str (cutS z l u)) m3 rfl h3⟩)
    · rw [if_neg y] at h3; exact h3.elim
  | tup ds =>
    have h3 : Fin C W σ (RD C) α3 H3 (if HT.sIx ds.length 0 l = 0 ∧ HT.sIx ds.length ds.length u = ds.length then .ok (.tup ds) M3 else .ok (.tup (cutD ds l u)) M3) Q := h3
    have r1' := r1
    obtain ⟨a, vs, rfl, hs, rs⟩ := r1
    refine .inr (.inl ⟨a, vs, rfl, SqT_of hK hs, fun z => ?_, fun z => ?_⟩)
    · rw [rs.length] at z
      rw [if_pos z] at h3; exact fin_ok m3 r1' h3
    · rw [rs.length] at z
      rw [if_neg z] at h3; exact fin_new_tup m3 (cut_ok rs) h3
  | lst ds => exact .inl (core ds rfl h3)
  | scr ds => exact .inl (core ds rfl h3)
  | ref n =>
    have h3 : Fin C W σ (RD C) α3 H3 (match listOf M3 (.ref n) with
      | some ds => newL cell (cutD ds l u) M3
      | none => .no) Q := h3
    cases q : listOf M3 (.ref n) with
    | none => rw [q] at h3; exact h3.elim
    | some ds => rw [q] at h3; exact .inl (core ds q h3)
  | _ => exact h3.elim
end
/-! ### repr -/
def rRepr (K : PySem.W.Frag) : List V → Hp → VK → Prop := fun xs H Q => ∃ x p, xs = [x] ∧ Dp K H x p ∧ p.showable = true ∧ p.hasDict = false ∧ p.depth ≤ 16 ∧ p.shown.length ≤ sizeLine ∧ Q (.str p.shown) H
theorem cr_repr {X : Cx} (gd : X.A.guards = some []) (hu : X.A.units + 64 < cLine) : CallR X (.builtin "repr") (rRepr X.K) := by
  intro pins s σ H xs us Q I r h
  obtain ⟨x, p, rfl, hp, hs, hd, hz, hl, q⟩ := h
  obtain ⟨u, rfl, ru⟩ := vals1 r
  obtain ⟨as, rd⟩ := Dp.reads I p x u hp ru
  have go : ∀ a : Addr, u = .ref a → wpAny (model X.prog X.w) X.A (call (.builtin "repr") [u]) (EP X pins σ Q) X.xe s := fun a e => by
    subst e
    exact PySem.repr_of_reads' rd hs (fun z => by rw [hd] at z; cases z) gd (by omega) (fun _ _ e => e) (fun h' t tk hk => ⟨.str p.shown, H, I.kept (t' := tk) hk, ⟨t, rfl⟩, q⟩) hl
  cases rd with
  | none => exact PySem.P.repr_of_none ⟨.str _, H, I.tok _, ⟨_, rfl⟩, q⟩
  | bool b => exact PySem.P.repr_of_bool ⟨.str _, H, I.tok _, ⟨_, rfl⟩, q⟩
  | int i t => exact PySem.P.repr_of_int (of_decide_eq_true hs) ⟨.str _, H, I.tok _, ⟨_, rfl⟩, q⟩
  | str y t => exact PySem.P.repr_of_str ⟨.str _, H, I.tok _, ⟨_, rfl⟩, q⟩ hl
  | list _ _ _ _ => exact go _ rfl
  | tuple _ _ _ _ => exact go _ rfl
  | dict _ _ _ _ _ => exact go _ rfl
def okRepr (p : PyData) : Bool := p.showable && (!p.hasDict && decide (p.shown.length ≤ sizeLine))
def dRepr : D → Mem → Res D := fun x M => match py M 8 x with
  | some p => if okRepr p = true then .ok (.str p.shown) M else .no
  | none => .no
theorem lk_repr {C : Ct} {K : PySem.W.Frag} (hK : C.K = K) : LinkA C (rRepr K) (a1 dRepr) := lk_a1 fun W σ α M H x v Q m r h => by
  unfold dRepr at h
  cases q : py M 8 x with
  | none => rw [q] at h; exact h.elim
  | some p =>
    rw [q] at h
    have h : Fin C W σ (RD C) α H (if okRepr p = true then .ok (.str p.shown) M else .no) Q := h
    by_cases z : okRepr p = true
    · rw [if_pos z] at h
      obtain ⟨z1, z2⟩ := Bool.and_eq_true_iff.mp z
      obtain ⟨z2, z3⟩ := Bool.and_eq_true_iff.mp z2
      obtain ⟨a1, a2, a3⟩ := py_ok hK m 8 x p v r q
      exact ⟨v, p, rfl, a1, z1, by simpa using z2, by omega, of_decide_eq_true z3, fin_ok (d := .str p.shown) m rfl h⟩
    · rw [if_neg z] at h; exact h.elim
/-! ### == of texts and ints, else of data -/
def dEqS : D → D → Mem → Res D := fun x y M => match x, y with
  | .str a, .str b => .ok (.bl (decide (a = b))) M
  | .int a, .int b => .ok (.bl (decide (a = b))) M
  | x, y => dEq x y M
def dNeS : D → D → Mem → Res D := fun x y M => match x, y with
  | .str a, .str b => .ok (.bl (!decide (a = b))) M
  | .int a, .int b => .ok (.bl (!decide (a = b))) M
  | x, y => dNe x y M
def eqPart : D → D → Mem → Res D := fun x y M => match x, y with
  | .str a, .str b => .ok (.bl (decide (a = b))) M
  | .int a, .int b => .ok (.bl (decide (a = b))) M
  | _, _ => .no
def nePart : D → D → Mem → Res D := fun x y M => match x, y with
  | .str a, .str b => .ok (.bl (!decide (a = b))) M
  | .int a, .int b => .ok (.bl (!decide (a = b))) M
  | _, _ => .no
theorem decV {α : Type} [DecidableEq α] (f : α → V) (hf : ∀ a b, f a = f b → a = b) (a b : α) : decide (f a = f b) = decide (a = b) := by
  by_cases h : a = b
  · subst h; simp
  · rw [decide_eq_false h, decide_eq_false fun e => h (hf a b e)]
theorem lk_eqPart {C : Ct} : LinkR C rEq eqPart := by
  intro W σ α M H x y v u Q m rx ry h
  cases x with
  | str a =>
    cases y with
    | str b => cases rx; cases ry; exact ⟨rfl, by rw [decV V.str (fun a b e => by cases e; rfl)]; exact fin_ok (d := .bl (decide (a = b))) m rfl h⟩
    | _ => exact h.elim
  | int a =>
    cases y with
    | int b => cases rx; cases ry; exact ⟨rfl, by rw [decV V.int (fun a b e => by cases e; rfl)]; exact fin_ok (d := .bl (decide (a = b))) m rfl h⟩
    | _ => exact h.elim
  | _ => exact h.elim
theorem lk_nePart {C : Ct} : LinkR C rNe nePart := by
  intro W σ α M H x y v u Q m rx ry h
  cases x with
  | str a =>
    cases y with
    | str b => cases rx; cases ry; exact ⟨rfl, by rw [decV V.str (fun a b e => by cases e; rfl)]; exact fin_ok (d := .bl (!decide (a = b))) m rfl h⟩
    | _ => exact h.elim
  | int a =>
    cases y with
    | int b => cases rx; cases ry; exact ⟨rfl, by rw [decV V.int (fun a b e => by cases e; rfl)]; exact fin_ok (d := .bl (!decide (a = b))) m rfl h⟩
    | _ => exact h.elim
  | _ => exact h.elim
theorem lk_eqS {C : Ct} {K : PySem.W.Frag} (hK : C.K = K) : LinkR C (fun x y H Q => rEq x y H Q ∨ rEqD K x y H Q) dEqS := lk_or lk_eqPart (lk_eq hK) fun x y M => by
  cases x <;> cases y <;> first | exact .inl rfl | exact .inr rfl
theorem lk_neS {C : Ct} {K : PySem.W.Frag} (hK : C.K = K) : LinkR C (fun x y H Q => rNe x y H Q ∨ rNeD K x y H Q) dNeS := lk_or lk_nePart (lk_ne hK) fun x y M => by
  cases x <;> cases y <;> first | exact .inl rfl | exact .inr rfl
theorem op_eqS {X : Cx} (hu : X.A.units + 64 < cLine) : OpR X (compareOp .Eq) (fun x y H Q => rEq x y H Q ∨ rEqD X.K x y H Q) := op_eq.or (op_eqD hu)
theorem op_neS {X : Cx} (hu : X.A.units + 64 < cLine) : OpR X (compareOp .NotEq) (fun x y H Q => rNe x y H Q ∨ rNeD X.K x y H Q) := op_ne.or (op_neD hu)
end L3

set_option Elab.async false
set_option linter.all false
set_option maxRecDepth 100000
set_option maxHeartbeats 4000000
namespace L3
open PySem PySem.Spec PyProof.Rows L2

/-! ### what stands at a name -/
structure Has (P : Program) (w : World) (C : Ct) (mg : Str → Option Value) (base : Heap) (k : Nat) (x : Str) (g : Fn3) (ar : Nat) (dd : List D) : Prop where
  ex : ∃ (f : Addr) (fd : FuncData) (ps : List Str) (ds : List Value) (dvs : List V), FnG P w C.K mg base k f fd ps (spF C g ar) ∧ mg x = some (.ref f) ∧ PySem.W.keepIn C.K (.ref f) = true ∧ Binds C.K fd ps ds ∧ Vals dvs ds ∧ ∀ α H, Rls C α H dd dvs
theorem Has.of {P : Program} {w : World} {C : Ct} {mg : Str → Option Value} {base : Heap} {k : Nat} {x : Str} {g : Fn3} {ar : Nat} {f : Addr} {fd : FuncData} {ps : List Str} (h : FnG P w C.K mg base k f fd ps (spF C g ar)) (hm : mg x = some (.ref f)) (hk : PySem.W.keepIn C.K (.ref f) = true) (hb : Binds C.K fd ps []) : Has P w C mg base k x g ar [] :=
  ⟨f, fd, ps, [], [], h, hm, hk, hb, .nil, fun _ _ => rfl⟩
section
variable {X : Cx} {C : Ct} {W : WX} {k j : Nat} {g : Fn3} {ar : Nat} {dd : List D} {x : Str} {p pos : Pos} {e : Expr} {es : List Expr} {av : AV}
theorem l_callH (h : Has X.prog X.w C X.mg X.base k x g ar dd) (hr : Room j X.A) (gd : X.A.guards = some []) (hx : ∀ σ, PassesAt (L2.CX X.prog X.w) X σ (WE W σ)) (hg : Gl X x) (ha : PA X (e :: es) (LA C W av)) (hkj : k ≤ j := by decide) (hdb : (x == ("__debug__" : Str)) = false := by decide)
    (he : starEach (e :: es) X.env = (false, eval e X.env) :: starEach es X.env := by rfl) (hpl : (backTo pos (starEach es X.env)).any (·.1) = false := by rfl) (hK : C.K = X.K := by rfl) : PE X (.Call (.Name x p) (e :: es) [] pos) (LE C W (evCall g ar dd av)) := by
  obtain ⟨f, fd, ps, ds, dvs, F, hm, hk, hb, hv, hdd⟩ := h.ex
  rw [hK] at F hk hb
  exact l_call F (Room.mono hr hkj) gd hg hm hk hb hv hx hdd ha hdb he hpl
end
/-! ### classes: the written arguments, picked in the parameters' order -/
def pick {α : Type} (d : α) (perm : List Nat) (l : List α) : List α := perm.map fun i => l.getD i d
def gB (perm : List Nat) : List Value → List Value → List Value
  | u :: us, ws => u :: pick .none perm (us ++ ws)
  | [], _ => []
def gV (perm : List Nat) : List V → List V → List V
  | v :: vs, zs => v :: pick .non perm (vs ++ zs)
  | [], _ => []
theorem pick_vals {perm : List Nat} {vs : List V} {us : List Value} (r : Vals vs us) : Vals (pick .non perm vs) (pick .none perm us) := by
  induction perm with
  | nil => exact .nil
  | cons i perm ih =>
    refine .cons ?_ ih
    show L2.RelV (vs.getD i V.non) (us.getD i Value.none)
    rw [List.getD_eq_getElem?_getD, List.getD_eq_getElem?_getD]
    cases q : vs[i]? with
    | none =>
      have : us[i]? = none := by rw [List.getElem?_eq_none_iff] at q ⊢; rw [← r.length]; exact q
      rw [this]; rfl
    | some v => obtain ⟨u, h1, h2⟩ := r.get q; rw [h1]; exact h2
theorem pick_rls {C : Ct} {α : List Addr} {H : Hp} {perm : List Nat} {ds : List D} {vs : List V} (r : Rls C α H ds vs) : Rls C α H (pick .non perm ds) (pick .non perm vs) := by
  induction perm with
  | nil => exact rfl
  | cons i perm ih =>
    refine Rls.cons ?_ ih
    show Rl C α H (ds.getD i D.non) (vs.getD i V.non)
    rw [List.getD_eq_getElem?_getD, List.getD_eq_getElem?_getD]
    cases q : ds[i]? with
    | none =>
      have : vs[i]? = none := by rw [List.getElem?_eq_none_iff] at q ⊢; rw [r.length]; exact q
      rw [this]; exact rfl
    | some v => obtain ⟨u, h1, h2⟩ := r.get q; rw [h1]; exact h2
structure HasC (P : Program) (w : World) (C : Ct) (mg : Str → Option Value) (base : Heap) (k : Nat) (x : Str) (c : Nat) (g : Fn3) (ar : Nat) (n : Nat) (ks : List Str) (perm : List Nat) : Prop where
  ex : ∃ (f : Addr) (fd : FuncData) (ps : List Str), Mk C.K (C.cls c) f ∧ FnG P w C.K mg base k f fd ps (spF C g ar) ∧ mg x = some (.ref (C.cls c)) ∧ KBn C.K fd ps (n + 1) ks (gB perm) (gV perm)
theorem kbnP {K : PySem.W.Frag} {x qual : Str} {params : Arguments} {body : List Stmt} {scope : Scope} {f : Addr} {fd : FuncData} {ps ks : List Str} {n : Nat} {perm : List Nat} (F : FunD K x qual params body scope [] [] f fd)
    (h : ∀ (kV doc pm : Value) (an : Option Addr) (cdv ct : Value) (us ws : List Value), us.length = n + 1 → ws.length = ks.length → bindArgs (PySem.W.fnOf x qual params body scope .none kV doc pm an cdv ct) ⟨us, ks.zip ws⟩ = pure (ps.zip (gB perm us ws))) : KBn K fd ps (n + 1) ks (gB perm) (gV perm) := by
  obtain ⟨oc, od, dV, kV, doc, pm, an, cdv, ct, osl, rfl, lk, hcd, hD, hK⟩ := F.ex
  rcases hD with ⟨_, rfl⟩ | ⟨e, _⟩
  · refine ⟨fun s us ws _ l1 l2 => .of_eq (h kV doc pm an cdv ct us ws l1 l2), fun {vs us zs ws} r rz => ?_⟩
    cases r with
    | nil => exact .nil
    | cons r1 r2 => exact .cons r1 (pick_vals (Vals.append r2 rz))
  · exact absurd rfl e
theorem goes_pick {C : Ct} {n m : Nat} {perm : List Nat} : Goes C n m (fun xs ys => pick .non perm (xs ++ ys)) (gV perm) := fun α H xs ys vs zs x _ _ r1 r2 => ⟨_, rfl, pick_rls (r1.append r2)⟩
def evNewP (c : Nat) (g : Fn3) (ar : Nat) (perm : List Nat) (n m : Nat) (av ak : AV) : EV := evNew c g ar (fun xs ys => pick .non perm (xs ++ ys)) n m av ak
section
variable {X : Cx} {C : Ct} {W : WX} {k j n c : Nat} {g : Fn3} {ar : Nat} {ks : List Str} {perm : List Nat} {x : Str} {p pos : Pos} {e : Expr} {es : List Expr} {kws : List Keyword} {av ak : AV}
theorem l_newH (h : HasC X.prog X.w C X.mg X.base k x c g ar n [] perm) (hr : Room j X.A) (gd : X.A.guards = some []) (hx : ∀ σ, PassesAt (L2.CX X.prog X.w) X σ (WE W σ)) (hg : Gl X x) (ha : PA X (e :: es) (LA C W av)) (hkj : k + 1 ≤ j := by decide) (hdb : (x == ("__debug__" : Str)) = false := by decide)
    (he : starEach (e :: es) X.env = (false, eval e X.env) :: starEach es X.env := by rfl) (hpl : (backTo pos (starEach es X.env)).any (·.1) = false := by rfl) (hK : C.K = X.K := by rfl) : PE X (.Call (.Name x p) (e :: es) [] pos) (LE C W (evNewP c g ar perm n 0 av avNil)) := by
  obtain ⟨f, fd, ps, M, F, hm, hb⟩ := h.ex
  rw [hK] at F M hb
  exact l_newP rfl M F (Room.mono hr hkj) gd hg hm hb goes_pick hx ha hdb he hpl
theorem l_newH0 (m : Nat) (h : HasC X.prog X.w C X.mg X.base k x c g ar 0 ks perm) (hr : Room j X.A) (gd : X.A.guards = some []) (hx : ∀ σ, PassesAt (L2.CX X.prog X.w) X σ (WE W σ)) (hg : Gl X x) (hkw : LK C W X kws ak) (hks : (backToKw pos (keywordEach kws X.env)).filterMap (·.1) = ks := by rfl) (hm : ks.length = m := by rfl) (hkj : k + 1 ≤ j := by decide)
    (hall : (backToKw pos (keywordEach kws X.env)).all (·.1.isSome) = true := by rfl) (hdb : (x == ("__debug__" : Str)) = false := by decide)
    (hpl : ((backTo pos (starEach [] X.env)).any (·.1) || (backToKw pos (keywordEach kws X.env)).any (·.1.isNone)) = false := by rfl) (hK : C.K = X.K := by rfl) : PE X (.Call (.Name x p) [] kws pos) (LE C W (evNewP c g ar perm 0 m avNil ak)) := by
  subst hm
  obtain ⟨f, fd, ps, M, F, hm, hb⟩ := h.ex
  rw [hK] at F M hb
  exact l_newK0 rfl M F (Room.mono hr hkj) gd hg hm hb goes_pick hx hkw hall hks hdb hpl
end
/-! ### the classes of a head -/
def ctOf (K : PySem.W.Frag) (T : List (List Nat)) (nm : List Str) (cl : List Str) : Ct := ⟨K, fun c => He.ga K (cl.getD c Str.empty), fun c => (T.getD c []).map (nm.getD · Str.empty), fun _ => 0⟩
/-- one by one: the class at c -/
def ClsAll (K : PySem.W.Frag) (nm : List Str) : List Str → List (List Nat) → Prop
  | x :: cl, l :: T => (Cls K (He.ga K x) ∧ ∀ j ∈ l, NoAttr K (He.ga K x) (nm.getD j Str.empty)) ∧ ClsAll K nm cl T
  | _, [] => True
  | [], _ => False
theorem clsAll_get {K : PySem.W.Frag} {nm : List Str} : ∀ {cl : List Str} {T : List (List Nat)} (c : Nat), ClsAll K nm cl T → ∀ j ∈ T.getD c [], Cls K (He.ga K (cl.getD c Str.empty)) ∧ NoAttr K (He.ga K (cl.getD c Str.empty)) (nm.getD j Str.empty)
  | _, [], c, _, j, hj => by simp at hj
  | [], _ :: _, _, h, _, _ => h.elim
  | x :: cl, l :: T, 0, ⟨h, _⟩, j, hj => ⟨h.1, h.2 j hj⟩
  | x :: cl, l :: T, c + 1, ⟨_, h⟩, j, hj => clsAll_get c h j hj
theorem ctOk_of {K : PySem.W.Frag} {T : List (List Nat)} {nm cl : List Str} (nd : nm.Nodup) (low : ∀ l ∈ T, (∀ j ∈ l, j < nm.length) ∧ l.length < 1000) (h : ClsAll K nm cl T) : CtOk (ctOf K T nm cl) T nm where
  fl := fun _ => rfl
  nd := nd
  low := low
  cls := fun c f hf => by
    obtain ⟨j, hj, rfl⟩ := List.mem_map.mp hf
    exact clsAll_get c h j hj
/-! ### names of built-in types as values -/
theorem l_ty {X : Cx} {C : Ct} {W : WX} {x : Str} {pos : Pos} (t : Ty) (hg : Gl X x) (hm : X.mg x = none) (hv : bootBuiltins x = some (.type t.name)) (hn : x ≠ "__name__" := by decide) (hd : (x == ("__debug__" : Str)) = false := by decide) : PE X (.Name x pos) (LE C W (evC (.ty t))) :=
  l_c (pe_bltn hg hm hv (v := .ty t.name) rfl hn hd) fun _ _ => rfl
end L3

set_option Elab.async false
set_option linter.all false
set_option maxRecDepth 100000
set_option maxHeartbeats 4000000
namespace L3
open PySem PySem.Spec PyProof.Rows L2

/-! ### running the terms -/
section
variable {σ : St3} {M : Mem}
@[simp] theorem x_c {d : D} : evC d σ M = .ok d M := rfl
@[simp] theorem x_var {i : Nat} : evVar i σ M = match σ[i]? with
  | some (some d) => .ok d M
  | _ => .no := rfl
@[simp] theorem x_1 {op : D → Mem → Res D} {a : EV} : ev1 op a σ M = (a σ M).bind op := rfl
@[simp] theorem x_2 {op : D → D → Mem → Res D} {a b : EV} : ev2 op a b σ M = (a σ M).bind fun x M1 => (b σ M1).bind fun y M2 => op x y M2 := rfl
@[simp] theorem x_nil : avNil σ M = .ok [] M := rfl
@[simp] theorem x_cons {a : EV} {r : AV} : avCons a r σ M = (a σ M).bind fun x M1 => (r σ M1).bind fun xs M2 => .ok (x :: xs) M2 := rfl
@[simp] theorem x_A {k : List D → Mem → Res D} {t : AV} : evA k t σ M = (t σ M).bind k := rfl
@[simp] theorem x_if {c : BV} {a b : EV} : evIf c a b σ M = (c σ M).bind fun k M1 => if k = true then a σ M1 else b σ M1 := rfl
@[simp] theorem x_bE {e : EV} : bvE e σ M = (e σ M).bind fun d M1 => match d with
  | .bl k => .ok k M1
  | _ => .no := rfl
@[simp] theorem x_bT {e : EV} : bvT e σ M = (e σ M).bind fun d M1 => match truD M1 d with
  | some k => .ok k M1
  | none => .no := rfl
@[simp] theorem x_bNot {c : BV} : bvNot c σ M = (c σ M).bind fun k M1 => .ok (!k) M1 := rfl
@[simp] theorem x_bAnd {a b : BV} : bvAnd a b σ M = (a σ M).bind fun k M1 => if k = true then b σ M1 else .ok false M1 := rfl
@[simp] theorem x_bOr {a b : BV} : bvOr a b σ M = (a σ M).bind fun k M1 => if k = true then .ok true M1 else b σ M1 := rfl
@[simp] theorem x_yes : bvYes σ M = .ok true M := rfl
@[simp] theorem x_not {a : EV} : evNot a σ M = (a σ M).bind fun d M1 => match d with
  | .bl k => .ok (.bl (!k)) M1
  | _ => .no := rfl
@[simp] theorem x_and {a b : EV} : evAnd a b σ M = (a σ M).bind fun d M1 => match d with
  | .bl k => if k = true then b σ M1 else .ok (.bl false) M1
  | _ => .no := rfl
@[simp] theorem x_or {a b : EV} : evOr a b σ M = (a σ M).bind fun d M1 => match d with
  | .bl k => if k = true then .ok (.bl true) M1 else b σ M1
  | _ => .no := rfl
@[simp] theorem x_trim {nf : Nat → Nat} {e : EV} : evTrim nf e σ M = trimR nf M (e σ M) := rfl
@[simp] theorem x_call {g : Fn3} {ar : Nat} {dd : List D} {av : AV} : evCall g ar dd av σ M = (av σ M).bind fun ds M => if (ds ++ dd).length = ar then g (ds ++ dd) M else .no := rfl
@[simp] theorem x_M {ok : Mem → D → Bool} {op : D → List D → Mem → Res D} {o : EV} {t : AV} : evM ok op o t σ M = (o σ M).bind fun x M1 => if ok M1 x = true then (t σ M1).bind fun xs M2 => op x xs M2 else .no := rfl
@[simp] theorem x_sl {cell : Bool} {e : EV} {lo hi : OV} : evSl cell e lo hi σ M = (e σ M).bind fun x M1 => (lo σ M1).bind fun l M2 => (hi σ M2).bind fun h M3 => dSl cell x l h M3 := rfl
@[simp] theorem x_ovN : ovN σ M = .ok none M := rfl
@[simp] theorem x_ovS {e : EV} : ovS e σ M = (e σ M).bind fun d M1 => match d with
  | .int i => .ok (some i) M1
  | _ => .no := rfl
@[simp] theorem x_new {c : Nat} {g : Fn3} {ar : Nat} {perm : List Nat} {n m : Nat} {av ak : AV} : evNewP c g ar perm n m av ak σ M = (av σ M).bind fun xs M1 => (ak σ M1).bind fun ys M2 => if xs.length = n ∧ ys.length = m then newR c g ar (pick .non perm (xs ++ ys)) M2 else .no := rfl
/-! statements -/
def Out.seq (o : Out) (b : SV) : Out := match o with
  | .nx σ' M' => b σ' M'
  | o => o
@[simp] theorem seq_nx {b : SV} : (Out.nx σ M).seq b = b σ M := rfl
@[simp] theorem seq_rt {b : SV} {d : D} : (Out.rt d M).seq b = .rt d M := rfl
@[simp] theorem seq_bk {b : SV} : (Out.bk σ M).seq b = .bk σ M := rfl
@[simp] theorem seq_ct {b : SV} : (Out.ct σ M).seq b = .ct σ M := rfl
@[simp] theorem seq_exc {b : SV} {c ds} : (Out.exc c ds σ M).seq b = .exc c ds σ M := rfl
@[simp] theorem seq_no {b : SV} : (Out.no).seq b = .no := rfl
theorem seq_ite {c : Prop} [Decidable c] {a a' : Out} {b : SV} : (if c then a else a').seq b = if c then a.seq b else a'.seq b := by split <;> rfl
@[simp] theorem y_seq {a b : SV} : svSeq a b σ M = (a σ M).seq b := rfl
@[simp] theorem y_next : svNext σ M = .nx σ M := rfl
@[simp] theorem y_break : svBreak σ M = .bk σ M := rfl
@[simp] theorem y_cont : svCont σ M = .ct σ M := rfl
@[simp] theorem y_E {e : EV} : svE e σ M = (e σ M).out σ fun _ M1 => .nx σ M1 := rfl
@[simp] theorem y_ret {e : EV} : svRet e σ M = (e σ M).out σ fun d M1 => .rt d M1 := rfl
@[simp] theorem y_retN : svRetN σ M = .rt .non M := rfl
@[simp] theorem y_if {c : BV} {a b : SV} : svIf c a b σ M = (c σ M).out σ fun k M1 => if k = true then a σ M1 else b σ M1 := rfl
@[simp] theorem y_set {i : Nat} {e : EV} : svSet i e σ M = (e σ M).out σ fun d M1 => .nx (σ.set i (some d)) M1 := rfl
@[simp] theorem y_asg {e : EV} {g : GV} : svAsg e g σ M = (e σ M).out σ fun d M1 => (g d σ M1).only := rfl
@[simp] theorem y_sub {o i : EV} {st : D → D → D → Mem → Option Mem} {d : D} : gvSub o i st d σ M = (o σ M).out σ fun x M1 => (i σ M1).out σ fun y M2 => match st x y d M2 with
  | some M3 => .nx σ M3
  | none => .no := rfl
@[simp] theorem y_name {i : Nat} {d : D} : gvName i d σ M = .nx (σ.set i (some d)) M := rfl
@[simp] theorem y_for {it : IV} {g : GV} {b : SV} : svFor it g b σ M = (it σ M).out σ fun s M1 => svLoop s.watch g b s.items σ M1 := rfl
@[simp] theorem i_R1 {t : AV} : ivR1 t σ M = (t σ M).bind fun ds M1 => match oneInt ds with
  | some j => if inR j = true then .ok ⟨rangeD 0 j.toNat, []⟩ M1 else .no
  | none => .no := rfl
@[simp] theorem i_S {e : EV} : ivSeq e σ M = (e σ M).bind fun d M1 => match srcOf M1 d with
  | some (_, s) => .ok s M1
  | none => .no := rfl
@[simp] theorem end_rt {d : D} : endB (.rt d M) = .ok d M := rfl
@[simp] theorem end_nx : endB (.nx σ M) = .ok .non M := rfl
@[simp] theorem a1_x {op : D → Mem → Res D} {x : D} : a1 op [x] M = op x M := rfl
@[simp] theorem a2_x {op : D → D → Mem → Res D} {x y : D} : a2 op [x, y] M = op x y M := rfl
/-! operations -/
variable {i j : Int}
@[simp] theorem d_int : dInt (.int i) M = .ok (.int i) M := rfl
@[simp] theorem d_abs : dAbs (.int i) M = .ok (.int (if i < 0 then -i else i)) M := rfl
@[simp] theorem d_add {c : Bool} : dAdd c (.int i) (.int j) M = .ok (.int (i + j)) M := rfl
@[simp] theorem d_sub : dSub (.int i) (.int j) M = .ok (.int (i - j)) M := rfl
theorem d_mul {c : Bool} (h : mulOk i j = true) : dMul c (.int i) (.int j) M = .ok (.int (i * j)) M := if_pos h
theorem d_mod (h : j ≠ 0) : dMod (.int i) (.int j) M = .ok (.int (i.fmod j)) M := if_pos (decide_eq_true h)
theorem d_div (h : divOk j = true) : dDiv (.int i) (.int j) M = .ok (.int (i.fdiv j)) M := if_pos h
theorem d_pow (h : powOk i j = true) : dPow (.int i) (.int j) M = .ok (.int (i ^ j.toNat)) M := if_pos h
@[simp] theorem d_lt : dLt (.int i) (.int j) M = .ok (.bl (decide (i < j))) M := rfl
@[simp] theorem d_le : dLe (.int i) (.int j) M = .ok (.bl (decide (i ≤ j))) M := rfl
@[simp] theorem d_gt : dGt (.int i) (.int j) M = .ok (.bl (decide (j < i))) M := rfl
@[simp] theorem d_ge : dGe (.int i) (.int j) M = .ok (.bl (decide (j ≤ i))) M := rfl
@[simp] theorem d_eqI : dEqS (.int i) (.int j) M = .ok (.bl (decide (i = j))) M := rfl
@[simp] theorem d_neI : dNeS (.int i) (.int j) M = .ok (.bl (!decide (i = j))) M := rfl
@[simp] theorem d_neg : dNeg (.int i) M = .ok (.int (-i)) M := rfl
theorem d_ixR {n : Nat} {ds : List D} {d : D} (h : M[n]? = some (.lst ds)) (hk : atI ds i = some d) : dIx (.ref n) (.int i) M = .ok d M := by
  show (match seqOf M (.ref n) with
    | some ds => (match atI ds i with
      | some d => Res.ok d M
      | none => .no)
    | none => .no) = _
  have e : seqOf M (.ref n) = some ds := by
    show (match M[n]? with
      | some (.lst ds) => some ds
      | _ => none) = some ds
    rw [h]
  rw [e]
  show (match atI ds i with
    | some d => Res.ok d M
    | none => .no) = _
  rw [hk]
theorem d_lenR {n : Nat} {ds : List D} (h : M[n]? = some (.lst ds)) : dLen (.ref n) M = .ok (.int (ds.length : Nat)) M := by
  show (match seqOf M (.ref n) with
    | some ds => Res.ok (D.int (ds.length : Nat)) M
    | none => Res.no) = _
  have e : seqOf M (.ref n) = some ds := by
    show (match M[n]? with
      | some (.lst ds) => some ds
      | _ => none) = some ds
    rw [h]
  rw [e]
theorem st_R {n k : Nat} {ds : List D} {z : D} (h : M[n]? = some (.lst ds)) (hk : ixN ds.length i = some k) : stL (.ref n) (.int i) z M = some (M.set n (.lst (ds.set k z))) := by
  have e : cellOf M (.ref n) = some (n, ds) := by
    show (match M[n]? with
      | some (.lst ds) => some (n, ds)
      | _ => none) = _
    rw [h]
  unfold stL
  rw [e]
  show (match ixN ds.length i with
    | some j => some (M.set n (.lst (ds.set j z)))
    | none => none) = _
  rw [hk]
end
theorem mulOk_l {i j : Int} (h : i.natAbs < 2 ^ 64) : mulOk i j = true := by unfold mulOk; rw [decide_eq_true h]; rfl
theorem mulOk_r {i j : Int} (h : j.natAbs < 2 ^ 64) : mulOk i j = true := by unfold mulOk; rw [decide_eq_true h]; simp
theorem divOk_s {j : Int} (h : 0 < j) (h2 : j < 2 ^ 64) : divOk j = true := by
  unfold divOk
  have e : j.natAbs.log2 < 9000 := by
    have : j.natAbs < 2 ^ 9000 := Nat.lt_of_lt_of_le (show j.natAbs < 2 ^ 64 by omega) (Nat.pow_le_pow_right (by decide) (by decide))
    rcases Nat.eq_zero_or_pos j.natAbs with z | z
    · rw [z]; decide
    · exact (Nat.log2_lt (by omega)).mpr this
  rw [decide_eq_true (show j ≠ 0 by omega), decide_eq_true e]; rfl
theorem fmod_r (i : Int) {j : Int} (h : 0 < j) : 0 ≤ i.fmod j ∧ i.fmod j < j := ⟨Int.fmod_nonneg_of_pos i h, Int.fmod_lt_of_pos i h⟩

/-! ### the drawing hand: alike in every law but for its numbers -/
structure Nums where
  (a1 a2 a3 q1 b1 e1 q2 c1 e2 q3 e3 : Int)
structure Nums.Ok (p : Nums) : Prop where
  a1 : p.a1.natAbs < 2 ^ 64 := by decide
  a2 : p.a2.natAbs < 2 ^ 64 := by decide
  q1 : 0 < p.q1 ∧ p.q1 < 2 ^ 32 := by decide
  b1 : p.b1.natAbs < 2 ^ 64 := by decide
  e1 : 0 < p.e1 ∧ p.e1 < 2 ^ 64 := by decide
  q2 : 0 < p.q2 ∧ p.q2 < 2 ^ 64 := by decide
  c1 : p.c1.natAbs < 2 ^ 64 := by decide
  e2 : 0 < p.e2 ∧ p.e2 < 2 ^ 64 := by decide
  q3 : 0 < p.q3 ∧ p.q3 < 2 ^ 64 := by decide
  e3 : 0 < p.e3 ∧ p.e3 < 2 ^ 64 := by decide
def mixS (p : Nums) : SV := (svSeq (svSet 2 (ev2 dMod (evA (a1 dInt) (avCons (ev2 (dAdd false) (ev2 (dAdd false) (ev2 (dMul false) (evVar 0) (evC (.int p.a1))) (ev2 (dMul false) (evVar 1) (evC (.int p.a2)))) (evC (.int p.a3))) avNil)) (evC (.int p.q1))))
    (svSeq (svSet 3 (ev2 dMod (evA (a1 dInt) (avCons (ev2 (dAdd false) (ev2 (dAdd false) (ev2 (dMul false) (evVar 2) (evVar 2)) (ev2 (dMul false) (evVar 1) (evC (.int p.b1)))) (ev2 dDiv (evVar 2) (evC (.int p.e1)))) avNil)) (evC (.int p.q2))))
    (svRet (ev2 dDiv (evA (a1 dInt) (avCons (ev2 dMod (evA (a1 dInt) (avCons (ev2 (dAdd false) (ev2 (dMul false) (evVar 3) (evC (.int p.c1))) (ev2 dDiv (evVar 2) (evC (.int p.e2)))) avNil)) (evC (.int p.q3))) avNil)) (evC (.int p.e3))))))
theorem mix_ok {p : Nums} (h : p.Ok) (n t : Int) (M : Mem) : ∃ r, fnB 4 (mixS p) [.int n, .int t] M = .ok (.int r) M := by
  have s : start3 4 [.int n, .int t] = [some (.int n), some (.int t), none, none] := rfl
  have m1 : ∀ x, mulOk x p.a1 = true := fun x => mulOk_r h.a1
  have m2 : ∀ x, mulOk x p.a2 = true := fun x => mulOk_r h.a2
  have m3 : ∀ x, mulOk x p.b1 = true := fun x => mulOk_r h.b1
  have m4 : ∀ x, mulOk x p.c1 = true := fun x => mulOk_r h.c1
  have o : ∀ x : Int, mulOk (x.fmod p.q1) (x.fmod p.q1) = true := fun x => mulOk_l (by have := fmod_r x h.q1.1; have := h.q1.2; omega)
  have d1 := divOk_s h.e1.1 h.e1.2
  have d2 := divOk_s h.e2.1 h.e2.2
  have d3 := divOk_s h.e3.1 h.e3.2
  have z1 : p.q1 ≠ 0 := by have := h.q1.1; omega
  have z2 : p.q2 ≠ 0 := by have := h.q2.1; omega
  have z3 : p.q3 ≠ 0 := by have := h.q3.1; omega
  unfold fnB mixS
  rw [s]
  simp [d_mul, d_mod, d_div, m1, m2, m3, m4, o, d1, d2, d3, z1, z2, z3]
def handB (a q : Int) : SV := (svSeq (svSet 1 (ev2 dMod (evA (a1 dInt) (avCons (ev2 (dAdd false) (ev2 (dMul false) (evVar 1) (evC (.int a))) (evA (a1 dInt) (avCons (evVar 3) avNil))) avNil)) (evC (.int q))))
    (svE (evM isL dAppend (evVar 2) (avCons (evA (a1 dAbs) (avCons (evA (a1 dInt) (avCons (evVar 3) avNil)) avNil)) avNil))))
def handS (t a q : Int) : SV := (svSeq (svSet 1 (ev2 (dAdd false) (evA (a1 dLen) (avCons (evVar 0) avNil)) (evC (.int t))))
    (svSeq (svSet 2 (evA mkCell avNil))
    (svSeq (svFor (ivSeq (evVar 0)) (gvName 3) (handB a q))
    (svRet (evA mkCell (avCons (evVar 2) (avCons (evC (.int 0)) (avCons (evC (.int 0)) (avCons (evVar 1) avNil)))))))))
theorem append_at {M : Mem} {n : Nat} {ds : List D} {y : D} (h : M[n]? = some (.lst ds)) (hz : ds.length < sizeLine) : dAppend (.ref n) [y] M = .ok .non (M.set n (.lst (ds ++ [y]))) := by
  have e : cellOf M (.ref n) = some (n, ds) := by
    show (match M[n]? with
      | some (.lst ds) => some (n, ds)
      | _ => none) = _
    rw [h]
  show (match cellOf M (.ref n) with
    | some (n, ds) => if ds.length < sizeLine then Res.ok D.non (M.set n (.lst (ds ++ [y]))) else Res.no
    | none => Res.no) = _
  rw [e]
  exact if_pos hz
theorem isL_ref {M : Mem} {n : Nat} {ds : List D} (h : M[n]? = some (.lst ds)) : isL M (.ref n) = true := by
  show (match M[n]? with
    | some (.lst ds) => some ds
    | _ => none).isSome = true
  rw [h]; rfl
theorem hand_loop {a q : Int} (ha : a.natAbs < 2 ^ 64) (hq : 0 < q) (s0 : D) : ∀ (ns : List Int) (t : Int) (done : List Int) (x : Option D) (M : Mem), done.length + ns.length ≤ 1000 →
    ∃ t' x', svLoop [] (gvName 3) (handB a q) (ns.map D.int) [some s0, some (.int t), some (.ref M.length), x] (M ++ [.lst (done.map D.int)]) = .nx [some s0, some (.int t'), some (.ref M.length), x'] (M ++ [.lst ((done ++ ns.map fun i => if i < 0 then -i else i).map D.int)])
  | [], t, done, x, M, _ => ⟨t, x, by simp [svLoop, watched]⟩
  | n :: ns, t, done, x, M, hl => by
    simp only [List.length_cons] at hl
    have hz : (done.map D.int).length < sizeLine := by rw [List.length_map]; have : (1000 : Nat) < sizeLine := by decide
                                                       omega
    have g : (M ++ [Cell.lst (done.map D.int)])[M.length]? = some (.lst (done.map D.int)) := by simp
    have m1 : ∀ x, mulOk x a = true := fun x => mulOk_r ha
    have z : q ≠ 0 := by omega
    obtain ⟨t', x', ih⟩ := hand_loop ha hq s0 ns ((t * a + n).fmod q) (done ++ [if n < 0 then -n else n]) (some (.int n)) M (by simp; omega)
    refine ⟨t', x', ?_⟩
    show svLoop [] (gvName 3) (handB a q) (.int n :: ns.map D.int) _ _ = _
    unfold svLoop
    have e : handB a q [some s0, some (.int t), some (.ref M.length), some (.int n)] (M ++ [.lst (done.map D.int)]) = .nx [some s0, some (.int ((t * a + n).fmod q)), some (.ref M.length), some (.int n)] (M ++ [.lst ((done ++ [if n < 0 then -n else n]).map D.int)]) := by
      unfold handB
      simp [d_mul, d_mod, m1, z, append_at g hz, isL_ref g]
    simp only [watched, List.all_nil, if_true, y_name, List.set_cons_succ, List.set_cons_zero]
    rw [e]
    simp only []
    rw [ih]
    simp
/-- the hand lies in these two cells -/
structure HandOk (M : Mem) (h c : Nat) : Prop where
  ne : c ≠ h
  ex : ∃ (cells : List Int) (pos rest tot : Int), M[h]? = some (.lst [.ref c, .int pos, .int rest, .int tot]) ∧ M[c]? = some (.lst (cells.map D.int)) ∧ 0 ≤ pos ∧ 0 ≤ rest
theorem mkCell_at {xs : List D} {M : Mem} (h : xs.length ≤ 1000) : mkCell xs M = .ok (.ref M.length) (M ++ [.lst xs]) := if_pos (Nat.le_trans h (by decide))
theorem mkLst_at {xs : List D} {M : Mem} (h : xs.length ≤ 1000) : mkLst xs M = .ok (.lst xs) M := if_pos (Nat.le_trans h (by decide))
theorem mkTup_at {xs : List D} {M : Mem} (h : xs.length ≤ 1000) : mkTup xs M = .ok (.tup xs) M := if_pos (Nat.le_trans h (by decide))
theorem hand_ok {t a q : Int} (ha : a.natAbs < 2 ^ 64) (hq : 0 < q) (ns : List Int) (hl : ns.length ≤ 63) (M : Mem) :
    ∃ t', fnB 4 (handS t a q) [.scr (ns.map D.int)] M = .ok (.ref (M.length + 1)) (M ++ [.lst ((ns.map fun i => if i < 0 then -i else i).map D.int), .lst [.ref M.length, .int 0, .int 0, .int t']]) := by
  obtain ⟨t', x', e⟩ := hand_loop ha hq (.scr (ns.map D.int)) ns (ns.length + t) [] none M (by simp; omega)
  have s : start3 4 [.scr (ns.map D.int)] = [some (.scr (ns.map D.int)), none, none, none] := rfl
  have len : dLen (.scr (ns.map D.int)) M = .ok (.int (ns.length : Nat)) M := by
    show Res.ok (D.int ((ns.map D.int).length : Nat)) M = _
    rw [List.length_map]
  refine ⟨t', ?_⟩
  unfold fnB handS
  rw [s]
  have src : ∀ M, srcOf M (.scr (ns.map D.int)) = some (false, ⟨ns.map D.int, []⟩) := fun _ => rfl
  simp only [List.map_nil, List.nil_append] at e
  simp [mkCell_at, len, src]
  rw [e]
  simp [mkCell_at]
theorem handOk_new {M : Mem} {cells : List Int} {t : Int} : HandOk (M ++ [.lst (cells.map D.int), .lst [.ref M.length, .int 0, .int 0, .int t]]) (M.length + 1) M.length :=
  ⟨by omega, cells, 0, 0, t, by simp [List.getElem?_append_right], by simp [List.getElem?_append_right], by decide, by decide⟩
/-! drawing -/
def takeS (TT : List (List Nat)) (mix : Fn3) (ten ex qm q : Int) : SV := (svSeq (svIf (bvAnd (bvE (ev2 dEqS (ev2 dIx (evVar 0) (evC (.int 2))) (evC (.int 0)))) (bvE (ev2 dLt (ev2 dIx (evVar 0) (evC (.int 1))) (evA (a1 dLen) (avCons (ev2 dIx (evVar 0) (evC (.int 0))) avNil))))) (svSeq (svSet 2 (ev2 dIx (ev2 dIx (evVar 0) (evC (.int 0))) (ev2 dIx (evVar 0) (evC (.int 1)))))
    (svSeq (svAsg (ev2 (dAdd false) (ev2 dIx (evVar 0) (evC (.int 1))) (evC (.int 1))) (gvSub (evVar 0) (evC (.int 1)) stL))
    (svSeq (svIf (bvE (ev2 dLt (evVar 2) (ev2 dPow (evC (.int ten)) (evC (.int ex))))) (svRet (ev2 dMod (evA (a1 dInt) (avCons (evTrim (nfT TT) (evCall mix 2 [] (avCons (ev2 dMod (evA (a1 dInt) (avCons (evVar 2) avNil)) (evC (.int qm))) (avCons (ev2 dIx (evVar 0) (evC (.int 1))) avNil)))) avNil)) (evVar 1))) svNext)
    (svAsg (evVar 2) (gvSub (evVar 0) (evC (.int 2)) stL))))) svNext)
    (svSeq (svIf (bvE (ev2 dGt (ev2 dIx (evVar 0) (evC (.int 2))) (evC (.int 0)))) (svSeq (svSet 3 (ev2 dIx (evVar 0) (evC (.int 2))))
    (svSeq (svAsg (ev2 dDiv (evA (a1 dInt) (avCons (evVar 3) avNil)) (evVar 1)) (gvSub (evVar 0) (evC (.int 2)) stL))
    (svRet (ev2 dMod (evA (a1 dInt) (avCons (evVar 3) avNil)) (evVar 1))))) svNext)
    (svSeq (svAsg (ev2 dMod (evA (a1 dInt) (avCons (ev2 (dAdd false) (ev2 dIx (evVar 0) (evC (.int 3))) (evC (.int 1))) avNil)) (evC (.int q))) (gvSub (evVar 0) (evC (.int 3)) stL))
    (svRet (ev2 dMod (evA (a1 dInt) (avCons (evTrim (nfT TT) (evCall mix 2 [] (avCons (ev2 dIx (evVar 0) (evC (.int 3))) (avCons (ev2 dIx (evVar 0) (evC (.int 1))) avNil)))) avNil)) (evVar 1))))))
theorem trim_int {nf : Nat → Nat} {M : Mem} {i : Int} : trimR nf M (.ok (.int i) M) = .ok (.int i) M := by
  show (if M.take M.length = M then (match frzD (frzR nf M.length M 6) (.int i) with
    | some d' => Res.ok d' M
    | none => .ok (.int i) M) else .ok (.int i) M) = _
  rw [if_pos List.take_length]
  rfl
theorem set_set' {M : Mem} {h : Nat} {x y : Cell} : (M.set h x).set h y = M.set h y := by simp
theorem take_ok {TT : List (List Nat)} {mix : Fn3} {ten ex qm q : Int} (hm : ∀ n t M, ∃ r, mix [.int n, .int t] M = .ok (.int r) M) (hp : powOk ten ex = true) (ht : 0 ≤ ten) (hqm : 0 < qm) (hq : 0 < q)
    {M : Mem} {h c : Nat} (H : HandOk M h c) {many : Int} (h0 : 0 < many) (h1 : many < 2 ^ 64) :
    ∃ d x, 0 ≤ d ∧ d < many ∧ fnB 4 (takeS TT mix ten ex qm q) [.ref h, .int many] M = .ok (.int d) (M.set h x) ∧ HandOk (M.set h x) h c := by
  obtain ⟨ne, cells, pos, rest, tot, g, gc, p0, r0⟩ := H
  have hl : h < M.length := (List.getElem?_eq_some_iff.mp g).1
  have g' : ∀ ds, (M.set h (.lst ds))[h]? = some (.lst ds) := fun ds => List.getElem?_set_self hl
  have gc' : ∀ x, (M.set h x)[c]? = some (.lst (cells.map D.int)) := fun x => by rw [List.getElem?_set_ne (Ne.symm ne)]; exact gc
  have s : start3 4 [.ref h, .int many] = [some (.ref h), some (.int many), none, none] := rfl
  have dv := divOk_s h0 h1
  have zm : many ≠ 0 := by omega
  have zq : q ≠ 0 := by omega
  have zqm : qm ≠ 0 := by omega
  have len : dLen (.ref c) M = .ok (.int (cells.length : Nat)) M := by rw [d_lenR gc, List.length_map]
  have i0 : ∀ p r t, atI [D.ref c, .int p, .int r, .int t] 0 = some (.ref c) := fun _ _ _ => rfl
  have i1 : ∀ p r t, atI [D.ref c, .int p, .int r, .int t] 1 = some (.int p) := fun _ _ _ => rfl
  have i2 : ∀ p r t, atI [D.ref c, .int p, .int r, .int t] 2 = some (.int r) := fun _ _ _ => rfl
  have i3 : ∀ p r t, atI [D.ref c, .int p, .int r, .int t] 3 = some (.int t) := fun _ _ _ => rfl
  have j1 : ∀ a b c d : D, ixN [a, b, c, d].length 1 = some 1 := fun _ _ _ _ => rfl
  have j2 : ∀ a b c d : D, ixN [a, b, c, d].length 2 = some 2 := fun _ _ _ _ => rfl
  have j3 : ∀ a b c d : D, ixN [a, b, c, d].length 3 = some 3 := fun _ _ _ _ => rfl
  have mk : ∀ p r t, 0 ≤ p → 0 ≤ r → HandOk (M.set h (.lst [.ref c, .int p, .int r, .int t])) h c := fun p r t hp hr => ⟨ne, cells, p, r, t, g' _, gc' _, hp, hr⟩
  -- the two last rows
  have tail : ∀ p r t (x : Option D), 0 ≤ p → 0 ≤ r → ∃ d y, 0 ≤ d ∧ d < many ∧ endB ((svIf (bvE (ev2 dGt (ev2 dIx (evVar 0) (evC (.int 2))) (evC (.int 0)))) (svSeq (svSet 3 (ev2 dIx (evVar 0) (evC (.int 2))))
    (svSeq (svAsg (ev2 dDiv (evA (a1 dInt) (avCons (evVar 3) avNil)) (evVar 1)) (gvSub (evVar 0) (evC (.int 2)) stL))
    (svRet (ev2 dMod (evA (a1 dInt) (avCons (evVar 3) avNil)) (evVar 1))))) svNext [some (.ref h), some (.int many), x, none] (M.set h (.lst [.ref c, .int p, .int r, .int t]))).seq (svSeq (svAsg (ev2 dMod (evA (a1 dInt) (avCons (ev2 (dAdd false) (ev2 dIx (evVar 0) (evC (.int 3))) (evC (.int 1))) avNil)) (evC (.int q))) (gvSub (evVar 0) (evC (.int 3)) stL))
    (svRet (ev2 dMod (evA (a1 dInt) (avCons (evTrim (nfT TT) (evCall mix 2 [] (avCons (ev2 dIx (evVar 0) (evC (.int 3))) (avCons (ev2 dIx (evVar 0) (evC (.int 1))) avNil)))) avNil)) (evVar 1))))) = .ok (.int d) (M.set h y) ∧ HandOk (M.set h y) h c := by
    intro p r t x hp hr
    by_cases z : 0 < r
    · refine ⟨r.fmod many, _, (fmod_r r h0).1, (fmod_r r h0).2, ?_, mk p (r.fdiv many) t hp (Int.fdiv_nonneg hr (Int.le_of_lt h0))⟩
      simp [d_ixR (g' _) (i2 _ _ _), z, d_div dv, st_R (g' _) (j2 _ _ _ _), d_mod zm]
    · obtain ⟨e, he⟩ := hm ((t + 1).fmod q) p (M.set h (.lst [.ref c, .int p, .int r, .int ((t + 1).fmod q)]))
      refine ⟨e.fmod many, _, (fmod_r e h0).1, (fmod_r e h0).2, ?_, mk p r ((t + 1).fmod q) hp hr⟩
      simp [d_ixR (g' _) (i2 _ _ _), d_ixR (g' _) (i3 _ _ _), d_ixR (g' _) (i1 _ _ _), z, d_mod zq, st_R (g' _) (j3 _ _ _ _), d_mod zm, he, trim_int]
  unfold fnB takeS
  rw [s]
  by_cases z : rest = 0 ∧ pos < (cells.length : Int)
  · obtain ⟨z1, z2⟩ := z
    subst z1
    obtain ⟨k, rfl⟩ := Int.eq_ofNat_of_zero_le p0
    have kl : k < cells.length := by omega
    have at_ : atI (cells.map D.int) (k : Int) = some (.int cells[k]) := by
      unfold atI
      have e : ixN (cells.map D.int).length (k : Int) = some k := by
        unfold ixN
        rw [List.length_map]
        simp [kl]
      rw [e]
      simp [kl]
    by_cases big : cells[k] < ten ^ ex.toNat
    · obtain ⟨e, he⟩ := hm (cells[k].fmod qm) (k + 1) (M.set h (.lst [.ref c, .int (k + 1), .int 0, .int tot]))
      refine ⟨e.fmod many, _, (fmod_r e h0).1, (fmod_r e h0).2, ?_, mk (k + 1) 0 tot (by omega) (by decide)⟩
      simp [d_ixR g (i2 _ _ _), d_ixR g (i1 _ _ _), d_ixR g (i0 _ _ _), len, z2, d_ixR gc at_, st_R g (j1 _ _ _ _), d_pow hp, big, d_mod zqm, d_ixR (g' _) (i1 _ _ _), he, trim_int, d_mod zm, kl]
    · have rn : 0 ≤ cells[k] := Int.le_trans (Int.pow_nonneg ht) (Int.not_lt.mp big)
      obtain ⟨d, y, d0, d1, e, hk⟩ := tail (k + 1) cells[k] tot (some (.int cells[k])) (by omega) rn
      refine ⟨d, y, d0, d1, ?_, hk⟩
      rw [← e]
      simp [d_ixR g (i2 _ _ _), d_ixR g (i1 _ _ _), d_ixR g (i0 _ _ _), len, z2, d_ixR gc at_, st_R g (j1 _ _ _ _), d_pow hp, big, st_R (g' _) (j2 _ _ _ _), kl]
  · have eM : M.set h (.lst [.ref c, .int pos, .int rest, .int tot]) = M := by
      apply List.ext_getElem?
      intro j
      by_cases hj : h = j
      · subst hj; rw [g' _, g]
      · rw [List.getElem?_set_ne hj]
    obtain ⟨d, y, d0, d1, e, hk⟩ := tail pos rest tot none p0 r0
    rw [eM] at e
    refine ⟨d, y, d0, d1, ?_, hk⟩
    rw [← e]
    by_cases z1 : rest = 0
    · have z2 : ¬ pos < (cells.length : Int) := fun q => z ⟨z1, q⟩
      simp [d_ixR g (i2 _ _ _), d_ixR g (i1 _ _ _), d_ixR g (i0 _ _ _), len, z1, z2]
    · simp [d_ixR g (i2 _ _ _), z1]
end L3

set_option Elab.async false
set_option linter.all false
set_option maxRecDepth 100000
set_option maxHeartbeats 4000000
namespace L3
open PySem PySem.Spec PyProof.Rows L2

/-! ### values that need no cell from n on -/
def Low (n : Nat) (d : D) : Prop := ∀ rf : Nat → Option D, (∀ k < n, rf k = some (.ref k)) → frzD rf d = some d
theorem low_int {n : Nat} {i : Int} : Low n (.int i) := fun _ _ => rfl
theorem low_bl {n : Nat} {b : Bool} : Low n (.bl b) := fun _ _ => rfl
theorem low_non {n : Nat} : Low n .non := fun _ _ => rfl
theorem low_str {n : Nat} {s : Str} : Low n (.str s) := fun _ _ => rfl
theorem low_ref {n k : Nat} (h : k < n) : Low n (.ref k) := fun rf hr => hr k h
theorem low_all {rf : Nat → Option D} {n : Nat} (hr : ∀ k < n, rf k = some (.ref k)) : ∀ {ds : List D}, (∀ d ∈ ds, Low n d) → frzDs rf ds = some ds
  | [], _ => rfl
  | d :: ds, h => by
    show (match frzD rf d, frzDs rf ds with
      | some a, some b => some (a :: b)
      | _, _ => none) = _
    rw [h d List.mem_cons_self rf hr, low_all hr fun e he => h e (List.mem_cons_of_mem _ he)]
theorem low_tup {n : Nat} {ds : List D} (h : ∀ d ∈ ds, Low n d) : Low n (.tup ds) := fun rf hr => by
  show (frzDs rf ds).map D.tup = _
  rw [low_all hr h]; rfl
theorem low_lst {n : Nat} {ds : List D} (h : ∀ d ∈ ds, Low n d) : Low n (.lst ds) := fun rf hr => by
  show (frzDs rf ds).map D.lst = _
  rw [low_all hr h]; rfl
theorem low_obj {n c : Nat} {ds : List D} (h : ∀ d ∈ ds, Low n d) : Low n (.obj c ds) := fun rf hr => by
  show (frzDs rf ds).map (D.obj c) = _
  rw [low_all hr h]; rfl
theorem Low.mono {n m : Nat} {d : D} (h : Low n d) (k : n ≤ m) : Low m d := fun rf hr => h rf fun j hj => hr j (Nat.lt_of_lt_of_le hj k)
theorem frzR_low {nf : Nat → Nat} {b : Nat} {M : Mem} : ∀ (n k : Nat), k < b → frzR nf b M n k = some (.ref k)
  | 0, k, h => if_pos h
  | n + 1, k, h => if_pos h
theorem trim_low {nf : Nat → Nat} {M t : Mem} {d : D} (h : Low M.length d) : trimR nf M (.ok d (M ++ t)) = .ok d M := by
  show (if (M ++ t).take M.length = M then (match frzD (frzR nf M.length (M ++ t) 6) d with
    | some d' => Res.ok d' M
    | none => .ok d (M ++ t)) else .ok d (M ++ t)) = _
  rw [if_pos (by simp), h _ fun k hk => frzR_low _ k hk]
theorem trim_same {nf : Nat → Nat} {M : Mem} {d : D} (h : Low M.length d) : trimR nf M (.ok d M) = .ok d M := by
  have := trim_low (nf := nf) (t := []) h
  rwa [List.append_nil] at this
theorem trim_cell {nf : Nat → Nat} {M t : Mem} {c : Cell} {d : D} (h : frzR nf M.length (M ++ c :: t) 6 M.length = some d) : trimR nf M (.ok (.ref M.length) (M ++ c :: t)) = .ok d M := by
  show (if (M ++ c :: t).take M.length = M then (match frzD (frzR nf M.length (M ++ c :: t) 6) (.ref M.length) with
    | some d' => Res.ok d' M
    | none => .ok (.ref M.length) (M ++ c :: t)) else .ok (.ref M.length) (M ++ c :: t)) = _
  rw [if_pos (by simp)]
  show (match frzR nf M.length (M ++ c :: t) 6 M.length with
    | some d' => Res.ok d' M
    | none => .ok (.ref M.length) (M ++ c :: t)) = _
  rw [h]
theorem trim_lst {nf : Nat → Nat} {M t : Mem} {ds : List D} (h : ∀ d ∈ ds, Low M.length d) : trimR nf M (.ok (.ref M.length) (M ++ .lst ds :: t)) = .ok (.lst ds) M := by
  refine trim_cell ?_
  rw [show (6 : Nat) = 5 + 1 from rfl, frzR, if_neg (Nat.lt_irrefl _)]
  have e : (M ++ Cell.lst ds :: t)[M.length]? = some (.lst ds) := by simp
  rw [e]
  show (frzDs (frzR nf M.length (M ++ .lst ds :: t) 5) ds).map D.lst = _
  rw [low_all (fun k hk => frzR_low _ k hk) h]; rfl
theorem trim_ins {nf : Nat → Nat} {M t : Mem} {c : Nat} {ds : List D} (hl : ds.length = nf c) (h : ∀ d ∈ ds, Low M.length d) : trimR nf M (.ok (.ref M.length) (M ++ .ins c ds :: t)) = .ok (.obj c ds) M := by
  refine trim_cell ?_
  rw [show (6 : Nat) = 5 + 1 from rfl, frzR, if_neg (Nat.lt_irrefl _)]
  have e : (M ++ Cell.ins c ds :: t)[M.length]? = some (.ins c ds) := by simp
  rw [e]
  show (if ds.length = nf c then (frzDs (frzR nf M.length (M ++ .ins c ds :: t) 5) ds).map (D.obj c) else none) = _
  rw [if_pos hl, low_all (fun k hk => frzR_low _ k hk) h]; rfl

/-! ### __init__s that lay their arguments down, one by one -/
def initS (T : List (List Nat)) : List Nat → Nat → SV
  | [], _ => svNext
  | [j], k => svFld T j (evVar 0) (evVar k)
  | j :: r, k => svSeq (svFld T j (evVar 0) (evVar k)) (initS T r (k + 1))
theorem putN_next {y : D} {j : Nat} : ∀ (pre suf : List Nat) (ds : List D), pre.length = ds.length → j ∉ pre → putN (pre ++ j :: suf) j y ds = some (ds ++ [y])
  | [], suf, ds, h, _ => by
    have : ds = [] := List.length_eq_zero_iff.mp h.symm
    subst this
    show (if j = j then some [y] else none) = _
    rw [if_pos rfl]; rfl
  | g :: pre, suf, [], h, _ => by simp at h
  | g :: pre, suf, d :: ds, h, n => by
    have hg : g ≠ j := fun e => n (by rw [e]; exact List.mem_cons_self)
    show (if g = j then some (y :: ds) else (putN (pre ++ j :: suf) j y ds).map (d :: ·)) = _
    rw [if_neg hg, putN_next pre suf ds (by simpa using h) fun m => n (List.mem_cons_of_mem _ m)]; rfl
theorem fld_step {T : List (List Nat)} {c j k : Nat} {pre suf : List Nat} {σ : St3} {M : Mem} {ds : List D} {y : D} (hT : T.getD c [] = pre ++ j :: suf) (hl : pre.length = ds.length) (hn : j ∉ pre) (h0 : σ[0]? = some (some (.ref M.length))) (hk : σ[k]? = some (some y)) :
    svFld T j (evVar 0) (evVar k) σ (M ++ [.ins c ds]) = .nx σ (M ++ [.ins c (ds ++ [y])]) := by
  have e : (M ++ [Cell.ins c ds])[M.length]? = some (.ins c ds) := by simp
  unfold svFld
  have hT2 : T[c]?.getD [] = pre ++ j :: suf := by rw [← List.getD_eq_getElem?_getD]; exact hT
  simp [hk, h0, hT2, putN_next pre suf ds hl hn]
theorem init_run {T : List (List Nat)} {c : Nat} {σ : St3} {M : Mem} (h0 : σ[0]? = some (some (.ref M.length))) : ∀ (js pre : List Nat) (ds ys : List D) (k : Nat), T.getD c [] = pre ++ js → (pre ++ js).Nodup → pre.length = ds.length → js.length = ys.length → (∀ i, (h : i < ys.length) → σ[k + i]? = some (some ys[i])) →
    initS T js k σ (M ++ [.ins c ds]) = .nx σ (M ++ [.ins c (ds ++ ys)])
  | [], pre, ds, ys, k, hT, nd, hl, hj, hv => by
    have : ys = [] := List.length_eq_zero_iff.mp hj.symm
    subst this
    rw [List.append_nil]; rfl
  | [j], pre, ds, [y], k, hT, nd, hl, hj, hv => by
    have hn : j ∉ pre := fun m => by
      rw [List.nodup_append] at nd
      exact nd.2.2 j m j (by simp) rfl
    exact fld_step hT hl hn h0 (hv 0 (by simp))
  | j :: j2 :: r, pre, ds, y :: ys, k, hT, nd, hl, hj, hv => by
    have hn : j ∉ pre := fun m => by
      rw [List.nodup_append] at nd
      exact nd.2.2 j m j (by simp) rfl
    show (svFld T j (evVar 0) (evVar k) σ (M ++ [.ins c ds])).seq (initS T (j2 :: r) (k + 1)) = _
    rw [fld_step (k := k) hT hl hn h0 (hv 0 (by simp))]
    show initS T (j2 :: r) (k + 1) σ (M ++ [.ins c (ds ++ [y])]) = _
    rw [init_run h0 (j2 :: r) (pre ++ [j]) (ds ++ [y]) ys (k + 1) (by rw [hT]; simp) (by simpa using nd) (by simp [hl]) (by simpa using hj) fun i hi => by
      have := hv (i + 1) (by simpa using hi)
      simpa [Nat.add_assoc, Nat.add_comm 1 i] using this]
    simp
  | [j], pre, ds, [], k, hT, nd, hl, hj, hv => by simp at hj
  | [j], pre, ds, _ :: _ :: _, k, hT, nd, hl, hj, hv => by simp at hj
  | _ :: _ :: _, pre, ds, [], k, hT, nd, hl, hj, hv => by simp at hj
theorem new_run {T : List (List Nat)} {c ar : Nat} {M : Mem} {js : List Nat} {ys : List D} (hT : T.getD c [] = js) (nd : js.Nodup) (hy : js.length = ys.length) (ha : ys.length + 1 = ar) (low : ∀ d ∈ ys, Low M.length d) : trimR (nfT T) M (newR c (fnB ar (initS T js 1)) ar ys M) = .ok (.obj c ys) M := by
  have e : fnB ar (initS T js 1) (.ref M.length :: ys) (M ++ [.ins c []]) = .ok .non (M ++ [.ins c ys]) := by
    unfold fnB
    have s : start3 ar (.ref M.length :: ys) = some (.ref M.length) :: ys.map some := by
      unfold start3
      rw [← ha, List.length_cons, Nat.sub_self]
      simp
    rw [s]
    have q := init_run (T := T) (c := c) (σ := some (.ref M.length) :: ys.map some) (M := M) rfl js [] [] ys 1 (by simpa using hT) (by simpa using nd) rfl hy fun i hi => by
      rw [Nat.add_comm 1 i]
      simp [hi]
    rw [q]
    simp
  unfold newR
  rw [if_pos ha, e]
  exact trim_ins (t := []) (by unfold nfT; rw [hT, hy]) low
theorem d_fldO {T : List (List Nat)} {j c : Nat} {ds : List D} {M : Mem} : dFld T j (.obj c ds) M = match lkN (T.getD c []) ds j with
  | some d => .ok d M
  | none => .no := rfl

/-! ### comprehensions that leave the cells alone -/
theorem lc_run {w : List (Nat × List D)} {g : CGV} {tt : BV} {te : EV} {σ : St3} {M : Mem} {p : D → Bool} {f : D → D} (hw : ∀ c, watched w (M ++ [c]) = true) : ∀ (items acc : List D), acc.length + items.length ≤ 1000 →
    (∀ d ∈ items, ∀ c, ∃ σ1, g d σ = some σ1 ∧ tt σ1 (M ++ [c]) = .ok (p d) (M ++ [c]) ∧ (p d = true → te σ1 (M ++ [c]) = .ok (f d) (M ++ [c]))) → lcLoop w M.length g tt te σ items (M ++ [.lst acc]) = some (M ++ [.lst (acc ++ (items.filter p).map f)])
  | [], acc, _, _ => by simp [lcLoop, hw]
  | d :: r, acc, hl, hb => by
    obtain ⟨σ1, e1, e2, e3⟩ := hb d List.mem_cons_self (.lst acc)
    simp only [List.length_cons] at hl
    have hz : acc.length < sizeLine := Nat.lt_of_lt_of_le (show acc.length < 1001 by omega) (by decide)
    unfold lcLoop
    rw [if_pos (hw _)]
    simp only [e1, e2]
    cases q : p d with
    | false =>
      rw [if_neg Bool.false_ne_true, lc_run hw r acc (by omega) fun d hd => hb d (List.mem_cons_of_mem _ hd)]
      simp [q]
    | true =>
      rw [if_pos rfl, e3 q]
      have g1 : (M ++ [Cell.lst acc])[M.length]? = some (.lst acc) := by simp
      simp only [g1, if_pos hz]
      have s1 : (M ++ [Cell.lst acc]).set M.length (.lst (acc ++ [f d])) = M ++ [.lst (acc ++ [f d])] := by simp
      rw [s1, lc_run hw r (acc ++ [f d]) (by simp; omega) fun d hd => hb d (List.mem_cons_of_mem _ hd)]
      simp [q]
theorem lcT_run {nf : Nat → Nat} {iv : IV} {vs : List Nat} {g : CGV} {tt : BV} {te : EV} {σ : St3} {M : Mem} {p : D → Bool} {f : D → D} {items : List D} {w : List (Nat × List D)} (hi : iv σ M = .ok ⟨items, w⟩ M) (hw : ∀ c, watched w (M ++ [c]) = true) (hl : items.length ≤ 1000)
    (hb : ∀ d ∈ items, ∀ c, ∃ σ1, g d (wipe3 σ vs) = some σ1 ∧ tt σ1 (M ++ [c]) = .ok (p d) (M ++ [c]) ∧ (p d = true → te σ1 (M ++ [c]) = .ok (f d) (M ++ [c]))) (low : ∀ d ∈ items, p d = true → Low M.length (f d)) :
    trimR nf M (evLc iv vs g tt te σ M) = .ok (.lst ((items.filter p).map f)) M := by
  unfold evLc
  rw [hi]
  show trimR nf M (match lcLoop w M.length g tt te (wipe3 σ vs) items (M ++ [.lst []]) with
    | some M2 => Res.ok (.ref M.length) M2
    | none => .no) = _
  rw [lc_run hw items [] (by simpa using hl) hb]
  refine trim_lst (t := []) fun d hd => ?_
  rw [List.nil_append] at hd
  obtain ⟨e, he, rfl⟩ := List.mem_map.mp hd
  exact low e (List.mem_filter.mp he).1 (List.mem_filter.mp he).2

/-! ### how wide repr's texts are -/
mutual
def wid : PyData → Nat
  | .none => 4
  | .bool _ => 5
  | .int i => i.natAbs.log2 + 2
  | .str x => (reprText x).length
  | .list xs => wids xs + 3
  | .tuple xs => wids xs + 4
  | .dict _ => 0
def wids : List PyData → Nat
  | [] => 0
  | x :: xs => wid x + 2 + wids xs
end
theorem textFrom_le : ∀ (ts : List Str) (k : Nat) (acc : Str), (textFrom k acc ts).length ≤ acc.length + piled ts
  | [], k, acc => by show acc.length ≤ _; simp [piled]
  | t :: ts, k, acc => by
    have h := textFrom_le ts (k + 1) (acc ++ (if k > 0 then ", " else "" : String) ++ t)
    have e : (acc ++ (if k > 0 then ", " else "" : String) ++ t).length ≤ acc.length + 2 + t.length := by
      rw [strLen_append, strLen_append]
      have e2 : ((", " : String) : Str).length = 2 := rfl
      have e3 : (("" : String) : Str).length = 0 := rfl
      split <;> omega
    rw [piled_cons]
    exact Nat.le_trans h (by omega)
theorem listText_le (ts : List Str) : (listText ts).length ≤ piled ts + 2 := by
  unfold listText
  rw [strLen_append]
  have h := textFrom_le ts 0 "["
  have e1 : (("[" : String) : Str).length = 1 := rfl
  have e2 : (("]" : String) : Str).length = 1 := rfl
  omega
theorem tupleText_le (ts : List Str) : (tupleText ts).length ≤ piled ts + 3 := by
  unfold tupleText
  rw [strLen_append, strLen_append]
  have e1 : (("(" : String) : Str).length = 1 := rfl
  have e2 : ((",)" : String) : Str).length = 2 := rfl
  have e3 : ((")" : String) : Str).length = 1 := rfl
  have e4 : (Str.join ", " ts).length ≤ piled ts := by
    cases ts with
    | nil => exact Nat.le_refl _
    | cons t r => have := join_length_add (t :: r) (by simp); omega
  split <;> omega
theorem int_le (i : Int) : (Str.ofString (toString i)).length ≤ i.natAbs.log2 + 2 := by
  have h : i.natAbs < 10 ^ (i.natAbs.log2 + 1) := by
    rcases Nat.eq_zero_or_pos i.natAbs with z | z
    · rw [z]; decide
    · exact Nat.lt_of_lt_of_le (Nat.lt_log2_self) (Nat.pow_le_pow_left (by decide) _)
  rw [PySem.ofString_length]
  exact int_text_length_le10 (by omega) h
mutual
theorem shown_le : ∀ d : PyData, d.hasDict = false → d.shown.length ≤ wid d
  | .none, _ => Nat.le_refl _
  | .bool b, _ => by cases b <;> decide
  | .int i, _ => by simp only [PyData.shown, wid]; exact int_le i
  | .str x, _ => by simp only [PyData.shown, wid]; exact Nat.le_refl _
  | .list xs, h => by
    simp only [PyData.shown, wid]
    have := listText_le (PyData.shownAll xs)
    have := shownAll_le xs (by simpa only [PyData.hasDict] using h)
    omega
  | .tuple xs, h => by
    simp only [PyData.shown, wid]
    have := tupleText_le (PyData.shownAll xs)
    have := shownAll_le xs (by simpa only [PyData.hasDict] using h)
    omega
  | .dict kvs, h => by simp [PyData.hasDict] at h
theorem shownAll_le : ∀ ds : List PyData, PyData.hasDictAll ds = false → piled (PyData.shownAll ds) ≤ wids ds
  | [], _ => Nat.le_refl _
  | d :: ds, h => by
    simp only [PyData.hasDictAll, Bool.or_eq_false_iff] at h
    simp only [PyData.shownAll, wids]
    rw [piled_cons]
    have := shown_le d h.1
    have := shownAll_le ds h.2
    omega
end
theorem okRepr_of {p : PyData} (h1 : p.showable = true) (h2 : p.hasDict = false) (h3 : wid p ≤ 1000000) : okRepr p = true := by
  unfold okRepr
  rw [h1, h2, decide_eq_true (Nat.le_trans (shown_le p h2) (Nat.le_trans h3 (by decide)))]; rfl
end L3

set_option Elab.async false
set_option linter.all false
set_option maxRecDepth 100000
set_option maxHeartbeats 4000000
namespace K77
open PySem PySem.Spec PyProof.Rows L2 L3
def TT : List (List Nat) := [[0], [1], [2, 3], [4, 5, 6, 7], [1, 8], [9], [4], [10, 1], [11, 12, 13, 14, 15, 16, 17], [3], [18, 19, 20], [21, 22], [21, 23, 8], [21, 10, 9], [21, 8, 24], [25, 26, 27], [25, 27], [27, 28, 20], [25, 26, 7], [2, 26], [29, 30, 10, 31], [4, 31], [32], [33], [0, 28, 34], [22, 1], [35, 22, 1], [7], [36, 0], [0, 1], [37, 9, 1], [0], [1], [29, 38, 39, 40, 10, 31], [41, 42], [43, 44, 45, 27], [11, 46, 14, 23], [47, 48, 49], [47, 50], [51, 52, 53, 54], [25], [1, 55], [1, 55], [28, 34], [55, 1]]
def s_Weights___init__ : SV := (svFld TT 0 (evVar 0) (evVar 1))
def g_Weights___init__ : Fn3 := fnB 2 s_Weights___init__
def s_Hidden___init__ : SV := (svFld TT 1 (evVar 0) (evVar 1))
def g_Hidden___init__ : Fn3 := fnB 2 s_Hidden___init__
def s_Core___init__ : SV := (svSeq (svFld TT 2 (evVar 0) (evVar 1))
    (svFld TT 3 (evVar 0) (evVar 2)))
def g_Core___init__ : Fn3 := fnB 3 s_Core___init__
def s_Block___init__ : SV := (svSeq (svFld TT 4 (evVar 0) (evVar 1))
    (svSeq (svFld TT 5 (evVar 0) (evVar 2))
    (svSeq (svFld TT 6 (evVar 0) (evVar 3))
    (svFld TT 7 (evVar 0) (evVar 4)))))
def g_Block___init__ : Fn3 := fnB 5 s_Block___init__
def s_Recovered___init__ : SV := (svSeq (svFld TT 1 (evVar 0) (evVar 1))
    (svFld TT 8 (evVar 0) (evVar 2)))
def g_Recovered___init__ : Fn3 := fnB 3 s_Recovered___init__
def s_Clash___init__ : SV := (svFld TT 9 (evVar 0) (evVar 1))
def g_Clash___init__ : Fn3 := fnB 2 s_Clash___init__
def s_Given___init__ : SV := (svFld TT 4 (evVar 0) (evVar 1))
def g_Given___init__ : Fn3 := fnB 2 s_Given___init__
def s_Parted___init__ : SV := (svSeq (svFld TT 10 (evVar 0) (evVar 1))
    (svFld TT 1 (evVar 0) (evVar 2)))
def g_Parted___init__ : Fn3 := fnB 3 s_Parted___init__
def s_Bounds___init__ : SV := (svSeq (svFld TT 11 (evVar 0) (evVar 1))
    (svSeq (svFld TT 12 (evVar 0) (evVar 2))
    (svSeq (svFld TT 13 (evVar 0) (evVar 3))
    (svSeq (svFld TT 14 (evVar 0) (evVar 4))
    (svSeq (svFld TT 15 (evVar 0) (evVar 5))
    (svSeq (svFld TT 16 (evVar 0) (evVar 6))
    (svFld TT 17 (evVar 0) (evVar 7))))))))
def g_Bounds___init__ : Fn3 := fnB 8 s_Bounds___init__
def s_Chain___init__ : SV := (svFld TT 3 (evVar 0) (evVar 1))
def g_Chain___init__ : Fn3 := fnB 2 s_Chain___init__
def s_LeastBoth___init__ : SV := (svSeq (svFld TT 18 (evVar 0) (evVar 1))
    (svSeq (svFld TT 19 (evVar 0) (evVar 2))
    (svFld TT 20 (evVar 0) (evVar 3))))
def g_LeastBoth___init__ : Fn3 := fnB 4 s_LeastBoth___init__
def s_Played___init__ : SV := (svSeq (svFld TT 21 (evVar 0) (evVar 1))
    (svFld TT 22 (evVar 0) (evVar 2)))
def g_Played___init__ : Fn3 := fnB 3 s_Played___init__
def s_Come___init__ : SV := (svSeq (svFld TT 21 (evVar 0) (evVar 1))
    (svSeq (svFld TT 23 (evVar 0) (evVar 2))
    (svFld TT 8 (evVar 0) (evVar 3))))
def g_Come___init__ : Fn3 := fnB 4 s_Come___init__
def s_Never___init__ : SV := (svSeq (svFld TT 21 (evVar 0) (evVar 1))
    (svSeq (svFld TT 10 (evVar 0) (evVar 2))
    (svFld TT 9 (evVar 0) (evVar 3))))
def g_Never___init__ : Fn3 := fnB 4 s_Never___init__
def s_Untold___init__ : SV := (svSeq (svFld TT 21 (evVar 0) (evVar 1))
    (svSeq (svFld TT 8 (evVar 0) (evVar 2))
    (svFld TT 24 (evVar 0) (evVar 3))))
def g_Untold___init__ : Fn3 := fnB 4 s_Untold___init__
def s_Piece___init__ : SV := (svSeq (svFld TT 25 (evVar 0) (evVar 1))
    (svSeq (svFld TT 26 (evVar 0) (evVar 2))
    (svFld TT 27 (evVar 0) (evVar 3))))
def g_Piece___init__ : Fn3 := fnB 4 s_Piece___init__
def s_Walk___init__ : SV := (svSeq (svFld TT 25 (evVar 0) (evVar 1))
    (svFld TT 27 (evVar 0) (evVar 2)))
def g_Walk___init__ : Fn3 := fnB 3 s_Walk___init__
def s_FewestGroups___init__ : SV := (svSeq (svFld TT 27 (evVar 0) (evVar 1))
    (svSeq (svFld TT 28 (evVar 0) (evVar 2))
    (svFld TT 20 (evVar 0) (evVar 3))))
def g_FewestGroups___init__ : Fn3 := fnB 4 s_FewestGroups___init__
def s_SideLot___init__ : SV := (svSeq (svFld TT 25 (evVar 0) (evVar 1))
    (svSeq (svFld TT 26 (evVar 0) (evVar 2))
    (svFld TT 7 (evVar 0) (evVar 3))))
def g_SideLot___init__ : Fn3 := fnB 4 s_SideLot___init__
def s_WebCore___init__ : SV := (svSeq (svFld TT 2 (evVar 0) (evVar 1))
    (svFld TT 26 (evVar 0) (evVar 2)))
def g_WebCore___init__ : Fn3 := fnB 3 s_WebCore___init__
def s_Run___init__ : SV := (svSeq (svFld TT 29 (evVar 0) (evVar 1))
    (svSeq (svFld TT 30 (evVar 0) (evVar 2))
    (svSeq (svFld TT 10 (evVar 0) (evVar 3))
    (svFld TT 31 (evVar 0) (evVar 4)))))
def g_Run___init__ : Fn3 := fnB 5 s_Run___init__
def s_RunTable___init__ : SV := (svSeq (svFld TT 4 (evVar 0) (evVar 1))
    (svFld TT 31 (evVar 0) (evVar 2)))
def g_RunTable___init__ : Fn3 := fnB 3 s_RunTable___init__
def s_Apart___init__ : SV := (svFld TT 32 (evVar 0) (evVar 1))
def g_Apart___init__ : Fn3 := fnB 2 s_Apart___init__
def s_Missing___init__ : SV := (svFld TT 33 (evVar 0) (evVar 1))
def g_Missing___init__ : Fn3 := fnB 2 s_Missing___init__
def s_Meeting___init__ : SV := (svSeq (svFld TT 0 (evVar 0) (evVar 1))
    (svSeq (svFld TT 28 (evVar 0) (evVar 2))
    (svFld TT 34 (evVar 0) (evVar 3))))
def g_Meeting___init__ : Fn3 := fnB 4 s_Meeting___init__
def s_Lost___init__ : SV := (svSeq (svFld TT 22 (evVar 0) (evVar 1))
    (svFld TT 1 (evVar 0) (evVar 2)))
def g_Lost___init__ : Fn3 := fnB 3 s_Lost___init__
def s_Mended___init__ : SV := (svSeq (svFld TT 35 (evVar 0) (evVar 1))
    (svSeq (svFld TT 22 (evVar 0) (evVar 2))
    (svFld TT 1 (evVar 0) (evVar 3))))
def g_Mended___init__ : Fn3 := fnB 4 s_Mended___init__
def s_Worse___init__ : SV := (svFld TT 7 (evVar 0) (evVar 1))
def g_Worse___init__ : Fn3 := fnB 2 s_Worse___init__
def s_Fewest___init__ : SV := (svSeq (svFld TT 36 (evVar 0) (evVar 1))
    (svFld TT 0 (evVar 0) (evVar 2)))
def g_Fewest___init__ : Fn3 := fnB 3 s_Fewest___init__
def s_Dependent___init__ : SV := (svSeq (svFld TT 0 (evVar 0) (evVar 1))
    (svFld TT 1 (evVar 0) (evVar 2)))
def g_Dependent___init__ : Fn3 := fnB 3 s_Dependent___init__
def s_Whole___init__ : SV := (svSeq (svFld TT 37 (evVar 0) (evVar 1))
    (svSeq (svFld TT 9 (evVar 0) (evVar 2))
    (svFld TT 1 (evVar 0) (evVar 3))))
def g_Whole___init__ : Fn3 := fnB 4 s_Whole___init__
def s_RestWeights___init__ : SV := (svFld TT 0 (evVar 0) (evVar 1))
def g_RestWeights___init__ : Fn3 := fnB 2 s_RestWeights___init__
def s_RestHidden___init__ : SV := (svFld TT 1 (evVar 0) (evVar 1))
def g_RestHidden___init__ : Fn3 := fnB 2 s_RestHidden___init__
def s_Bent___init__ : SV := (svSeq (svFld TT 29 (evVar 0) (evVar 1))
    (svSeq (svFld TT 38 (evVar 0) (evVar 2))
    (svSeq (svFld TT 39 (evVar 0) (evVar 3))
    (svSeq (svFld TT 40 (evVar 0) (evVar 4))
    (svSeq (svFld TT 10 (evVar 0) (evVar 5))
    (svFld TT 31 (evVar 0) (evVar 6)))))))
def g_Bent___init__ : Fn3 := fnB 7 s_Bent___init__
def s_Parts___init__ : SV := (svSeq (svFld TT 41 (evVar 0) (evVar 1))
    (svFld TT 42 (evVar 0) (evVar 2)))
def g_Parts___init__ : Fn3 := fnB 3 s_Parts___init__
def s_Balance___init__ : SV := (svSeq (svFld TT 43 (evVar 0) (evVar 1))
    (svSeq (svFld TT 44 (evVar 0) (evVar 2))
    (svSeq (svFld TT 45 (evVar 0) (evVar 3))
    (svFld TT 27 (evVar 0) (evVar 4)))))
def g_Balance___init__ : Fn3 := fnB 5 s_Balance___init__
def s_SideBounds___init__ : SV := (svSeq (svFld TT 11 (evVar 0) (evVar 1))
    (svSeq (svFld TT 46 (evVar 0) (evVar 2))
    (svSeq (svFld TT 14 (evVar 0) (evVar 3))
    (svFld TT 23 (evVar 0) (evVar 4)))))
def g_SideBounds___init__ : Fn3 := fnB 5 s_SideBounds___init__
def s_Taken___init__ : SV := (svSeq (svFld TT 47 (evVar 0) (evVar 1))
    (svSeq (svFld TT 48 (evVar 0) (evVar 2))
    (svFld TT 49 (evVar 0) (evVar 3))))
def g_Taken___init__ : Fn3 := fnB 4 s_Taken___init__
def s_Solved___init__ : SV := (svSeq (svFld TT 47 (evVar 0) (evVar 1))
    (svFld TT 50 (evVar 0) (evVar 2)))
def g_Solved___init__ : Fn3 := fnB 3 s_Solved___init__
def s_Ladder___init__ : SV := (svSeq (svFld TT 51 (evVar 0) (evVar 1))
    (svSeq (svFld TT 52 (evVar 0) (evVar 2))
    (svSeq (svFld TT 53 (evVar 0) (evVar 3))
    (svFld TT 54 (evVar 0) (evVar 4)))))
def g_Ladder___init__ : Fn3 := fnB 5 s_Ladder___init__
def s_Ring___init__ : SV := (svFld TT 25 (evVar 0) (evVar 1))
def g_Ring___init__ : Fn3 := fnB 2 s_Ring___init__
def s_Unseen___init__ : SV := (svSeq (svFld TT 1 (evVar 0) (evVar 1))
    (svFld TT 55 (evVar 0) (evVar 2)))
def g_Unseen___init__ : Fn3 := fnB 3 s_Unseen___init__
def s_Filled___init__ : SV := (svSeq (svFld TT 1 (evVar 0) (evVar 1))
    (svFld TT 55 (evVar 0) (evVar 2)))
def g_Filled___init__ : Fn3 := fnB 3 s_Filled___init__
def s_Twice___init__ : SV := (svSeq (svFld TT 28 (evVar 0) (evVar 1))
    (svFld TT 34 (evVar 0) (evVar 2)))
def g_Twice___init__ : Fn3 := fnB 3 s_Twice___init__
def s_Explained___init__ : SV := (svSeq (svFld TT 55 (evVar 0) (evVar 1))
    (svFld TT 1 (evVar 0) (evVar 2)))
def g_Explained___init__ : Fn3 := fnB 3 s_Explained___init__
def b__law_hand_1 : SV := (svSeq (svSet 1 (ev2 dMod (evA (a1 dInt) (avCons (ev2 (dAdd false) (ev2 (dMul false) (evVar 1) (evC (.int 1709))) (evA (a1 dInt) (avCons (evVar 3) avNil))) avNil)) (evC (.int 2147483549))))
    (svE (evM isL dAppend (evVar 2) (avCons (evA (a1 dAbs) (avCons (evA (a1 dInt) (avCons (evVar 3) avNil)) avNil)) avNil))))
def s__law_hand : SV := (svSeq (svSet 1 (ev2 (dAdd false) (evA (a1 dLen) (avCons (evVar 0) avNil)) (evC (.int 37))))
    (svSeq (svSet 2 (evA mkCell avNil))
    (svSeq (svFor (ivSeq (evVar 0)) (gvName 3) b__law_hand_1)
    (svRet (evA mkCell (avCons (evVar 2) (avCons (evC (.int 0)) (avCons (evC (.int 0)) (avCons (evVar 1) avNil)))))))))
def g__law_hand : Fn3 := fnB 4 s__law_hand
def s__law_mixed : SV := (svSeq (svSet 2 (ev2 dMod (evA (a1 dInt) (avCons (ev2 (dAdd false) (ev2 (dAdd false) (ev2 (dMul false) (evVar 0) (evC (.int 48271))) (ev2 (dMul false) (evVar 1) (evC (.int 7919)))) (evC (.int 30011))) avNil)) (evC (.int 2147483399))))
    (svSeq (svSet 3 (ev2 dMod (evA (a1 dInt) (avCons (ev2 (dAdd false) (ev2 (dAdd false) (ev2 (dMul false) (evVar 2) (evVar 2)) (ev2 (dMul false) (evVar 1) (evC (.int 92821)))) (ev2 dDiv (evVar 2) (evC (.int 131)))) avNil)) (evC (.int 2147483629))))
    (svRet (ev2 dDiv (evA (a1 dInt) (avCons (ev2 dMod (evA (a1 dInt) (avCons (ev2 (dAdd false) (ev2 (dMul false) (evVar 3) (evC (.int 69621))) (ev2 dDiv (evVar 2) (evC (.int 13)))) avNil)) (evC (.int 2147483587))) avNil)) (evC (.int 32))))))
def g__law_mixed : Fn3 := fnB 4 s__law_mixed
def s__law_take : SV := (svSeq (svIf (bvAnd (bvE (ev2 dEqS (ev2 dIx (evVar 0) (evC (.int 2))) (evC (.int 0)))) (bvE (ev2 dLt (ev2 dIx (evVar 0) (evC (.int 1))) (evA (a1 dLen) (avCons (ev2 dIx (evVar 0) (evC (.int 0))) avNil))))) (svSeq (svSet 2 (ev2 dIx (ev2 dIx (evVar 0) (evC (.int 0))) (ev2 dIx (evVar 0) (evC (.int 1)))))
    (svSeq (svAsg (ev2 (dAdd false) (ev2 dIx (evVar 0) (evC (.int 1))) (evC (.int 1))) (gvSub (evVar 0) (evC (.int 1)) stL))
    (svSeq (svIf (bvE (ev2 dLt (evVar 2) (ev2 dPow (evC (.int 10)) (evC (.int 18))))) (svRet (ev2 dMod (evA (a1 dInt) (avCons (evTrim (nfT TT) (evCall g__law_mixed 2 [] (avCons (ev2 dMod (evA (a1 dInt) (avCons (evVar 2) avNil)) (evC (.int 2147483399))) (avCons (ev2 dIx (evVar 0) (evC (.int 1))) avNil)))) avNil)) (evVar 1))) svNext)
    (svAsg (evVar 2) (gvSub (evVar 0) (evC (.int 2)) stL))))) svNext)
    (svSeq (svIf (bvE (ev2 dGt (ev2 dIx (evVar 0) (evC (.int 2))) (evC (.int 0)))) (svSeq (svSet 3 (ev2 dIx (evVar 0) (evC (.int 2))))
    (svSeq (svAsg (ev2 dDiv (evA (a1 dInt) (avCons (evVar 3) avNil)) (evVar 1)) (gvSub (evVar 0) (evC (.int 2)) stL))
    (svRet (ev2 dMod (evA (a1 dInt) (avCons (evVar 3) avNil)) (evVar 1))))) svNext)
    (svSeq (svAsg (ev2 dMod (evA (a1 dInt) (avCons (ev2 (dAdd false) (ev2 dIx (evVar 0) (evC (.int 3))) (evC (.int 1))) avNil)) (evC (.int 2147483549))) (gvSub (evVar 0) (evC (.int 3)) stL))
    (svRet (ev2 dMod (evA (a1 dInt) (avCons (evTrim (nfT TT) (evCall g__law_mixed 2 [] (avCons (ev2 dIx (evVar 0) (evC (.int 3))) (avCons (ev2 dIx (evVar 0) (evC (.int 1))) avNil)))) avNil)) (evVar 1))))))
def g__law_take : Fn3 := fnB 4 s__law_take
def t__law_all_1 : BV := (bvE (ev2 dNeS (evA (a1 dRepr) (avCons (evVar 2) avNil)) (evA (a1 dRepr) (avCons (evSl false (evVar 1) ovN (ovS (evA (a1 dLen) (avCons (evVar 2) avNil)))) avNil))))
def s__law_all : SV := (svRet (ev2 dEqS (evTrim (nfT TT) (evLc (ivSeq (evVar 0)) [2] (cgName 2) t__law_all_1 (evVar 2))) (evA mkLst avNil)))
def g__law_all : Fn3 := fnB 3 s__law_all
def e__law_answers_1 : EV := (evA mkLst (avCons (ev1 (dFld TT 1) (evVar 5)) (avCons (ev1 (dFld TT 8) (evVar 5)) avNil)))
def e__law_answers_2 : EV := (evA mkLst (avCons (ev1 (dFld TT 10) (evVar 5)) (avCons (ev1 (dFld TT 1) (evVar 5)) avNil)))
def e__law_answers_3 : EV := (evA mkLst (avCons (ev1 (dFld TT 37) (evVar 5)) (avCons (ev1 (dFld TT 9) (evVar 5)) (avCons (ev1 (dFld TT 1) (evVar 5)) avNil))))
def e__law_answers_4 : EV := (evA mkLst (avCons (ev1 (dFld TT 0) (evVar 5)) (avCons (ev1 (dFld TT 28) (evVar 5)) (avCons (ev1 (dFld TT 34) (evVar 5)) avNil))))
def e__law_answers_5 : EV := (evA mkLst (avCons (ev1 (dFld TT 36) (evVar 5)) (avCons (ev1 (dFld TT 0) (evVar 5)) avNil)))
def e__law_answers_6 : EV := (evA mkLst (avCons (ev1 (dFld TT 0) (evVar 5)) (avCons (ev1 (dFld TT 1) (evVar 5)) avNil)))
def s__law_answers : SV := (svSeq (svSet 4 (evA mkLst (avCons (evA mkLst (avCons (ev1 (dFld TT 0) (evTrim (nfT TT) (evNewP 0 g_Weights___init__ 2 [0] 1 0 (avCons (evVar 0) avNil) avNil))) avNil)) (avCons (evA mkLst (avCons (ev1 (dFld TT 1) (evTrim (nfT TT) (evNewP 1 g_Hidden___init__ 2 [0] 1 0 (avCons (evVar 0) avNil) avNil))) avNil)) (avCons (evA mkLst (avCons (ev1 (dFld TT 9) (evTrim (nfT TT) (evNewP 5 g_Clash___init__ 2 [0] 1 0 (avCons (evVar 0) avNil) avNil))) avNil)) (avCons (evA mkLst (avCons (ev1 (dFld TT 4) (evTrim (nfT TT) (evNewP 6 g_Given___init__ 2 [0] 1 0 (avCons (evVar 0) avNil) avNil))) avNil)) (avCons (evA mkLst (avCons (ev1 (dFld TT 0) (evTrim (nfT TT) (evNewP 31 g_RestWeights___init__ 2 [0] 1 0 (avCons (evVar 0) avNil) avNil))) avNil)) avNil)))))))
    (svSeq (svSet 4 (ev2 (dAdd false) (evVar 4) (evA mkLst (avCons (evA mkLst (avCons (ev1 (dFld TT 1) (evTrim (nfT TT) (evNewP 32 g_RestHidden___init__ 2 [0] 1 0 (avCons (evVar 0) avNil) avNil))) avNil)) (avCons (evA mkLst (avCons (ev1 (dFld TT 33) (evTrim (nfT TT) (evNewP 23 g_Missing___init__ 2 [0] 1 0 (avCons (evVar 0) avNil) avNil))) avNil)) avNil)))))
    (svSeq (svSet 4 (ev2 (dAdd false) (evVar 4) (evTrim (nfT TT) (evLc (ivSeq (evA mkLst (avCons (evTrim (nfT TT) (evNewP 4 g_Recovered___init__ 3 [0, 1] 2 0 (avCons (evVar 0) (avCons (evVar 1) avNil)) avNil)) (avCons (evTrim (nfT TT) (evNewP 4 g_Recovered___init__ 3 [1, 0] 0 2 avNil (avCons (evVar 1) (avCons (evVar 0) avNil)))) avNil)))) [5] (cgName 5) bvYes e__law_answers_1))))
    (svSeq (svSet 4 (ev2 (dAdd false) (evVar 4) (evTrim (nfT TT) (evLc (ivSeq (evA mkLst (avCons (evTrim (nfT TT) (evNewP 7 g_Parted___init__ 3 [0, 1] 2 0 (avCons (evVar 0) (avCons (evVar 1) avNil)) avNil)) (avCons (evTrim (nfT TT) (evNewP 7 g_Parted___init__ 3 [1, 0] 0 2 avNil (avCons (evVar 1) (avCons (evVar 0) avNil)))) avNil)))) [5] (cgName 5) bvYes e__law_answers_2))))
    (svSeq (svSet 4 (ev2 (dAdd false) (evVar 4) (evTrim (nfT TT) (evLc (ivSeq (evA mkLst (avCons (evTrim (nfT TT) (evNewP 30 g_Whole___init__ 4 [0, 1, 2] 3 0 (avCons (evVar 0) (avCons (evVar 1) (avCons (evVar 2) avNil))) avNil)) (avCons (evTrim (nfT TT) (evNewP 30 g_Whole___init__ 4 [2, 1, 0] 0 3 avNil (avCons (evVar 2) (avCons (evVar 1) (avCons (evVar 0) avNil))))) avNil)))) [5] (cgName 5) bvYes e__law_answers_3))))
    (svSeq (svSet 4 (ev2 (dAdd false) (evVar 4) (evTrim (nfT TT) (evLc (ivSeq (evA mkLst (avCons (evTrim (nfT TT) (evNewP 24 g_Meeting___init__ 4 [0, 1, 2] 3 0 (avCons (evVar 0) (avCons (evVar 1) (avCons (evVar 2) avNil))) avNil)) (avCons (evTrim (nfT TT) (evNewP 24 g_Meeting___init__ 4 [2, 1, 0] 0 3 avNil (avCons (evVar 2) (avCons (evVar 1) (avCons (evVar 0) avNil))))) avNil)))) [5] (cgName 5) bvYes e__law_answers_4))))
    (svSeq (svSet 4 (ev2 (dAdd false) (evVar 4) (evTrim (nfT TT) (evLc (ivSeq (evA mkLst (avCons (evTrim (nfT TT) (evNewP 28 g_Fewest___init__ 3 [0, 1] 2 0 (avCons (evVar 0) (avCons (evVar 1) avNil)) avNil)) (avCons (evTrim (nfT TT) (evNewP 28 g_Fewest___init__ 3 [1, 0] 0 2 avNil (avCons (evVar 1) (avCons (evVar 0) avNil)))) avNil)))) [5] (cgName 5) bvYes e__law_answers_5))))
    (svSeq (svSet 4 (ev2 (dAdd false) (evVar 4) (evTrim (nfT TT) (evLc (ivSeq (evA mkLst (avCons (evTrim (nfT TT) (evNewP 29 g_Dependent___init__ 3 [0, 1] 2 0 (avCons (evVar 0) (avCons (evVar 1) avNil)) avNil)) (avCons (evTrim (nfT TT) (evNewP 29 g_Dependent___init__ 3 [1, 0] 0 2 avNil (avCons (evVar 1) (avCons (evVar 0) avNil)))) avNil)))) [5] (cgName 5) bvYes e__law_answers_6))))
    (svRet (evTrim (nfT TT) (evCall g__law_all 2 [] (avCons (evVar 4) (avCons (evVar 3) avNil)))))))))))))
def g__law_answers : Fn3 := fnB 6 s__law_answers
def e__law_groups_1 : EV := (evA mkLst (avCons (ev1 (dFld TT 25) (evVar 6)) (avCons (ev1 (dFld TT 26) (evVar 6)) (avCons (ev1 (dFld TT 27) (evVar 6)) avNil))))
def e__law_groups_2 : EV := (evA mkLst (avCons (ev1 (dFld TT 25) (evVar 6)) (avCons (ev1 (dFld TT 27) (evVar 6)) avNil)))
def e__law_groups_3 : EV := (evA mkLst (avCons (ev1 (dFld TT 47) (evVar 6)) (avCons (ev1 (dFld TT 48) (evVar 6)) (avCons (ev1 (dFld TT 49) (evVar 6)) avNil))))
def e__law_groups_4 : EV := (evA mkLst (avCons (ev1 (dFld TT 47) (evVar 6)) (avCons (ev1 (dFld TT 50) (evVar 6)) avNil)))
def e__law_groups_5 : EV := (evA mkLst (avCons (ev1 (dFld TT 51) (evVar 6)) (avCons (ev1 (dFld TT 52) (evVar 6)) (avCons (ev1 (dFld TT 53) (evVar 6)) (avCons (ev1 (dFld TT 54) (evVar 6)) avNil)))))
def e__law_groups_6 : EV := (evA mkLst (avCons (ev1 (dFld TT 2) (evVar 6)) (avCons (ev1 (dFld TT 3) (evVar 6)) avNil)))
def s__law_groups : SV := (svSeq (svSet 5 (evA mkLst (avCons (evA mkLst (avCons (ev1 (dFld TT 25) (evTrim (nfT TT) (evNewP 40 g_Ring___init__ 2 [0] 1 0 (avCons (evVar 0) avNil) avNil))) avNil)) (avCons (evA mkLst (avCons (ev1 (dFld TT 3) (evTrim (nfT TT) (evNewP 9 g_Chain___init__ 2 [0] 1 0 (avCons (evVar 0) avNil) avNil))) avNil)) avNil))))
    (svSeq (svSet 5 (ev2 (dAdd false) (evVar 5) (evTrim (nfT TT) (evLc (ivSeq (evA mkLst (avCons (evTrim (nfT TT) (evNewP 15 g_Piece___init__ 4 [0, 1, 2] 3 0 (avCons (evVar 0) (avCons (evVar 1) (avCons (evVar 2) avNil))) avNil)) (avCons (evTrim (nfT TT) (evNewP 15 g_Piece___init__ 4 [2, 1, 0] 0 3 avNil (avCons (evVar 2) (avCons (evVar 1) (avCons (evVar 0) avNil))))) avNil)))) [6] (cgName 6) bvYes e__law_groups_1))))
    (svSeq (svSet 5 (ev2 (dAdd true) (evVar 5) (evTrim (nfT TT) (evLc (ivSeq (evA mkLst (avCons (evTrim (nfT TT) (evNewP 16 g_Walk___init__ 3 [0, 1] 2 0 (avCons (evVar 0) (avCons (evVar 1) avNil)) avNil)) (avCons (evTrim (nfT TT) (evNewP 16 g_Walk___init__ 3 [1, 0] 0 2 avNil (avCons (evVar 1) (avCons (evVar 0) avNil)))) avNil)))) [6] (cgName 6) bvYes e__law_groups_2))))
    (svSeq (svSet 6 (evTrim (nfT TT) (evNewP 35 g_Balance___init__ 5 [0, 1, 2, 3] 4 0 (avCons (evVar 0) (avCons (evVar 1) (avCons (evVar 2) (avCons (evVar 3) avNil)))) avNil)))
    (svSeq (svE (evM isL dAppend (evVar 5) (avCons (evA mkLst (avCons (ev1 (dFld TT 43) (evVar 6)) (avCons (ev1 (dFld TT 44) (evVar 6)) (avCons (ev1 (dFld TT 45) (evVar 6)) (avCons (ev1 (dFld TT 27) (evVar 6)) avNil))))) avNil)))
    (svSeq (svSet 6 (evTrim (nfT TT) (evNewP 35 g_Balance___init__ 5 [3, 2, 1, 0] 0 4 avNil (avCons (evVar 3) (avCons (evVar 2) (avCons (evVar 1) (avCons (evVar 0) avNil)))))))
    (svSeq (svE (evM isL dAppend (evVar 5) (avCons (evA mkLst (avCons (ev1 (dFld TT 43) (evVar 6)) (avCons (ev1 (dFld TT 44) (evVar 6)) (avCons (ev1 (dFld TT 45) (evVar 6)) (avCons (ev1 (dFld TT 27) (evVar 6)) avNil))))) avNil)))
    (svSeq (svSet 5 (ev2 (dAdd false) (evVar 5) (evTrim (nfT TT) (evLc (ivSeq (evA mkLst (avCons (evTrim (nfT TT) (evNewP 37 g_Taken___init__ 4 [0, 1, 2] 3 0 (avCons (evVar 0) (avCons (evVar 1) (avCons (evVar 2) avNil))) avNil)) (avCons (evTrim (nfT TT) (evNewP 37 g_Taken___init__ 4 [2, 1, 0] 0 3 avNil (avCons (evVar 2) (avCons (evVar 1) (avCons (evVar 0) avNil))))) avNil)))) [6] (cgName 6) bvYes e__law_groups_3))))
    (svSeq (svSet 5 (ev2 (dAdd false) (evVar 5) (evTrim (nfT TT) (evLc (ivSeq (evA mkLst (avCons (evTrim (nfT TT) (evNewP 38 g_Solved___init__ 3 [0, 1] 2 0 (avCons (evVar 0) (avCons (evVar 1) avNil)) avNil)) (avCons (evTrim (nfT TT) (evNewP 38 g_Solved___init__ 3 [1, 0] 0 2 avNil (avCons (evVar 1) (avCons (evVar 0) avNil)))) avNil)))) [6] (cgName 6) bvYes e__law_groups_4))))
    (svSeq (svSet 5 (ev2 (dAdd false) (evVar 5) (evTrim (nfT TT) (evLc (ivSeq (evA mkLst (avCons (evTrim (nfT TT) (evNewP 39 g_Ladder___init__ 5 [0, 1, 2, 3] 4 0 (avCons (evVar 0) (avCons (evVar 1) (avCons (evVar 2) (avCons (evVar 3) avNil)))) avNil)) (avCons (evTrim (nfT TT) (evNewP 39 g_Ladder___init__ 5 [3, 2, 1, 0] 0 4 avNil (avCons (evVar 3) (avCons (evVar 2) (avCons (evVar 1) (avCons (evVar 0) avNil)))))) avNil)))) [6] (cgName 6) bvYes e__law_groups_5))))
    (svSeq (svSet 5 (ev2 (dAdd true) (evVar 5) (evTrim (nfT TT) (evLc (ivSeq (evA mkLst (avCons (evTrim (nfT TT) (evNewP 2 g_Core___init__ 3 [0, 1] 2 0 (avCons (evVar 0) (avCons (evVar 1) avNil)) avNil)) (avCons (evTrim (nfT TT) (evNewP 2 g_Core___init__ 3 [1, 0] 0 2 avNil (avCons (evVar 1) (avCons (evVar 0) avNil)))) avNil)))) [6] (cgName 6) bvYes e__law_groups_6))))
    (svSeq (svSet 6 (evTrim (nfT TT) (evNewP 3 g_Block___init__ 5 [0, 1, 2, 3] 4 0 (avCons (evVar 0) (avCons (evVar 1) (avCons (evVar 2) (avCons (evVar 3) avNil)))) avNil)))
    (svSeq (svE (evM isL dAppend (evVar 5) (avCons (evA mkLst (avCons (ev1 (dFld TT 4) (evVar 6)) (avCons (ev1 (dFld TT 5) (evVar 6)) (avCons (ev1 (dFld TT 6) (evVar 6)) (avCons (ev1 (dFld TT 7) (evVar 6)) avNil))))) avNil)))
    (svSeq (svSet 6 (evTrim (nfT TT) (evNewP 3 g_Block___init__ 5 [3, 2, 1, 0] 0 4 avNil (avCons (evVar 3) (avCons (evVar 2) (avCons (evVar 1) (avCons (evVar 0) avNil)))))))
    (svSeq (svE (evM isL dAppend (evVar 5) (avCons (evA mkLst (avCons (ev1 (dFld TT 4) (evVar 6)) (avCons (ev1 (dFld TT 5) (evVar 6)) (avCons (ev1 (dFld TT 6) (evVar 6)) (avCons (ev1 (dFld TT 7) (evVar 6)) avNil))))) avNil)))
    (svSeq (svSet 6 (evTrim (nfT TT) (evNewP 10 g_LeastBoth___init__ 4 [0, 1, 2] 3 0 (avCons (evVar 0) (avCons (evVar 1) (avCons (evVar 2) avNil))) avNil)))
    (svSeq (svE (evM isL dAppend (evVar 5) (avCons (evA mkLst (avCons (ev1 (dFld TT 18) (evVar 6)) (avCons (ev1 (dFld TT 19) (evVar 6)) (avCons (ev1 (dFld TT 20) (evVar 6)) avNil)))) avNil)))
    (svRet (evTrim (nfT TT) (evCall g__law_all 2 [] (avCons (evVar 5) (avCons (evVar 4) avNil))))))))))))))))))))))
def g__law_groups : Fn3 := fnB 7 s__law_groups
def b__law_bounds_1 : SV := (svIf (bvE (ev2 dNeS (evA (a1 dRepr) (avCons (evA mkLst (avCons (ev1 (dFld TT 11) (evVar 6)) (avCons (ev1 (dFld TT 12) (evVar 6)) (avCons (ev1 (dFld TT 13) (evVar 6)) (avCons (ev1 (dFld TT 14) (evVar 6)) (avCons (ev1 (dFld TT 15) (evVar 6)) (avCons (ev1 (dFld TT 16) (evVar 6)) (avCons (ev1 (dFld TT 17) (evVar 6)) avNil)))))))) avNil)) (evA (a1 dRepr) (avCons (evA mkLst (avCons (evVar 0) (avCons (evVar 1) (avCons (evVar 2) (avCons (evVar 3) (avCons (evVar 0) (avCons (evVar 1) (avCons (evVar 2) avNil)))))))) avNil)))) (svRet (evC (.bl false))) svNext)
def b__law_bounds_2 : SV := (svIf (bvE (ev2 dNeS (evA (a1 dRepr) (avCons (evA mkLst (avCons (ev1 (dFld TT 29) (evVar 6)) (avCons (ev1 (dFld TT 38) (evVar 6)) (avCons (ev1 (dFld TT 39) (evVar 6)) (avCons (ev1 (dFld TT 40) (evVar 6)) (avCons (ev1 (dFld TT 10) (evVar 6)) (avCons (ev1 (dFld TT 31) (evVar 6)) avNil))))))) avNil)) (evA (a1 dRepr) (avCons (evA mkLst (avCons (evVar 0) (avCons (evVar 1) (avCons (evVar 2) (avCons (evVar 3) (avCons (evVar 0) (avCons (evVar 1) avNil))))))) avNil)))) (svRet (evC (.bl false))) svNext)
def e__law_bounds_3 : EV := (evA mkLst (avCons (ev1 (dFld TT 29) (evVar 6)) (avCons (ev1 (dFld TT 30) (evVar 6)) (avCons (ev1 (dFld TT 10) (evVar 6)) (avCons (ev1 (dFld TT 31) (evVar 6)) avNil)))))
def e__law_bounds_4 : EV := (evA mkLst (avCons (ev1 (dFld TT 4) (evVar 6)) (avCons (ev1 (dFld TT 31) (evVar 6)) avNil)))
def e__law_bounds_5 : EV := (evA mkLst (avCons (ev1 (dFld TT 41) (evVar 6)) (avCons (ev1 (dFld TT 42) (evVar 6)) avNil)))
def s__law_bounds : SV := (svSeq (svSet 5 (evA mkLst (avCons (evTrim (nfT TT) (evNewP 8 g_Bounds___init__ 8 [0, 1, 2, 3, 4, 5, 6] 7 0 (avCons (evVar 0) (avCons (evVar 1) (avCons (evVar 2) (avCons (evVar 3) (avCons (evVar 0) (avCons (evVar 1) (avCons (evVar 2) avNil))))))) avNil)) (avCons (evTrim (nfT TT) (evNewP 8 g_Bounds___init__ 8 [6, 5, 4, 3, 2, 1, 0] 0 7 avNil (avCons (evVar 2) (avCons (evVar 1) (avCons (evVar 0) (avCons (evVar 3) (avCons (evVar 2) (avCons (evVar 1) (avCons (evVar 0) avNil))))))))) avNil))))
    (svSeq (svFor (ivSeq (evVar 5)) (gvName 6) b__law_bounds_1)
    (svSeq (svSet 5 (evA mkLst (avCons (evTrim (nfT TT) (evNewP 33 g_Bent___init__ 7 [0, 1, 2, 3, 4, 5] 6 0 (avCons (evVar 0) (avCons (evVar 1) (avCons (evVar 2) (avCons (evVar 3) (avCons (evVar 0) (avCons (evVar 1) avNil)))))) avNil)) (avCons (evTrim (nfT TT) (evNewP 33 g_Bent___init__ 7 [5, 4, 3, 2, 1, 0] 0 6 avNil (avCons (evVar 1) (avCons (evVar 0) (avCons (evVar 3) (avCons (evVar 2) (avCons (evVar 1) (avCons (evVar 0) avNil)))))))) avNil))))
    (svSeq (svFor (ivSeq (evVar 5)) (gvName 6) b__law_bounds_2)
    (svSeq (svSet 7 (evTrim (nfT TT) (evLc (ivSeq (evA mkLst (avCons (evTrim (nfT TT) (evNewP 20 g_Run___init__ 5 [0, 1, 2, 3] 4 0 (avCons (evVar 0) (avCons (evVar 1) (avCons (evVar 2) (avCons (evVar 3) avNil)))) avNil)) (avCons (evTrim (nfT TT) (evNewP 20 g_Run___init__ 5 [3, 2, 1, 0] 0 4 avNil (avCons (evVar 3) (avCons (evVar 2) (avCons (evVar 1) (avCons (evVar 0) avNil)))))) avNil)))) [6] (cgName 6) bvYes e__law_bounds_3)))
    (svSeq (svSet 7 (ev2 (dAdd false) (evVar 7) (evTrim (nfT TT) (evLc (ivSeq (evA mkLst (avCons (evTrim (nfT TT) (evNewP 21 g_RunTable___init__ 3 [0, 1] 2 0 (avCons (evVar 0) (avCons (evVar 1) avNil)) avNil)) (avCons (evTrim (nfT TT) (evNewP 21 g_RunTable___init__ 3 [1, 0] 0 2 avNil (avCons (evVar 1) (avCons (evVar 0) avNil)))) avNil)))) [6] (cgName 6) bvYes e__law_bounds_4))))
    (svSeq (svSet 7 (ev2 (dAdd false) (evVar 7) (evTrim (nfT TT) (evLc (ivSeq (evA mkLst (avCons (evTrim (nfT TT) (evNewP 34 g_Parts___init__ 3 [0, 1] 2 0 (avCons (evVar 0) (avCons (evVar 1) avNil)) avNil)) (avCons (evTrim (nfT TT) (evNewP 34 g_Parts___init__ 3 [1, 0] 0 2 avNil (avCons (evVar 1) (avCons (evVar 0) avNil)))) avNil)))) [6] (cgName 6) bvYes e__law_bounds_5))))
    (svRet (evTrim (nfT TT) (evCall g__law_all 2 [] (avCons (ev2 (dAdd false) (evVar 7) (evA mkLst (avCons (evA mkLst (avCons (ev1 (dFld TT 32) (evTrim (nfT TT) (evNewP 22 g_Apart___init__ 2 [0] 1 0 (avCons (evVar 0) avNil) avNil))) avNil)) avNil))) (avCons (evVar 4) avNil))))))))))))
def g__law_bounds : Fn3 := fnB 8 s__law_bounds
def e__law_plans_1 : EV := (evA mkLst (avCons (ev1 (dFld TT 27) (evVar 6)) (avCons (ev1 (dFld TT 28) (evVar 6)) (avCons (ev1 (dFld TT 20) (evVar 6)) avNil))))
def e__law_plans_2 : EV := (evA mkLst (avCons (ev1 (dFld TT 25) (evVar 6)) (avCons (ev1 (dFld TT 26) (evVar 6)) (avCons (ev1 (dFld TT 7) (evVar 6)) avNil))))
def e__law_plans_3 : EV := (evA mkLst (avCons (ev1 (dFld TT 2) (evVar 6)) (avCons (ev1 (dFld TT 26) (evVar 6)) avNil)))
def e__law_plans_4 : EV := (evA mkLst (avCons (ev1 (dFld TT 11) (evVar 6)) (avCons (ev1 (dFld TT 46) (evVar 6)) (avCons (ev1 (dFld TT 14) (evVar 6)) (avCons (ev1 (dFld TT 23) (evVar 6)) avNil)))))
def e__law_plans_5 : EV := (evA mkLst (avCons (ev1 (dFld TT 21) (evVar 6)) (avCons (ev1 (dFld TT 22) (evVar 6)) avNil)))
def e__law_plans_6 : EV := (evA mkLst (avCons (ev1 (dFld TT 21) (evVar 6)) (avCons (ev1 (dFld TT 23) (evVar 6)) (avCons (ev1 (dFld TT 8) (evVar 6)) avNil))))
def e__law_plans_7 : EV := (evA mkLst (avCons (ev1 (dFld TT 21) (evVar 6)) (avCons (ev1 (dFld TT 10) (evVar 6)) (avCons (ev1 (dFld TT 9) (evVar 6)) avNil))))
def e__law_plans_8 : EV := (evA mkLst (avCons (ev1 (dFld TT 21) (evVar 6)) (avCons (ev1 (dFld TT 8) (evVar 6)) (avCons (ev1 (dFld TT 24) (evVar 6)) avNil))))
def e__law_plans_9 : EV := (evA mkLst (avCons (ev1 (dFld TT 22) (evVar 6)) (avCons (ev1 (dFld TT 1) (evVar 6)) avNil)))
def e__law_plans_10 : EV := (evA mkLst (avCons (ev1 (dFld TT 35) (evVar 6)) (avCons (ev1 (dFld TT 22) (evVar 6)) (avCons (ev1 (dFld TT 1) (evVar 6)) avNil))))
def e__law_plans_11 : EV := (evA mkLst (avCons (ev1 (dFld TT 1) (evVar 6)) (avCons (ev1 (dFld TT 55) (evVar 6)) avNil)))
def e__law_plans_12 : EV := (evA mkLst (avCons (ev1 (dFld TT 1) (evVar 6)) (avCons (ev1 (dFld TT 55) (evVar 6)) avNil)))
def e__law_plans_13 : EV := (evA mkLst (avCons (ev1 (dFld TT 28) (evVar 6)) (avCons (ev1 (dFld TT 34) (evVar 6)) avNil)))
def e__law_plans_14 : EV := (evA mkLst (avCons (ev1 (dFld TT 55) (evVar 6)) (avCons (ev1 (dFld TT 1) (evVar 6)) avNil)))
def s__law_plans : SV := (svSeq (svSet 5 (evTrim (nfT TT) (evLc (ivSeq (evA mkLst (avCons (evTrim (nfT TT) (evNewP 17 g_FewestGroups___init__ 4 [0, 1, 2] 3 0 (avCons (evVar 0) (avCons (evVar 1) (avCons (evVar 2) avNil))) avNil)) (avCons (evTrim (nfT TT) (evNewP 17 g_FewestGroups___init__ 4 [2, 1, 0] 0 3 avNil (avCons (evVar 2) (avCons (evVar 1) (avCons (evVar 0) avNil))))) avNil)))) [6] (cgName 6) bvYes e__law_plans_1)))
    (svSeq (svSet 5 (ev2 (dAdd false) (evVar 5) (evTrim (nfT TT) (evLc (ivSeq (evA mkLst (avCons (evTrim (nfT TT) (evNewP 18 g_SideLot___init__ 4 [0, 1, 2] 3 0 (avCons (evVar 0) (avCons (evVar 1) (avCons (evVar 2) avNil))) avNil)) (avCons (evTrim (nfT TT) (evNewP 18 g_SideLot___init__ 4 [2, 1, 0] 0 3 avNil (avCons (evVar 2) (avCons (evVar 1) (avCons (evVar 0) avNil))))) avNil)))) [6] (cgName 6) bvYes e__law_plans_2))))
    (svSeq (svSet 5 (ev2 (dAdd false) (evVar 5) (evTrim (nfT TT) (evLc (ivSeq (evA mkLst (avCons (evTrim (nfT TT) (evNewP 19 g_WebCore___init__ 3 [0, 1] 2 0 (avCons (evVar 0) (avCons (evVar 1) avNil)) avNil)) (avCons (evTrim (nfT TT) (evNewP 19 g_WebCore___init__ 3 [1, 0] 0 2 avNil (avCons (evVar 1) (avCons (evVar 0) avNil)))) avNil)))) [6] (cgName 6) bvYes e__law_plans_3))))
    (svSeq (svSet 5 (ev2 (dAdd false) (evVar 5) (evTrim (nfT TT) (evLc (ivSeq (evA mkLst (avCons (evTrim (nfT TT) (evNewP 36 g_SideBounds___init__ 5 [0, 1, 2, 3] 4 0 (avCons (evVar 0) (avCons (evVar 1) (avCons (evVar 2) (avCons (evVar 3) avNil)))) avNil)) (avCons (evTrim (nfT TT) (evNewP 36 g_SideBounds___init__ 5 [3, 2, 1, 0] 0 4 avNil (avCons (evVar 3) (avCons (evVar 2) (avCons (evVar 1) (avCons (evVar 0) avNil)))))) avNil)))) [6] (cgName 6) bvYes e__law_plans_4))))
    (svSeq (svSet 5 (ev2 (dAdd false) (evVar 5) (evTrim (nfT TT) (evLc (ivSeq (evA mkLst (avCons (evTrim (nfT TT) (evNewP 11 g_Played___init__ 3 [0, 1] 2 0 (avCons (evVar 0) (avCons (evVar 1) avNil)) avNil)) (avCons (evTrim (nfT TT) (evNewP 11 g_Played___init__ 3 [1, 0] 0 2 avNil (avCons (evVar 1) (avCons (evVar 0) avNil)))) avNil)))) [6] (cgName 6) bvYes e__law_plans_5))))
    (svSeq (svSet 5 (ev2 (dAdd false) (evVar 5) (evTrim (nfT TT) (evLc (ivSeq (evA mkLst (avCons (evTrim (nfT TT) (evNewP 12 g_Come___init__ 4 [0, 1, 2] 3 0 (avCons (evVar 0) (avCons (evVar 1) (avCons (evVar 2) avNil))) avNil)) (avCons (evTrim (nfT TT) (evNewP 12 g_Come___init__ 4 [2, 1, 0] 0 3 avNil (avCons (evVar 2) (avCons (evVar 1) (avCons (evVar 0) avNil))))) avNil)))) [6] (cgName 6) bvYes e__law_plans_6))))
    (svSeq (svSet 5 (ev2 (dAdd false) (evVar 5) (evTrim (nfT TT) (evLc (ivSeq (evA mkLst (avCons (evTrim (nfT TT) (evNewP 13 g_Never___init__ 4 [0, 1, 2] 3 0 (avCons (evVar 0) (avCons (evVar 1) (avCons (evVar 2) avNil))) avNil)) (avCons (evTrim (nfT TT) (evNewP 13 g_Never___init__ 4 [2, 1, 0] 0 3 avNil (avCons (evVar 2) (avCons (evVar 1) (avCons (evVar 0) avNil))))) avNil)))) [6] (cgName 6) bvYes e__law_plans_7))))
    (svSeq (svSet 5 (ev2 (dAdd false) (evVar 5) (evTrim (nfT TT) (evLc (ivSeq (evA mkLst (avCons (evTrim (nfT TT) (evNewP 14 g_Untold___init__ 4 [0, 1, 2] 3 0 (avCons (evVar 0) (avCons (evVar 1) (avCons (evVar 2) avNil))) avNil)) (avCons (evTrim (nfT TT) (evNewP 14 g_Untold___init__ 4 [2, 1, 0] 0 3 avNil (avCons (evVar 2) (avCons (evVar 1) (avCons (evVar 0) avNil))))) avNil)))) [6] (cgName 6) bvYes e__law_plans_8))))
    (svSeq (svSet 5 (ev2 (dAdd false) (evVar 5) (evTrim (nfT TT) (evLc (ivSeq (evA mkLst (avCons (evTrim (nfT TT) (evNewP 25 g_Lost___init__ 3 [0, 1] 2 0 (avCons (evVar 0) (avCons (evVar 1) avNil)) avNil)) (avCons (evTrim (nfT TT) (evNewP 25 g_Lost___init__ 3 [1, 0] 0 2 avNil (avCons (evVar 1) (avCons (evVar 0) avNil)))) avNil)))) [6] (cgName 6) bvYes e__law_plans_9))))
    (svSeq (svSet 5 (ev2 (dAdd false) (evVar 5) (evTrim (nfT TT) (evLc (ivSeq (evA mkLst (avCons (evTrim (nfT TT) (evNewP 26 g_Mended___init__ 4 [0, 1, 2] 3 0 (avCons (evVar 0) (avCons (evVar 1) (avCons (evVar 2) avNil))) avNil)) (avCons (evTrim (nfT TT) (evNewP 26 g_Mended___init__ 4 [2, 1, 0] 0 3 avNil (avCons (evVar 2) (avCons (evVar 1) (avCons (evVar 0) avNil))))) avNil)))) [6] (cgName 6) bvYes e__law_plans_10))))
    (svSeq (svSet 5 (ev2 (dAdd false) (evVar 5) (evTrim (nfT TT) (evLc (ivSeq (evA mkLst (avCons (evTrim (nfT TT) (evNewP 41 g_Unseen___init__ 3 [0, 1] 2 0 (avCons (evVar 0) (avCons (evVar 1) avNil)) avNil)) (avCons (evTrim (nfT TT) (evNewP 41 g_Unseen___init__ 3 [1, 0] 0 2 avNil (avCons (evVar 1) (avCons (evVar 0) avNil)))) avNil)))) [6] (cgName 6) bvYes e__law_plans_11))))
    (svSeq (svSet 5 (ev2 (dAdd false) (evVar 5) (evTrim (nfT TT) (evLc (ivSeq (evA mkLst (avCons (evTrim (nfT TT) (evNewP 42 g_Filled___init__ 3 [0, 1] 2 0 (avCons (evVar 0) (avCons (evVar 1) avNil)) avNil)) (avCons (evTrim (nfT TT) (evNewP 42 g_Filled___init__ 3 [1, 0] 0 2 avNil (avCons (evVar 1) (avCons (evVar 0) avNil)))) avNil)))) [6] (cgName 6) bvYes e__law_plans_12))))
    (svSeq (svSet 5 (ev2 (dAdd false) (evVar 5) (evTrim (nfT TT) (evLc (ivSeq (evA mkLst (avCons (evTrim (nfT TT) (evNewP 43 g_Twice___init__ 3 [0, 1] 2 0 (avCons (evVar 0) (avCons (evVar 1) avNil)) avNil)) (avCons (evTrim (nfT TT) (evNewP 43 g_Twice___init__ 3 [1, 0] 0 2 avNil (avCons (evVar 1) (avCons (evVar 0) avNil)))) avNil)))) [6] (cgName 6) bvYes e__law_plans_13))))
    (svSeq (svSet 5 (ev2 (dAdd false) (evVar 5) (evTrim (nfT TT) (evLc (ivSeq (evA mkLst (avCons (evTrim (nfT TT) (evNewP 44 g_Explained___init__ 3 [0, 1] 2 0 (avCons (evVar 0) (avCons (evVar 1) avNil)) avNil)) (avCons (evTrim (nfT TT) (evNewP 44 g_Explained___init__ 3 [1, 0] 0 2 avNil (avCons (evVar 1) (avCons (evVar 0) avNil)))) avNil)))) [6] (cgName 6) bvYes e__law_plans_14))))
    (svRet (evTrim (nfT TT) (evCall g__law_all 2 [] (avCons (ev2 (dAdd false) (evVar 5) (evA mkLst (avCons (evA mkLst (avCons (ev1 (dFld TT 7) (evTrim (nfT TT) (evNewP 27 g_Worse___init__ 2 [0] 1 0 (avCons (evVar 0) avNil) avNil))) avNil)) avNil))) (avCons (evVar 4) avNil)))))))))))))))))))
def g__law_plans : Fn3 := fnB 7 s__law_plans
def b_law_1 : SV := (svSeq (svSet 5 (evTrim (nfT TT) (evCall g__law_take 2 [] (avCons (evVar 1) (avCons (evC (.int 4)) avNil)))))
    (svSeq (svSet 6 (ev2 (dAdd false) (ev2 (dMul false) (evC (.int 10)) (evTrim (nfT TT) (evCall g__law_take 2 [] (avCons (evVar 1) (avCons (ev2 dPow (evC (.int 10)) (evC (.int 6))) avNil))))) (evVar 3)))
    (svE (evM isL dAppend (evVar 2) (avCons (ev2 dIx (evA mkLst (avCons (evVar 6) (avCons (evA mkCell (avCons (evVar 6) avNil)) (avCons (evA mkTup (avCons (evVar 6) (avCons (ev1 dNeg (evC (.int 1))) avNil))) (avCons (evA mkCell (avCons (evA mkTup (avCons (evVar 6) (avCons (evC (.int 1)) avNil))) (avCons (evC .non) avNil))) avNil))))) (evVar 5)) avNil)))))
def s_law : SV := (svSeq (svSet 1 (evCall g__law_hand 1 [] (avCons (evVar 0) avNil)))
    (svSeq (svSet 2 (evA mkCell avNil))
    (svSeq (svFor (ivR1 (avCons (evC (.int 4)) avNil)) (gvName 3) b_law_1)
    (svSeq (svAsg (evVar 2) (gvUnp 4 (gvCons (gvName 7) (gvCons (gvName 8) (gvCons (gvName 9) (gvCons (gvName 10) gvNil))))))
    (svSeq (svSet 4 (evTrim (nfT TT) (evNewP 4 g_Recovered___init__ 3 [0, 1] 2 0 (avCons (evVar 7) (avCons (evVar 8) avNil)) avNil)))
    (svSeq (svIf (bvOr (bvNot (bvT (evTrim (nfT TT) (evCall g__law_answers 4 [] (avCons (evVar 7) (avCons (evVar 8) (avCons (evVar 9) (avCons (evVar 2) avNil)))))))) (bvNot (bvT (evTrim (nfT TT) (evCall g__law_groups 5 [] (avCons (evVar 7) (avCons (evVar 8) (avCons (evVar 9) (avCons (evVar 10) (avCons (evVar 2) avNil)))))))))) (svRet (evC (.bl false))) svNext)
    (svSeq (svIf (bvOr (bvNot (bvT (evTrim (nfT TT) (evCall g__law_bounds 5 [] (avCons (evVar 7) (avCons (evVar 8) (avCons (evVar 9) (avCons (evVar 10) (avCons (evVar 2) avNil))))))))) (bvNot (bvT (evTrim (nfT TT) (evCall g__law_plans 5 [] (avCons (evVar 7) (avCons (evVar 8) (avCons (evVar 9) (avCons (evVar 10) (avCons (evVar 2) avNil)))))))))) (svRet (evC (.bl false))) svNext)
    (svSeq (svIf (bvT (evA (a2 dIsi) (avCons (evVar 8) (avCons (evC (.ty .list)) avNil)))) (svE (evM isL dAppend (evVar 8) (avCons (evC (.int 7)) avNil))) svNext)
    (svRet (ev2 dEqS (evA (a1 dRepr) (avCons (evA mkLst (avCons (ev1 (dFld TT 1) (evVar 4)) (avCons (ev1 (dFld TT 8) (evVar 4)) avNil))) avNil)) (evA (a1 dRepr) (avCons (evA mkLst (avCons (evVar 7) (avCons (evVar 8) avNil))) avNil))))))))))))
def g_law : Fn3 := fnB 11 s_law
end K77

set_option Elab.async false
set_option linter.all false
set_option maxRecDepth 100000
set_option maxHeartbeats 4000000
namespace K77
open PySem PySem.Spec PyProof.Rows L2 L3
def top (i : Nat) : Stmt := PySem.Challenge.pw_thinslopes_k77_all_results_keep_their_th.main.body.getD i (.Pass ⟨0, 0, 0, 0⟩)
def clsB : Stmt → List Stmt
  | .ClassDef (body := b) .. => b
  | _ => []
def me (i j : Nat) : Stmt := (clsB (top i)).getD j (.Pass ⟨0, 0, 0, 0⟩)
def nm : List Str := [Str.ofString "row", Str.ofString "numbers", Str.ofString "strikes", Str.ofString "cells", Str.ofString "rows", Str.ofString "columns", Str.ofString "places", Str.ofString "most", Str.ofString "filling", Str.ofString "weights", Str.ofString "answer", Str.ofString "low", Str.ofString "low_budget", Str.ofString "blocks", Str.ofString "high", Str.ofString "high_budget", Str.ofString "cored", Str.ofString "cored_budget", Str.ofString "row_groups", Str.ofString "column_groups", Str.ofString "many", Str.ofString "path", Str.ofString "answers", Str.ofString "book", Str.ofString "hidden", Str.ofString "points", Str.ofString "ties", Str.ofString "groups", Str.ofString "first", Str.ofString "spots", Str.ofString "slopes", Str.ofString "products", Str.ofString "terms", Str.ofString "column", Str.ofString "second", Str.ofString "wrong", Str.ofString "count", Str.ofString "bottom", Str.ofString "along", Str.ofString "back", Str.ofString "bends", Str.ofString "base", Str.ofString "lots", Str.ofString "plus", Str.ofString "minus", Str.ofString "times", Str.ofString "bars", Str.ofString "steps", Str.ofString "turns", Str.ofString "missing", Str.ofString "letters", Str.ofString "read", Str.ofString "taken", Str.ofString "solved", Str.ofString "told", Str.ofString "strangers"]
section
variable {P : Program} {w : World} {C : Ct} {mg : Str → Option Value} {base : Heap}
theorem sc_Weights___init__ : FnScope ["self", "row"] ["self", "row"] (defScope (me 1 0)) := ⟨rfl, rfl, rfl, by decide +kernel, rfl, by decide +kernel, by decide +kernel⟩
theorem ok_Weights___init__ {f : Addr} {fd : FuncData} (F : FunD C.K "__init__" "Weights.__init__" (defArgs (me 1 0)) (defBody (me 1 0)) (defScope (me 1 0)) [] [] f fd) (ct : CtOk C TT nm) : FnG P w C.K mg base 1 f fd ["self", "row"] (spF C g_Weights___init__ 2) := by
  refine fn_ok F sc_Weights___init__ rfl rfl fun cdv A st s H E hr gd => ?_
  exact (ss_one (s_fld 0 ct rfl (l_var 0) (l_var 1)))
theorem sc_Hidden___init__ : FnScope ["self", "numbers"] ["self", "numbers"] (defScope (me 3 0)) := ⟨rfl, rfl, rfl, by decide +kernel, rfl, by decide +kernel, by decide +kernel⟩
theorem ok_Hidden___init__ {f : Addr} {fd : FuncData} (F : FunD C.K "__init__" "Hidden.__init__" (defArgs (me 3 0)) (defBody (me 3 0)) (defScope (me 3 0)) [] [] f fd) (ct : CtOk C TT nm) : FnG P w C.K mg base 1 f fd ["self", "numbers"] (spF C g_Hidden___init__ 2) := by
  refine fn_ok F sc_Hidden___init__ rfl rfl fun cdv A st s H E hr gd => ?_
  exact (ss_one (s_fld 1 ct rfl (l_var 0) (l_var 1)))
theorem sc_Core___init__ : FnScope ["self", "strikes", "cells"] ["self", "strikes", "cells"] (defScope (me 5 0)) := ⟨rfl, rfl, rfl, by decide +kernel, rfl, by decide +kernel, by decide +kernel⟩
theorem ok_Core___init__ {f : Addr} {fd : FuncData} (F : FunD C.K "__init__" "Core.__init__" (defArgs (me 5 0)) (defBody (me 5 0)) (defScope (me 5 0)) [] [] f fd) (ct : CtOk C TT nm) : FnG P w C.K mg base 1 f fd ["self", "strikes", "cells"] (spF C g_Core___init__ 3) := by
  refine fn_ok F sc_Core___init__ rfl rfl fun cdv A st s H E hr gd => ?_
  exact (ss_cons (s_fld 2 ct rfl (l_var 0) (l_var 1))
    (ss_one (s_fld 3 ct rfl (l_var 0) (l_var 2))))
theorem sc_Block___init__ : FnScope ["self", "rows", "columns", "places", "most"] ["self", "rows", "columns", "places", "most"] (defScope (me 7 0)) := ⟨rfl, rfl, rfl, by decide +kernel, rfl, by decide +kernel, by decide +kernel⟩
theorem ok_Block___init__ {f : Addr} {fd : FuncData} (F : FunD C.K "__init__" "Block.__init__" (defArgs (me 7 0)) (defBody (me 7 0)) (defScope (me 7 0)) [] [] f fd) (ct : CtOk C TT nm) : FnG P w C.K mg base 1 f fd ["self", "rows", "columns", "places", "most"] (spF C g_Block___init__ 5) := by
  refine fn_ok F sc_Block___init__ rfl rfl fun cdv A st s H E hr gd => ?_
  exact (ss_cons (s_fld 4 ct rfl (l_var 0) (l_var 1))
    (ss_cons (s_fld 5 ct rfl (l_var 0) (l_var 2))
    (ss_cons (s_fld 6 ct rfl (l_var 0) (l_var 3))
    (ss_one (s_fld 7 ct rfl (l_var 0) (l_var 4))))))
theorem sc_Recovered___init__ : FnScope ["self", "numbers", "filling"] ["self", "numbers", "filling"] (defScope (me 9 0)) := ⟨rfl, rfl, rfl, by decide +kernel, rfl, by decide +kernel, by decide +kernel⟩
theorem ok_Recovered___init__ {f : Addr} {fd : FuncData} (F : FunD C.K "__init__" "Recovered.__init__" (defArgs (me 9 0)) (defBody (me 9 0)) (defScope (me 9 0)) [] [] f fd) (ct : CtOk C TT nm) : FnG P w C.K mg base 1 f fd ["self", "numbers", "filling"] (spF C g_Recovered___init__ 3) := by
  refine fn_ok F sc_Recovered___init__ rfl rfl fun cdv A st s H E hr gd => ?_
  exact (ss_cons (s_fld 1 ct rfl (l_var 0) (l_var 1))
    (ss_one (s_fld 8 ct rfl (l_var 0) (l_var 2))))
theorem sc_Clash___init__ : FnScope ["self", "weights"] ["self", "weights"] (defScope (me 10 0)) := ⟨rfl, rfl, rfl, by decide +kernel, rfl, by decide +kernel, by decide +kernel⟩
theorem ok_Clash___init__ {f : Addr} {fd : FuncData} (F : FunD C.K "__init__" "Clash.__init__" (defArgs (me 10 0)) (defBody (me 10 0)) (defScope (me 10 0)) [] [] f fd) (ct : CtOk C TT nm) : FnG P w C.K mg base 1 f fd ["self", "weights"] (spF C g_Clash___init__ 2) := by
  refine fn_ok F sc_Clash___init__ rfl rfl fun cdv A st s H E hr gd => ?_
  exact (ss_one (s_fld 9 ct rfl (l_var 0) (l_var 1)))
theorem sc_Given___init__ : FnScope ["self", "rows"] ["self", "rows"] (defScope (me 11 0)) := ⟨rfl, rfl, rfl, by decide +kernel, rfl, by decide +kernel, by decide +kernel⟩
theorem ok_Given___init__ {f : Addr} {fd : FuncData} (F : FunD C.K "__init__" "Given.__init__" (defArgs (me 11 0)) (defBody (me 11 0)) (defScope (me 11 0)) [] [] f fd) (ct : CtOk C TT nm) : FnG P w C.K mg base 1 f fd ["self", "rows"] (spF C g_Given___init__ 2) := by
  refine fn_ok F sc_Given___init__ rfl rfl fun cdv A st s H E hr gd => ?_
  exact (ss_one (s_fld 4 ct rfl (l_var 0) (l_var 1)))
theorem sc_Parted___init__ : FnScope ["self", "answer", "numbers"] ["self", "answer", "numbers"] (defScope (me 12 0)) := ⟨rfl, rfl, rfl, by decide +kernel, rfl, by decide +kernel, by decide +kernel⟩
theorem ok_Parted___init__ {f : Addr} {fd : FuncData} (F : FunD C.K "__init__" "Parted.__init__" (defArgs (me 12 0)) (defBody (me 12 0)) (defScope (me 12 0)) [] [] f fd) (ct : CtOk C TT nm) : FnG P w C.K mg base 1 f fd ["self", "answer", "numbers"] (spF C g_Parted___init__ 3) := by
  refine fn_ok F sc_Parted___init__ rfl rfl fun cdv A st s H E hr gd => ?_
  exact (ss_cons (s_fld 10 ct rfl (l_var 0) (l_var 1))
    (ss_one (s_fld 1 ct rfl (l_var 0) (l_var 2))))
theorem sc_Bounds___init__ : FnScope ["self", "low", "low_budget", "blocks", "high", "high_budget", "cored", "cored_budget"] ["self", "low", "low_budget", "blocks", "high", "high_budget", "cored", "cored_budget"] (defScope (me 14 0)) := ⟨rfl, rfl, rfl, by decide +kernel, rfl, by decide +kernel, by decide +kernel⟩
theorem ok_Bounds___init__ {f : Addr} {fd : FuncData} (F : FunD C.K "__init__" "Bounds.__init__" (defArgs (me 14 0)) (defBody (me 14 0)) (defScope (me 14 0)) [] [] f fd) (ct : CtOk C TT nm) : FnG P w C.K mg base 1 f fd ["self", "low", "low_budget", "blocks", "high", "high_budget", "cored", "cored_budget"] (spF C g_Bounds___init__ 8) := by
  refine fn_ok F sc_Bounds___init__ rfl rfl fun cdv A st s H E hr gd => ?_
  exact (ss_cons (s_fld 11 ct rfl (l_var 0) (l_var 1))
    (ss_cons (s_fld 12 ct rfl (l_var 0) (l_var 2))
    (ss_cons (s_fld 13 ct rfl (l_var 0) (l_var 3))
    (ss_cons (s_fld 14 ct rfl (l_var 0) (l_var 4))
    (ss_cons (s_fld 15 ct rfl (l_var 0) (l_var 5))
    (ss_cons (s_fld 16 ct rfl (l_var 0) (l_var 6))
    (ss_one (s_fld 17 ct rfl (l_var 0) (l_var 7)))))))))
theorem sc_Chain___init__ : FnScope ["self", "cells"] ["self", "cells"] (defScope (me 16 0)) := ⟨rfl, rfl, rfl, by decide +kernel, rfl, by decide +kernel, by decide +kernel⟩
theorem ok_Chain___init__ {f : Addr} {fd : FuncData} (F : FunD C.K "__init__" "Chain.__init__" (defArgs (me 16 0)) (defBody (me 16 0)) (defScope (me 16 0)) [] [] f fd) (ct : CtOk C TT nm) : FnG P w C.K mg base 1 f fd ["self", "cells"] (spF C g_Chain___init__ 2) := by
  refine fn_ok F sc_Chain___init__ rfl rfl fun cdv A st s H E hr gd => ?_
  exact (ss_one (s_fld 3 ct rfl (l_var 0) (l_var 1)))
theorem sc_LeastBoth___init__ : FnScope ["self", "row_groups", "column_groups", "many"] ["self", "row_groups", "column_groups", "many"] (defScope (me 18 0)) := ⟨rfl, rfl, rfl, by decide +kernel, rfl, by decide +kernel, by decide +kernel⟩
theorem ok_LeastBoth___init__ {f : Addr} {fd : FuncData} (F : FunD C.K "__init__" "LeastBoth.__init__" (defArgs (me 18 0)) (defBody (me 18 0)) (defScope (me 18 0)) [] [] f fd) (ct : CtOk C TT nm) : FnG P w C.K mg base 1 f fd ["self", "row_groups", "column_groups", "many"] (spF C g_LeastBoth___init__ 4) := by
  refine fn_ok F sc_LeastBoth___init__ rfl rfl fun cdv A st s H E hr gd => ?_
  exact (ss_cons (s_fld 18 ct rfl (l_var 0) (l_var 1))
    (ss_cons (s_fld 19 ct rfl (l_var 0) (l_var 2))
    (ss_one (s_fld 20 ct rfl (l_var 0) (l_var 3)))))
theorem sc_Played___init__ : FnScope ["self", "path", "answers"] ["self", "path", "answers"] (defScope (me 20 0)) := ⟨rfl, rfl, rfl, by decide +kernel, rfl, by decide +kernel, by decide +kernel⟩
theorem ok_Played___init__ {f : Addr} {fd : FuncData} (F : FunD C.K "__init__" "Played.__init__" (defArgs (me 20 0)) (defBody (me 20 0)) (defScope (me 20 0)) [] [] f fd) (ct : CtOk C TT nm) : FnG P w C.K mg base 1 f fd ["self", "path", "answers"] (spF C g_Played___init__ 3) := by
  refine fn_ok F sc_Played___init__ rfl rfl fun cdv A st s H E hr gd => ?_
  exact (ss_cons (s_fld 21 ct rfl (l_var 0) (l_var 1))
    (ss_one (s_fld 22 ct rfl (l_var 0) (l_var 2))))
theorem sc_Come___init__ : FnScope ["self", "path", "book", "filling"] ["self", "path", "book", "filling"] (defScope (me 22 0)) := ⟨rfl, rfl, rfl, by decide +kernel, rfl, by decide +kernel, by decide +kernel⟩
theorem ok_Come___init__ {f : Addr} {fd : FuncData} (F : FunD C.K "__init__" "Come.__init__" (defArgs (me 22 0)) (defBody (me 22 0)) (defScope (me 22 0)) [] [] f fd) (ct : CtOk C TT nm) : FnG P w C.K mg base 1 f fd ["self", "path", "book", "filling"] (spF C g_Come___init__ 4) := by
  refine fn_ok F sc_Come___init__ rfl rfl fun cdv A st s H E hr gd => ?_
  exact (ss_cons (s_fld 21 ct rfl (l_var 0) (l_var 1))
    (ss_cons (s_fld 23 ct rfl (l_var 0) (l_var 2))
    (ss_one (s_fld 8 ct rfl (l_var 0) (l_var 3)))))
theorem sc_Never___init__ : FnScope ["self", "path", "answer", "weights"] ["self", "path", "answer", "weights"] (defScope (me 23 0)) := ⟨rfl, rfl, rfl, by decide +kernel, rfl, by decide +kernel, by decide +kernel⟩
theorem ok_Never___init__ {f : Addr} {fd : FuncData} (F : FunD C.K "__init__" "Never.__init__" (defArgs (me 23 0)) (defBody (me 23 0)) (defScope (me 23 0)) [] [] f fd) (ct : CtOk C TT nm) : FnG P w C.K mg base 1 f fd ["self", "path", "answer", "weights"] (spF C g_Never___init__ 4) := by
  refine fn_ok F sc_Never___init__ rfl rfl fun cdv A st s H E hr gd => ?_
  exact (ss_cons (s_fld 21 ct rfl (l_var 0) (l_var 1))
    (ss_cons (s_fld 10 ct rfl (l_var 0) (l_var 2))
    (ss_one (s_fld 9 ct rfl (l_var 0) (l_var 3)))))
theorem sc_Untold___init__ : FnScope ["self", "path", "filling", "hidden"] ["self", "path", "filling", "hidden"] (defScope (me 24 0)) := ⟨rfl, rfl, rfl, by decide +kernel, rfl, by decide +kernel, by decide +kernel⟩
theorem ok_Untold___init__ {f : Addr} {fd : FuncData} (F : FunD C.K "__init__" "Untold.__init__" (defArgs (me 24 0)) (defBody (me 24 0)) (defScope (me 24 0)) [] [] f fd) (ct : CtOk C TT nm) : FnG P w C.K mg base 1 f fd ["self", "path", "filling", "hidden"] (spF C g_Untold___init__ 4) := by
  refine fn_ok F sc_Untold___init__ rfl rfl fun cdv A st s H E hr gd => ?_
  exact (ss_cons (s_fld 21 ct rfl (l_var 0) (l_var 1))
    (ss_cons (s_fld 8 ct rfl (l_var 0) (l_var 2))
    (ss_one (s_fld 24 ct rfl (l_var 0) (l_var 3)))))
theorem sc_Piece___init__ : FnScope ["self", "points", "ties", "groups"] ["self", "points", "ties", "groups"] (defScope (me 26 0)) := ⟨rfl, rfl, rfl, by decide +kernel, rfl, by decide +kernel, by decide +kernel⟩
theorem ok_Piece___init__ {f : Addr} {fd : FuncData} (F : FunD C.K "__init__" "Piece.__init__" (defArgs (me 26 0)) (defBody (me 26 0)) (defScope (me 26 0)) [] [] f fd) (ct : CtOk C TT nm) : FnG P w C.K mg base 1 f fd ["self", "points", "ties", "groups"] (spF C g_Piece___init__ 4) := by
  refine fn_ok F sc_Piece___init__ rfl rfl fun cdv A st s H E hr gd => ?_
  exact (ss_cons (s_fld 25 ct rfl (l_var 0) (l_var 1))
    (ss_cons (s_fld 26 ct rfl (l_var 0) (l_var 2))
    (ss_one (s_fld 27 ct rfl (l_var 0) (l_var 3)))))
theorem sc_Walk___init__ : FnScope ["self", "points", "groups"] ["self", "points", "groups"] (defScope (me 28 0)) := ⟨rfl, rfl, rfl, by decide +kernel, rfl, by decide +kernel, by decide +kernel⟩
theorem ok_Walk___init__ {f : Addr} {fd : FuncData} (F : FunD C.K "__init__" "Walk.__init__" (defArgs (me 28 0)) (defBody (me 28 0)) (defScope (me 28 0)) [] [] f fd) (ct : CtOk C TT nm) : FnG P w C.K mg base 1 f fd ["self", "points", "groups"] (spF C g_Walk___init__ 3) := by
  refine fn_ok F sc_Walk___init__ rfl rfl fun cdv A st s H E hr gd => ?_
  exact (ss_cons (s_fld 25 ct rfl (l_var 0) (l_var 1))
    (ss_one (s_fld 27 ct rfl (l_var 0) (l_var 2))))
theorem sc_FewestGroups___init__ : FnScope ["self", "groups", "first", "many"] ["self", "groups", "first", "many"] (defScope (me 30 0)) := ⟨rfl, rfl, rfl, by decide +kernel, rfl, by decide +kernel, by decide +kernel⟩
theorem ok_FewestGroups___init__ {f : Addr} {fd : FuncData} (F : FunD C.K "__init__" "FewestGroups.__init__" (defArgs (me 30 0)) (defBody (me 30 0)) (defScope (me 30 0)) [] [] f fd) (ct : CtOk C TT nm) : FnG P w C.K mg base 1 f fd ["self", "groups", "first", "many"] (spF C g_FewestGroups___init__ 4) := by
  refine fn_ok F sc_FewestGroups___init__ rfl rfl fun cdv A st s H E hr gd => ?_
  exact (ss_cons (s_fld 27 ct rfl (l_var 0) (l_var 1))
    (ss_cons (s_fld 28 ct rfl (l_var 0) (l_var 2))
    (ss_one (s_fld 20 ct rfl (l_var 0) (l_var 3)))))
theorem sc_SideLot___init__ : FnScope ["self", "points", "ties", "most"] ["self", "points", "ties", "most"] (defScope (me 32 0)) := ⟨rfl, rfl, rfl, by decide +kernel, rfl, by decide +kernel, by decide +kernel⟩
theorem ok_SideLot___init__ {f : Addr} {fd : FuncData} (F : FunD C.K "__init__" "SideLot.__init__" (defArgs (me 32 0)) (defBody (me 32 0)) (defScope (me 32 0)) [] [] f fd) (ct : CtOk C TT nm) : FnG P w C.K mg base 1 f fd ["self", "points", "ties", "most"] (spF C g_SideLot___init__ 4) := by
  refine fn_ok F sc_SideLot___init__ rfl rfl fun cdv A st s H E hr gd => ?_
  exact (ss_cons (s_fld 25 ct rfl (l_var 0) (l_var 1))
    (ss_cons (s_fld 26 ct rfl (l_var 0) (l_var 2))
    (ss_one (s_fld 7 ct rfl (l_var 0) (l_var 3)))))
theorem sc_WebCore___init__ : FnScope ["self", "strikes", "ties"] ["self", "strikes", "ties"] (defScope (me 33 0)) := ⟨rfl, rfl, rfl, by decide +kernel, rfl, by decide +kernel, by decide +kernel⟩
theorem ok_WebCore___init__ {f : Addr} {fd : FuncData} (F : FunD C.K "__init__" "WebCore.__init__" (defArgs (me 33 0)) (defBody (me 33 0)) (defScope (me 33 0)) [] [] f fd) (ct : CtOk C TT nm) : FnG P w C.K mg base 1 f fd ["self", "strikes", "ties"] (spF C g_WebCore___init__ 3) := by
  refine fn_ok F sc_WebCore___init__ rfl rfl fun cdv A st s H E hr gd => ?_
  exact (ss_cons (s_fld 2 ct rfl (l_var 0) (l_var 1))
    (ss_one (s_fld 26 ct rfl (l_var 0) (l_var 2))))
theorem sc_Run___init__ : FnScope ["self", "spots", "slopes", "answer", "products"] ["self", "spots", "slopes", "answer", "products"] (defScope (me 35 0)) := ⟨rfl, rfl, rfl, by decide +kernel, rfl, by decide +kernel, by decide +kernel⟩
theorem ok_Run___init__ {f : Addr} {fd : FuncData} (F : FunD C.K "__init__" "Run.__init__" (defArgs (me 35 0)) (defBody (me 35 0)) (defScope (me 35 0)) [] [] f fd) (ct : CtOk C TT nm) : FnG P w C.K mg base 1 f fd ["self", "spots", "slopes", "answer", "products"] (spF C g_Run___init__ 5) := by
  refine fn_ok F sc_Run___init__ rfl rfl fun cdv A st s H E hr gd => ?_
  exact (ss_cons (s_fld 29 ct rfl (l_var 0) (l_var 1))
    (ss_cons (s_fld 30 ct rfl (l_var 0) (l_var 2))
    (ss_cons (s_fld 10 ct rfl (l_var 0) (l_var 3))
    (ss_one (s_fld 31 ct rfl (l_var 0) (l_var 4))))))
theorem sc_RunTable___init__ : FnScope ["self", "rows", "products"] ["self", "rows", "products"] (defScope (me 37 0)) := ⟨rfl, rfl, rfl, by decide +kernel, rfl, by decide +kernel, by decide +kernel⟩
theorem ok_RunTable___init__ {f : Addr} {fd : FuncData} (F : FunD C.K "__init__" "RunTable.__init__" (defArgs (me 37 0)) (defBody (me 37 0)) (defScope (me 37 0)) [] [] f fd) (ct : CtOk C TT nm) : FnG P w C.K mg base 1 f fd ["self", "rows", "products"] (spF C g_RunTable___init__ 3) := by
  refine fn_ok F sc_RunTable___init__ rfl rfl fun cdv A st s H E hr gd => ?_
  exact (ss_cons (s_fld 4 ct rfl (l_var 0) (l_var 1))
    (ss_one (s_fld 31 ct rfl (l_var 0) (l_var 2))))
theorem sc_Apart___init__ : FnScope ["self", "terms"] ["self", "terms"] (defScope (me 38 0)) := ⟨rfl, rfl, rfl, by decide +kernel, rfl, by decide +kernel, by decide +kernel⟩
theorem ok_Apart___init__ {f : Addr} {fd : FuncData} (F : FunD C.K "__init__" "Apart.__init__" (defArgs (me 38 0)) (defBody (me 38 0)) (defScope (me 38 0)) [] [] f fd) (ct : CtOk C TT nm) : FnG P w C.K mg base 1 f fd ["self", "terms"] (spF C g_Apart___init__ 2) := by
  refine fn_ok F sc_Apart___init__ rfl rfl fun cdv A st s H E hr gd => ?_
  exact (ss_one (s_fld 32 ct rfl (l_var 0) (l_var 1)))
theorem sc_Missing___init__ : FnScope ["self", "column"] ["self", "column"] (defScope (me 40 0)) := ⟨rfl, rfl, rfl, by decide +kernel, rfl, by decide +kernel, by decide +kernel⟩
theorem ok_Missing___init__ {f : Addr} {fd : FuncData} (F : FunD C.K "__init__" "Missing.__init__" (defArgs (me 40 0)) (defBody (me 40 0)) (defScope (me 40 0)) [] [] f fd) (ct : CtOk C TT nm) : FnG P w C.K mg base 1 f fd ["self", "column"] (spF C g_Missing___init__ 2) := by
  refine fn_ok F sc_Missing___init__ rfl rfl fun cdv A st s H E hr gd => ?_
  exact (ss_one (s_fld 33 ct rfl (l_var 0) (l_var 1)))
theorem sc_Meeting___init__ : FnScope ["self", "row", "first", "second"] ["self", "row", "first", "second"] (defScope (me 41 0)) := ⟨rfl, rfl, rfl, by decide +kernel, rfl, by decide +kernel, by decide +kernel⟩
theorem ok_Meeting___init__ {f : Addr} {fd : FuncData} (F : FunD C.K "__init__" "Meeting.__init__" (defArgs (me 41 0)) (defBody (me 41 0)) (defScope (me 41 0)) [] [] f fd) (ct : CtOk C TT nm) : FnG P w C.K mg base 1 f fd ["self", "row", "first", "second"] (spF C g_Meeting___init__ 4) := by
  refine fn_ok F sc_Meeting___init__ rfl rfl fun cdv A st s H E hr gd => ?_
  exact (ss_cons (s_fld 0 ct rfl (l_var 0) (l_var 1))
    (ss_cons (s_fld 28 ct rfl (l_var 0) (l_var 2))
    (ss_one (s_fld 34 ct rfl (l_var 0) (l_var 3)))))
theorem sc_Lost___init__ : FnScope ["self", "answers", "numbers"] ["self", "answers", "numbers"] (defScope (me 43 0)) := ⟨rfl, rfl, rfl, by decide +kernel, rfl, by decide +kernel, by decide +kernel⟩
theorem ok_Lost___init__ {f : Addr} {fd : FuncData} (F : FunD C.K "__init__" "Lost.__init__" (defArgs (me 43 0)) (defBody (me 43 0)) (defScope (me 43 0)) [] [] f fd) (ct : CtOk C TT nm) : FnG P w C.K mg base 1 f fd ["self", "answers", "numbers"] (spF C g_Lost___init__ 3) := by
  refine fn_ok F sc_Lost___init__ rfl rfl fun cdv A st s H E hr gd => ?_
  exact (ss_cons (s_fld 22 ct rfl (l_var 0) (l_var 1))
    (ss_one (s_fld 1 ct rfl (l_var 0) (l_var 2))))
theorem sc_Mended___init__ : FnScope ["self", "wrong", "answers", "numbers"] ["self", "wrong", "answers", "numbers"] (defScope (me 44 0)) := ⟨rfl, rfl, rfl, by decide +kernel, rfl, by decide +kernel, by decide +kernel⟩
theorem ok_Mended___init__ {f : Addr} {fd : FuncData} (F : FunD C.K "__init__" "Mended.__init__" (defArgs (me 44 0)) (defBody (me 44 0)) (defScope (me 44 0)) [] [] f fd) (ct : CtOk C TT nm) : FnG P w C.K mg base 1 f fd ["self", "wrong", "answers", "numbers"] (spF C g_Mended___init__ 4) := by
  refine fn_ok F sc_Mended___init__ rfl rfl fun cdv A st s H E hr gd => ?_
  exact (ss_cons (s_fld 35 ct rfl (l_var 0) (l_var 1))
    (ss_cons (s_fld 22 ct rfl (l_var 0) (l_var 2))
    (ss_one (s_fld 1 ct rfl (l_var 0) (l_var 3)))))
theorem sc_Worse___init__ : FnScope ["self", "most"] ["self", "most"] (defScope (me 45 0)) := ⟨rfl, rfl, rfl, by decide +kernel, rfl, by decide +kernel, by decide +kernel⟩
theorem ok_Worse___init__ {f : Addr} {fd : FuncData} (F : FunD C.K "__init__" "Worse.__init__" (defArgs (me 45 0)) (defBody (me 45 0)) (defScope (me 45 0)) [] [] f fd) (ct : CtOk C TT nm) : FnG P w C.K mg base 1 f fd ["self", "most"] (spF C g_Worse___init__ 2) := by
  refine fn_ok F sc_Worse___init__ rfl rfl fun cdv A st s H E hr gd => ?_
  exact (ss_one (s_fld 7 ct rfl (l_var 0) (l_var 1)))
theorem sc_Fewest___init__ : FnScope ["self", "count", "row"] ["self", "count", "row"] (defScope (me 47 0)) := ⟨rfl, rfl, rfl, by decide +kernel, rfl, by decide +kernel, by decide +kernel⟩
theorem ok_Fewest___init__ {f : Addr} {fd : FuncData} (F : FunD C.K "__init__" "Fewest.__init__" (defArgs (me 47 0)) (defBody (me 47 0)) (defScope (me 47 0)) [] [] f fd) (ct : CtOk C TT nm) : FnG P w C.K mg base 1 f fd ["self", "count", "row"] (spF C g_Fewest___init__ 3) := by
  refine fn_ok F sc_Fewest___init__ rfl rfl fun cdv A st s H E hr gd => ?_
  exact (ss_cons (s_fld 36 ct rfl (l_var 0) (l_var 1))
    (ss_one (s_fld 0 ct rfl (l_var 0) (l_var 2))))
theorem sc_Dependent___init__ : FnScope ["self", "row", "numbers"] ["self", "row", "numbers"] (defScope (me 48 0)) := ⟨rfl, rfl, rfl, by decide +kernel, rfl, by decide +kernel, by decide +kernel⟩
theorem ok_Dependent___init__ {f : Addr} {fd : FuncData} (F : FunD C.K "__init__" "Dependent.__init__" (defArgs (me 48 0)) (defBody (me 48 0)) (defScope (me 48 0)) [] [] f fd) (ct : CtOk C TT nm) : FnG P w C.K mg base 1 f fd ["self", "row", "numbers"] (spF C g_Dependent___init__ 3) := by
  refine fn_ok F sc_Dependent___init__ rfl rfl fun cdv A st s H E hr gd => ?_
  exact (ss_cons (s_fld 0 ct rfl (l_var 0) (l_var 1))
    (ss_one (s_fld 1 ct rfl (l_var 0) (l_var 2))))
theorem sc_Whole___init__ : FnScope ["self", "bottom", "weights", "numbers"] ["self", "bottom", "weights", "numbers"] (defScope (me 50 0)) := ⟨rfl, rfl, rfl, by decide +kernel, rfl, by decide +kernel, by decide +kernel⟩
theorem ok_Whole___init__ {f : Addr} {fd : FuncData} (F : FunD C.K "__init__" "Whole.__init__" (defArgs (me 50 0)) (defBody (me 50 0)) (defScope (me 50 0)) [] [] f fd) (ct : CtOk C TT nm) : FnG P w C.K mg base 1 f fd ["self", "bottom", "weights", "numbers"] (spF C g_Whole___init__ 4) := by
  refine fn_ok F sc_Whole___init__ rfl rfl fun cdv A st s H E hr gd => ?_
  exact (ss_cons (s_fld 37 ct rfl (l_var 0) (l_var 1))
    (ss_cons (s_fld 9 ct rfl (l_var 0) (l_var 2))
    (ss_one (s_fld 1 ct rfl (l_var 0) (l_var 3)))))
theorem sc_RestWeights___init__ : FnScope ["self", "row"] ["self", "row"] (defScope (me 52 0)) := ⟨rfl, rfl, rfl, by decide +kernel, rfl, by decide +kernel, by decide +kernel⟩
theorem ok_RestWeights___init__ {f : Addr} {fd : FuncData} (F : FunD C.K "__init__" "RestWeights.__init__" (defArgs (me 52 0)) (defBody (me 52 0)) (defScope (me 52 0)) [] [] f fd) (ct : CtOk C TT nm) : FnG P w C.K mg base 1 f fd ["self", "row"] (spF C g_RestWeights___init__ 2) := by
  refine fn_ok F sc_RestWeights___init__ rfl rfl fun cdv A st s H E hr gd => ?_
  exact (ss_one (s_fld 0 ct rfl (l_var 0) (l_var 1)))
theorem sc_RestHidden___init__ : FnScope ["self", "numbers"] ["self", "numbers"] (defScope (me 53 0)) := ⟨rfl, rfl, rfl, by decide +kernel, rfl, by decide +kernel, by decide +kernel⟩
theorem ok_RestHidden___init__ {f : Addr} {fd : FuncData} (F : FunD C.K "__init__" "RestHidden.__init__" (defArgs (me 53 0)) (defBody (me 53 0)) (defScope (me 53 0)) [] [] f fd) (ct : CtOk C TT nm) : FnG P w C.K mg base 1 f fd ["self", "numbers"] (spF C g_RestHidden___init__ 2) := by
  refine fn_ok F sc_RestHidden___init__ rfl rfl fun cdv A st s H E hr gd => ?_
  exact (ss_one (s_fld 1 ct rfl (l_var 0) (l_var 1)))
theorem sc_Bent___init__ : FnScope ["self", "spots", "along", "back", "bends", "answer", "products"] ["self", "spots", "along", "back", "bends", "answer", "products"] (defScope (me 55 0)) := ⟨rfl, rfl, rfl, by decide +kernel, rfl, by decide +kernel, by decide +kernel⟩
theorem ok_Bent___init__ {f : Addr} {fd : FuncData} (F : FunD C.K "__init__" "Bent.__init__" (defArgs (me 55 0)) (defBody (me 55 0)) (defScope (me 55 0)) [] [] f fd) (ct : CtOk C TT nm) : FnG P w C.K mg base 1 f fd ["self", "spots", "along", "back", "bends", "answer", "products"] (spF C g_Bent___init__ 7) := by
  refine fn_ok F sc_Bent___init__ rfl rfl fun cdv A st s H E hr gd => ?_
  exact (ss_cons (s_fld 29 ct rfl (l_var 0) (l_var 1))
    (ss_cons (s_fld 38 ct rfl (l_var 0) (l_var 2))
    (ss_cons (s_fld 39 ct rfl (l_var 0) (l_var 3))
    (ss_cons (s_fld 40 ct rfl (l_var 0) (l_var 4))
    (ss_cons (s_fld 10 ct rfl (l_var 0) (l_var 5))
    (ss_one (s_fld 31 ct rfl (l_var 0) (l_var 6))))))))
theorem sc_Parts___init__ : FnScope ["self", "base", "lots"] ["self", "base", "lots"] (defScope (me 56 0)) := ⟨rfl, rfl, rfl, by decide +kernel, rfl, by decide +kernel, by decide +kernel⟩
theorem ok_Parts___init__ {f : Addr} {fd : FuncData} (F : FunD C.K "__init__" "Parts.__init__" (defArgs (me 56 0)) (defBody (me 56 0)) (defScope (me 56 0)) [] [] f fd) (ct : CtOk C TT nm) : FnG P w C.K mg base 1 f fd ["self", "base", "lots"] (spF C g_Parts___init__ 3) := by
  refine fn_ok F sc_Parts___init__ rfl rfl fun cdv A st s H E hr gd => ?_
  exact (ss_cons (s_fld 41 ct rfl (l_var 0) (l_var 1))
    (ss_one (s_fld 42 ct rfl (l_var 0) (l_var 2))))
theorem sc_Balance___init__ : FnScope ["self", "plus", "minus", "times", "groups"] ["self", "plus", "minus", "times", "groups"] (defScope (me 58 0)) := ⟨rfl, rfl, rfl, by decide +kernel, rfl, by decide +kernel, by decide +kernel⟩
theorem ok_Balance___init__ {f : Addr} {fd : FuncData} (F : FunD C.K "__init__" "Balance.__init__" (defArgs (me 58 0)) (defBody (me 58 0)) (defScope (me 58 0)) [] [] f fd) (ct : CtOk C TT nm) : FnG P w C.K mg base 1 f fd ["self", "plus", "minus", "times", "groups"] (spF C g_Balance___init__ 5) := by
  refine fn_ok F sc_Balance___init__ rfl rfl fun cdv A st s H E hr gd => ?_
  exact (ss_cons (s_fld 43 ct rfl (l_var 0) (l_var 1))
    (ss_cons (s_fld 44 ct rfl (l_var 0) (l_var 2))
    (ss_cons (s_fld 45 ct rfl (l_var 0) (l_var 3))
    (ss_one (s_fld 27 ct rfl (l_var 0) (l_var 4))))))
theorem sc_SideBounds___init__ : FnScope ["self", "low", "bars", "high", "book"] ["self", "low", "bars", "high", "book"] (defScope (me 60 0)) := ⟨rfl, rfl, rfl, by decide +kernel, rfl, by decide +kernel, by decide +kernel⟩
theorem ok_SideBounds___init__ {f : Addr} {fd : FuncData} (F : FunD C.K "__init__" "SideBounds.__init__" (defArgs (me 60 0)) (defBody (me 60 0)) (defScope (me 60 0)) [] [] f fd) (ct : CtOk C TT nm) : FnG P w C.K mg base 1 f fd ["self", "low", "bars", "high", "book"] (spF C g_SideBounds___init__ 5) := by
  refine fn_ok F sc_SideBounds___init__ rfl rfl fun cdv A st s H E hr gd => ?_
  exact (ss_cons (s_fld 11 ct rfl (l_var 0) (l_var 1))
    (ss_cons (s_fld 46 ct rfl (l_var 0) (l_var 2))
    (ss_cons (s_fld 14 ct rfl (l_var 0) (l_var 3))
    (ss_one (s_fld 23 ct rfl (l_var 0) (l_var 4))))))
theorem sc_Taken___init__ : FnScope ["self", "steps", "turns", "missing"] ["self", "steps", "turns", "missing"] (defScope (me 62 0)) := ⟨rfl, rfl, rfl, by decide +kernel, rfl, by decide +kernel, by decide +kernel⟩
theorem ok_Taken___init__ {f : Addr} {fd : FuncData} (F : FunD C.K "__init__" "Taken.__init__" (defArgs (me 62 0)) (defBody (me 62 0)) (defScope (me 62 0)) [] [] f fd) (ct : CtOk C TT nm) : FnG P w C.K mg base 1 f fd ["self", "steps", "turns", "missing"] (spF C g_Taken___init__ 4) := by
  refine fn_ok F sc_Taken___init__ rfl rfl fun cdv A st s H E hr gd => ?_
  exact (ss_cons (s_fld 47 ct rfl (l_var 0) (l_var 1))
    (ss_cons (s_fld 48 ct rfl (l_var 0) (l_var 2))
    (ss_one (s_fld 49 ct rfl (l_var 0) (l_var 3)))))
theorem sc_Solved___init__ : FnScope ["self", "steps", "letters"] ["self", "steps", "letters"] (defScope (me 64 0)) := ⟨rfl, rfl, rfl, by decide +kernel, rfl, by decide +kernel, by decide +kernel⟩
theorem ok_Solved___init__ {f : Addr} {fd : FuncData} (F : FunD C.K "__init__" "Solved.__init__" (defArgs (me 64 0)) (defBody (me 64 0)) (defScope (me 64 0)) [] [] f fd) (ct : CtOk C TT nm) : FnG P w C.K mg base 1 f fd ["self", "steps", "letters"] (spF C g_Solved___init__ 3) := by
  refine fn_ok F sc_Solved___init__ rfl rfl fun cdv A st s H E hr gd => ?_
  exact (ss_cons (s_fld 47 ct rfl (l_var 0) (l_var 1))
    (ss_one (s_fld 50 ct rfl (l_var 0) (l_var 2))))
theorem sc_Ladder___init__ : FnScope ["self", "read", "taken", "solved", "told"] ["self", "read", "taken", "solved", "told"] (defScope (me 65 0)) := ⟨rfl, rfl, rfl, by decide +kernel, rfl, by decide +kernel, by decide +kernel⟩
theorem ok_Ladder___init__ {f : Addr} {fd : FuncData} (F : FunD C.K "__init__" "Ladder.__init__" (defArgs (me 65 0)) (defBody (me 65 0)) (defScope (me 65 0)) [] [] f fd) (ct : CtOk C TT nm) : FnG P w C.K mg base 1 f fd ["self", "read", "taken", "solved", "told"] (spF C g_Ladder___init__ 5) := by
  refine fn_ok F sc_Ladder___init__ rfl rfl fun cdv A st s H E hr gd => ?_
  exact (ss_cons (s_fld 51 ct rfl (l_var 0) (l_var 1))
    (ss_cons (s_fld 52 ct rfl (l_var 0) (l_var 2))
    (ss_cons (s_fld 53 ct rfl (l_var 0) (l_var 3))
    (ss_one (s_fld 54 ct rfl (l_var 0) (l_var 4))))))
theorem sc_Ring___init__ : FnScope ["self", "points"] ["self", "points"] (defScope (me 66 0)) := ⟨rfl, rfl, rfl, by decide +kernel, rfl, by decide +kernel, by decide +kernel⟩
theorem ok_Ring___init__ {f : Addr} {fd : FuncData} (F : FunD C.K "__init__" "Ring.__init__" (defArgs (me 66 0)) (defBody (me 66 0)) (defScope (me 66 0)) [] [] f fd) (ct : CtOk C TT nm) : FnG P w C.K mg base 1 f fd ["self", "points"] (spF C g_Ring___init__ 2) := by
  refine fn_ok F sc_Ring___init__ rfl rfl fun cdv A st s H E hr gd => ?_
  exact (ss_one (s_fld 25 ct rfl (l_var 0) (l_var 1)))
theorem sc_Unseen___init__ : FnScope ["self", "numbers", "strangers"] ["self", "numbers", "strangers"] (defScope (me 68 0)) := ⟨rfl, rfl, rfl, by decide +kernel, rfl, by decide +kernel, by decide +kernel⟩
theorem ok_Unseen___init__ {f : Addr} {fd : FuncData} (F : FunD C.K "__init__" "Unseen.__init__" (defArgs (me 68 0)) (defBody (me 68 0)) (defScope (me 68 0)) [] [] f fd) (ct : CtOk C TT nm) : FnG P w C.K mg base 1 f fd ["self", "numbers", "strangers"] (spF C g_Unseen___init__ 3) := by
  refine fn_ok F sc_Unseen___init__ rfl rfl fun cdv A st s H E hr gd => ?_
  exact (ss_cons (s_fld 1 ct rfl (l_var 0) (l_var 1))
    (ss_one (s_fld 55 ct rfl (l_var 0) (l_var 2))))
theorem sc_Filled___init__ : FnScope ["self", "numbers", "strangers"] ["self", "numbers", "strangers"] (defScope (me 69 0)) := ⟨rfl, rfl, rfl, by decide +kernel, rfl, by decide +kernel, by decide +kernel⟩
theorem ok_Filled___init__ {f : Addr} {fd : FuncData} (F : FunD C.K "__init__" "Filled.__init__" (defArgs (me 69 0)) (defBody (me 69 0)) (defScope (me 69 0)) [] [] f fd) (ct : CtOk C TT nm) : FnG P w C.K mg base 1 f fd ["self", "numbers", "strangers"] (spF C g_Filled___init__ 3) := by
  refine fn_ok F sc_Filled___init__ rfl rfl fun cdv A st s H E hr gd => ?_
  exact (ss_cons (s_fld 1 ct rfl (l_var 0) (l_var 1))
    (ss_one (s_fld 55 ct rfl (l_var 0) (l_var 2))))
theorem sc_Twice___init__ : FnScope ["self", "first", "second"] ["self", "first", "second"] (defScope (me 70 0)) := ⟨rfl, rfl, rfl, by decide +kernel, rfl, by decide +kernel, by decide +kernel⟩
theorem ok_Twice___init__ {f : Addr} {fd : FuncData} (F : FunD C.K "__init__" "Twice.__init__" (defArgs (me 70 0)) (defBody (me 70 0)) (defScope (me 70 0)) [] [] f fd) (ct : CtOk C TT nm) : FnG P w C.K mg base 1 f fd ["self", "first", "second"] (spF C g_Twice___init__ 3) := by
  refine fn_ok F sc_Twice___init__ rfl rfl fun cdv A st s H E hr gd => ?_
  exact (ss_cons (s_fld 28 ct rfl (l_var 0) (l_var 1))
    (ss_one (s_fld 34 ct rfl (l_var 0) (l_var 2))))
theorem sc_Explained___init__ : FnScope ["self", "strangers", "numbers"] ["self", "strangers", "numbers"] (defScope (me 71 0)) := ⟨rfl, rfl, rfl, by decide +kernel, rfl, by decide +kernel, by decide +kernel⟩
theorem ok_Explained___init__ {f : Addr} {fd : FuncData} (F : FunD C.K "__init__" "Explained.__init__" (defArgs (me 71 0)) (defBody (me 71 0)) (defScope (me 71 0)) [] [] f fd) (ct : CtOk C TT nm) : FnG P w C.K mg base 1 f fd ["self", "strangers", "numbers"] (spF C g_Explained___init__ 3) := by
  refine fn_ok F sc_Explained___init__ rfl rfl fun cdv A st s H E hr gd => ?_
  exact (ss_cons (s_fld 55 ct rfl (l_var 0) (l_var 1))
    (ss_one (s_fld 1 ct rfl (l_var 0) (l_var 2))))
theorem sc__law_hand : FnScope ["_law_script", "_law_total", "_law_cells", "_law_cell"] ["_law_script"] (defScope (top 73)) := ⟨rfl, rfl, rfl, by decide +kernel, rfl, by decide +kernel, by decide +kernel⟩
theorem ok__law_hand {f : Addr} {fd : FuncData} (F : FunD C.K "_law_hand" "_law_hand" (defArgs (top 73)) (defBody (top 73)) (defScope (top 73)) [] [] f fd) (B_len : mg "len" = none) (B_int : mg "int" = none) (B_abs : mg "abs" = none) : FnG P w C.K mg base 1 f fd ["_law_script"] (spF C g__law_hand 1) := by
  refine fn_ok F sc__law_hand rfl rfl fun cdv A st s H E hr gd => ?_
  exact (ss_cons (s_set 1 sc__law_hand.nd (l_add false (l_blt (call_len) (lk_len rfl) rfl B_len boot_len (la_cons (l_var 0) la_nil)) l_int))
    (ss_cons (s_set 2 sc__law_hand.nd (l_cell la_nil))
    (ss_cons (s_for (passes_of rfl) rfl (i_seq (l_var 0)) (g_name 3 sc__law_hand.nd) (ss_cons (s_set 1 sc__law_hand.nd (l_mod (l_bltT call_int1 (lk_int) rfl B_int boot_int (la_cons (l_add false (l_mul false (l_var 1) l_int) (l_bltT call_int1 (lk_int) rfl B_int boot_int (la_cons (l_var 3) la_nil))) la_nil)) l_int))
    (ss_one (s_expr (l_bm (ty_list rfl) lk_append PySem.F.plainAttrs_list PySem.F.slot_list_append PySem.F.type_list_append mt_append (l_var 2) (la_cons (l_blt (call_abs) (lk_abs) rfl B_abs boot_abs (la_cons (l_bltT call_int1 (lk_int) rfl B_int boot_int (la_cons (l_var 3) la_nil)) la_nil)) la_nil))))))
    (ss_one (s_ret (l_cell (la_cons (l_var 2) (la_cons l_int (la_cons l_int (la_cons (l_var 1) la_nil))))))))))
theorem sc__law_mixed : FnScope ["_law_number", "_law_turn", "_law_once", "_law_twice"] ["_law_number", "_law_turn"] (defScope (top 74)) := ⟨rfl, rfl, rfl, by decide +kernel, rfl, by decide +kernel, by decide +kernel⟩
theorem ok__law_mixed {f : Addr} {fd : FuncData} (F : FunD C.K "_law_mixed" "_law_mixed" (defArgs (top 74)) (defBody (top 74)) (defScope (top 74)) [] [] f fd) (B_int : mg "int" = none) : FnG P w C.K mg base 1 f fd ["_law_number", "_law_turn"] (spF C g__law_mixed 2) := by
  refine fn_ok F sc__law_mixed rfl rfl fun cdv A st s H E hr gd => ?_
  exact (ss_cons (s_set 2 sc__law_mixed.nd (l_mod (l_bltT call_int1 (lk_int) rfl B_int boot_int (la_cons (l_add false (l_add false (l_mul false (l_var 0) l_int) (l_mul false (l_var 1) l_int)) l_int) la_nil)) l_int))
    (ss_cons (s_set 3 sc__law_mixed.nd (l_mod (l_bltT call_int1 (lk_int) rfl B_int boot_int (la_cons (l_add false (l_add false (l_mul false (l_var 2) (l_var 2)) (l_mul false (l_var 1) l_int)) (l_div (l_var 2) l_int)) la_nil)) l_int))
    (ss_one (s_ret (l_div (l_bltT call_int1 (lk_int) rfl B_int boot_int (la_cons (l_mod (l_bltT call_int1 (lk_int) rfl B_int boot_int (la_cons (l_add false (l_mul false (l_var 3) l_int) (l_div (l_var 2) l_int)) la_nil)) l_int) la_nil)) l_int)))))
theorem sc__law_take : FnScope ["_law_hand_here", "_law_many", "_law_cell", "_law_rest"] ["_law_hand_here", "_law_many"] (defScope (top 75)) := ⟨rfl, rfl, rfl, by decide +kernel, rfl, by decide +kernel, by decide +kernel⟩
theorem ok__law_take {f : Addr} {fd : FuncData} (F : FunD C.K "_law_take" "_law_take" (defArgs (top 75)) (defBody (top 75)) (defScope (top 75)) [] [] f fd) (B_len : mg "len" = none) (B_int : mg "int" = none) (H__law_mixed : Has P w C mg base 1 "_law_mixed" g__law_mixed 2 []) (ct : CtOk C TT nm) : FnG P w C.K mg base 2 f fd ["_law_hand_here", "_law_many"] (spF C g__law_take 2) := by
  refine fn_ok F sc__law_take rfl rfl fun cdv A st s H E hr gd => ?_
  exact (ss_cons (s_if (PW.pt (lw_and (lt_cmp (op_eqS hr.units) (lk_eqS rfl) (l_ix (l_var 0) l_int) l_int (nomark _)) (lw_and1 (lt_cmp op_lt lk_lt (l_ix (l_var 0) l_int) (l_blt (call_len) (lk_len rfl) rfl B_len boot_len (la_cons (l_ix (l_var 0) l_int) la_nil)) (nomark _))))) (ss_cons (s_set 2 sc__law_take.nd (l_ix (l_ix (l_var 0) l_int) (l_ix (l_var 0) l_int)))
    (ss_cons (s_asg (l_add false (l_ix (l_var 0) l_int) l_int) (g_sub (l_var 0) l_int set_list lk_stL))
    (ss_cons (s_if (lt_cmp op_lt lk_lt (l_var 2) (l_pow l_int l_int) (nomark _)) (ss_one (s_ret (l_mod (l_bltT call_int1 (lk_int) rfl B_int boot_int (la_cons (l_trim ct.nf (l_callH H__law_mixed hr gd (fun σ => passAt (takes_of rfl rfl rfl rfl) σ) rfl (la_cons (l_mod (l_bltT call_int1 (lk_int) rfl B_int boot_int (la_cons (l_var 2) la_nil)) l_int) (la_cons (l_ix (l_var 0) l_int) la_nil)))) la_nil)) (l_var 1)))) ss_nil)
    (ss_one (s_asg (l_var 2) (g_sub (l_var 0) l_int set_list lk_stL)))))) ss_nil)
    (ss_cons (s_if (lt_cmp op_gt lk_gt (l_ix (l_var 0) l_int) l_int (nomark _)) (ss_cons (s_set 3 sc__law_take.nd (l_ix (l_var 0) l_int))
    (ss_cons (s_asg (l_div (l_bltT call_int1 (lk_int) rfl B_int boot_int (la_cons (l_var 3) la_nil)) (l_var 1)) (g_sub (l_var 0) l_int set_list lk_stL))
    (ss_one (s_ret (l_mod (l_bltT call_int1 (lk_int) rfl B_int boot_int (la_cons (l_var 3) la_nil)) (l_var 1)))))) ss_nil)
    (ss_cons (s_asg (l_mod (l_bltT call_int1 (lk_int) rfl B_int boot_int (la_cons (l_add false (l_ix (l_var 0) l_int) l_int) la_nil)) l_int) (g_sub (l_var 0) l_int set_list lk_stL))
    (ss_one (s_ret (l_mod (l_bltT call_int1 (lk_int) rfl B_int boot_int (la_cons (l_trim ct.nf (l_callH H__law_mixed hr gd (fun σ => passAt (takes_of rfl rfl rfl rfl) σ) rfl (la_cons (l_ix (l_var 0) l_int) (la_cons (l_ix (l_var 0) l_int) la_nil)))) la_nil)) (l_var 1)))))))
theorem sc__law_all : FnScope ["_law_rows", "_law_things", "_law_row"] ["_law_rows", "_law_things"] (defScope (top 76)) := ⟨rfl, rfl, rfl, by decide +kernel, rfl, by decide +kernel, by decide +kernel⟩
theorem ok__law_all {f : Addr} {fd : FuncData} (F : FunD C.K "_law_all" "_law_all" (defArgs (top 76)) (defBody (top 76)) (defScope (top 76)) [] [] f fd) (B_repr : mg "repr" = none) (B_len : mg "len" = none) (ct : CtOk C TT nm) : FnG P w C.K mg base 1 f fd ["_law_rows", "_law_things"] (spF C g__law_all 2) := by
  refine fn_ok F sc__law_all rfl rfl fun cdv A st s H E hr gd => ?_
  exact (ss_one (s_ret (l_cmp (op_eqS hr.units) (lk_eqS rfl) (l_lc (own := [("_law_row", 2)]) (trim_imp ct.nf) rfl sc__law_all.nd  (i_seq (l_var 0)) (blkOk_by (N := ["_law_rows", "_law_things", "_law_row"]) (sc := defScope (top 76)) (by decide +kernel)) (lcg_name (by decide)) (fun _ _ _ _ _ => (pg_name (i := 2) sc__law_all.nd rfl (by first | exact Or.inl rfl | exact Or.inr rfl))) (fun _ _ _ _ _ => (lts_one (lt_cmp (op_neS hr.units) (lk_neS rfl) (l_blt (cr_repr gd hr.units) (lk_repr rfl) rfl B_repr boot_repr (la_cons (l_var 2) la_nil)) (l_blt (cr_repr gd hr.units) (lk_repr rfl) rfl B_repr boot_repr (la_cons (l_sl false (l_var 1) lo_none (lo_some (l_blt (call_len) (lk_len rfl) rfl B_len boot_len (la_cons (l_var 2) la_nil)))) la_nil)) (nomark _)))) (fun _ _ _ _ _ => (l_var 2))) (l_lst la_nil) (nomark _))))
theorem sc__law_answers : FnScope ["_law_a", "_law_b", "_law_c", "_law_things", "_law_rows", "_law_e"] ["_law_a", "_law_b", "_law_c", "_law_things"] (defScope (top 77)) := ⟨rfl, rfl, rfl, by decide +kernel, rfl, by decide +kernel, by decide +kernel⟩
theorem ok__law_answers {f : Addr} {fd : FuncData} (F : FunD C.K "_law_answers" "_law_answers" (defArgs (top 77)) (defBody (top 77)) (defScope (top 77)) [] [] f fd) (H_Weights_1 : HasC P w C mg base 1 "Weights" 0 g_Weights___init__ 2 1 [] [0]) (ct : CtOk C TT nm) (H_Hidden_1 : HasC P w C mg base 1 "Hidden" 1 g_Hidden___init__ 2 1 [] [0]) (H_Clash_1 : HasC P w C mg base 1 "Clash" 5 g_Clash___init__ 2 1 [] [0]) (H_Given_1 : HasC P w C mg base 1 "Given" 6 g_Given___init__ 2 1 [] [0]) (H_RestWeights_1 : HasC P w C mg base 1 "RestWeights" 31 g_RestWeights___init__ 2 1 [] [0]) (H_RestHidden_1 : HasC P w C mg base 1 "RestHidden" 32 g_RestHidden___init__ 2 1 [] [0]) (H_Missing_1 : HasC P w C mg base 1 "Missing" 23 g_Missing___init__ 2 1 [] [0]) (H_Recovered_2 : HasC P w C mg base 1 "Recovered" 4 g_Recovered___init__ 3 2 [] [0, 1]) (H_Recovered_0_filling_numbers : HasC P w C mg base 1 "Recovered" 4 g_Recovered___init__ 3 0 ["filling", "numbers"] [1, 0]) (H_Parted_2 : HasC P w C mg base 1 "Parted" 7 g_Parted___init__ 3 2 [] [0, 1]) (H_Parted_0_numbers_answer : HasC P w C mg base 1 "Parted" 7 g_Parted___init__ 3 0 ["numbers", "answer"] [1, 0]) (H_Whole_3 : HasC P w C mg base 1 "Whole" 30 g_Whole___init__ 4 3 [] [0, 1, 2]) (H_Whole_0_numbers_weights_bottom : HasC P w C mg base 1 "Whole" 30 g_Whole___init__ 4 0 ["numbers", "weights", "bottom"] [2, 1, 0]) (H_Meeting_3 : HasC P w C mg base 1 "Meeting" 24 g_Meeting___init__ 4 3 [] [0, 1, 2]) (H_Meeting_0_second_first_row : HasC P w C mg base 1 "Meeting" 24 g_Meeting___init__ 4 0 ["second", "first", "row"] [2, 1, 0]) (H_Fewest_2 : HasC P w C mg base 1 "Fewest" 28 g_Fewest___init__ 3 2 [] [0, 1]) (H_Fewest_0_row_count : HasC P w C mg base 1 "Fewest" 28 g_Fewest___init__ 3 0 ["row", "count"] [1, 0]) (H_Dependent_2 : HasC P w C mg base 1 "Dependent" 29 g_Dependent___init__ 3 2 [] [0, 1]) (H_Dependent_0_numbers_row : HasC P w C mg base 1 "Dependent" 29 g_Dependent___init__ 3 0 ["numbers", "row"] [1, 0]) (H__law_all : Has P w C mg base 1 "_law_all" g__law_all 2 []) : FnG P w C.K mg base 3 f fd ["_law_a", "_law_b", "_law_c", "_law_things"] (spF C g__law_answers 4) := by
  refine fn_ok F sc__law_answers rfl rfl fun cdv A st s H E hr gd => ?_
  exact (ss_cons (s_set 4 sc__law_answers.nd (l_lst (la_cons (l_lst (la_cons (l_fld 0 ct rfl (l_trim ct.nf (l_newH H_Weights_1 hr gd (fun σ => passAt (takes_of rfl rfl rfl rfl) σ) rfl (la_cons (l_var 0) la_nil)))) la_nil)) (la_cons (l_lst (la_cons (l_fld 1 ct rfl (l_trim ct.nf (l_newH H_Hidden_1 hr gd (fun σ => passAt (takes_of rfl rfl rfl rfl) σ) rfl (la_cons (l_var 0) la_nil)))) la_nil)) (la_cons (l_lst (la_cons (l_fld 9 ct rfl (l_trim ct.nf (l_newH H_Clash_1 hr gd (fun σ => passAt (takes_of rfl rfl rfl rfl) σ) rfl (la_cons (l_var 0) la_nil)))) la_nil)) (la_cons (l_lst (la_cons (l_fld 4 ct rfl (l_trim ct.nf (l_newH H_Given_1 hr gd (fun σ => passAt (takes_of rfl rfl rfl rfl) σ) rfl (la_cons (l_var 0) la_nil)))) la_nil)) (la_cons (l_lst (la_cons (l_fld 0 ct rfl (l_trim ct.nf (l_newH H_RestWeights_1 hr gd (fun σ => passAt (takes_of rfl rfl rfl rfl) σ) rfl (la_cons (l_var 0) la_nil)))) la_nil)) la_nil)))))))
    (ss_cons (s_set 4 sc__law_answers.nd (l_add false (l_var 4) (l_lst (la_cons (l_lst (la_cons (l_fld 1 ct rfl (l_trim ct.nf (l_newH H_RestHidden_1 hr gd (fun σ => passAt (takes_of rfl rfl rfl rfl) σ) rfl (la_cons (l_var 0) la_nil)))) la_nil)) (la_cons (l_lst (la_cons (l_fld 33 ct rfl (l_trim ct.nf (l_newH H_Missing_1 hr gd (fun σ => passAt (takes_of rfl rfl rfl rfl) σ) rfl (la_cons (l_var 0) la_nil)))) la_nil)) la_nil)))))
    (ss_cons (s_set 4 sc__law_answers.nd (l_add false (l_var 4) (l_lc (own := [("_law_e", 5)]) (trim_imp ct.nf) rfl sc__law_answers.nd  (i_seq (l_lst (la_cons (l_trim ct.nf (l_newH H_Recovered_2 hr gd (fun σ => passAt (takes_of rfl rfl rfl rfl) σ) rfl (la_cons (l_var 0) (la_cons (l_var 1) la_nil)))) (la_cons (l_trim ct.nf (l_newH0 2 H_Recovered_0_filling_numbers hr gd (fun σ => passAt (takes_of rfl rfl rfl rfl) σ) rfl (lk_cons (l_var 1) (lk_cons (l_var 0) lk_nil)))) la_nil)))) (blkOk_by (N := ["_law_a", "_law_b", "_law_c", "_law_things", "_law_rows", "_law_e"]) (sc := defScope (top 77)) (by decide +kernel)) (lcg_name (by decide)) (fun _ _ _ _ _ => (pg_name (i := 5) sc__law_answers.nd rfl (by first | exact Or.inl rfl | exact Or.inr rfl))) (fun _ _ _ _ _ => lts_nil) (fun _ _ _ _ _ => (l_lst (la_cons (l_fld 1 ct rfl (l_var 5)) (la_cons (l_fld 8 ct rfl (l_var 5)) la_nil)))))))
    (ss_cons (s_set 4 sc__law_answers.nd (l_add false (l_var 4) (l_lc (own := [("_law_e", 5)]) (trim_imp ct.nf) rfl sc__law_answers.nd  (i_seq (l_lst (la_cons (l_trim ct.nf (l_newH H_Parted_2 hr gd (fun σ => passAt (takes_of rfl rfl rfl rfl) σ) rfl (la_cons (l_var 0) (la_cons (l_var 1) la_nil)))) (la_cons (l_trim ct.nf (l_newH0 2 H_Parted_0_numbers_answer hr gd (fun σ => passAt (takes_of rfl rfl rfl rfl) σ) rfl (lk_cons (l_var 1) (lk_cons (l_var 0) lk_nil)))) la_nil)))) (blkOk_by (N := ["_law_a", "_law_b", "_law_c", "_law_things", "_law_rows", "_law_e"]) (sc := defScope (top 77)) (by decide +kernel)) (lcg_name (by decide)) (fun _ _ _ _ _ => (pg_name (i := 5) sc__law_answers.nd rfl (by first | exact Or.inl rfl | exact Or.inr rfl))) (fun _ _ _ _ _ => lts_nil) (fun _ _ _ _ _ => (l_lst (la_cons (l_fld 10 ct rfl (l_var 5)) (la_cons (l_fld 1 ct rfl (l_var 5)) la_nil)))))))
    (ss_cons (s_set 4 sc__law_answers.nd (l_add false (l_var 4) (l_lc (own := [("_law_e", 5)]) (trim_imp ct.nf) rfl sc__law_answers.nd  (i_seq (l_lst (la_cons (l_trim ct.nf (l_newH H_Whole_3 hr gd (fun σ => passAt (takes_of rfl rfl rfl rfl) σ) rfl (la_cons (l_var 0) (la_cons (l_var 1) (la_cons (l_var 2) la_nil))))) (la_cons (l_trim ct.nf (l_newH0 3 H_Whole_0_numbers_weights_bottom hr gd (fun σ => passAt (takes_of rfl rfl rfl rfl) σ) rfl (lk_cons (l_var 2) (lk_cons (l_var 1) (lk_cons (l_var 0) lk_nil))))) la_nil)))) (blkOk_by (N := ["_law_a", "_law_b", "_law_c", "_law_things", "_law_rows", "_law_e"]) (sc := defScope (top 77)) (by decide +kernel)) (lcg_name (by decide)) (fun _ _ _ _ _ => (pg_name (i := 5) sc__law_answers.nd rfl (by first | exact Or.inl rfl | exact Or.inr rfl))) (fun _ _ _ _ _ => lts_nil) (fun _ _ _ _ _ => (l_lst (la_cons (l_fld 37 ct rfl (l_var 5)) (la_cons (l_fld 9 ct rfl (l_var 5)) (la_cons (l_fld 1 ct rfl (l_var 5)) la_nil))))))))
    (ss_cons (s_set 4 sc__law_answers.nd (l_add false (l_var 4) (l_lc (own := [("_law_e", 5)]) (trim_imp ct.nf) rfl sc__law_answers.nd  (i_seq (l_lst (la_cons (l_trim ct.nf (l_newH H_Meeting_3 hr gd (fun σ => passAt (takes_of rfl rfl rfl rfl) σ) rfl (la_cons (l_var 0) (la_cons (l_var 1) (la_cons (l_var 2) la_nil))))) (la_cons (l_trim ct.nf (l_newH0 3 H_Meeting_0_second_first_row hr gd (fun σ => passAt (takes_of rfl rfl rfl rfl) σ) rfl (lk_cons (l_var 2) (lk_cons (l_var 1) (lk_cons (l_var 0) lk_nil))))) la_nil)))) (blkOk_by (N := ["_law_a", "_law_b", "_law_c", "_law_things", "_law_rows", "_law_e"]) (sc := defScope (top 77)) (by decide +kernel)) (lcg_name (by decide)) (fun _ _ _ _ _ => (pg_name (i := 5) sc__law_answers.nd rfl (by first | exact Or.inl rfl | exact Or.inr rfl))) (fun _ _ _ _ _ => lts_nil) (fun _ _ _ _ _ => (l_lst (la_cons (l_fld 0 ct rfl (l_var 5)) (la_cons (l_fld 28 ct rfl (l_var 5)) (la_cons (l_fld 34 ct rfl (l_var 5)) la_nil))))))))
    (ss_cons (s_set 4 sc__law_answers.nd (l_add false (l_var 4) (l_lc (own := [("_law_e", 5)]) (trim_imp ct.nf) rfl sc__law_answers.nd  (i_seq (l_lst (la_cons (l_trim ct.nf (l_newH H_Fewest_2 hr gd (fun σ => passAt (takes_of rfl rfl rfl rfl) σ) rfl (la_cons (l_var 0) (la_cons (l_var 1) la_nil)))) (la_cons (l_trim ct.nf (l_newH0 2 H_Fewest_0_row_count hr gd (fun σ => passAt (takes_of rfl rfl rfl rfl) σ) rfl (lk_cons (l_var 1) (lk_cons (l_var 0) lk_nil)))) la_nil)))) (blkOk_by (N := ["_law_a", "_law_b", "_law_c", "_law_things", "_law_rows", "_law_e"]) (sc := defScope (top 77)) (by decide +kernel)) (lcg_name (by decide)) (fun _ _ _ _ _ => (pg_name (i := 5) sc__law_answers.nd rfl (by first | exact Or.inl rfl | exact Or.inr rfl))) (fun _ _ _ _ _ => lts_nil) (fun _ _ _ _ _ => (l_lst (la_cons (l_fld 36 ct rfl (l_var 5)) (la_cons (l_fld 0 ct rfl (l_var 5)) la_nil)))))))
    (ss_cons (s_set 4 sc__law_answers.nd (l_add false (l_var 4) (l_lc (own := [("_law_e", 5)]) (trim_imp ct.nf) rfl sc__law_answers.nd  (i_seq (l_lst (la_cons (l_trim ct.nf (l_newH H_Dependent_2 hr gd (fun σ => passAt (takes_of rfl rfl rfl rfl) σ) rfl (la_cons (l_var 0) (la_cons (l_var 1) la_nil)))) (la_cons (l_trim ct.nf (l_newH0 2 H_Dependent_0_numbers_row hr gd (fun σ => passAt (takes_of rfl rfl rfl rfl) σ) rfl (lk_cons (l_var 1) (lk_cons (l_var 0) lk_nil)))) la_nil)))) (blkOk_by (N := ["_law_a", "_law_b", "_law_c", "_law_things", "_law_rows", "_law_e"]) (sc := defScope (top 77)) (by decide +kernel)) (lcg_name (by decide)) (fun _ _ _ _ _ => (pg_name (i := 5) sc__law_answers.nd rfl (by first | exact Or.inl rfl | exact Or.inr rfl))) (fun _ _ _ _ _ => lts_nil) (fun _ _ _ _ _ => (l_lst (la_cons (l_fld 0 ct rfl (l_var 5)) (la_cons (l_fld 1 ct rfl (l_var 5)) la_nil)))))))
    (ss_one (s_ret (l_trim ct.nf (l_callH H__law_all hr gd (fun σ => passAt (takes_of rfl rfl rfl rfl) σ) rfl (la_cons (l_var 4) (la_cons (l_var 3) la_nil))))))))))))))
theorem sc__law_groups : FnScope ["_law_a", "_law_b", "_law_c", "_law_d", "_law_things", "_law_rows", "_law_e"] ["_law_a", "_law_b", "_law_c", "_law_d", "_law_things"] (defScope (top 78)) := ⟨rfl, rfl, rfl, by decide +kernel, rfl, by decide +kernel, by decide +kernel⟩
theorem ok__law_groups {f : Addr} {fd : FuncData} (F : FunD C.K "_law_groups" "_law_groups" (defArgs (top 78)) (defBody (top 78)) (defScope (top 78)) [] [] f fd) (H_Ring_1 : HasC P w C mg base 1 "Ring" 40 g_Ring___init__ 2 1 [] [0]) (ct : CtOk C TT nm) (H_Chain_1 : HasC P w C mg base 1 "Chain" 9 g_Chain___init__ 2 1 [] [0]) (H_Piece_3 : HasC P w C mg base 1 "Piece" 15 g_Piece___init__ 4 3 [] [0, 1, 2]) (H_Piece_0_groups_ties_points : HasC P w C mg base 1 "Piece" 15 g_Piece___init__ 4 0 ["groups", "ties", "points"] [2, 1, 0]) (H_Walk_2 : HasC P w C mg base 1 "Walk" 16 g_Walk___init__ 3 2 [] [0, 1]) (H_Walk_0_groups_points : HasC P w C mg base 1 "Walk" 16 g_Walk___init__ 3 0 ["groups", "points"] [1, 0]) (H_Balance_4 : HasC P w C mg base 1 "Balance" 35 g_Balance___init__ 5 4 [] [0, 1, 2, 3]) (H_Balance_0_groups_times_minus_plus : HasC P w C mg base 1 "Balance" 35 g_Balance___init__ 5 0 ["groups", "times", "minus", "plus"] [3, 2, 1, 0]) (H_Taken_3 : HasC P w C mg base 1 "Taken" 37 g_Taken___init__ 4 3 [] [0, 1, 2]) (H_Taken_0_missing_turns_steps : HasC P w C mg base 1 "Taken" 37 g_Taken___init__ 4 0 ["missing", "turns", "steps"] [2, 1, 0]) (H_Solved_2 : HasC P w C mg base 1 "Solved" 38 g_Solved___init__ 3 2 [] [0, 1]) (H_Solved_0_letters_steps : HasC P w C mg base 1 "Solved" 38 g_Solved___init__ 3 0 ["letters", "steps"] [1, 0]) (H_Ladder_4 : HasC P w C mg base 1 "Ladder" 39 g_Ladder___init__ 5 4 [] [0, 1, 2, 3]) (H_Ladder_0_told_solved_taken_read : HasC P w C mg base 1 "Ladder" 39 g_Ladder___init__ 5 0 ["told", "solved", "taken", "read"] [3, 2, 1, 0]) (H_Core_2 : HasC P w C mg base 1 "Core" 2 g_Core___init__ 3 2 [] [0, 1]) (H_Core_0_cells_strikes : HasC P w C mg base 1 "Core" 2 g_Core___init__ 3 0 ["cells", "strikes"] [1, 0]) (H_Block_4 : HasC P w C mg base 1 "Block" 3 g_Block___init__ 5 4 [] [0, 1, 2, 3]) (H_Block_0_most_places_columns_rows : HasC P w C mg base 1 "Block" 3 g_Block___init__ 5 0 ["most", "places", "columns", "rows"] [3, 2, 1, 0]) (H_LeastBoth_3 : HasC P w C mg base 1 "LeastBoth" 10 g_LeastBoth___init__ 4 3 [] [0, 1, 2]) (H__law_all : Has P w C mg base 1 "_law_all" g__law_all 2 []) : FnG P w C.K mg base 3 f fd ["_law_a", "_law_b", "_law_c", "_law_d", "_law_things"] (spF C g__law_groups 5) := by
  refine fn_ok F sc__law_groups rfl rfl fun cdv A st s H E hr gd => ?_
  exact (ss_cons (s_set 5 sc__law_groups.nd (l_lst (la_cons (l_lst (la_cons (l_fld 25 ct rfl (l_trim ct.nf (l_newH H_Ring_1 hr gd (fun σ => passAt (takes_of rfl rfl rfl rfl) σ) rfl (la_cons (l_var 0) la_nil)))) la_nil)) (la_cons (l_lst (la_cons (l_fld 3 ct rfl (l_trim ct.nf (l_newH H_Chain_1 hr gd (fun σ => passAt (takes_of rfl rfl rfl rfl) σ) rfl (la_cons (l_var 0) la_nil)))) la_nil)) la_nil))))
    (ss_cons (s_set 5 sc__law_groups.nd (l_add false (l_var 5) (l_lc (own := [("_law_e", 6)]) (trim_imp ct.nf) rfl sc__law_groups.nd  (i_seq (l_lst (la_cons (l_trim ct.nf (l_newH H_Piece_3 hr gd (fun σ => passAt (takes_of rfl rfl rfl rfl) σ) rfl (la_cons (l_var 0) (la_cons (l_var 1) (la_cons (l_var 2) la_nil))))) (la_cons (l_trim ct.nf (l_newH0 3 H_Piece_0_groups_ties_points hr gd (fun σ => passAt (takes_of rfl rfl rfl rfl) σ) rfl (lk_cons (l_var 2) (lk_cons (l_var 1) (lk_cons (l_var 0) lk_nil))))) la_nil)))) (blkOk_by (N := ["_law_a", "_law_b", "_law_c", "_law_d", "_law_things", "_law_rows", "_law_e"]) (sc := defScope (top 78)) (by decide +kernel)) (lcg_name (by decide)) (fun _ _ _ _ _ => (pg_name (i := 6) sc__law_groups.nd rfl (by first | exact Or.inl rfl | exact Or.inr rfl))) (fun _ _ _ _ _ => lts_nil) (fun _ _ _ _ _ => (l_lst (la_cons (l_fld 25 ct rfl (l_var 6)) (la_cons (l_fld 26 ct rfl (l_var 6)) (la_cons (l_fld 27 ct rfl (l_var 6)) la_nil))))))))
    (ss_cons (s_set 5 sc__law_groups.nd (l_add true (l_var 5) (l_lc (own := [("_law_e", 6)]) (trim_imp ct.nf) rfl sc__law_groups.nd  (i_seq (l_lst (la_cons (l_trim ct.nf (l_newH H_Walk_2 hr gd (fun σ => passAt (takes_of rfl rfl rfl rfl) σ) rfl (la_cons (l_var 0) (la_cons (l_var 1) la_nil)))) (la_cons (l_trim ct.nf (l_newH0 2 H_Walk_0_groups_points hr gd (fun σ => passAt (takes_of rfl rfl rfl rfl) σ) rfl (lk_cons (l_var 1) (lk_cons (l_var 0) lk_nil)))) la_nil)))) (blkOk_by (N := ["_law_a", "_law_b", "_law_c", "_law_d", "_law_things", "_law_rows", "_law_e"]) (sc := defScope (top 78)) (by decide +kernel)) (lcg_name (by decide)) (fun _ _ _ _ _ => (pg_name (i := 6) sc__law_groups.nd rfl (by first | exact Or.inl rfl | exact Or.inr rfl))) (fun _ _ _ _ _ => lts_nil) (fun _ _ _ _ _ => (l_lst (la_cons (l_fld 25 ct rfl (l_var 6)) (la_cons (l_fld 27 ct rfl (l_var 6)) la_nil)))))))
    (ss_cons (s_set 6 sc__law_groups.nd (l_trim ct.nf (l_newH H_Balance_4 hr gd (fun σ => passAt (takes_of rfl rfl rfl rfl) σ) rfl (la_cons (l_var 0) (la_cons (l_var 1) (la_cons (l_var 2) (la_cons (l_var 3) la_nil)))))))
    (ss_cons (s_expr (l_bm (ty_list rfl) lk_append PySem.F.plainAttrs_list PySem.F.slot_list_append PySem.F.type_list_append mt_append (l_var 5) (la_cons (l_lst (la_cons (l_fld 43 ct rfl (l_var 6)) (la_cons (l_fld 44 ct rfl (l_var 6)) (la_cons (l_fld 45 ct rfl (l_var 6)) (la_cons (l_fld 27 ct rfl (l_var 6)) la_nil))))) la_nil)))
    (ss_cons (s_set 6 sc__law_groups.nd (l_trim ct.nf (l_newH0 4 H_Balance_0_groups_times_minus_plus hr gd (fun σ => passAt (takes_of rfl rfl rfl rfl) σ) rfl (lk_cons (l_var 3) (lk_cons (l_var 2) (lk_cons (l_var 1) (lk_cons (l_var 0) lk_nil)))))))
    (ss_cons (s_expr (l_bm (ty_list rfl) lk_append PySem.F.plainAttrs_list PySem.F.slot_list_append PySem.F.type_list_append mt_append (l_var 5) (la_cons (l_lst (la_cons (l_fld 43 ct rfl (l_var 6)) (la_cons (l_fld 44 ct rfl (l_var 6)) (la_cons (l_fld 45 ct rfl (l_var 6)) (la_cons (l_fld 27 ct rfl (l_var 6)) la_nil))))) la_nil)))
    (ss_cons (s_set 5 sc__law_groups.nd (l_add false (l_var 5) (l_lc (own := [("_law_e", 6)]) (trim_imp ct.nf) rfl sc__law_groups.nd  (i_seq (l_lst (la_cons (l_trim ct.nf (l_newH H_Taken_3 hr gd (fun σ => passAt (takes_of rfl rfl rfl rfl) σ) rfl (la_cons (l_var 0) (la_cons (l_var 1) (la_cons (l_var 2) la_nil))))) (la_cons (l_trim ct.nf (l_newH0 3 H_Taken_0_missing_turns_steps hr gd (fun σ => passAt (takes_of rfl rfl rfl rfl) σ) rfl (lk_cons (l_var 2) (lk_cons (l_var 1) (lk_cons (l_var 0) lk_nil))))) la_nil)))) (blkOk_by (N := ["_law_a", "_law_b", "_law_c", "_law_d", "_law_things", "_law_rows", "_law_e"]) (sc := defScope (top 78)) (by decide +kernel)) (lcg_name (by decide)) (fun _ _ _ _ _ => (pg_name (i := 6) sc__law_groups.nd rfl (by first | exact Or.inl rfl | exact Or.inr rfl))) (fun _ _ _ _ _ => lts_nil) (fun _ _ _ _ _ => (l_lst (la_cons (l_fld 47 ct rfl (l_var 6)) (la_cons (l_fld 48 ct rfl (l_var 6)) (la_cons (l_fld 49 ct rfl (l_var 6)) la_nil))))))))
    (ss_cons (s_set 5 sc__law_groups.nd (l_add false (l_var 5) (l_lc (own := [("_law_e", 6)]) (trim_imp ct.nf) rfl sc__law_groups.nd  (i_seq (l_lst (la_cons (l_trim ct.nf (l_newH H_Solved_2 hr gd (fun σ => passAt (takes_of rfl rfl rfl rfl) σ) rfl (la_cons (l_var 0) (la_cons (l_var 1) la_nil)))) (la_cons (l_trim ct.nf (l_newH0 2 H_Solved_0_letters_steps hr gd (fun σ => passAt (takes_of rfl rfl rfl rfl) σ) rfl (lk_cons (l_var 1) (lk_cons (l_var 0) lk_nil)))) la_nil)))) (blkOk_by (N := ["_law_a", "_law_b", "_law_c", "_law_d", "_law_things", "_law_rows", "_law_e"]) (sc := defScope (top 78)) (by decide +kernel)) (lcg_name (by decide)) (fun _ _ _ _ _ => (pg_name (i := 6) sc__law_groups.nd rfl (by first | exact Or.inl rfl | exact Or.inr rfl))) (fun _ _ _ _ _ => lts_nil) (fun _ _ _ _ _ => (l_lst (la_cons (l_fld 47 ct rfl (l_var 6)) (la_cons (l_fld 50 ct rfl (l_var 6)) la_nil)))))))
    (ss_cons (s_set 5 sc__law_groups.nd (l_add false (l_var 5) (l_lc (own := [("_law_e", 6)]) (trim_imp ct.nf) rfl sc__law_groups.nd  (i_seq (l_lst (la_cons (l_trim ct.nf (l_newH H_Ladder_4 hr gd (fun σ => passAt (takes_of rfl rfl rfl rfl) σ) rfl (la_cons (l_var 0) (la_cons (l_var 1) (la_cons (l_var 2) (la_cons (l_var 3) la_nil)))))) (la_cons (l_trim ct.nf (l_newH0 4 H_Ladder_0_told_solved_taken_read hr gd (fun σ => passAt (takes_of rfl rfl rfl rfl) σ) rfl (lk_cons (l_var 3) (lk_cons (l_var 2) (lk_cons (l_var 1) (lk_cons (l_var 0) lk_nil)))))) la_nil)))) (blkOk_by (N := ["_law_a", "_law_b", "_law_c", "_law_d", "_law_things", "_law_rows", "_law_e"]) (sc := defScope (top 78)) (by decide +kernel)) (lcg_name (by decide)) (fun _ _ _ _ _ => (pg_name (i := 6) sc__law_groups.nd rfl (by first | exact Or.inl rfl | exact Or.inr rfl))) (fun _ _ _ _ _ => lts_nil) (fun _ _ _ _ _ => (l_lst (la_cons (l_fld 51 ct rfl (l_var 6)) (la_cons (l_fld 52 ct rfl (l_var 6)) (la_cons (l_fld 53 ct rfl (l_var 6)) (la_cons (l_fld 54 ct rfl (l_var 6)) la_nil)))))))))
    (ss_cons (s_set 5 sc__law_groups.nd (l_add true (l_var 5) (l_lc (own := [("_law_e", 6)]) (trim_imp ct.nf) rfl sc__law_groups.nd  (i_seq (l_lst (la_cons (l_trim ct.nf (l_newH H_Core_2 hr gd (fun σ => passAt (takes_of rfl rfl rfl rfl) σ) rfl (la_cons (l_var 0) (la_cons (l_var 1) la_nil)))) (la_cons (l_trim ct.nf (l_newH0 2 H_Core_0_cells_strikes hr gd (fun σ => passAt (takes_of rfl rfl rfl rfl) σ) rfl (lk_cons (l_var 1) (lk_cons (l_var 0) lk_nil)))) la_nil)))) (blkOk_by (N := ["_law_a", "_law_b", "_law_c", "_law_d", "_law_things", "_law_rows", "_law_e"]) (sc := defScope (top 78)) (by decide +kernel)) (lcg_name (by decide)) (fun _ _ _ _ _ => (pg_name (i := 6) sc__law_groups.nd rfl (by first | exact Or.inl rfl | exact Or.inr rfl))) (fun _ _ _ _ _ => lts_nil) (fun _ _ _ _ _ => (l_lst (la_cons (l_fld 2 ct rfl (l_var 6)) (la_cons (l_fld 3 ct rfl (l_var 6)) la_nil)))))))
    (ss_cons (s_set 6 sc__law_groups.nd (l_trim ct.nf (l_newH H_Block_4 hr gd (fun σ => passAt (takes_of rfl rfl rfl rfl) σ) rfl (la_cons (l_var 0) (la_cons (l_var 1) (la_cons (l_var 2) (la_cons (l_var 3) la_nil)))))))
    (ss_cons (s_expr (l_bm (ty_list rfl) lk_append PySem.F.plainAttrs_list PySem.F.slot_list_append PySem.F.type_list_append mt_append (l_var 5) (la_cons (l_lst (la_cons (l_fld 4 ct rfl (l_var 6)) (la_cons (l_fld 5 ct rfl (l_var 6)) (la_cons (l_fld 6 ct rfl (l_var 6)) (la_cons (l_fld 7 ct rfl (l_var 6)) la_nil))))) la_nil)))
    (ss_cons (s_set 6 sc__law_groups.nd (l_trim ct.nf (l_newH0 4 H_Block_0_most_places_columns_rows hr gd (fun σ => passAt (takes_of rfl rfl rfl rfl) σ) rfl (lk_cons (l_var 3) (lk_cons (l_var 2) (lk_cons (l_var 1) (lk_cons (l_var 0) lk_nil)))))))
    (ss_cons (s_expr (l_bm (ty_list rfl) lk_append PySem.F.plainAttrs_list PySem.F.slot_list_append PySem.F.type_list_append mt_append (l_var 5) (la_cons (l_lst (la_cons (l_fld 4 ct rfl (l_var 6)) (la_cons (l_fld 5 ct rfl (l_var 6)) (la_cons (l_fld 6 ct rfl (l_var 6)) (la_cons (l_fld 7 ct rfl (l_var 6)) la_nil))))) la_nil)))
    (ss_cons (s_set 6 sc__law_groups.nd (l_trim ct.nf (l_newH H_LeastBoth_3 hr gd (fun σ => passAt (takes_of rfl rfl rfl rfl) σ) rfl (la_cons (l_var 0) (la_cons (l_var 1) (la_cons (l_var 2) la_nil))))))
    (ss_cons (s_expr (l_bm (ty_list rfl) lk_append PySem.F.plainAttrs_list PySem.F.slot_list_append PySem.F.type_list_append mt_append (l_var 5) (la_cons (l_lst (la_cons (l_fld 18 ct rfl (l_var 6)) (la_cons (l_fld 19 ct rfl (l_var 6)) (la_cons (l_fld 20 ct rfl (l_var 6)) la_nil)))) la_nil)))
    (ss_one (s_ret (l_trim ct.nf (l_callH H__law_all hr gd (fun σ => passAt (takes_of rfl rfl rfl rfl) σ) rfl (la_cons (l_var 5) (la_cons (l_var 4) la_nil)))))))))))))))))))))))
theorem sc__law_bounds : FnScope ["_law_a", "_law_b", "_law_c", "_law_d", "_law_things", "_law_made", "_law_e", "_law_rows"] ["_law_a", "_law_b", "_law_c", "_law_d", "_law_things"] (defScope (top 79)) := ⟨rfl, rfl, rfl, by decide +kernel, rfl, by decide +kernel, by decide +kernel⟩
theorem ok__law_bounds {f : Addr} {fd : FuncData} (F : FunD C.K "_law_bounds" "_law_bounds" (defArgs (top 79)) (defBody (top 79)) (defScope (top 79)) [] [] f fd) (H_Bounds_7 : HasC P w C mg base 1 "Bounds" 8 g_Bounds___init__ 8 7 [] [0, 1, 2, 3, 4, 5, 6]) (ct : CtOk C TT nm) (H_Bounds_0_cored_budget_cored_high_budget_high_blocks_low_budget_low : HasC P w C mg base 1 "Bounds" 8 g_Bounds___init__ 8 0 ["cored_budget", "cored", "high_budget", "high", "blocks", "low_budget", "low"] [6, 5, 4, 3, 2, 1, 0]) (B_repr : mg "repr" = none) (H_Bent_6 : HasC P w C mg base 1 "Bent" 33 g_Bent___init__ 7 6 [] [0, 1, 2, 3, 4, 5]) (H_Bent_0_products_answer_bends_back_along_spots : HasC P w C mg base 1 "Bent" 33 g_Bent___init__ 7 0 ["products", "answer", "bends", "back", "along", "spots"] [5, 4, 3, 2, 1, 0]) (H_Run_4 : HasC P w C mg base 1 "Run" 20 g_Run___init__ 5 4 [] [0, 1, 2, 3]) (H_Run_0_products_answer_slopes_spots : HasC P w C mg base 1 "Run" 20 g_Run___init__ 5 0 ["products", "answer", "slopes", "spots"] [3, 2, 1, 0]) (H_RunTable_2 : HasC P w C mg base 1 "RunTable" 21 g_RunTable___init__ 3 2 [] [0, 1]) (H_RunTable_0_products_rows : HasC P w C mg base 1 "RunTable" 21 g_RunTable___init__ 3 0 ["products", "rows"] [1, 0]) (H_Parts_2 : HasC P w C mg base 1 "Parts" 34 g_Parts___init__ 3 2 [] [0, 1]) (H_Parts_0_lots_base : HasC P w C mg base 1 "Parts" 34 g_Parts___init__ 3 0 ["lots", "base"] [1, 0]) (H__law_all : Has P w C mg base 1 "_law_all" g__law_all 2 []) (H_Apart_1 : HasC P w C mg base 1 "Apart" 22 g_Apart___init__ 2 1 [] [0]) : FnG P w C.K mg base 3 f fd ["_law_a", "_law_b", "_law_c", "_law_d", "_law_things"] (spF C g__law_bounds 5) := by
  refine fn_ok F sc__law_bounds rfl rfl fun cdv A st s H E hr gd => ?_
  exact (ss_cons (s_set 5 sc__law_bounds.nd (l_lst (la_cons (l_trim ct.nf (l_newH H_Bounds_7 hr gd (fun σ => passAt (takes_of rfl rfl rfl rfl) σ) rfl (la_cons (l_var 0) (la_cons (l_var 1) (la_cons (l_var 2) (la_cons (l_var 3) (la_cons (l_var 0) (la_cons (l_var 1) (la_cons (l_var 2) la_nil))))))))) (la_cons (l_trim ct.nf (l_newH0 7 H_Bounds_0_cored_budget_cored_high_budget_high_blocks_low_budget_low hr gd (fun σ => passAt (takes_of rfl rfl rfl rfl) σ) rfl (lk_cons (l_var 2) (lk_cons (l_var 1) (lk_cons (l_var 0) (lk_cons (l_var 3) (lk_cons (l_var 2) (lk_cons (l_var 1) (lk_cons (l_var 0) lk_nil))))))))) la_nil))))
    (ss_cons (s_for (passes_of rfl) rfl (i_seq (l_var 5)) (g_name 6 sc__law_bounds.nd) (ss_one (s_if (lt_cmp (op_neS hr.units) (lk_neS rfl) (l_blt (cr_repr gd hr.units) (lk_repr rfl) rfl B_repr boot_repr (la_cons (l_lst (la_cons (l_fld 11 ct rfl (l_var 6)) (la_cons (l_fld 12 ct rfl (l_var 6)) (la_cons (l_fld 13 ct rfl (l_var 6)) (la_cons (l_fld 14 ct rfl (l_var 6)) (la_cons (l_fld 15 ct rfl (l_var 6)) (la_cons (l_fld 16 ct rfl (l_var 6)) (la_cons (l_fld 17 ct rfl (l_var 6)) la_nil)))))))) la_nil)) (l_blt (cr_repr gd hr.units) (lk_repr rfl) rfl B_repr boot_repr (la_cons (l_lst (la_cons (l_var 0) (la_cons (l_var 1) (la_cons (l_var 2) (la_cons (l_var 3) (la_cons (l_var 0) (la_cons (l_var 1) (la_cons (l_var 2) la_nil)))))))) la_nil)) (nomark _)) (ss_one (s_ret l_bl)) ss_nil)))
    (ss_cons (s_set 5 sc__law_bounds.nd (l_lst (la_cons (l_trim ct.nf (l_newH H_Bent_6 hr gd (fun σ => passAt (takes_of rfl rfl rfl rfl) σ) rfl (la_cons (l_var 0) (la_cons (l_var 1) (la_cons (l_var 2) (la_cons (l_var 3) (la_cons (l_var 0) (la_cons (l_var 1) la_nil)))))))) (la_cons (l_trim ct.nf (l_newH0 6 H_Bent_0_products_answer_bends_back_along_spots hr gd (fun σ => passAt (takes_of rfl rfl rfl rfl) σ) rfl (lk_cons (l_var 1) (lk_cons (l_var 0) (lk_cons (l_var 3) (lk_cons (l_var 2) (lk_cons (l_var 1) (lk_cons (l_var 0) lk_nil)))))))) la_nil))))
    (ss_cons (s_for (passes_of rfl) rfl (i_seq (l_var 5)) (g_name 6 sc__law_bounds.nd) (ss_one (s_if (lt_cmp (op_neS hr.units) (lk_neS rfl) (l_blt (cr_repr gd hr.units) (lk_repr rfl) rfl B_repr boot_repr (la_cons (l_lst (la_cons (l_fld 29 ct rfl (l_var 6)) (la_cons (l_fld 38 ct rfl (l_var 6)) (la_cons (l_fld 39 ct rfl (l_var 6)) (la_cons (l_fld 40 ct rfl (l_var 6)) (la_cons (l_fld 10 ct rfl (l_var 6)) (la_cons (l_fld 31 ct rfl (l_var 6)) la_nil))))))) la_nil)) (l_blt (cr_repr gd hr.units) (lk_repr rfl) rfl B_repr boot_repr (la_cons (l_lst (la_cons (l_var 0) (la_cons (l_var 1) (la_cons (l_var 2) (la_cons (l_var 3) (la_cons (l_var 0) (la_cons (l_var 1) la_nil))))))) la_nil)) (nomark _)) (ss_one (s_ret l_bl)) ss_nil)))
    (ss_cons (s_setLc 7 (own := [("_law_e", 6)]) (trim_imp ct.nf) rfl sc__law_bounds.nd rfl rfl (sw_true rfl rfl rfl (by decide +kernel)) (i_seq (l_lst (la_cons (l_trim ct.nf (l_newH H_Run_4 hr gd (fun σ => passAt (takes_of rfl rfl rfl rfl) σ) rfl (la_cons (l_var 0) (la_cons (l_var 1) (la_cons (l_var 2) (la_cons (l_var 3) la_nil)))))) (la_cons (l_trim ct.nf (l_newH0 4 H_Run_0_products_answer_slopes_spots hr gd (fun σ => passAt (takes_of rfl rfl rfl rfl) σ) rfl (lk_cons (l_var 3) (lk_cons (l_var 2) (lk_cons (l_var 1) (lk_cons (l_var 0) lk_nil)))))) la_nil)))) (blkOk_by (N := ["_law_a", "_law_b", "_law_c", "_law_d", "_law_things", "_law_made", "_law_e", "_law_rows"]) (sc := defScope (top 79)) (by decide +kernel)) (lcg_name (by decide)) (fun _ _ _ _ _ => (pg_name (i := 6) sc__law_bounds.nd rfl (by first | exact Or.inl rfl | exact Or.inr rfl))) (fun _ _ _ _ _ => lts_nil) (fun _ _ _ _ _ => (l_lst (la_cons (l_fld 29 ct rfl (l_var 6)) (la_cons (l_fld 30 ct rfl (l_var 6)) (la_cons (l_fld 10 ct rfl (l_var 6)) (la_cons (l_fld 31 ct rfl (l_var 6)) la_nil)))))))
    (ss_cons (s_set 7 sc__law_bounds.nd (l_add false (l_var 7) (l_lc (own := [("_law_e", 6)]) (trim_imp ct.nf) rfl sc__law_bounds.nd  (i_seq (l_lst (la_cons (l_trim ct.nf (l_newH H_RunTable_2 hr gd (fun σ => passAt (takes_of rfl rfl rfl rfl) σ) rfl (la_cons (l_var 0) (la_cons (l_var 1) la_nil)))) (la_cons (l_trim ct.nf (l_newH0 2 H_RunTable_0_products_rows hr gd (fun σ => passAt (takes_of rfl rfl rfl rfl) σ) rfl (lk_cons (l_var 1) (lk_cons (l_var 0) lk_nil)))) la_nil)))) (blkOk_by (N := ["_law_a", "_law_b", "_law_c", "_law_d", "_law_things", "_law_made", "_law_e", "_law_rows"]) (sc := defScope (top 79)) (by decide +kernel)) (lcg_name (by decide)) (fun _ _ _ _ _ => (pg_name (i := 6) sc__law_bounds.nd rfl (by first | exact Or.inl rfl | exact Or.inr rfl))) (fun _ _ _ _ _ => lts_nil) (fun _ _ _ _ _ => (l_lst (la_cons (l_fld 4 ct rfl (l_var 6)) (la_cons (l_fld 31 ct rfl (l_var 6)) la_nil)))))))
    (ss_cons (s_set 7 sc__law_bounds.nd (l_add false (l_var 7) (l_lc (own := [("_law_e", 6)]) (trim_imp ct.nf) rfl sc__law_bounds.nd  (i_seq (l_lst (la_cons (l_trim ct.nf (l_newH H_Parts_2 hr gd (fun σ => passAt (takes_of rfl rfl rfl rfl) σ) rfl (la_cons (l_var 0) (la_cons (l_var 1) la_nil)))) (la_cons (l_trim ct.nf (l_newH0 2 H_Parts_0_lots_base hr gd (fun σ => passAt (takes_of rfl rfl rfl rfl) σ) rfl (lk_cons (l_var 1) (lk_cons (l_var 0) lk_nil)))) la_nil)))) (blkOk_by (N := ["_law_a", "_law_b", "_law_c", "_law_d", "_law_things", "_law_made", "_law_e", "_law_rows"]) (sc := defScope (top 79)) (by decide +kernel)) (lcg_name (by decide)) (fun _ _ _ _ _ => (pg_name (i := 6) sc__law_bounds.nd rfl (by first | exact Or.inl rfl | exact Or.inr rfl))) (fun _ _ _ _ _ => lts_nil) (fun _ _ _ _ _ => (l_lst (la_cons (l_fld 41 ct rfl (l_var 6)) (la_cons (l_fld 42 ct rfl (l_var 6)) la_nil)))))))
    (ss_one (s_ret (l_trim ct.nf (l_callH H__law_all hr gd (fun σ => passAt (takes_of rfl rfl rfl rfl) σ) rfl (la_cons (l_add false (l_var 7) (l_lst (la_cons (l_lst (la_cons (l_fld 32 ct rfl (l_trim ct.nf (l_newH H_Apart_1 hr gd (fun σ => passAt (takes_of rfl rfl rfl rfl) σ) rfl (la_cons (l_var 0) la_nil)))) la_nil)) la_nil))) (la_cons (l_var 4) la_nil)))))))))))))
theorem sc__law_plans : FnScope ["_law_a", "_law_b", "_law_c", "_law_d", "_law_things", "_law_rows", "_law_e"] ["_law_a", "_law_b", "_law_c", "_law_d", "_law_things"] (defScope (top 80)) := ⟨rfl, rfl, rfl, by decide +kernel, rfl, by decide +kernel, by decide +kernel⟩
theorem ok__law_plans {f : Addr} {fd : FuncData} (F : FunD C.K "_law_plans" "_law_plans" (defArgs (top 80)) (defBody (top 80)) (defScope (top 80)) [] [] f fd) (H_FewestGroups_3 : HasC P w C mg base 1 "FewestGroups" 17 g_FewestGroups___init__ 4 3 [] [0, 1, 2]) (ct : CtOk C TT nm) (H_FewestGroups_0_many_first_groups : HasC P w C mg base 1 "FewestGroups" 17 g_FewestGroups___init__ 4 0 ["many", "first", "groups"] [2, 1, 0]) (H_SideLot_3 : HasC P w C mg base 1 "SideLot" 18 g_SideLot___init__ 4 3 [] [0, 1, 2]) (H_SideLot_0_most_ties_points : HasC P w C mg base 1 "SideLot" 18 g_SideLot___init__ 4 0 ["most", "ties", "points"] [2, 1, 0]) (H_WebCore_2 : HasC P w C mg base 1 "WebCore" 19 g_WebCore___init__ 3 2 [] [0, 1]) (H_WebCore_0_ties_strikes : HasC P w C mg base 1 "WebCore" 19 g_WebCore___init__ 3 0 ["ties", "strikes"] [1, 0]) (H_SideBounds_4 : HasC P w C mg base 1 "SideBounds" 36 g_SideBounds___init__ 5 4 [] [0, 1, 2, 3]) (H_SideBounds_0_book_high_bars_low : HasC P w C mg base 1 "SideBounds" 36 g_SideBounds___init__ 5 0 ["book", "high", "bars", "low"] [3, 2, 1, 0]) (H_Played_2 : HasC P w C mg base 1 "Played" 11 g_Played___init__ 3 2 [] [0, 1]) (H_Played_0_answers_path : HasC P w C mg base 1 "Played" 11 g_Played___init__ 3 0 ["answers", "path"] [1, 0]) (H_Come_3 : HasC P w C mg base 1 "Come" 12 g_Come___init__ 4 3 [] [0, 1, 2]) (H_Come_0_filling_book_path : HasC P w C mg base 1 "Come" 12 g_Come___init__ 4 0 ["filling", "book", "path"] [2, 1, 0]) (H_Never_3 : HasC P w C mg base 1 "Never" 13 g_Never___init__ 4 3 [] [0, 1, 2]) (H_Never_0_weights_answer_path : HasC P w C mg base 1 "Never" 13 g_Never___init__ 4 0 ["weights", "answer", "path"] [2, 1, 0]) (H_Untold_3 : HasC P w C mg base 1 "Untold" 14 g_Untold___init__ 4 3 [] [0, 1, 2]) (H_Untold_0_hidden_filling_path : HasC P w C mg base 1 "Untold" 14 g_Untold___init__ 4 0 ["hidden", "filling", "path"] [2, 1, 0]) (H_Lost_2 : HasC P w C mg base 1 "Lost" 25 g_Lost___init__ 3 2 [] [0, 1]) (H_Lost_0_numbers_answers : HasC P w C mg base 1 "Lost" 25 g_Lost___init__ 3 0 ["numbers", "answers"] [1, 0]) (H_Mended_3 : HasC P w C mg base 1 "Mended" 26 g_Mended___init__ 4 3 [] [0, 1, 2]) (H_Mended_0_numbers_answers_wrong : HasC P w C mg base 1 "Mended" 26 g_Mended___init__ 4 0 ["numbers", "answers", "wrong"] [2, 1, 0]) (H_Unseen_2 : HasC P w C mg base 1 "Unseen" 41 g_Unseen___init__ 3 2 [] [0, 1]) (H_Unseen_0_strangers_numbers : HasC P w C mg base 1 "Unseen" 41 g_Unseen___init__ 3 0 ["strangers", "numbers"] [1, 0]) (H_Filled_2 : HasC P w C mg base 1 "Filled" 42 g_Filled___init__ 3 2 [] [0, 1]) (H_Filled_0_strangers_numbers : HasC P w C mg base 1 "Filled" 42 g_Filled___init__ 3 0 ["strangers", "numbers"] [1, 0]) (H_Twice_2 : HasC P w C mg base 1 "Twice" 43 g_Twice___init__ 3 2 [] [0, 1]) (H_Twice_0_second_first : HasC P w C mg base 1 "Twice" 43 g_Twice___init__ 3 0 ["second", "first"] [1, 0]) (H_Explained_2 : HasC P w C mg base 1 "Explained" 44 g_Explained___init__ 3 2 [] [0, 1]) (H_Explained_0_numbers_strangers : HasC P w C mg base 1 "Explained" 44 g_Explained___init__ 3 0 ["numbers", "strangers"] [1, 0]) (H__law_all : Has P w C mg base 1 "_law_all" g__law_all 2 []) (H_Worse_1 : HasC P w C mg base 1 "Worse" 27 g_Worse___init__ 2 1 [] [0]) : FnG P w C.K mg base 3 f fd ["_law_a", "_law_b", "_law_c", "_law_d", "_law_things"] (spF C g__law_plans 5) := by
  refine fn_ok F sc__law_plans rfl rfl fun cdv A st s H E hr gd => ?_
  exact (ss_cons (s_setLc 5 (own := [("_law_e", 6)]) (trim_imp ct.nf) rfl sc__law_plans.nd rfl rfl (sw_true rfl rfl rfl (by decide +kernel)) (i_seq (l_lst (la_cons (l_trim ct.nf (l_newH H_FewestGroups_3 hr gd (fun σ => passAt (takes_of rfl rfl rfl rfl) σ) rfl (la_cons (l_var 0) (la_cons (l_var 1) (la_cons (l_var 2) la_nil))))) (la_cons (l_trim ct.nf (l_newH0 3 H_FewestGroups_0_many_first_groups hr gd (fun σ => passAt (takes_of rfl rfl rfl rfl) σ) rfl (lk_cons (l_var 2) (lk_cons (l_var 1) (lk_cons (l_var 0) lk_nil))))) la_nil)))) (blkOk_by (N := ["_law_a", "_law_b", "_law_c", "_law_d", "_law_things", "_law_rows", "_law_e"]) (sc := defScope (top 80)) (by decide +kernel)) (lcg_name (by decide)) (fun _ _ _ _ _ => (pg_name (i := 6) sc__law_plans.nd rfl (by first | exact Or.inl rfl | exact Or.inr rfl))) (fun _ _ _ _ _ => lts_nil) (fun _ _ _ _ _ => (l_lst (la_cons (l_fld 27 ct rfl (l_var 6)) (la_cons (l_fld 28 ct rfl (l_var 6)) (la_cons (l_fld 20 ct rfl (l_var 6)) la_nil))))))
    (ss_cons (s_set 5 sc__law_plans.nd (l_add false (l_var 5) (l_lc (own := [("_law_e", 6)]) (trim_imp ct.nf) rfl sc__law_plans.nd  (i_seq (l_lst (la_cons (l_trim ct.nf (l_newH H_SideLot_3 hr gd (fun σ => passAt (takes_of rfl rfl rfl rfl) σ) rfl (la_cons (l_var 0) (la_cons (l_var 1) (la_cons (l_var 2) la_nil))))) (la_cons (l_trim ct.nf (l_newH0 3 H_SideLot_0_most_ties_points hr gd (fun σ => passAt (takes_of rfl rfl rfl rfl) σ) rfl (lk_cons (l_var 2) (lk_cons (l_var 1) (lk_cons (l_var 0) lk_nil))))) la_nil)))) (blkOk_by (N := ["_law_a", "_law_b", "_law_c", "_law_d", "_law_things", "_law_rows", "_law_e"]) (sc := defScope (top 80)) (by decide +kernel)) (lcg_name (by decide)) (fun _ _ _ _ _ => (pg_name (i := 6) sc__law_plans.nd rfl (by first | exact Or.inl rfl | exact Or.inr rfl))) (fun _ _ _ _ _ => lts_nil) (fun _ _ _ _ _ => (l_lst (la_cons (l_fld 25 ct rfl (l_var 6)) (la_cons (l_fld 26 ct rfl (l_var 6)) (la_cons (l_fld 7 ct rfl (l_var 6)) la_nil))))))))
    (ss_cons (s_set 5 sc__law_plans.nd (l_add false (l_var 5) (l_lc (own := [("_law_e", 6)]) (trim_imp ct.nf) rfl sc__law_plans.nd  (i_seq (l_lst (la_cons (l_trim ct.nf (l_newH H_WebCore_2 hr gd (fun σ => passAt (takes_of rfl rfl rfl rfl) σ) rfl (la_cons (l_var 0) (la_cons (l_var 1) la_nil)))) (la_cons (l_trim ct.nf (l_newH0 2 H_WebCore_0_ties_strikes hr gd (fun σ => passAt (takes_of rfl rfl rfl rfl) σ) rfl (lk_cons (l_var 1) (lk_cons (l_var 0) lk_nil)))) la_nil)))) (blkOk_by (N := ["_law_a", "_law_b", "_law_c", "_law_d", "_law_things", "_law_rows", "_law_e"]) (sc := defScope (top 80)) (by decide +kernel)) (lcg_name (by decide)) (fun _ _ _ _ _ => (pg_name (i := 6) sc__law_plans.nd rfl (by first | exact Or.inl rfl | exact Or.inr rfl))) (fun _ _ _ _ _ => lts_nil) (fun _ _ _ _ _ => (l_lst (la_cons (l_fld 2 ct rfl (l_var 6)) (la_cons (l_fld 26 ct rfl (l_var 6)) la_nil)))))))
    (ss_cons (s_set 5 sc__law_plans.nd (l_add false (l_var 5) (l_lc (own := [("_law_e", 6)]) (trim_imp ct.nf) rfl sc__law_plans.nd  (i_seq (l_lst (la_cons (l_trim ct.nf (l_newH H_SideBounds_4 hr gd (fun σ => passAt (takes_of rfl rfl rfl rfl) σ) rfl (la_cons (l_var 0) (la_cons (l_var 1) (la_cons (l_var 2) (la_cons (l_var 3) la_nil)))))) (la_cons (l_trim ct.nf (l_newH0 4 H_SideBounds_0_book_high_bars_low hr gd (fun σ => passAt (takes_of rfl rfl rfl rfl) σ) rfl (lk_cons (l_var 3) (lk_cons (l_var 2) (lk_cons (l_var 1) (lk_cons (l_var 0) lk_nil)))))) la_nil)))) (blkOk_by (N := ["_law_a", "_law_b", "_law_c", "_law_d", "_law_things", "_law_rows", "_law_e"]) (sc := defScope (top 80)) (by decide +kernel)) (lcg_name (by decide)) (fun _ _ _ _ _ => (pg_name (i := 6) sc__law_plans.nd rfl (by first | exact Or.inl rfl | exact Or.inr rfl))) (fun _ _ _ _ _ => lts_nil) (fun _ _ _ _ _ => (l_lst (la_cons (l_fld 11 ct rfl (l_var 6)) (la_cons (l_fld 46 ct rfl (l_var 6)) (la_cons (l_fld 14 ct rfl (l_var 6)) (la_cons (l_fld 23 ct rfl (l_var 6)) la_nil)))))))))
    (ss_cons (s_set 5 sc__law_plans.nd (l_add false (l_var 5) (l_lc (own := [("_law_e", 6)]) (trim_imp ct.nf) rfl sc__law_plans.nd  (i_seq (l_lst (la_cons (l_trim ct.nf (l_newH H_Played_2 hr gd (fun σ => passAt (takes_of rfl rfl rfl rfl) σ) rfl (la_cons (l_var 0) (la_cons (l_var 1) la_nil)))) (la_cons (l_trim ct.nf (l_newH0 2 H_Played_0_answers_path hr gd (fun σ => passAt (takes_of rfl rfl rfl rfl) σ) rfl (lk_cons (l_var 1) (lk_cons (l_var 0) lk_nil)))) la_nil)))) (blkOk_by (N := ["_law_a", "_law_b", "_law_c", "_law_d", "_law_things", "_law_rows", "_law_e"]) (sc := defScope (top 80)) (by decide +kernel)) (lcg_name (by decide)) (fun _ _ _ _ _ => (pg_name (i := 6) sc__law_plans.nd rfl (by first | exact Or.inl rfl | exact Or.inr rfl))) (fun _ _ _ _ _ => lts_nil) (fun _ _ _ _ _ => (l_lst (la_cons (l_fld 21 ct rfl (l_var 6)) (la_cons (l_fld 22 ct rfl (l_var 6)) la_nil)))))))
    (ss_cons (s_set 5 sc__law_plans.nd (l_add false (l_var 5) (l_lc (own := [("_law_e", 6)]) (trim_imp ct.nf) rfl sc__law_plans.nd  (i_seq (l_lst (la_cons (l_trim ct.nf (l_newH H_Come_3 hr gd (fun σ => passAt (takes_of rfl rfl rfl rfl) σ) rfl (la_cons (l_var 0) (la_cons (l_var 1) (la_cons (l_var 2) la_nil))))) (la_cons (l_trim ct.nf (l_newH0 3 H_Come_0_filling_book_path hr gd (fun σ => passAt (takes_of rfl rfl rfl rfl) σ) rfl (lk_cons (l_var 2) (lk_cons (l_var 1) (lk_cons (l_var 0) lk_nil))))) la_nil)))) (blkOk_by (N := ["_law_a", "_law_b", "_law_c", "_law_d", "_law_things", "_law_rows", "_law_e"]) (sc := defScope (top 80)) (by decide +kernel)) (lcg_name (by decide)) (fun _ _ _ _ _ => (pg_name (i := 6) sc__law_plans.nd rfl (by first | exact Or.inl rfl | exact Or.inr rfl))) (fun _ _ _ _ _ => lts_nil) (fun _ _ _ _ _ => (l_lst (la_cons (l_fld 21 ct rfl (l_var 6)) (la_cons (l_fld 23 ct rfl (l_var 6)) (la_cons (l_fld 8 ct rfl (l_var 6)) la_nil))))))))
    (ss_cons (s_set 5 sc__law_plans.nd (l_add false (l_var 5) (l_lc (own := [("_law_e", 6)]) (trim_imp ct.nf) rfl sc__law_plans.nd  (i_seq (l_lst (la_cons (l_trim ct.nf (l_newH H_Never_3 hr gd (fun σ => passAt (takes_of rfl rfl rfl rfl) σ) rfl (la_cons (l_var 0) (la_cons (l_var 1) (la_cons (l_var 2) la_nil))))) (la_cons (l_trim ct.nf (l_newH0 3 H_Never_0_weights_answer_path hr gd (fun σ => passAt (takes_of rfl rfl rfl rfl) σ) rfl (lk_cons (l_var 2) (lk_cons (l_var 1) (lk_cons (l_var 0) lk_nil))))) la_nil)))) (blkOk_by (N := ["_law_a", "_law_b", "_law_c", "_law_d", "_law_things", "_law_rows", "_law_e"]) (sc := defScope (top 80)) (by decide +kernel)) (lcg_name (by decide)) (fun _ _ _ _ _ => (pg_name (i := 6) sc__law_plans.nd rfl (by first | exact Or.inl rfl | exact Or.inr rfl))) (fun _ _ _ _ _ => lts_nil) (fun _ _ _ _ _ => (l_lst (la_cons (l_fld 21 ct rfl (l_var 6)) (la_cons (l_fld 10 ct rfl (l_var 6)) (la_cons (l_fld 9 ct rfl (l_var 6)) la_nil))))))))
    (ss_cons (s_set 5 sc__law_plans.nd (l_add false (l_var 5) (l_lc (own := [("_law_e", 6)]) (trim_imp ct.nf) rfl sc__law_plans.nd  (i_seq (l_lst (la_cons (l_trim ct.nf (l_newH H_Untold_3 hr gd (fun σ => passAt (takes_of rfl rfl rfl rfl) σ) rfl (la_cons (l_var 0) (la_cons (l_var 1) (la_cons (l_var 2) la_nil))))) (la_cons (l_trim ct.nf (l_newH0 3 H_Untold_0_hidden_filling_path hr gd (fun σ => passAt (takes_of rfl rfl rfl rfl) σ) rfl (lk_cons (l_var 2) (lk_cons (l_var 1) (lk_cons (l_var 0) lk_nil))))) la_nil)))) (blkOk_by (N := ["_law_a", "_law_b", "_law_c", "_law_d", "_law_things", "_law_rows", "_law_e"]) (sc := defScope (top 80)) (by decide +kernel)) (lcg_name (by decide)) (fun _ _ _ _ _ => (pg_name (i := 6) sc__law_plans.nd rfl (by first | exact Or.inl rfl | exact Or.inr rfl))) (fun _ _ _ _ _ => lts_nil) (fun _ _ _ _ _ => (l_lst (la_cons (l_fld 21 ct rfl (l_var 6)) (la_cons (l_fld 8 ct rfl (l_var 6)) (la_cons (l_fld 24 ct rfl (l_var 6)) la_nil))))))))
    (ss_cons (s_set 5 sc__law_plans.nd (l_add false (l_var 5) (l_lc (own := [("_law_e", 6)]) (trim_imp ct.nf) rfl sc__law_plans.nd  (i_seq (l_lst (la_cons (l_trim ct.nf (l_newH H_Lost_2 hr gd (fun σ => passAt (takes_of rfl rfl rfl rfl) σ) rfl (la_cons (l_var 0) (la_cons (l_var 1) la_nil)))) (la_cons (l_trim ct.nf (l_newH0 2 H_Lost_0_numbers_answers hr gd (fun σ => passAt (takes_of rfl rfl rfl rfl) σ) rfl (lk_cons (l_var 1) (lk_cons (l_var 0) lk_nil)))) la_nil)))) (blkOk_by (N := ["_law_a", "_law_b", "_law_c", "_law_d", "_law_things", "_law_rows", "_law_e"]) (sc := defScope (top 80)) (by decide +kernel)) (lcg_name (by decide)) (fun _ _ _ _ _ => (pg_name (i := 6) sc__law_plans.nd rfl (by first | exact Or.inl rfl | exact Or.inr rfl))) (fun _ _ _ _ _ => lts_nil) (fun _ _ _ _ _ => (l_lst (la_cons (l_fld 22 ct rfl (l_var 6)) (la_cons (l_fld 1 ct rfl (l_var 6)) la_nil)))))))
    (ss_cons (s_set 5 sc__law_plans.nd (l_add false (l_var 5) (l_lc (own := [("_law_e", 6)]) (trim_imp ct.nf) rfl sc__law_plans.nd  (i_seq (l_lst (la_cons (l_trim ct.nf (l_newH H_Mended_3 hr gd (fun σ => passAt (takes_of rfl rfl rfl rfl) σ) rfl (la_cons (l_var 0) (la_cons (l_var 1) (la_cons (l_var 2) la_nil))))) (la_cons (l_trim ct.nf (l_newH0 3 H_Mended_0_numbers_answers_wrong hr gd (fun σ => passAt (takes_of rfl rfl rfl rfl) σ) rfl (lk_cons (l_var 2) (lk_cons (l_var 1) (lk_cons (l_var 0) lk_nil))))) la_nil)))) (blkOk_by (N := ["_law_a", "_law_b", "_law_c", "_law_d", "_law_things", "_law_rows", "_law_e"]) (sc := defScope (top 80)) (by decide +kernel)) (lcg_name (by decide)) (fun _ _ _ _ _ => (pg_name (i := 6) sc__law_plans.nd rfl (by first | exact Or.inl rfl | exact Or.inr rfl))) (fun _ _ _ _ _ => lts_nil) (fun _ _ _ _ _ => (l_lst (la_cons (l_fld 35 ct rfl (l_var 6)) (la_cons (l_fld 22 ct rfl (l_var 6)) (la_cons (l_fld 1 ct rfl (l_var 6)) la_nil))))))))
    (ss_cons (s_set 5 sc__law_plans.nd (l_add false (l_var 5) (l_lc (own := [("_law_e", 6)]) (trim_imp ct.nf) rfl sc__law_plans.nd  (i_seq (l_lst (la_cons (l_trim ct.nf (l_newH H_Unseen_2 hr gd (fun σ => passAt (takes_of rfl rfl rfl rfl) σ) rfl (la_cons (l_var 0) (la_cons (l_var 1) la_nil)))) (la_cons (l_trim ct.nf (l_newH0 2 H_Unseen_0_strangers_numbers hr gd (fun σ => passAt (takes_of rfl rfl rfl rfl) σ) rfl (lk_cons (l_var 1) (lk_cons (l_var 0) lk_nil)))) la_nil)))) (blkOk_by (N := ["_law_a", "_law_b", "_law_c", "_law_d", "_law_things", "_law_rows", "_law_e"]) (sc := defScope (top 80)) (by decide +kernel)) (lcg_name (by decide)) (fun _ _ _ _ _ => (pg_name (i := 6) sc__law_plans.nd rfl (by first | exact Or.inl rfl | exact Or.inr rfl))) (fun _ _ _ _ _ => lts_nil) (fun _ _ _ _ _ => (l_lst (la_cons (l_fld 1 ct rfl (l_var 6)) (la_cons (l_fld 55 ct rfl (l_var 6)) la_nil)))))))
    (ss_cons (s_set 5 sc__law_plans.nd (l_add false (l_var 5) (l_lc (own := [("_law_e", 6)]) (trim_imp ct.nf) rfl sc__law_plans.nd  (i_seq (l_lst (la_cons (l_trim ct.nf (l_newH H_Filled_2 hr gd (fun σ => passAt (takes_of rfl rfl rfl rfl) σ) rfl (la_cons (l_var 0) (la_cons (l_var 1) la_nil)))) (la_cons (l_trim ct.nf (l_newH0 2 H_Filled_0_strangers_numbers hr gd (fun σ => passAt (takes_of rfl rfl rfl rfl) σ) rfl (lk_cons (l_var 1) (lk_cons (l_var 0) lk_nil)))) la_nil)))) (blkOk_by (N := ["_law_a", "_law_b", "_law_c", "_law_d", "_law_things", "_law_rows", "_law_e"]) (sc := defScope (top 80)) (by decide +kernel)) (lcg_name (by decide)) (fun _ _ _ _ _ => (pg_name (i := 6) sc__law_plans.nd rfl (by first | exact Or.inl rfl | exact Or.inr rfl))) (fun _ _ _ _ _ => lts_nil) (fun _ _ _ _ _ => (l_lst (la_cons (l_fld 1 ct rfl (l_var 6)) (la_cons (l_fld 55 ct rfl (l_var 6)) la_nil)))))))
    (ss_cons (s_set 5 sc__law_plans.nd (l_add false (l_var 5) (l_lc (own := [("_law_e", 6)]) (trim_imp ct.nf) rfl sc__law_plans.nd  (i_seq (l_lst (la_cons (l_trim ct.nf (l_newH H_Twice_2 hr gd (fun σ => passAt (takes_of rfl rfl rfl rfl) σ) rfl (la_cons (l_var 0) (la_cons (l_var 1) la_nil)))) (la_cons (l_trim ct.nf (l_newH0 2 H_Twice_0_second_first hr gd (fun σ => passAt (takes_of rfl rfl rfl rfl) σ) rfl (lk_cons (l_var 1) (lk_cons (l_var 0) lk_nil)))) la_nil)))) (blkOk_by (N := ["_law_a", "_law_b", "_law_c", "_law_d", "_law_things", "_law_rows", "_law_e"]) (sc := defScope (top 80)) (by decide +kernel)) (lcg_name (by decide)) (fun _ _ _ _ _ => (pg_name (i := 6) sc__law_plans.nd rfl (by first | exact Or.inl rfl | exact Or.inr rfl))) (fun _ _ _ _ _ => lts_nil) (fun _ _ _ _ _ => (l_lst (la_cons (l_fld 28 ct rfl (l_var 6)) (la_cons (l_fld 34 ct rfl (l_var 6)) la_nil)))))))
    (ss_cons (s_set 5 sc__law_plans.nd (l_add false (l_var 5) (l_lc (own := [("_law_e", 6)]) (trim_imp ct.nf) rfl sc__law_plans.nd  (i_seq (l_lst (la_cons (l_trim ct.nf (l_newH H_Explained_2 hr gd (fun σ => passAt (takes_of rfl rfl rfl rfl) σ) rfl (la_cons (l_var 0) (la_cons (l_var 1) la_nil)))) (la_cons (l_trim ct.nf (l_newH0 2 H_Explained_0_numbers_strangers hr gd (fun σ => passAt (takes_of rfl rfl rfl rfl) σ) rfl (lk_cons (l_var 1) (lk_cons (l_var 0) lk_nil)))) la_nil)))) (blkOk_by (N := ["_law_a", "_law_b", "_law_c", "_law_d", "_law_things", "_law_rows", "_law_e"]) (sc := defScope (top 80)) (by decide +kernel)) (lcg_name (by decide)) (fun _ _ _ _ _ => (pg_name (i := 6) sc__law_plans.nd rfl (by first | exact Or.inl rfl | exact Or.inr rfl))) (fun _ _ _ _ _ => lts_nil) (fun _ _ _ _ _ => (l_lst (la_cons (l_fld 55 ct rfl (l_var 6)) (la_cons (l_fld 1 ct rfl (l_var 6)) la_nil)))))))
    (ss_one (s_ret (l_trim ct.nf (l_callH H__law_all hr gd (fun σ => passAt (takes_of rfl rfl rfl rfl) σ) rfl (la_cons (l_add false (l_var 5) (l_lst (la_cons (l_lst (la_cons (l_fld 7 ct rfl (l_trim ct.nf (l_newH H_Worse_1 hr gd (fun σ => passAt (takes_of rfl rfl rfl rfl) σ) rfl (la_cons (l_var 0) la_nil)))) la_nil)) la_nil))) (la_cons (l_var 4) la_nil))))))))))))))))))))
theorem sc_law : FnScope ["_law_script", "_law_hand_here", "_law_things", "_law_at", "_law_held", "_law_kind", "_law_number", "_law_a", "_law_b", "_law_c", "_law_d"] ["_law_script"] (defScope (top 81)) := ⟨rfl, rfl, rfl, by decide +kernel, rfl, by decide +kernel, by decide +kernel⟩
theorem ok_law {f : Addr} {fd : FuncData} (F : FunD C.K "law" "law" (defArgs (top 81)) (defBody (top 81)) (defScope (top 81)) [] [] f fd) (H__law_hand : Has P w C mg base 1 "_law_hand" g__law_hand 1 []) (B_range : mg "range" = none) (H__law_take : Has P w C mg base 2 "_law_take" g__law_take 2 []) (ct : CtOk C TT nm) (H_Recovered_2 : HasC P w C mg base 1 "Recovered" 4 g_Recovered___init__ 3 2 [] [0, 1]) (H__law_answers : Has P w C mg base 3 "_law_answers" g__law_answers 4 []) (H__law_groups : Has P w C mg base 3 "_law_groups" g__law_groups 5 []) (H__law_bounds : Has P w C mg base 3 "_law_bounds" g__law_bounds 5 []) (H__law_plans : Has P w C mg base 3 "_law_plans" g__law_plans 5 []) (B_isinstance : mg "isinstance" = none) (B_list : mg "list" = none) (B_repr : mg "repr" = none) : FnG P w C.K mg base 4 f fd ["_law_script"] (spF C g_law 1) := by
  refine fn_ok F sc_law rfl rfl fun cdv A st s H E hr gd => ?_
  exact (ss_cons (s_set 1 sc_law.nd (l_callH H__law_hand hr gd (fun σ => passAt (takes_of rfl rfl rfl rfl) σ) rfl (la_cons (l_var 0) la_nil)))
    (ss_cons (s_set 2 sc_law.nd (l_cell la_nil))
    (ss_cons (s_for (passes_of rfl) rfl (i_range1 rfl B_range (la_cons l_int la_nil)) (g_name 3 sc_law.nd) (ss_cons (s_set 5 sc_law.nd (l_trim ct.nf (l_callH H__law_take hr gd (fun σ => passAt (takes_of rfl rfl rfl rfl) σ) rfl (la_cons (l_var 1) (la_cons l_int la_nil)))))
    (ss_cons (s_set 6 sc_law.nd (l_add false (l_mul false l_int (l_trim ct.nf (l_callH H__law_take hr gd (fun σ => passAt (takes_of rfl rfl rfl rfl) σ) rfl (la_cons (l_var 1) (la_cons (l_pow l_int l_int) la_nil))))) (l_var 3)))
    (ss_one (s_expr (l_bm (ty_list rfl) lk_append PySem.F.plainAttrs_list PySem.F.slot_list_append PySem.F.type_list_append mt_append (l_var 2) (la_cons (l_ix (l_lst (la_cons (l_var 6) (la_cons (l_cell (la_cons (l_var 6) la_nil)) (la_cons (l_tup (la_cons (l_var 6) (la_cons (l_neg l_int) la_nil))) (la_cons (l_cell (la_cons (l_tup (la_cons (l_var 6) (la_cons l_int la_nil))) (la_cons l_non la_nil))) la_nil))))) (l_var 5)) la_nil)))))))
    (ss_cons (s_asg (l_var 2) (g_unp rfl (gs_cons (g_name 7 sc_law.nd) (gs_cons (g_name 8 sc_law.nd) (gs_cons (g_name 9 sc_law.nd) (gs_cons (g_name 10 sc_law.nd) gs_nil))))))
    (ss_cons (s_set 4 sc_law.nd (l_trim ct.nf (l_newH H_Recovered_2 hr gd (fun σ => passAt (takes_of rfl rfl rfl rfl) σ) rfl (la_cons (l_var 7) (la_cons (l_var 8) la_nil)))))
    (ss_cons (s_if (PW.pt (lw_or (lt_not (lt_val (l_trim ct.nf (l_callH H__law_answers hr gd (fun σ => passAt (takes_of rfl rfl rfl rfl) σ) rfl (la_cons (l_var 7) (la_cons (l_var 8) (la_cons (l_var 9) (la_cons (l_var 2) la_nil)))))))) (lw_or1 (lt_not (lt_val (l_trim ct.nf (l_callH H__law_groups hr gd (fun σ => passAt (takes_of rfl rfl rfl rfl) σ) rfl (la_cons (l_var 7) (la_cons (l_var 8) (la_cons (l_var 9) (la_cons (l_var 10) (la_cons (l_var 2) la_nil)))))))))))) (ss_one (s_ret l_bl)) ss_nil)
    (ss_cons (s_if (PW.pt (lw_or (lt_not (lt_val (l_trim ct.nf (l_callH H__law_bounds hr gd (fun σ => passAt (takes_of rfl rfl rfl rfl) σ) rfl (la_cons (l_var 7) (la_cons (l_var 8) (la_cons (l_var 9) (la_cons (l_var 10) (la_cons (l_var 2) la_nil))))))))) (lw_or1 (lt_not (lt_val (l_trim ct.nf (l_callH H__law_plans hr gd (fun σ => passAt (takes_of rfl rfl rfl rfl) σ) rfl (la_cons (l_var 7) (la_cons (l_var 8) (la_cons (l_var 9) (la_cons (l_var 10) (la_cons (l_var 2) la_nil)))))))))))) (ss_one (s_ret l_bl)) ss_nil)
    (ss_cons (s_if (lt_val (l_blt (call_isi) (lk_isi rfl) rfl B_isinstance boot_isinstance (la_cons (l_var 8) (la_cons (l_ty .list rfl B_list boot_list) la_nil)))) (ss_one (s_expr (l_bm (ty_list rfl) lk_append PySem.F.plainAttrs_list PySem.F.slot_list_append PySem.F.type_list_append mt_append (l_var 8) (la_cons l_int la_nil)))) ss_nil)
    (ss_one (s_ret (l_cmp (op_eqS hr.units) (lk_eqS rfl) (l_blt (cr_repr gd hr.units) (lk_repr rfl) rfl B_repr boot_repr (la_cons (l_lst (la_cons (l_fld 1 ct rfl (l_var 4)) (la_cons (l_fld 8 ct rfl (l_var 4)) la_nil))) la_nil)) (l_blt (cr_repr gd hr.units) (lk_repr rfl) rfl B_repr boot_repr (la_cons (l_lst (la_cons (l_var 7) (la_cons (l_var 8) la_nil))) la_nil)) (nomark _))))))))))))
end
end K77

set_option Elab.async false
set_option linter.all false
set_option maxRecDepth 100000
set_option maxHeartbeats 4000000
namespace K77
open PySem PySem.Spec PyProof.Rows L2 L3
theorem n_Weights {M : Mem} {y0 : D} (h0 : Low M.length y0) : trimR (nfT TT) M (newR 0 g_Weights___init__ 2 [y0] M) = .ok (.obj 0 [y0]) M :=
  new_run (js := [0]) rfl (by decide) rfl rfl (by simp [h0])
theorem n_Hidden {M : Mem} {y0 : D} (h0 : Low M.length y0) : trimR (nfT TT) M (newR 1 g_Hidden___init__ 2 [y0] M) = .ok (.obj 1 [y0]) M :=
  new_run (js := [1]) rfl (by decide) rfl rfl (by simp [h0])
theorem n_Core {M : Mem} {y0 y1 : D} (h0 : Low M.length y0) (h1 : Low M.length y1) : trimR (nfT TT) M (newR 2 g_Core___init__ 3 [y0, y1] M) = .ok (.obj 2 [y0, y1]) M :=
  new_run (js := [2, 3]) rfl (by decide) rfl rfl (by simp [h0, h1])
theorem n_Block {M : Mem} {y0 y1 y2 y3 : D} (h0 : Low M.length y0) (h1 : Low M.length y1) (h2 : Low M.length y2) (h3 : Low M.length y3) : trimR (nfT TT) M (newR 3 g_Block___init__ 5 [y0, y1, y2, y3] M) = .ok (.obj 3 [y0, y1, y2, y3]) M :=
  new_run (js := [4, 5, 6, 7]) rfl (by decide) rfl rfl (by simp [h0, h1, h2, h3])
theorem n_Recovered {M : Mem} {y0 y1 : D} (h0 : Low M.length y0) (h1 : Low M.length y1) : trimR (nfT TT) M (newR 4 g_Recovered___init__ 3 [y0, y1] M) = .ok (.obj 4 [y0, y1]) M :=
  new_run (js := [1, 8]) rfl (by decide) rfl rfl (by simp [h0, h1])
theorem n_Clash {M : Mem} {y0 : D} (h0 : Low M.length y0) : trimR (nfT TT) M (newR 5 g_Clash___init__ 2 [y0] M) = .ok (.obj 5 [y0]) M :=
  new_run (js := [9]) rfl (by decide) rfl rfl (by simp [h0])
theorem n_Given {M : Mem} {y0 : D} (h0 : Low M.length y0) : trimR (nfT TT) M (newR 6 g_Given___init__ 2 [y0] M) = .ok (.obj 6 [y0]) M :=
  new_run (js := [4]) rfl (by decide) rfl rfl (by simp [h0])
theorem n_Parted {M : Mem} {y0 y1 : D} (h0 : Low M.length y0) (h1 : Low M.length y1) : trimR (nfT TT) M (newR 7 g_Parted___init__ 3 [y0, y1] M) = .ok (.obj 7 [y0, y1]) M :=
  new_run (js := [10, 1]) rfl (by decide) rfl rfl (by simp [h0, h1])
theorem n_Bounds {M : Mem} {y0 y1 y2 y3 y4 y5 y6 : D} (h0 : Low M.length y0) (h1 : Low M.length y1) (h2 : Low M.length y2) (h3 : Low M.length y3) (h4 : Low M.length y4) (h5 : Low M.length y5) (h6 : Low M.length y6) : trimR (nfT TT) M (newR 8 g_Bounds___init__ 8 [y0, y1, y2, y3, y4, y5, y6] M) = .ok (.obj 8 [y0, y1, y2, y3, y4, y5, y6]) M :=
  new_run (js := [11, 12, 13, 14, 15, 16, 17]) rfl (by decide) rfl rfl (by simp [h0, h1, h2, h3, h4, h5, h6])
theorem n_Chain {M : Mem} {y0 : D} (h0 : Low M.length y0) : trimR (nfT TT) M (newR 9 g_Chain___init__ 2 [y0] M) = .ok (.obj 9 [y0]) M :=
  new_run (js := [3]) rfl (by decide) rfl rfl (by simp [h0])
theorem n_LeastBoth {M : Mem} {y0 y1 y2 : D} (h0 : Low M.length y0) (h1 : Low M.length y1) (h2 : Low M.length y2) : trimR (nfT TT) M (newR 10 g_LeastBoth___init__ 4 [y0, y1, y2] M) = .ok (.obj 10 [y0, y1, y2]) M :=
  new_run (js := [18, 19, 20]) rfl (by decide) rfl rfl (by simp [h0, h1, h2])
theorem n_Played {M : Mem} {y0 y1 : D} (h0 : Low M.length y0) (h1 : Low M.length y1) : trimR (nfT TT) M (newR 11 g_Played___init__ 3 [y0, y1] M) = .ok (.obj 11 [y0, y1]) M :=
  new_run (js := [21, 22]) rfl (by decide) rfl rfl (by simp [h0, h1])
theorem n_Come {M : Mem} {y0 y1 y2 : D} (h0 : Low M.length y0) (h1 : Low M.length y1) (h2 : Low M.length y2) : trimR (nfT TT) M (newR 12 g_Come___init__ 4 [y0, y1, y2] M) = .ok (.obj 12 [y0, y1, y2]) M :=
  new_run (js := [21, 23, 8]) rfl (by decide) rfl rfl (by simp [h0, h1, h2])
theorem n_Never {M : Mem} {y0 y1 y2 : D} (h0 : Low M.length y0) (h1 : Low M.length y1) (h2 : Low M.length y2) : trimR (nfT TT) M (newR 13 g_Never___init__ 4 [y0, y1, y2] M) = .ok (.obj 13 [y0, y1, y2]) M :=
  new_run (js := [21, 10, 9]) rfl (by decide) rfl rfl (by simp [h0, h1, h2])
theorem n_Untold {M : Mem} {y0 y1 y2 : D} (h0 : Low M.length y0) (h1 : Low M.length y1) (h2 : Low M.length y2) : trimR (nfT TT) M (newR 14 g_Untold___init__ 4 [y0, y1, y2] M) = .ok (.obj 14 [y0, y1, y2]) M :=
  new_run (js := [21, 8, 24]) rfl (by decide) rfl rfl (by simp [h0, h1, h2])
theorem n_Piece {M : Mem} {y0 y1 y2 : D} (h0 : Low M.length y0) (h1 : Low M.length y1) (h2 : Low M.length y2) : trimR (nfT TT) M (newR 15 g_Piece___init__ 4 [y0, y1, y2] M) = .ok (.obj 15 [y0, y1, y2]) M :=
  new_run (js := [25, 26, 27]) rfl (by decide) rfl rfl (by simp [h0, h1, h2])
theorem n_Walk {M : Mem} {y0 y1 : D} (h0 : Low M.length y0) (h1 : Low M.length y1) : trimR (nfT TT) M (newR 16 g_Walk___init__ 3 [y0, y1] M) = .ok (.obj 16 [y0, y1]) M :=
  new_run (js := [25, 27]) rfl (by decide) rfl rfl (by simp [h0, h1])
theorem n_FewestGroups {M : Mem} {y0 y1 y2 : D} (h0 : Low M.length y0) (h1 : Low M.length y1) (h2 : Low M.length y2) : trimR (nfT TT) M (newR 17 g_FewestGroups___init__ 4 [y0, y1, y2] M) = .ok (.obj 17 [y0, y1, y2]) M :=
  new_run (js := [27, 28, 20]) rfl (by decide) rfl rfl (by simp [h0, h1, h2])
theorem n_SideLot {M : Mem} {y0 y1 y2 : D} (h0 : Low M.length y0) (h1 : Low M.length y1) (h2 : Low M.length y2) : trimR (nfT TT) M (newR 18 g_SideLot___init__ 4 [y0, y1, y2] M) = .ok (.obj 18 [y0, y1, y2]) M :=
  new_run (js := [25, 26, 7]) rfl (by decide) rfl rfl (by simp [h0, h1, h2])
theorem n_WebCore {M : Mem} {y0 y1 : D} (h0 : Low M.length y0) (h1 : Low M.length y1) : trimR (nfT TT) M (newR 19 g_WebCore___init__ 3 [y0, y1] M) = .ok (.obj 19 [y0, y1]) M :=
  new_run (js := [2, 26]) rfl (by decide) rfl rfl (by simp [h0, h1])
theorem n_Run {M : Mem} {y0 y1 y2 y3 : D} (h0 : Low M.length y0) (h1 : Low M.length y1) (h2 : Low M.length y2) (h3 : Low M.length y3) : trimR (nfT TT) M (newR 20 g_Run___init__ 5 [y0, y1, y2, y3] M) = .ok (.obj 20 [y0, y1, y2, y3]) M :=
  new_run (js := [29, 30, 10, 31]) rfl (by decide) rfl rfl (by simp [h0, h1, h2, h3])
theorem n_RunTable {M : Mem} {y0 y1 : D} (h0 : Low M.length y0) (h1 : Low M.length y1) : trimR (nfT TT) M (newR 21 g_RunTable___init__ 3 [y0, y1] M) = .ok (.obj 21 [y0, y1]) M :=
  new_run (js := [4, 31]) rfl (by decide) rfl rfl (by simp [h0, h1])
theorem n_Apart {M : Mem} {y0 : D} (h0 : Low M.length y0) : trimR (nfT TT) M (newR 22 g_Apart___init__ 2 [y0] M) = .ok (.obj 22 [y0]) M :=
  new_run (js := [32]) rfl (by decide) rfl rfl (by simp [h0])
theorem n_Missing {M : Mem} {y0 : D} (h0 : Low M.length y0) : trimR (nfT TT) M (newR 23 g_Missing___init__ 2 [y0] M) = .ok (.obj 23 [y0]) M :=
  new_run (js := [33]) rfl (by decide) rfl rfl (by simp [h0])
theorem n_Meeting {M : Mem} {y0 y1 y2 : D} (h0 : Low M.length y0) (h1 : Low M.length y1) (h2 : Low M.length y2) : trimR (nfT TT) M (newR 24 g_Meeting___init__ 4 [y0, y1, y2] M) = .ok (.obj 24 [y0, y1, y2]) M :=
  new_run (js := [0, 28, 34]) rfl (by decide) rfl rfl (by simp [h0, h1, h2])
theorem n_Lost {M : Mem} {y0 y1 : D} (h0 : Low M.length y0) (h1 : Low M.length y1) : trimR (nfT TT) M (newR 25 g_Lost___init__ 3 [y0, y1] M) = .ok (.obj 25 [y0, y1]) M :=
  new_run (js := [22, 1]) rfl (by decide) rfl rfl (by simp [h0, h1])
theorem n_Mended {M : Mem} {y0 y1 y2 : D} (h0 : Low M.length y0) (h1 : Low M.length y1) (h2 : Low M.length y2) : trimR (nfT TT) M (newR 26 g_Mended___init__ 4 [y0, y1, y2] M) = .ok (.obj 26 [y0, y1, y2]) M :=
  new_run (js := [35, 22, 1]) rfl (by decide) rfl rfl (by simp [h0, h1, h2])
theorem n_Worse {M : Mem} {y0 : D} (h0 : Low M.length y0) : trimR (nfT TT) M (newR 27 g_Worse___init__ 2 [y0] M) = .ok (.obj 27 [y0]) M :=
  new_run (js := [7]) rfl (by decide) rfl rfl (by simp [h0])
theorem n_Fewest {M : Mem} {y0 y1 : D} (h0 : Low M.length y0) (h1 : Low M.length y1) : trimR (nfT TT) M (newR 28 g_Fewest___init__ 3 [y0, y1] M) = .ok (.obj 28 [y0, y1]) M :=
  new_run (js := [36, 0]) rfl (by decide) rfl rfl (by simp [h0, h1])
theorem n_Dependent {M : Mem} {y0 y1 : D} (h0 : Low M.length y0) (h1 : Low M.length y1) : trimR (nfT TT) M (newR 29 g_Dependent___init__ 3 [y0, y1] M) = .ok (.obj 29 [y0, y1]) M :=
  new_run (js := [0, 1]) rfl (by decide) rfl rfl (by simp [h0, h1])
theorem n_Whole {M : Mem} {y0 y1 y2 : D} (h0 : Low M.length y0) (h1 : Low M.length y1) (h2 : Low M.length y2) : trimR (nfT TT) M (newR 30 g_Whole___init__ 4 [y0, y1, y2] M) = .ok (.obj 30 [y0, y1, y2]) M :=
  new_run (js := [37, 9, 1]) rfl (by decide) rfl rfl (by simp [h0, h1, h2])
theorem n_RestWeights {M : Mem} {y0 : D} (h0 : Low M.length y0) : trimR (nfT TT) M (newR 31 g_RestWeights___init__ 2 [y0] M) = .ok (.obj 31 [y0]) M :=
  new_run (js := [0]) rfl (by decide) rfl rfl (by simp [h0])
theorem n_RestHidden {M : Mem} {y0 : D} (h0 : Low M.length y0) : trimR (nfT TT) M (newR 32 g_RestHidden___init__ 2 [y0] M) = .ok (.obj 32 [y0]) M :=
  new_run (js := [1]) rfl (by decide) rfl rfl (by simp [h0])
theorem n_Bent {M : Mem} {y0 y1 y2 y3 y4 y5 : D} (h0 : Low M.length y0) (h1 : Low M.length y1) (h2 : Low M.length y2) (h3 : Low M.length y3) (h4 : Low M.length y4) (h5 : Low M.length y5) : trimR (nfT TT) M (newR 33 g_Bent___init__ 7 [y0, y1, y2, y3, y4, y5] M) = .ok (.obj 33 [y0, y1, y2, y3, y4, y5]) M :=
  new_run (js := [29, 38, 39, 40, 10, 31]) rfl (by decide) rfl rfl (by simp [h0, h1, h2, h3, h4, h5])
theorem n_Parts {M : Mem} {y0 y1 : D} (h0 : Low M.length y0) (h1 : Low M.length y1) : trimR (nfT TT) M (newR 34 g_Parts___init__ 3 [y0, y1] M) = .ok (.obj 34 [y0, y1]) M :=
  new_run (js := [41, 42]) rfl (by decide) rfl rfl (by simp [h0, h1])
theorem n_Balance {M : Mem} {y0 y1 y2 y3 : D} (h0 : Low M.length y0) (h1 : Low M.length y1) (h2 : Low M.length y2) (h3 : Low M.length y3) : trimR (nfT TT) M (newR 35 g_Balance___init__ 5 [y0, y1, y2, y3] M) = .ok (.obj 35 [y0, y1, y2, y3]) M :=
  new_run (js := [43, 44, 45, 27]) rfl (by decide) rfl rfl (by simp [h0, h1, h2, h3])
theorem n_SideBounds {M : Mem} {y0 y1 y2 y3 : D} (h0 : Low M.length y0) (h1 : Low M.length y1) (h2 : Low M.length y2) (h3 : Low M.length y3) : trimR (nfT TT) M (newR 36 g_SideBounds___init__ 5 [y0, y1, y2, y3] M) = .ok (.obj 36 [y0, y1, y2, y3]) M :=
  new_run (js := [11, 46, 14, 23]) rfl (by decide) rfl rfl (by simp [h0, h1, h2, h3])
theorem n_Taken {M : Mem} {y0 y1 y2 : D} (h0 : Low M.length y0) (h1 : Low M.length y1) (h2 : Low M.length y2) : trimR (nfT TT) M (newR 37 g_Taken___init__ 4 [y0, y1, y2] M) = .ok (.obj 37 [y0, y1, y2]) M :=
  new_run (js := [47, 48, 49]) rfl (by decide) rfl rfl (by simp [h0, h1, h2])
theorem n_Solved {M : Mem} {y0 y1 : D} (h0 : Low M.length y0) (h1 : Low M.length y1) : trimR (nfT TT) M (newR 38 g_Solved___init__ 3 [y0, y1] M) = .ok (.obj 38 [y0, y1]) M :=
  new_run (js := [47, 50]) rfl (by decide) rfl rfl (by simp [h0, h1])
theorem n_Ladder {M : Mem} {y0 y1 y2 y3 : D} (h0 : Low M.length y0) (h1 : Low M.length y1) (h2 : Low M.length y2) (h3 : Low M.length y3) : trimR (nfT TT) M (newR 39 g_Ladder___init__ 5 [y0, y1, y2, y3] M) = .ok (.obj 39 [y0, y1, y2, y3]) M :=
  new_run (js := [51, 52, 53, 54]) rfl (by decide) rfl rfl (by simp [h0, h1, h2, h3])
theorem n_Ring {M : Mem} {y0 : D} (h0 : Low M.length y0) : trimR (nfT TT) M (newR 40 g_Ring___init__ 2 [y0] M) = .ok (.obj 40 [y0]) M :=
  new_run (js := [25]) rfl (by decide) rfl rfl (by simp [h0])
theorem n_Unseen {M : Mem} {y0 y1 : D} (h0 : Low M.length y0) (h1 : Low M.length y1) : trimR (nfT TT) M (newR 41 g_Unseen___init__ 3 [y0, y1] M) = .ok (.obj 41 [y0, y1]) M :=
  new_run (js := [1, 55]) rfl (by decide) rfl rfl (by simp [h0, h1])
theorem n_Filled {M : Mem} {y0 y1 : D} (h0 : Low M.length y0) (h1 : Low M.length y1) : trimR (nfT TT) M (newR 42 g_Filled___init__ 3 [y0, y1] M) = .ok (.obj 42 [y0, y1]) M :=
  new_run (js := [1, 55]) rfl (by decide) rfl rfl (by simp [h0, h1])
theorem n_Twice {M : Mem} {y0 y1 : D} (h0 : Low M.length y0) (h1 : Low M.length y1) : trimR (nfT TT) M (newR 43 g_Twice___init__ 3 [y0, y1] M) = .ok (.obj 43 [y0, y1]) M :=
  new_run (js := [28, 34]) rfl (by decide) rfl rfl (by simp [h0, h1])
theorem n_Explained {M : Mem} {y0 y1 : D} (h0 : Low M.length y0) (h1 : Low M.length y1) : trimR (nfT TT) M (newR 44 g_Explained___init__ 3 [y0, y1] M) = .ok (.obj 44 [y0, y1]) M :=
  new_run (js := [55, 1]) rfl (by decide) rfl rfl (by simp [h0, h1])
@[simp] theorem fl_0_0 {M : Mem} {y0 : D} : dFld TT 0 (.obj 0 [y0]) M = .ok y0 M := rfl
@[simp] theorem fl_1_0 {M : Mem} {y0 : D} : dFld TT 1 (.obj 1 [y0]) M = .ok y0 M := rfl
@[simp] theorem fl_2_0 {M : Mem} {y0 y1 : D} : dFld TT 2 (.obj 2 [y0, y1]) M = .ok y0 M := rfl
@[simp] theorem fl_2_1 {M : Mem} {y0 y1 : D} : dFld TT 3 (.obj 2 [y0, y1]) M = .ok y1 M := rfl
@[simp] theorem fl_3_0 {M : Mem} {y0 y1 y2 y3 : D} : dFld TT 4 (.obj 3 [y0, y1, y2, y3]) M = .ok y0 M := rfl
@[simp] theorem fl_3_1 {M : Mem} {y0 y1 y2 y3 : D} : dFld TT 5 (.obj 3 [y0, y1, y2, y3]) M = .ok y1 M := rfl
@[simp] theorem fl_3_2 {M : Mem} {y0 y1 y2 y3 : D} : dFld TT 6 (.obj 3 [y0, y1, y2, y3]) M = .ok y2 M := rfl
@[simp] theorem fl_3_3 {M : Mem} {y0 y1 y2 y3 : D} : dFld TT 7 (.obj 3 [y0, y1, y2, y3]) M = .ok y3 M := rfl
@[simp] theorem fl_4_0 {M : Mem} {y0 y1 : D} : dFld TT 1 (.obj 4 [y0, y1]) M = .ok y0 M := rfl
@[simp] theorem fl_4_1 {M : Mem} {y0 y1 : D} : dFld TT 8 (.obj 4 [y0, y1]) M = .ok y1 M := rfl
@[simp] theorem fl_5_0 {M : Mem} {y0 : D} : dFld TT 9 (.obj 5 [y0]) M = .ok y0 M := rfl
@[simp] theorem fl_6_0 {M : Mem} {y0 : D} : dFld TT 4 (.obj 6 [y0]) M = .ok y0 M := rfl
@[simp] theorem fl_7_0 {M : Mem} {y0 y1 : D} : dFld TT 10 (.obj 7 [y0, y1]) M = .ok y0 M := rfl
@[simp] theorem fl_7_1 {M : Mem} {y0 y1 : D} : dFld TT 1 (.obj 7 [y0, y1]) M = .ok y1 M := rfl
@[simp] theorem fl_8_0 {M : Mem} {y0 y1 y2 y3 y4 y5 y6 : D} : dFld TT 11 (.obj 8 [y0, y1, y2, y3, y4, y5, y6]) M = .ok y0 M := rfl
@[simp] theorem fl_8_1 {M : Mem} {y0 y1 y2 y3 y4 y5 y6 : D} : dFld TT 12 (.obj 8 [y0, y1, y2, y3, y4, y5, y6]) M = .ok y1 M := rfl
@[simp] theorem fl_8_2 {M : Mem} {y0 y1 y2 y3 y4 y5 y6 : D} : dFld TT 13 (.obj 8 [y0, y1, y2, y3, y4, y5, y6]) M = .ok y2 M := rfl
@[simp] theorem fl_8_3 {M : Mem} {y0 y1 y2 y3 y4 y5 y6 : D} : dFld TT 14 (.obj 8 [y0, y1, y2, y3, y4, y5, y6]) M = .ok y3 M := rfl
@[simp] theorem fl_8_4 {M : Mem} {y0 y1 y2 y3 y4 y5 y6 : D} : dFld TT 15 (.obj 8 [y0, y1, y2, y3, y4, y5, y6]) M = .ok y4 M := rfl
@[simp] theorem fl_8_5 {M : Mem} {y0 y1 y2 y3 y4 y5 y6 : D} : dFld TT 16 (.obj 8 [y0, y1, y2, y3, y4, y5, y6]) M = .ok y5 M := rfl
@[simp] theorem fl_8_6 {M : Mem} {y0 y1 y2 y3 y4 y5 y6 : D} : dFld TT 17 (.obj 8 [y0, y1, y2, y3, y4, y5, y6]) M = .ok y6 M := rfl
@[simp] theorem fl_9_0 {M : Mem} {y0 : D} : dFld TT 3 (.obj 9 [y0]) M = .ok y0 M := rfl
@[simp] theorem fl_10_0 {M : Mem} {y0 y1 y2 : D} : dFld TT 18 (.obj 10 [y0, y1, y2]) M = .ok y0 M := rfl
@[simp] theorem fl_10_1 {M : Mem} {y0 y1 y2 : D} : dFld TT 19 (.obj 10 [y0, y1, y2]) M = .ok y1 M := rfl
@[simp] theorem fl_10_2 {M : Mem} {y0 y1 y2 : D} : dFld TT 20 (.obj 10 [y0, y1, y2]) M = .ok y2 M := rfl
@[simp] theorem fl_11_0 {M : Mem} {y0 y1 : D} : dFld TT 21 (.obj 11 [y0, y1]) M = .ok y0 M := rfl
@[simp] theorem fl_11_1 {M : Mem} {y0 y1 : D} : dFld TT 22 (.obj 11 [y0, y1]) M = .ok y1 M := rfl
@[simp] theorem fl_12_0 {M : Mem} {y0 y1 y2 : D} : dFld TT 21 (.obj 12 [y0, y1, y2]) M = .ok y0 M := rfl
@[simp] theorem fl_12_1 {M : Mem} {y0 y1 y2 : D} : dFld TT 23 (.obj 12 [y0, y1, y2]) M = .ok y1 M := rfl
@[simp] theorem fl_12_2 {M : Mem} {y0 y1 y2 : D} : dFld TT 8 (.obj 12 [y0, y1, y2]) M = .ok y2 M := rfl
@[simp] theorem fl_13_0 {M : Mem} {y0 y1 y2 : D} : dFld TT 21 (.obj 13 [y0, y1, y2]) M = .ok y0 M := rfl
@[simp] theorem fl_13_1 {M : Mem} {y0 y1 y2 : D} : dFld TT 10 (.obj 13 [y0, y1, y2]) M = .ok y1 M := rfl
@[simp] theorem fl_13_2 {M : Mem} {y0 y1 y2 : D} : dFld TT 9 (.obj 13 [y0, y1, y2]) M = .ok y2 M := rfl
@[simp] theorem fl_14_0 {M : Mem} {y0 y1 y2 : D} : dFld TT 21 (.obj 14 [y0, y1, y2]) M = .ok y0 M := rfl
@[simp] theorem fl_14_1 {M : Mem} {y0 y1 y2 : D} : dFld TT 8 (.obj 14 [y0, y1, y2]) M = .ok y1 M := rfl
@[simp] theorem fl_14_2 {M : Mem} {y0 y1 y2 : D} : dFld TT 24 (.obj 14 [y0, y1, y2]) M = .ok y2 M := rfl
@[simp] theorem fl_15_0 {M : Mem} {y0 y1 y2 : D} : dFld TT 25 (.obj 15 [y0, y1, y2]) M = .ok y0 M := rfl
@[simp] theorem fl_15_1 {M : Mem} {y0 y1 y2 : D} : dFld TT 26 (.obj 15 [y0, y1, y2]) M = .ok y1 M := rfl
@[simp] theorem fl_15_2 {M : Mem} {y0 y1 y2 : D} : dFld TT 27 (.obj 15 [y0, y1, y2]) M = .ok y2 M := rfl
@[simp] theorem fl_16_0 {M : Mem} {y0 y1 : D} : dFld TT 25 (.obj 16 [y0, y1]) M = .ok y0 M := rfl
@[simp] theorem fl_16_1 {M : Mem} {y0 y1 : D} : dFld TT 27 (.obj 16 [y0, y1]) M = .ok y1 M := rfl
@[simp] theorem fl_17_0 {M : Mem} {y0 y1 y2 : D} : dFld TT 27 (.obj 17 [y0, y1, y2]) M = .ok y0 M := rfl
@[simp] theorem fl_17_1 {M : Mem} {y0 y1 y2 : D} : dFld TT 28 (.obj 17 [y0, y1, y2]) M = .ok y1 M := rfl
@[simp] theorem fl_17_2 {M : Mem} {y0 y1 y2 : D} : dFld TT 20 (.obj 17 [y0, y1, y2]) M = .ok y2 M := rfl
@[simp] theorem fl_18_0 {M : Mem} {y0 y1 y2 : D} : dFld TT 25 (.obj 18 [y0, y1, y2]) M = .ok y0 M := rfl
@[simp] theorem fl_18_1 {M : Mem} {y0 y1 y2 : D} : dFld TT 26 (.obj 18 [y0, y1, y2]) M = .ok y1 M := rfl
@[simp] theorem fl_18_2 {M : Mem} {y0 y1 y2 : D} : dFld TT 7 (.obj 18 [y0, y1, y2]) M = .ok y2 M := rfl
@[simp] theorem fl_19_0 {M : Mem} {y0 y1 : D} : dFld TT 2 (.obj 19 [y0, y1]) M = .ok y0 M := rfl
@[simp] theorem fl_19_1 {M : Mem} {y0 y1 : D} : dFld TT 26 (.obj 19 [y0, y1]) M = .ok y1 M := rfl
@[simp] theorem fl_20_0 {M : Mem} {y0 y1 y2 y3 : D} : dFld TT 29 (.obj 20 [y0, y1, y2, y3]) M = .ok y0 M := rfl
@[simp] theorem fl_20_1 {M : Mem} {y0 y1 y2 y3 : D} : dFld TT 30 (.obj 20 [y0, y1, y2, y3]) M = .ok y1 M := rfl
@[simp] theorem fl_20_2 {M : Mem} {y0 y1 y2 y3 : D} : dFld TT 10 (.obj 20 [y0, y1, y2, y3]) M = .ok y2 M := rfl
@[simp] theorem fl_20_3 {M : Mem} {y0 y1 y2 y3 : D} : dFld TT 31 (.obj 20 [y0, y1, y2, y3]) M = .ok y3 M := rfl
@[simp] theorem fl_21_0 {M : Mem} {y0 y1 : D} : dFld TT 4 (.obj 21 [y0, y1]) M = .ok y0 M := rfl
@[simp] theorem fl_21_1 {M : Mem} {y0 y1 : D} : dFld TT 31 (.obj 21 [y0, y1]) M = .ok y1 M := rfl
@[simp] theorem fl_22_0 {M : Mem} {y0 : D} : dFld TT 32 (.obj 22 [y0]) M = .ok y0 M := rfl
@[simp] theorem fl_23_0 {M : Mem} {y0 : D} : dFld TT 33 (.obj 23 [y0]) M = .ok y0 M := rfl
@[simp] theorem fl_24_0 {M : Mem} {y0 y1 y2 : D} : dFld TT 0 (.obj 24 [y0, y1, y2]) M = .ok y0 M := rfl
@[simp] theorem fl_24_1 {M : Mem} {y0 y1 y2 : D} : dFld TT 28 (.obj 24 [y0, y1, y2]) M = .ok y1 M := rfl
@[simp] theorem fl_24_2 {M : Mem} {y0 y1 y2 : D} : dFld TT 34 (.obj 24 [y0, y1, y2]) M = .ok y2 M := rfl
@[simp] theorem fl_25_0 {M : Mem} {y0 y1 : D} : dFld TT 22 (.obj 25 [y0, y1]) M = .ok y0 M := rfl
@[simp] theorem fl_25_1 {M : Mem} {y0 y1 : D} : dFld TT 1 (.obj 25 [y0, y1]) M = .ok y1 M := rfl
@[simp] theorem fl_26_0 {M : Mem} {y0 y1 y2 : D} : dFld TT 35 (.obj 26 [y0, y1, y2]) M = .ok y0 M := rfl
@[simp] theorem fl_26_1 {M : Mem} {y0 y1 y2 : D} : dFld TT 22 (.obj 26 [y0, y1, y2]) M = .ok y1 M := rfl
@[simp] theorem fl_26_2 {M : Mem} {y0 y1 y2 : D} : dFld TT 1 (.obj 26 [y0, y1, y2]) M = .ok y2 M := rfl
@[simp] theorem fl_27_0 {M : Mem} {y0 : D} : dFld TT 7 (.obj 27 [y0]) M = .ok y0 M := rfl
@[simp] theorem fl_28_0 {M : Mem} {y0 y1 : D} : dFld TT 36 (.obj 28 [y0, y1]) M = .ok y0 M := rfl
@[simp] theorem fl_28_1 {M : Mem} {y0 y1 : D} : dFld TT 0 (.obj 28 [y0, y1]) M = .ok y1 M := rfl
@[simp] theorem fl_29_0 {M : Mem} {y0 y1 : D} : dFld TT 0 (.obj 29 [y0, y1]) M = .ok y0 M := rfl
@[simp] theorem fl_29_1 {M : Mem} {y0 y1 : D} : dFld TT 1 (.obj 29 [y0, y1]) M = .ok y1 M := rfl
@[simp] theorem fl_30_0 {M : Mem} {y0 y1 y2 : D} : dFld TT 37 (.obj 30 [y0, y1, y2]) M = .ok y0 M := rfl
@[simp] theorem fl_30_1 {M : Mem} {y0 y1 y2 : D} : dFld TT 9 (.obj 30 [y0, y1, y2]) M = .ok y1 M := rfl
@[simp] theorem fl_30_2 {M : Mem} {y0 y1 y2 : D} : dFld TT 1 (.obj 30 [y0, y1, y2]) M = .ok y2 M := rfl
@[simp] theorem fl_31_0 {M : Mem} {y0 : D} : dFld TT 0 (.obj 31 [y0]) M = .ok y0 M := rfl
@[simp] theorem fl_32_0 {M : Mem} {y0 : D} : dFld TT 1 (.obj 32 [y0]) M = .ok y0 M := rfl
@[simp] theorem fl_33_0 {M : Mem} {y0 y1 y2 y3 y4 y5 : D} : dFld TT 29 (.obj 33 [y0, y1, y2, y3, y4, y5]) M = .ok y0 M := rfl
@[simp] theorem fl_33_1 {M : Mem} {y0 y1 y2 y3 y4 y5 : D} : dFld TT 38 (.obj 33 [y0, y1, y2, y3, y4, y5]) M = .ok y1 M := rfl
@[simp] theorem fl_33_2 {M : Mem} {y0 y1 y2 y3 y4 y5 : D} : dFld TT 39 (.obj 33 [y0, y1, y2, y3, y4, y5]) M = .ok y2 M := rfl
@[simp] theorem fl_33_3 {M : Mem} {y0 y1 y2 y3 y4 y5 : D} : dFld TT 40 (.obj 33 [y0, y1, y2, y3, y4, y5]) M = .ok y3 M := rfl
@[simp] theorem fl_33_4 {M : Mem} {y0 y1 y2 y3 y4 y5 : D} : dFld TT 10 (.obj 33 [y0, y1, y2, y3, y4, y5]) M = .ok y4 M := rfl
@[simp] theorem fl_33_5 {M : Mem} {y0 y1 y2 y3 y4 y5 : D} : dFld TT 31 (.obj 33 [y0, y1, y2, y3, y4, y5]) M = .ok y5 M := rfl
@[simp] theorem fl_34_0 {M : Mem} {y0 y1 : D} : dFld TT 41 (.obj 34 [y0, y1]) M = .ok y0 M := rfl
@[simp] theorem fl_34_1 {M : Mem} {y0 y1 : D} : dFld TT 42 (.obj 34 [y0, y1]) M = .ok y1 M := rfl
@[simp] theorem fl_35_0 {M : Mem} {y0 y1 y2 y3 : D} : dFld TT 43 (.obj 35 [y0, y1, y2, y3]) M = .ok y0 M := rfl
@[simp] theorem fl_35_1 {M : Mem} {y0 y1 y2 y3 : D} : dFld TT 44 (.obj 35 [y0, y1, y2, y3]) M = .ok y1 M := rfl
@[simp] theorem fl_35_2 {M : Mem} {y0 y1 y2 y3 : D} : dFld TT 45 (.obj 35 [y0, y1, y2, y3]) M = .ok y2 M := rfl
@[simp] theorem fl_35_3 {M : Mem} {y0 y1 y2 y3 : D} : dFld TT 27 (.obj 35 [y0, y1, y2, y3]) M = .ok y3 M := rfl
@[simp] theorem fl_36_0 {M : Mem} {y0 y1 y2 y3 : D} : dFld TT 11 (.obj 36 [y0, y1, y2, y3]) M = .ok y0 M := rfl
@[simp] theorem fl_36_1 {M : Mem} {y0 y1 y2 y3 : D} : dFld TT 46 (.obj 36 [y0, y1, y2, y3]) M = .ok y1 M := rfl
@[simp] theorem fl_36_2 {M : Mem} {y0 y1 y2 y3 : D} : dFld TT 14 (.obj 36 [y0, y1, y2, y3]) M = .ok y2 M := rfl
@[simp] theorem fl_36_3 {M : Mem} {y0 y1 y2 y3 : D} : dFld TT 23 (.obj 36 [y0, y1, y2, y3]) M = .ok y3 M := rfl
@[simp] theorem fl_37_0 {M : Mem} {y0 y1 y2 : D} : dFld TT 47 (.obj 37 [y0, y1, y2]) M = .ok y0 M := rfl
@[simp] theorem fl_37_1 {M : Mem} {y0 y1 y2 : D} : dFld TT 48 (.obj 37 [y0, y1, y2]) M = .ok y1 M := rfl
@[simp] theorem fl_37_2 {M : Mem} {y0 y1 y2 : D} : dFld TT 49 (.obj 37 [y0, y1, y2]) M = .ok y2 M := rfl
@[simp] theorem fl_38_0 {M : Mem} {y0 y1 : D} : dFld TT 47 (.obj 38 [y0, y1]) M = .ok y0 M := rfl
@[simp] theorem fl_38_1 {M : Mem} {y0 y1 : D} : dFld TT 50 (.obj 38 [y0, y1]) M = .ok y1 M := rfl
@[simp] theorem fl_39_0 {M : Mem} {y0 y1 y2 y3 : D} : dFld TT 51 (.obj 39 [y0, y1, y2, y3]) M = .ok y0 M := rfl
@[simp] theorem fl_39_1 {M : Mem} {y0 y1 y2 y3 : D} : dFld TT 52 (.obj 39 [y0, y1, y2, y3]) M = .ok y1 M := rfl
@[simp] theorem fl_39_2 {M : Mem} {y0 y1 y2 y3 : D} : dFld TT 53 (.obj 39 [y0, y1, y2, y3]) M = .ok y2 M := rfl
@[simp] theorem fl_39_3 {M : Mem} {y0 y1 y2 y3 : D} : dFld TT 54 (.obj 39 [y0, y1, y2, y3]) M = .ok y3 M := rfl
@[simp] theorem fl_40_0 {M : Mem} {y0 : D} : dFld TT 25 (.obj 40 [y0]) M = .ok y0 M := rfl
@[simp] theorem fl_41_0 {M : Mem} {y0 y1 : D} : dFld TT 1 (.obj 41 [y0, y1]) M = .ok y0 M := rfl
@[simp] theorem fl_41_1 {M : Mem} {y0 y1 : D} : dFld TT 55 (.obj 41 [y0, y1]) M = .ok y1 M := rfl
@[simp] theorem fl_42_0 {M : Mem} {y0 y1 : D} : dFld TT 1 (.obj 42 [y0, y1]) M = .ok y0 M := rfl
@[simp] theorem fl_42_1 {M : Mem} {y0 y1 : D} : dFld TT 55 (.obj 42 [y0, y1]) M = .ok y1 M := rfl
@[simp] theorem fl_43_0 {M : Mem} {y0 y1 : D} : dFld TT 28 (.obj 43 [y0, y1]) M = .ok y0 M := rfl
@[simp] theorem fl_43_1 {M : Mem} {y0 y1 : D} : dFld TT 34 (.obj 43 [y0, y1]) M = .ok y1 M := rfl
@[simp] theorem fl_44_0 {M : Mem} {y0 y1 : D} : dFld TT 55 (.obj 44 [y0, y1]) M = .ok y0 M := rfl
@[simp] theorem fl_44_1 {M : Mem} {y0 y1 : D} : dFld TT 1 (.obj 44 [y0, y1]) M = .ok y1 M := rfl
/-- a thing can be shown -/
structure Sh (M : Mem) (d : D) : Prop where
  low : Low M.length d
  ex : ∃ p : PyData, p.showable = true ∧ p.hasDict = false ∧ wid p ≤ 1000 ∧ ∀ t, py (M ++ t) 7 d = some p
theorem Sh.py {M : Mem} {d : D} (h : Sh M d) : ∃ p : PyData, p.showable = true ∧ p.hasDict = false ∧ wid p ≤ 1000 ∧ ∀ t, L3.py (M ++ t) 7 d = some p := h.ex
theorem Sh.ext {M t : Mem} {d : D} (h : Sh M d) : Sh (M ++ t) d := ⟨h.low.mono (by simp), by
  obtain ⟨p, h1, h2, h3, h4⟩ := h.ex
  exact ⟨p, h1, h2, h3, fun u => by rw [List.append_assoc]; exact h4 _⟩⟩
theorem sh_list {M : Mem} : ∀ {ds : List D}, (∀ d ∈ ds, Sh M d) → ∃ ps : List PyData, PyData.showableAll ps = true ∧ PyData.hasDictAll ps = false ∧ wids ps ≤ 1002 * ds.length ∧ ∀ t, mapO (L3.py (M ++ t) 7) ds = some ps
  | [], _ => ⟨[], rfl, rfl, Nat.le_refl _, fun _ => rfl⟩
  | d :: ds, h => by
    obtain ⟨p, a1, a2, a3, a4⟩ := (h d List.mem_cons_self).ex
    obtain ⟨ps, b1, b2, b3, b4⟩ := sh_list fun e he => h e (List.mem_cons_of_mem _ he)
    refine ⟨p :: ps, by simp [PyData.showableAll, a1, b1], by simp [PyData.hasDictAll, a2, b2], by simp only [wids, List.length_cons]; omega, fun t => ?_⟩
    simp only [mapO, a4, b4]
theorem repr_lst {M : Mem} {ds : List D} (hl : ds.length ≤ 20) (h : ∀ d ∈ ds, Sh M d) : ∃ x, ∀ t, dRepr (.lst ds) (M ++ t) = .ok (.str x) (M ++ t) := by
  obtain ⟨ps, h1, h2, h3, h4⟩ := sh_list h
  refine ⟨PyData.shown (.list ps), fun t => ?_⟩
  have e : L3.py (M ++ t) 8 (.lst ds) = some (.list ps) := by
    show (mapO (L3.py (M ++ t) 7) ds).map PyData.list = _
    rw [h4]; rfl
  unfold dRepr
  rw [e]
  show (if okRepr (.list ps) = true then Res.ok (D.str (PyData.shown (.list ps))) (M ++ t) else .no) = _
  rw [if_pos (okRepr_of (by simpa only [PyData.showable] using h1) (by simpa only [PyData.hasDict] using h2) (by simp only [wid]; omega))]
theorem repr_lst0 {M : Mem} {ds : List D} (hl : ds.length ≤ 20) (h : ∀ d ∈ ds, Sh M d) : ∃ x, dRepr (.lst ds) M = .ok (.str x) M := by
  obtain ⟨x, hx⟩ := repr_lst hl h
  exact ⟨x, by simpa using hx []⟩
theorem d_addL {M : Mem} {x y : List D} (h : x.length + y.length ≤ 1000) : dAdd false (.lst x) (.lst y) M = .ok (.lst (x ++ y)) M := by
  show newL false (x ++ y) M = _
  unfold newL
  rw [if_pos (by rw [List.length_append]; exact Nat.le_trans h (by decide))]; rfl
/-- rows of things -/
theorem all_run {M : Mem} {rd : D} {rows ds : List D} {w : List (Nat × List D)} {k : Bool} {t : Nat} (hs : srcOf M rd = some (k, ⟨rows, w⟩)) (hw : ∀ c, watched w (M ++ [c]) = true) (hl : rows.length ≤ 1000) (ht : M[t]? = some (.lst ds)) (hd : ds.length = 4) (hsh : ∀ d ∈ ds, Sh M d)
    (hr : ∀ r ∈ rows, ∃ j, r = .lst (ds.take j)) : g__law_all [rd, .ref t] M = .ok (.bl true) M := by
  have st : start3 3 [rd, .ref t] = [some rd, some (.ref t), none] := rfl
  have lc : trimR (nfT TT) M (evLc (ivSeq (evVar 0)) [2] (cgName 2) t__law_all_1 (evVar 2) [some rd, some (.ref t), none] M) = .ok (.lst ((rows.filter fun _ => false).map id)) M := by
    refine lcT_run (p := fun _ => false) (f := id) (items := rows) (w := w) (by simp [hs]) hw hl (fun d hd' c => ?_) (fun d _ h => by cases h)
    obtain ⟨j, rfl⟩ := hr d hd'
    refine ⟨[some rd, some (.ref t), some (.lst (ds.take j))], rfl, ?_, fun h => by cases h⟩
    have h1 : (M ++ [c])[t]? = some (.lst ds) := by rw [List.getElem?_append_left (List.getElem?_eq_some_iff.mp ht).1]; exact ht
    obtain ⟨x, hx⟩ := repr_lst (M := M) (ds := ds.take j) (by rw [List.length_take]; omega) fun d hd2 => hsh d (List.mem_of_mem_take hd2)
    have sl : dSl false (.ref t) none (some ((ds.take j).length : Nat)) (M ++ [c]) = .ok (.lst (ds.take j)) (M ++ [c]) := by
      have e : listOf (M ++ [c]) (.ref t) = some ds := by
        show (match (M ++ [c])[t]? with
          | some (.lst ds) => some ds
          | _ => none) = _
        rw [h1]
      show (match listOf (M ++ [c]) (.ref t) with
        | some ds' => newL false (L3.cutD ds' none (some ((ds.take j).length : Nat))) (M ++ [c])
        | none => .no) = _
      rw [e]
      have ec : L3.cutD ds none (some ((ds.take j).length : Nat)) = ds.take j := by
        unfold L3.cutD
        rw [HT.sIx_nat, HT.sIx_none, List.drop_zero, Nat.sub_zero, List.length_take]
        rw [Nat.min_assoc, Nat.min_self, List.take_eq_take_iff]
        omega
      show newL false (L3.cutD ds none (some ((ds.take j).length : Nat))) (M ++ [c]) = _
      rw [ec]
      unfold newL
      rw [if_pos (by rw [List.length_take]; have : (4 : Nat) ≤ sizeLine := by decide
                     omega)]
      rfl
    have ln : dLen (.lst (ds.take j)) (M ++ [c]) = .ok (.int ((ds.take j).length : Nat)) (M ++ [c]) := rfl
    unfold t__law_all_1
    simp only [x_bE, x_2, x_A, x_cons, x_var, x_nil, List.getElem?_cons_succ, List.getElem?_cons_zero, Res.bind_ok, a1_x, hx, x_sl, x_ovN, x_ovS, ln, sl]
    simp [dNeS]
  have ee : ∀ M : Mem, dEqS (.lst []) (.lst []) M = .ok (.bl true) M := fun _ => rfl
  unfold g__law_all fnB s__law_all
  rw [st]
  have nofil : rows.filter (fun _ => false) = [] := List.filter_eq_nil_iff.mpr (by simp)
  rw [nofil, List.map_nil] at lc
  simp only [y_ret, x_2, x_trim, lc]
  simp [mkLst_at, ee]
/-- a comprehension over new objects: each turn gives the same row -/
theorem row_run {iv : IV} {i : Nat} {te : EV} {σ : St3} {M : Mem} {items : List D} {r : D} (hi : iv σ M = .ok ⟨items, []⟩ M) (hl : items.length ≤ 1000) (hb : ∀ d ∈ items, ∀ c, te ((wipe3 σ [i]).set i (some d)) (M ++ [c]) = .ok r (M ++ [c])) (low : Low M.length r) :
    trimR (nfT TT) M (evLc iv [i] (cgName i) bvYes te σ M) = .ok (.lst (items.map fun _ => r)) M := by
  have := lcT_run (nf := nfT TT) (p := fun _ => true) (f := fun _ => r) (g := cgName i) (tt := bvYes) (te := te) (vs := [i]) hi (fun _ => rfl) hl (fun d hd c => ⟨_, rfl, rfl, fun _ => hb d hd c⟩) fun _ _ _ => low
  rw [this, List.filter_eq_self.mpr (fun _ _ => rfl)]
end K77

set_option Elab.async false
set_option linter.all false
set_option maxRecDepth 100000
set_option maxHeartbeats 4000000
namespace K77
open PySem PySem.Spec PyProof.Rows L2 L3
theorem e__law_answers_1_run {M : Mem} {a b c : D} {t : Nat} {x4 x5 : Option D} (ha : Low M.length a) (hb : Low M.length b) (hc : Low M.length c) : trimR (nfT TT) M ((evLc (ivSeq (evA mkLst (avCons (evTrim (nfT TT) (evNewP 4 g_Recovered___init__ 3 [0, 1] 2 0 (avCons (evVar 0) (avCons (evVar 1) avNil)) avNil)) (avCons (evTrim (nfT TT) (evNewP 4 g_Recovered___init__ 3 [1, 0] 0 2 avNil (avCons (evVar 1) (avCons (evVar 0) avNil)))) avNil)))) [5] (cgName 5) bvYes e__law_answers_1) [some a, some b, some c, some (.ref t), x4, x5] M) = .ok (.lst [.lst [a, b], .lst [a, b]]) M := by
  refine row_run (items := [.obj 4 [a, b], .obj 4 [a, b]]) ?_ (by simp) ?_ (low_lst (by simp [ha, hb, hc]))
  · simp [pick, n_Recovered ha hb, mkLst_at, srcOf]
  · intro d hd c
    simp at hd
    subst hd
    simp [wipe3, e__law_answers_1, mkLst_at]
theorem e__law_answers_2_run {M : Mem} {a b c : D} {t : Nat} {x4 x5 : Option D} (ha : Low M.length a) (hb : Low M.length b) (hc : Low M.length c) : trimR (nfT TT) M ((evLc (ivSeq (evA mkLst (avCons (evTrim (nfT TT) (evNewP 7 g_Parted___init__ 3 [0, 1] 2 0 (avCons (evVar 0) (avCons (evVar 1) avNil)) avNil)) (avCons (evTrim (nfT TT) (evNewP 7 g_Parted___init__ 3 [1, 0] 0 2 avNil (avCons (evVar 1) (avCons (evVar 0) avNil)))) avNil)))) [5] (cgName 5) bvYes e__law_answers_2) [some a, some b, some c, some (.ref t), x4, x5] M) = .ok (.lst [.lst [a, b], .lst [a, b]]) M := by
  refine row_run (items := [.obj 7 [a, b], .obj 7 [a, b]]) ?_ (by simp) ?_ (low_lst (by simp [ha, hb, hc]))
  · simp [pick, n_Parted ha hb, mkLst_at, srcOf]
  · intro d hd c
    simp at hd
    subst hd
    simp [wipe3, e__law_answers_2, mkLst_at]
theorem e__law_answers_3_run {M : Mem} {a b c : D} {t : Nat} {x4 x5 : Option D} (ha : Low M.length a) (hb : Low M.length b) (hc : Low M.length c) : trimR (nfT TT) M ((evLc (ivSeq (evA mkLst (avCons (evTrim (nfT TT) (evNewP 30 g_Whole___init__ 4 [0, 1, 2] 3 0 (avCons (evVar 0) (avCons (evVar 1) (avCons (evVar 2) avNil))) avNil)) (avCons (evTrim (nfT TT) (evNewP 30 g_Whole___init__ 4 [2, 1, 0] 0 3 avNil (avCons (evVar 2) (avCons (evVar 1) (avCons (evVar 0) avNil))))) avNil)))) [5] (cgName 5) bvYes e__law_answers_3) [some a, some b, some c, some (.ref t), x4, x5] M) = .ok (.lst [.lst [a, b, c], .lst [a, b, c]]) M := by
  refine row_run (items := [.obj 30 [a, b, c], .obj 30 [a, b, c]]) ?_ (by simp) ?_ (low_lst (by simp [ha, hb, hc]))
  · simp [pick, n_Whole ha hb hc, mkLst_at, srcOf]
  · intro d hd c
    simp at hd
    subst hd
    simp [wipe3, e__law_answers_3, mkLst_at]
theorem e__law_answers_4_run {M : Mem} {a b c : D} {t : Nat} {x4 x5 : Option D} (ha : Low M.length a) (hb : Low M.length b) (hc : Low M.length c) : trimR (nfT TT) M ((evLc (ivSeq (evA mkLst (avCons (evTrim (nfT TT) (evNewP 24 g_Meeting___init__ 4 [0, 1, 2] 3 0 (avCons (evVar 0) (avCons (evVar 1) (avCons (evVar 2) avNil))) avNil)) (avCons (evTrim (nfT TT) (evNewP 24 g_Meeting___init__ 4 [2, 1, 0] 0 3 avNil (avCons (evVar 2) (avCons (evVar 1) (avCons (evVar 0) avNil))))) avNil)))) [5] (cgName 5) bvYes e__law_answers_4) [some a, some b, some c, some (.ref t), x4, x5] M) = .ok (.lst [.lst [a, b, c], .lst [a, b, c]]) M := by
  refine row_run (items := [.obj 24 [a, b, c], .obj 24 [a, b, c]]) ?_ (by simp) ?_ (low_lst (by simp [ha, hb, hc]))
  · simp [pick, n_Meeting ha hb hc, mkLst_at, srcOf]
  · intro d hd c
    simp at hd
    subst hd
    simp [wipe3, e__law_answers_4, mkLst_at]
theorem e__law_answers_5_run {M : Mem} {a b c : D} {t : Nat} {x4 x5 : Option D} (ha : Low M.length a) (hb : Low M.length b) (hc : Low M.length c) : trimR (nfT TT) M ((evLc (ivSeq (evA mkLst (avCons (evTrim (nfT TT) (evNewP 28 g_Fewest___init__ 3 [0, 1] 2 0 (avCons (evVar 0) (avCons (evVar 1) avNil)) avNil)) (avCons (evTrim (nfT TT) (evNewP 28 g_Fewest___init__ 3 [1, 0] 0 2 avNil (avCons (evVar 1) (avCons (evVar 0) avNil)))) avNil)))) [5] (cgName 5) bvYes e__law_answers_5) [some a, some b, some c, some (.ref t), x4, x5] M) = .ok (.lst [.lst [a, b], .lst [a, b]]) M := by
  refine row_run (items := [.obj 28 [a, b], .obj 28 [a, b]]) ?_ (by simp) ?_ (low_lst (by simp [ha, hb, hc]))
  · simp [pick, n_Fewest ha hb, mkLst_at, srcOf]
  · intro d hd c
    simp at hd
    subst hd
    simp [wipe3, e__law_answers_5, mkLst_at]
theorem e__law_answers_6_run {M : Mem} {a b c : D} {t : Nat} {x4 x5 : Option D} (ha : Low M.length a) (hb : Low M.length b) (hc : Low M.length c) : trimR (nfT TT) M ((evLc (ivSeq (evA mkLst (avCons (evTrim (nfT TT) (evNewP 29 g_Dependent___init__ 3 [0, 1] 2 0 (avCons (evVar 0) (avCons (evVar 1) avNil)) avNil)) (avCons (evTrim (nfT TT) (evNewP 29 g_Dependent___init__ 3 [1, 0] 0 2 avNil (avCons (evVar 1) (avCons (evVar 0) avNil)))) avNil)))) [5] (cgName 5) bvYes e__law_answers_6) [some a, some b, some c, some (.ref t), x4, x5] M) = .ok (.lst [.lst [a, b], .lst [a, b]]) M := by
  refine row_run (items := [.obj 29 [a, b], .obj 29 [a, b]]) ?_ (by simp) ?_ (low_lst (by simp [ha, hb, hc]))
  · simp [pick, n_Dependent ha hb, mkLst_at, srcOf]
  · intro d hd c
    simp at hd
    subst hd
    simp [wipe3, e__law_answers_6, mkLst_at]
theorem e__law_groups_1_run {M : Mem} {a b c d : D} {t : Nat} {x5 x6 : Option D} (ha : Low M.length a) (hb : Low M.length b) (hc : Low M.length c) (hd : Low M.length d) : trimR (nfT TT) M ((evLc (ivSeq (evA mkLst (avCons (evTrim (nfT TT) (evNewP 15 g_Piece___init__ 4 [0, 1, 2] 3 0 (avCons (evVar 0) (avCons (evVar 1) (avCons (evVar 2) avNil))) avNil)) (avCons (evTrim (nfT TT) (evNewP 15 g_Piece___init__ 4 [2, 1, 0] 0 3 avNil (avCons (evVar 2) (avCons (evVar 1) (avCons (evVar 0) avNil))))) avNil)))) [6] (cgName 6) bvYes e__law_groups_1) [some a, some b, some c, some d, some (.ref t), x5, x6] M) = .ok (.lst [.lst [a, b, c], .lst [a, b, c]]) M := by
  refine row_run (items := [.obj 15 [a, b, c], .obj 15 [a, b, c]]) ?_ (by simp) ?_ (low_lst (by simp [ha, hb, hc, hd]))
  · simp [pick, n_Piece ha hb hc, mkLst_at, srcOf]
  · intro d hd c
    simp at hd
    subst hd
    simp [wipe3, e__law_groups_1, mkLst_at]
theorem e__law_groups_2_run {M : Mem} {a b c d : D} {t : Nat} {x5 x6 : Option D} (ha : Low M.length a) (hb : Low M.length b) (hc : Low M.length c) (hd : Low M.length d) : trimR (nfT TT) M ((evLc (ivSeq (evA mkLst (avCons (evTrim (nfT TT) (evNewP 16 g_Walk___init__ 3 [0, 1] 2 0 (avCons (evVar 0) (avCons (evVar 1) avNil)) avNil)) (avCons (evTrim (nfT TT) (evNewP 16 g_Walk___init__ 3 [1, 0] 0 2 avNil (avCons (evVar 1) (avCons (evVar 0) avNil)))) avNil)))) [6] (cgName 6) bvYes e__law_groups_2) [some a, some b, some c, some d, some (.ref t), x5, x6] M) = .ok (.lst [.lst [a, b], .lst [a, b]]) M := by
  refine row_run (items := [.obj 16 [a, b], .obj 16 [a, b]]) ?_ (by simp) ?_ (low_lst (by simp [ha, hb, hc, hd]))
  · simp [pick, n_Walk ha hb, mkLst_at, srcOf]
  · intro d hd c
    simp at hd
    subst hd
    simp [wipe3, e__law_groups_2, mkLst_at]
theorem e__law_groups_3_run {M : Mem} {a b c d : D} {t : Nat} {x5 x6 : Option D} (ha : Low M.length a) (hb : Low M.length b) (hc : Low M.length c) (hd : Low M.length d) : trimR (nfT TT) M ((evLc (ivSeq (evA mkLst (avCons (evTrim (nfT TT) (evNewP 37 g_Taken___init__ 4 [0, 1, 2] 3 0 (avCons (evVar 0) (avCons (evVar 1) (avCons (evVar 2) avNil))) avNil)) (avCons (evTrim (nfT TT) (evNewP 37 g_Taken___init__ 4 [2, 1, 0] 0 3 avNil (avCons (evVar 2) (avCons (evVar 1) (avCons (evVar 0) avNil))))) avNil)))) [6] (cgName 6) bvYes e__law_groups_3) [some a, some b, some c, some d, some (.ref t), x5, x6] M) = .ok (.lst [.lst [a, b, c], .lst [a, b, c]]) M := by
  refine row_run (items := [.obj 37 [a, b, c], .obj 37 [a, b, c]]) ?_ (by simp) ?_ (low_lst (by simp [ha, hb, hc, hd]))
  · simp [pick, n_Taken ha hb hc, mkLst_at, srcOf]
  · intro d hd c
    simp at hd
    subst hd
    simp [wipe3, e__law_groups_3, mkLst_at]
theorem e__law_groups_4_run {M : Mem} {a b c d : D} {t : Nat} {x5 x6 : Option D} (ha : Low M.length a) (hb : Low M.length b) (hc : Low M.length c) (hd : Low M.length d) : trimR (nfT TT) M ((evLc (ivSeq (evA mkLst (avCons (evTrim (nfT TT) (evNewP 38 g_Solved___init__ 3 [0, 1] 2 0 (avCons (evVar 0) (avCons (evVar 1) avNil)) avNil)) (avCons (evTrim (nfT TT) (evNewP 38 g_Solved___init__ 3 [1, 0] 0 2 avNil (avCons (evVar 1) (avCons (evVar 0) avNil)))) avNil)))) [6] (cgName 6) bvYes e__law_groups_4) [some a, some b, some c, some d, some (.ref t), x5, x6] M) = .ok (.lst [.lst [a, b], .lst [a, b]]) M := by
  refine row_run (items := [.obj 38 [a, b], .obj 38 [a, b]]) ?_ (by simp) ?_ (low_lst (by simp [ha, hb, hc, hd]))
  · simp [pick, n_Solved ha hb, mkLst_at, srcOf]
  · intro d hd c
    simp at hd
    subst hd
    simp [wipe3, e__law_groups_4, mkLst_at]
theorem e__law_groups_5_run {M : Mem} {a b c d : D} {t : Nat} {x5 x6 : Option D} (ha : Low M.length a) (hb : Low M.length b) (hc : Low M.length c) (hd : Low M.length d) : trimR (nfT TT) M ((evLc (ivSeq (evA mkLst (avCons (evTrim (nfT TT) (evNewP 39 g_Ladder___init__ 5 [0, 1, 2, 3] 4 0 (avCons (evVar 0) (avCons (evVar 1) (avCons (evVar 2) (avCons (evVar 3) avNil)))) avNil)) (avCons (evTrim (nfT TT) (evNewP 39 g_Ladder___init__ 5 [3, 2, 1, 0] 0 4 avNil (avCons (evVar 3) (avCons (evVar 2) (avCons (evVar 1) (avCons (evVar 0) avNil)))))) avNil)))) [6] (cgName 6) bvYes e__law_groups_5) [some a, some b, some c, some d, some (.ref t), x5, x6] M) = .ok (.lst [.lst [a, b, c, d], .lst [a, b, c, d]]) M := by
  refine row_run (items := [.obj 39 [a, b, c, d], .obj 39 [a, b, c, d]]) ?_ (by simp) ?_ (low_lst (by simp [ha, hb, hc, hd]))
  · simp [pick, n_Ladder ha hb hc hd, mkLst_at, srcOf]
  · intro d hd c
    simp at hd
    subst hd
    simp [wipe3, e__law_groups_5, mkLst_at]
theorem e__law_groups_6_run {M : Mem} {a b c d : D} {t : Nat} {x5 x6 : Option D} (ha : Low M.length a) (hb : Low M.length b) (hc : Low M.length c) (hd : Low M.length d) : trimR (nfT TT) M ((evLc (ivSeq (evA mkLst (avCons (evTrim (nfT TT) (evNewP 2 g_Core___init__ 3 [0, 1] 2 0 (avCons (evVar 0) (avCons (evVar 1) avNil)) avNil)) (avCons (evTrim (nfT TT) (evNewP 2 g_Core___init__ 3 [1, 0] 0 2 avNil (avCons (evVar 1) (avCons (evVar 0) avNil)))) avNil)))) [6] (cgName 6) bvYes e__law_groups_6) [some a, some b, some c, some d, some (.ref t), x5, x6] M) = .ok (.lst [.lst [a, b], .lst [a, b]]) M := by
  refine row_run (items := [.obj 2 [a, b], .obj 2 [a, b]]) ?_ (by simp) ?_ (low_lst (by simp [ha, hb, hc, hd]))
  · simp [pick, n_Core ha hb, mkLst_at, srcOf]
  · intro d hd c
    simp at hd
    subst hd
    simp [wipe3, e__law_groups_6, mkLst_at]
theorem e__law_bounds_3_run {M : Mem} {a b c d : D} {t : Nat} {x5 x6 x7 : Option D} (ha : Low M.length a) (hb : Low M.length b) (hc : Low M.length c) (hd : Low M.length d) : trimR (nfT TT) M ((evLc (ivSeq (evA mkLst (avCons (evTrim (nfT TT) (evNewP 20 g_Run___init__ 5 [0, 1, 2, 3] 4 0 (avCons (evVar 0) (avCons (evVar 1) (avCons (evVar 2) (avCons (evVar 3) avNil)))) avNil)) (avCons (evTrim (nfT TT) (evNewP 20 g_Run___init__ 5 [3, 2, 1, 0] 0 4 avNil (avCons (evVar 3) (avCons (evVar 2) (avCons (evVar 1) (avCons (evVar 0) avNil)))))) avNil)))) [6] (cgName 6) bvYes e__law_bounds_3) [some a, some b, some c, some d, some (.ref t), x5, x6, x7] M) = .ok (.lst [.lst [a, b, c, d], .lst [a, b, c, d]]) M := by
  refine row_run (items := [.obj 20 [a, b, c, d], .obj 20 [a, b, c, d]]) ?_ (by simp) ?_ (low_lst (by simp [ha, hb, hc, hd]))
  · simp [pick, n_Run ha hb hc hd, mkLst_at, srcOf]
  · intro d hd c
    simp at hd
    subst hd
    simp [wipe3, e__law_bounds_3, mkLst_at]
theorem e__law_bounds_4_run {M : Mem} {a b c d : D} {t : Nat} {x5 x6 x7 : Option D} (ha : Low M.length a) (hb : Low M.length b) (hc : Low M.length c) (hd : Low M.length d) : trimR (nfT TT) M ((evLc (ivSeq (evA mkLst (avCons (evTrim (nfT TT) (evNewP 21 g_RunTable___init__ 3 [0, 1] 2 0 (avCons (evVar 0) (avCons (evVar 1) avNil)) avNil)) (avCons (evTrim (nfT TT) (evNewP 21 g_RunTable___init__ 3 [1, 0] 0 2 avNil (avCons (evVar 1) (avCons (evVar 0) avNil)))) avNil)))) [6] (cgName 6) bvYes e__law_bounds_4) [some a, some b, some c, some d, some (.ref t), x5, x6, x7] M) = .ok (.lst [.lst [a, b], .lst [a, b]]) M := by
  refine row_run (items := [.obj 21 [a, b], .obj 21 [a, b]]) ?_ (by simp) ?_ (low_lst (by simp [ha, hb, hc, hd]))
  · simp [pick, n_RunTable ha hb, mkLst_at, srcOf]
  · intro d hd c
    simp at hd
    subst hd
    simp [wipe3, e__law_bounds_4, mkLst_at]
theorem e__law_bounds_5_run {M : Mem} {a b c d : D} {t : Nat} {x5 x6 x7 : Option D} (ha : Low M.length a) (hb : Low M.length b) (hc : Low M.length c) (hd : Low M.length d) : trimR (nfT TT) M ((evLc (ivSeq (evA mkLst (avCons (evTrim (nfT TT) (evNewP 34 g_Parts___init__ 3 [0, 1] 2 0 (avCons (evVar 0) (avCons (evVar 1) avNil)) avNil)) (avCons (evTrim (nfT TT) (evNewP 34 g_Parts___init__ 3 [1, 0] 0 2 avNil (avCons (evVar 1) (avCons (evVar 0) avNil)))) avNil)))) [6] (cgName 6) bvYes e__law_bounds_5) [some a, some b, some c, some d, some (.ref t), x5, x6, x7] M) = .ok (.lst [.lst [a, b], .lst [a, b]]) M := by
  refine row_run (items := [.obj 34 [a, b], .obj 34 [a, b]]) ?_ (by simp) ?_ (low_lst (by simp [ha, hb, hc, hd]))
  · simp [pick, n_Parts ha hb, mkLst_at, srcOf]
  · intro d hd c
    simp at hd
    subst hd
    simp [wipe3, e__law_bounds_5, mkLst_at]
theorem e__law_plans_1_run {M : Mem} {a b c d : D} {t : Nat} {x5 x6 : Option D} (ha : Low M.length a) (hb : Low M.length b) (hc : Low M.length c) (hd : Low M.length d) : trimR (nfT TT) M ((evLc (ivSeq (evA mkLst (avCons (evTrim (nfT TT) (evNewP 17 g_FewestGroups___init__ 4 [0, 1, 2] 3 0 (avCons (evVar 0) (avCons (evVar 1) (avCons (evVar 2) avNil))) avNil)) (avCons (evTrim (nfT TT) (evNewP 17 g_FewestGroups___init__ 4 [2, 1, 0] 0 3 avNil (avCons (evVar 2) (avCons (evVar 1) (avCons (evVar 0) avNil))))) avNil)))) [6] (cgName 6) bvYes e__law_plans_1) [some a, some b, some c, some d, some (.ref t), x5, x6] M) = .ok (.lst [.lst [a, b, c], .lst [a, b, c]]) M := by
  refine row_run (items := [.obj 17 [a, b, c], .obj 17 [a, b, c]]) ?_ (by simp) ?_ (low_lst (by simp [ha, hb, hc, hd]))
  · simp [pick, n_FewestGroups ha hb hc, mkLst_at, srcOf]
  · intro d hd c
    simp at hd
    subst hd
    simp [wipe3, e__law_plans_1, mkLst_at]
theorem e__law_plans_2_run {M : Mem} {a b c d : D} {t : Nat} {x5 x6 : Option D} (ha : Low M.length a) (hb : Low M.length b) (hc : Low M.length c) (hd : Low M.length d) : trimR (nfT TT) M ((evLc (ivSeq (evA mkLst (avCons (evTrim (nfT TT) (evNewP 18 g_SideLot___init__ 4 [0, 1, 2] 3 0 (avCons (evVar 0) (avCons (evVar 1) (avCons (evVar 2) avNil))) avNil)) (avCons (evTrim (nfT TT) (evNewP 18 g_SideLot___init__ 4 [2, 1, 0] 0 3 avNil (avCons (evVar 2) (avCons (evVar 1) (avCons (evVar 0) avNil))))) avNil)))) [6] (cgName 6) bvYes e__law_plans_2) [some a, some b, some c, some d, some (.ref t), x5, x6] M) = .ok (.lst [.lst [a, b, c], .lst [a, b, c]]) M := by
  refine row_run (items := [.obj 18 [a, b, c], .obj 18 [a, b, c]]) ?_ (by simp) ?_ (low_lst (by simp [ha, hb, hc, hd]))
  · simp [pick, n_SideLot ha hb hc, mkLst_at, srcOf]
  · intro d hd c
    simp at hd
    subst hd
    simp [wipe3, e__law_plans_2, mkLst_at]
theorem e__law_plans_3_run {M : Mem} {a b c d : D} {t : Nat} {x5 x6 : Option D} (ha : Low M.length a) (hb : Low M.length b) (hc : Low M.length c) (hd : Low M.length d) : trimR (nfT TT) M ((evLc (ivSeq (evA mkLst (avCons (evTrim (nfT TT) (evNewP 19 g_WebCore___init__ 3 [0, 1] 2 0 (avCons (evVar 0) (avCons (evVar 1) avNil)) avNil)) (avCons (evTrim (nfT TT) (evNewP 19 g_WebCore___init__ 3 [1, 0] 0 2 avNil (avCons (evVar 1) (avCons (evVar 0) avNil)))) avNil)))) [6] (cgName 6) bvYes e__law_plans_3) [some a, some b, some c, some d, some (.ref t), x5, x6] M) = .ok (.lst [.lst [a, b], .lst [a, b]]) M := by
  refine row_run (items := [.obj 19 [a, b], .obj 19 [a, b]]) ?_ (by simp) ?_ (low_lst (by simp [ha, hb, hc, hd]))
  · simp [pick, n_WebCore ha hb, mkLst_at, srcOf]
  · intro d hd c
    simp at hd
    subst hd
    simp [wipe3, e__law_plans_3, mkLst_at]
theorem e__law_plans_4_run {M : Mem} {a b c d : D} {t : Nat} {x5 x6 : Option D} (ha : Low M.length a) (hb : Low M.length b) (hc : Low M.length c) (hd : Low M.length d) : trimR (nfT TT) M ((evLc (ivSeq (evA mkLst (avCons (evTrim (nfT TT) (evNewP 36 g_SideBounds___init__ 5 [0, 1, 2, 3] 4 0 (avCons (evVar 0) (avCons (evVar 1) (avCons (evVar 2) (avCons (evVar 3) avNil)))) avNil)) (avCons (evTrim (nfT TT) (evNewP 36 g_SideBounds___init__ 5 [3, 2, 1, 0] 0 4 avNil (avCons (evVar 3) (avCons (evVar 2) (avCons (evVar 1) (avCons (evVar 0) avNil)))))) avNil)))) [6] (cgName 6) bvYes e__law_plans_4) [some a, some b, some c, some d, some (.ref t), x5, x6] M) = .ok (.lst [.lst [a, b, c, d], .lst [a, b, c, d]]) M := by
  refine row_run (items := [.obj 36 [a, b, c, d], .obj 36 [a, b, c, d]]) ?_ (by simp) ?_ (low_lst (by simp [ha, hb, hc, hd]))
  · simp [pick, n_SideBounds ha hb hc hd, mkLst_at, srcOf]
  · intro d hd c
    simp at hd
    subst hd
    simp [wipe3, e__law_plans_4, mkLst_at]
theorem e__law_plans_5_run {M : Mem} {a b c d : D} {t : Nat} {x5 x6 : Option D} (ha : Low M.length a) (hb : Low M.length b) (hc : Low M.length c) (hd : Low M.length d) : trimR (nfT TT) M ((evLc (ivSeq (evA mkLst (avCons (evTrim (nfT TT) (evNewP 11 g_Played___init__ 3 [0, 1] 2 0 (avCons (evVar 0) (avCons (evVar 1) avNil)) avNil)) (avCons (evTrim (nfT TT) (evNewP 11 g_Played___init__ 3 [1, 0] 0 2 avNil (avCons (evVar 1) (avCons (evVar 0) avNil)))) avNil)))) [6] (cgName 6) bvYes e__law_plans_5) [some a, some b, some c, some d, some (.ref t), x5, x6] M) = .ok (.lst [.lst [a, b], .lst [a, b]]) M := by
  refine row_run (items := [.obj 11 [a, b], .obj 11 [a, b]]) ?_ (by simp) ?_ (low_lst (by simp [ha, hb, hc, hd]))
  · simp [pick, n_Played ha hb, mkLst_at, srcOf]
  · intro d hd c
    simp at hd
    subst hd
    simp [wipe3, e__law_plans_5, mkLst_at]
theorem e__law_plans_6_run {M : Mem} {a b c d : D} {t : Nat} {x5 x6 : Option D} (ha : Low M.length a) (hb : Low M.length b) (hc : Low M.length c) (hd : Low M.length d) : trimR (nfT TT) M ((evLc (ivSeq (evA mkLst (avCons (evTrim (nfT TT) (evNewP 12 g_Come___init__ 4 [0, 1, 2] 3 0 (avCons (evVar 0) (avCons (evVar 1) (avCons (evVar 2) avNil))) avNil)) (avCons (evTrim (nfT TT) (evNewP 12 g_Come___init__ 4 [2, 1, 0] 0 3 avNil (avCons (evVar 2) (avCons (evVar 1) (avCons (evVar 0) avNil))))) avNil)))) [6] (cgName 6) bvYes e__law_plans_6) [some a, some b, some c, some d, some (.ref t), x5, x6] M) = .ok (.lst [.lst [a, b, c], .lst [a, b, c]]) M := by
  refine row_run (items := [.obj 12 [a, b, c], .obj 12 [a, b, c]]) ?_ (by simp) ?_ (low_lst (by simp [ha, hb, hc, hd]))
  · simp [pick, n_Come ha hb hc, mkLst_at, srcOf]
  · intro d hd c
    simp at hd
    subst hd
    simp [wipe3, e__law_plans_6, mkLst_at]
theorem e__law_plans_7_run {M : Mem} {a b c d : D} {t : Nat} {x5 x6 : Option D} (ha : Low M.length a) (hb : Low M.length b) (hc : Low M.length c) (hd : Low M.length d) : trimR (nfT TT) M ((evLc (ivSeq (evA mkLst (avCons (evTrim (nfT TT) (evNewP 13 g_Never___init__ 4 [0, 1, 2] 3 0 (avCons (evVar 0) (avCons (evVar 1) (avCons (evVar 2) avNil))) avNil)) (avCons (evTrim (nfT TT) (evNewP 13 g_Never___init__ 4 [2, 1, 0] 0 3 avNil (avCons (evVar 2) (avCons (evVar 1) (avCons (evVar 0) avNil))))) avNil)))) [6] (cgName 6) bvYes e__law_plans_7) [some a, some b, some c, some d, some (.ref t), x5, x6] M) = .ok (.lst [.lst [a, b, c], .lst [a, b, c]]) M := by
  refine row_run (items := [.obj 13 [a, b, c], .obj 13 [a, b, c]]) ?_ (by simp) ?_ (low_lst (by simp [ha, hb, hc, hd]))
  · simp [pick, n_Never ha hb hc, mkLst_at, srcOf]
  · intro d hd c
    simp at hd
    subst hd
    simp [wipe3, e__law_plans_7, mkLst_at]
theorem e__law_plans_8_run {M : Mem} {a b c d : D} {t : Nat} {x5 x6 : Option D} (ha : Low M.length a) (hb : Low M.length b) (hc : Low M.length c) (hd : Low M.length d) : trimR (nfT TT) M ((evLc (ivSeq (evA mkLst (avCons (evTrim (nfT TT) (evNewP 14 g_Untold___init__ 4 [0, 1, 2] 3 0 (avCons (evVar 0) (avCons (evVar 1) (avCons (evVar 2) avNil))) avNil)) (avCons (evTrim (nfT TT) (evNewP 14 g_Untold___init__ 4 [2, 1, 0] 0 3 avNil (avCons (evVar 2) (avCons (evVar 1) (avCons (evVar 0) avNil))))) avNil)))) [6] (cgName 6) bvYes e__law_plans_8) [some a, some b, some c, some d, some (.ref t), x5, x6] M) = .ok (.lst [.lst [a, b, c], .lst [a, b, c]]) M := by
  refine row_run (items := [.obj 14 [a, b, c], .obj 14 [a, b, c]]) ?_ (by simp) ?_ (low_lst (by simp [ha, hb, hc, hd]))
  · simp [pick, n_Untold ha hb hc, mkLst_at, srcOf]
  · intro d hd c
    simp at hd
    subst hd
    simp [wipe3, e__law_plans_8, mkLst_at]
theorem e__law_plans_9_run {M : Mem} {a b c d : D} {t : Nat} {x5 x6 : Option D} (ha : Low M.length a) (hb : Low M.length b) (hc : Low M.length c) (hd : Low M.length d) : trimR (nfT TT) M ((evLc (ivSeq (evA mkLst (avCons (evTrim (nfT TT) (evNewP 25 g_Lost___init__ 3 [0, 1] 2 0 (avCons (evVar 0) (avCons (evVar 1) avNil)) avNil)) (avCons (evTrim (nfT TT) (evNewP 25 g_Lost___init__ 3 [1, 0] 0 2 avNil (avCons (evVar 1) (avCons (evVar 0) avNil)))) avNil)))) [6] (cgName 6) bvYes e__law_plans_9) [some a, some b, some c, some d, some (.ref t), x5, x6] M) = .ok (.lst [.lst [a, b], .lst [a, b]]) M := by
  refine row_run (items := [.obj 25 [a, b], .obj 25 [a, b]]) ?_ (by simp) ?_ (low_lst (by simp [ha, hb, hc, hd]))
  · simp [pick, n_Lost ha hb, mkLst_at, srcOf]
  · intro d hd c
    simp at hd
    subst hd
    simp [wipe3, e__law_plans_9, mkLst_at]
theorem e__law_plans_10_run {M : Mem} {a b c d : D} {t : Nat} {x5 x6 : Option D} (ha : Low M.length a) (hb : Low M.length b) (hc : Low M.length c) (hd : Low M.length d) : trimR (nfT TT) M ((evLc (ivSeq (evA mkLst (avCons (evTrim (nfT TT) (evNewP 26 g_Mended___init__ 4 [0, 1, 2] 3 0 (avCons (evVar 0) (avCons (evVar 1) (avCons (evVar 2) avNil))) avNil)) (avCons (evTrim (nfT TT) (evNewP 26 g_Mended___init__ 4 [2, 1, 0] 0 3 avNil (avCons (evVar 2) (avCons (evVar 1) (avCons (evVar 0) avNil))))) avNil)))) [6] (cgName 6) bvYes e__law_plans_10) [some a, some b, some c, some d, some (.ref t), x5, x6] M) = .ok (.lst [.lst [a, b, c], .lst [a, b, c]]) M := by
  refine row_run (items := [.obj 26 [a, b, c], .obj 26 [a, b, c]]) ?_ (by simp) ?_ (low_lst (by simp [ha, hb, hc, hd]))
  · simp [pick, n_Mended ha hb hc, mkLst_at, srcOf]
  · intro d hd c
    simp at hd
    subst hd
    simp [wipe3, e__law_plans_10, mkLst_at]
theorem e__law_plans_11_run {M : Mem} {a b c d : D} {t : Nat} {x5 x6 : Option D} (ha : Low M.length a) (hb : Low M.length b) (hc : Low M.length c) (hd : Low M.length d) : trimR (nfT TT) M ((evLc (ivSeq (evA mkLst (avCons (evTrim (nfT TT) (evNewP 41 g_Unseen___init__ 3 [0, 1] 2 0 (avCons (evVar 0) (avCons (evVar 1) avNil)) avNil)) (avCons (evTrim (nfT TT) (evNewP 41 g_Unseen___init__ 3 [1, 0] 0 2 avNil (avCons (evVar 1) (avCons (evVar 0) avNil)))) avNil)))) [6] (cgName 6) bvYes e__law_plans_11) [some a, some b, some c, some d, some (.ref t), x5, x6] M) = .ok (.lst [.lst [a, b], .lst [a, b]]) M := by
  refine row_run (items := [.obj 41 [a, b], .obj 41 [a, b]]) ?_ (by simp) ?_ (low_lst (by simp [ha, hb, hc, hd]))
  · simp [pick, n_Unseen ha hb, mkLst_at, srcOf]
  · intro d hd c
    simp at hd
    subst hd
    simp [wipe3, e__law_plans_11, mkLst_at]
theorem e__law_plans_12_run {M : Mem} {a b c d : D} {t : Nat} {x5 x6 : Option D} (ha : Low M.length a) (hb : Low M.length b) (hc : Low M.length c) (hd : Low M.length d) : trimR (nfT TT) M ((evLc (ivSeq (evA mkLst (avCons (evTrim (nfT TT) (evNewP 42 g_Filled___init__ 3 [0, 1] 2 0 (avCons (evVar 0) (avCons (evVar 1) avNil)) avNil)) (avCons (evTrim (nfT TT) (evNewP 42 g_Filled___init__ 3 [1, 0] 0 2 avNil (avCons (evVar 1) (avCons (evVar 0) avNil)))) avNil)))) [6] (cgName 6) bvYes e__law_plans_12) [some a, some b, some c, some d, some (.ref t), x5, x6] M) = .ok (.lst [.lst [a, b], .lst [a, b]]) M := by
  refine row_run (items := [.obj 42 [a, b], .obj 42 [a, b]]) ?_ (by simp) ?_ (low_lst (by simp [ha, hb, hc, hd]))
  · simp [pick, n_Filled ha hb, mkLst_at, srcOf]
  · intro d hd c
    simp at hd
    subst hd
    simp [wipe3, e__law_plans_12, mkLst_at]
theorem e__law_plans_13_run {M : Mem} {a b c d : D} {t : Nat} {x5 x6 : Option D} (ha : Low M.length a) (hb : Low M.length b) (hc : Low M.length c) (hd : Low M.length d) : trimR (nfT TT) M ((evLc (ivSeq (evA mkLst (avCons (evTrim (nfT TT) (evNewP 43 g_Twice___init__ 3 [0, 1] 2 0 (avCons (evVar 0) (avCons (evVar 1) avNil)) avNil)) (avCons (evTrim (nfT TT) (evNewP 43 g_Twice___init__ 3 [1, 0] 0 2 avNil (avCons (evVar 1) (avCons (evVar 0) avNil)))) avNil)))) [6] (cgName 6) bvYes e__law_plans_13) [some a, some b, some c, some d, some (.ref t), x5, x6] M) = .ok (.lst [.lst [a, b], .lst [a, b]]) M := by
  refine row_run (items := [.obj 43 [a, b], .obj 43 [a, b]]) ?_ (by simp) ?_ (low_lst (by simp [ha, hb, hc, hd]))
  · simp [pick, n_Twice ha hb, mkLst_at, srcOf]
  · intro d hd c
    simp at hd
    subst hd
    simp [wipe3, e__law_plans_13, mkLst_at]
theorem e__law_plans_14_run {M : Mem} {a b c d : D} {t : Nat} {x5 x6 : Option D} (ha : Low M.length a) (hb : Low M.length b) (hc : Low M.length c) (hd : Low M.length d) : trimR (nfT TT) M ((evLc (ivSeq (evA mkLst (avCons (evTrim (nfT TT) (evNewP 44 g_Explained___init__ 3 [0, 1] 2 0 (avCons (evVar 0) (avCons (evVar 1) avNil)) avNil)) (avCons (evTrim (nfT TT) (evNewP 44 g_Explained___init__ 3 [1, 0] 0 2 avNil (avCons (evVar 1) (avCons (evVar 0) avNil)))) avNil)))) [6] (cgName 6) bvYes e__law_plans_14) [some a, some b, some c, some d, some (.ref t), x5, x6] M) = .ok (.lst [.lst [a, b], .lst [a, b]]) M := by
  refine row_run (items := [.obj 44 [a, b], .obj 44 [a, b]]) ?_ (by simp) ?_ (low_lst (by simp [ha, hb, hc, hd]))
  · simp [pick, n_Explained ha hb, mkLst_at, srcOf]
  · intro d hd c
    simp at hd
    subst hd
    simp [wipe3, e__law_plans_14, mkLst_at]
end K77

set_option Elab.async false
set_option linter.all false
set_option maxRecDepth 100000
set_option maxHeartbeats 4000000
namespace K77
open PySem PySem.Spec PyProof.Rows L2 L3
theorem all_lst {M : Mem} {rows ds : List D} {t : Nat} (ht : M[t]? = some (.lst ds)) (hd : ds.length = 4) (hsh : ∀ d ∈ ds, Sh M d) (hl : rows.length ≤ 1000) (hr : ∀ r ∈ rows, ∃ j, r = .lst (ds.take j)) : g__law_all [.lst rows, .ref t] M = .ok (.bl true) M :=
  all_run (k := false) (w := []) rfl (fun _ => rfl) hl ht hd hsh hr
theorem trim_bl {nf : Nat → Nat} {M : Mem} {b : Bool} : trimR nf M (.ok (.bl b) M) = .ok (.bl b) M := trim_same low_bl
theorem answers_run {M : Mem} {a b c d : D} {t : Nat} (ha : Sh M a) (hb : Sh M b) (hc : Sh M c) (hd : Sh M d) (ht : M[t]? = some (.lst [a, b, c, d])) : g__law_answers [a, b, c, .ref t] M = .ok (.bl true) M := by
  have la := ha.low
  have lb := hb.low
  have lc := hc.low
  have st : start3 6 [a, b, c, .ref t] = [some a, some b, some c, some (.ref t), none, none] := rfl
  unfold g__law_answers fnB s__law_answers
  rw [st]
  simp [pick, n_Weights la, n_Hidden la, n_Clash la, n_Given la, n_RestWeights la, n_RestHidden la, n_Missing la, mkLst_at, d_addL, e__law_answers_1_run la lb lc, e__law_answers_2_run la lb lc, e__law_answers_3_run la lb lc, e__law_answers_4_run la lb lc, e__law_answers_5_run la lb lc, e__law_answers_6_run la lb lc]
  rw [all_lst ht rfl (by simp [ha, hb, hc, hd]) ?_ ?_]
  · simp [trim_bl]
  · simp
  · repeat (refine List.forall_mem_cons.mpr ⟨by first | exact ⟨1, rfl⟩ | exact ⟨2, rfl⟩ | exact ⟨3, rfl⟩ | exact ⟨4, rfl⟩, ?_⟩)
    exact fun _ h => absurd h List.not_mem_nil
end K77

set_option Elab.async false
set_option linter.all false
set_option maxRecDepth 100000
set_option maxHeartbeats 4000000
namespace K77
open PySem PySem.Spec PyProof.Rows L2 L3
theorem plans_run {M : Mem} {a b c d : D} {t : Nat} (ha : Sh M a) (hb : Sh M b) (hc : Sh M c) (hd : Sh M d) (ht : M[t]? = some (.lst [a, b, c, d])) : g__law_plans [a, b, c, d, .ref t] M = .ok (.bl true) M := by
  have la := ha.low
  have lb := hb.low
  have lc := hc.low
  have ld := hd.low
  have st : start3 7 [a, b, c, d, .ref t] = [some a, some b, some c, some d, some (.ref t), none, none] := rfl
  unfold g__law_plans fnB s__law_plans
  rw [st]
  simp [pick, n_Worse la, mkLst_at, d_addL, e__law_plans_1_run la lb lc ld, e__law_plans_2_run la lb lc ld, e__law_plans_3_run la lb lc ld, e__law_plans_4_run la lb lc ld, e__law_plans_5_run la lb lc ld, e__law_plans_6_run la lb lc ld, e__law_plans_7_run la lb lc ld, e__law_plans_8_run la lb lc ld, e__law_plans_9_run la lb lc ld, e__law_plans_10_run la lb lc ld, e__law_plans_11_run la lb lc ld, e__law_plans_12_run la lb lc ld, e__law_plans_13_run la lb lc ld, e__law_plans_14_run la lb lc ld]
  rw [all_lst ht rfl (by simp [ha, hb, hc, hd]) ?_ ?_]
  · simp [trim_bl]
  · simp
  · repeat (refine List.forall_mem_cons.mpr ⟨by first | exact ⟨1, rfl⟩ | exact ⟨2, rfl⟩ | exact ⟨3, rfl⟩ | exact ⟨4, rfl⟩, ?_⟩)
    exact fun _ h => absurd h List.not_mem_nil
theorem loop_nil {g : GV} {b : SV} {σ : St3} {M : Mem} : svLoop [] g b [] σ M = .nx σ M := rfl
theorem loop_cons {i : Nat} {b : SV} {d : D} {r : List D} {σ : St3} {M : Mem} : svLoop [] (gvName i) b (d :: r) σ M = match b (σ.set i (some d)) M with
  | .nx σ2 M2 => svLoop [] (gvName i) b r σ2 M2
  | .ct σ2 M2 => svLoop [] (gvName i) b r σ2 M2
  | .bk σ2 M2 => .nx σ2 M2
  | o => o := rfl
theorem bounds_run {M : Mem} {a b c d : D} {t : Nat} (ha : Sh M a) (hb : Sh M b) (hc : Sh M c) (hd : Sh M d) (ht : M[t]? = some (.lst [a, b, c, d])) : g__law_bounds [a, b, c, d, .ref t] M = .ok (.bl true) M := by
  have la := ha.low
  have lb := hb.low
  have lc := hc.low
  have ld := hd.low
  have st : start3 8 [a, b, c, d, .ref t] = [some a, some b, some c, some d, some (.ref t), none, none, none] := rfl
  obtain ⟨x, hx⟩ := repr_lst0 (M := M) (ds := [a, b, c, d, a, b, c]) (by simp) (by simp [ha, hb, hc, hd])
  obtain ⟨y, hy⟩ := repr_lst0 (M := M) (ds := [a, b, c, d, a, b]) (by simp) (by simp [ha, hb, hc, hd])
  have ne : ∀ (x : Str) (M : Mem), dNeS (.str x) (.str x) M = .ok (.bl false) M := fun x M => by simp [dNeS]
  unfold g__law_bounds fnB s__law_bounds
  rw [st]
  simp [pick, n_Apart la, n_Bounds la lb lc ld la lb lc, n_Bent la lb lc ld la lb, mkLst_at, d_addL, srcOf, loop_nil, loop_cons, b__law_bounds_1, b__law_bounds_2, hx, hy, ne, e__law_bounds_3_run la lb lc ld, e__law_bounds_4_run la lb lc ld, e__law_bounds_5_run la lb lc ld]
  rw [all_lst ht rfl (by simp [ha, hb, hc, hd]) ?_ ?_]
  · simp [trim_bl]
  · simp
  · repeat (refine List.forall_mem_cons.mpr ⟨by first | exact ⟨1, rfl⟩ | exact ⟨2, rfl⟩ | exact ⟨3, rfl⟩ | exact ⟨4, rfl⟩, ?_⟩)
    exact fun _ h => absurd h List.not_mem_nil
end K77

set_option Elab.async false
set_option linter.all false
set_option maxRecDepth 100000
set_option maxHeartbeats 4000000
namespace K77
open PySem PySem.Spec PyProof.Rows L2 L3
theorem append_R {M : Mem} {n : Nat} {ds : List D} {y : D} (h : M[n]? = some (.lst ds)) (hz : ds.length ≤ 1000) : dAppend (.ref n) [y] M = .ok .non (M.set n (.lst (ds ++ [y]))) := append_at h (Nat.lt_of_le_of_lt hz (by decide))
theorem d_addC {M : Mem} {x y : List D} (h : x.length + y.length ≤ 1000) : dAdd true (.lst x) (.lst y) M = .ok (.ref M.length) (M ++ [.lst (x ++ y)]) := by
  show newL true (x ++ y) M = _
  unfold newL
  rw [if_pos (by rw [List.length_append]; exact Nat.le_trans h (by decide))]; rfl
theorem d_addR {M : Mem} {n : Nat} {x y : List D} (hn : M[n]? = some (.lst x)) (h : x.length + y.length ≤ 1000) : dAdd false (.ref n) (.lst y) M = .ok (.lst (x ++ y)) M := by
  have e : madeOf M (.ref n) = some x := by
    show (match M[n]? with
      | some (.lst ds) => some ds
      | _ => none) = _
    rw [hn]
  show (match madeOf M (.ref n), madeOf M (.lst y) with
    | some a, some b => newL false (a ++ b) M
    | _, _ => .no) = _
  rw [e]
  show newL false (x ++ y) M = _
  unfold newL
  rw [if_pos (by rw [List.length_append]; exact Nat.le_trans h (by decide))]; rfl
theorem all_ref {M : Mem} {rows ds : List D} {t n : Nat} (hn : M[n]? = some (.lst rows)) (ht : M[t]? = some (.lst ds)) (hd : ds.length = 4) (hsh : ∀ d ∈ ds, Sh M d) (hl : rows.length ≤ 1000) (hr : ∀ r ∈ rows, ∃ j, r = .lst (ds.take j)) : g__law_all [.ref n, .ref t] M = .ok (.bl true) M := by
  refine all_run (k := false) (w := [(n, rows)]) (rows := rows) ?_ (fun c => ?_) hl ht hd hsh hr
  · show (match M[n]? with
      | some (.lst ds) => some (false, (⟨ds, [(n, ds)]⟩ : Src))
      | _ => none) = _
    rw [hn]
  · show ([(n, rows)].all fun p => decide ((M ++ [c])[p.1]? = some (.lst p.2))) = true
    have : (M ++ [c])[n]? = some (.lst rows) := by rw [List.getElem?_append_left (List.getElem?_eq_some_iff.mp hn).1]; exact hn
    simp [this]
theorem ap1 {M : Mem} {ds : List D} {y : D} (h : ds.length ≤ 1000) : dAppend (.ref M.length) [y] (M ++ [.lst ds]) = .ok .non (M ++ [.lst (ds ++ [y])]) := by
  rw [append_R (ds := ds) (by simp) h]; simp
theorem ap2 {M : Mem} {x : Cell} {ds : List D} {y : D} (h : ds.length ≤ 1000) : dAppend (.ref (M.length + 1)) [y] (M ++ [x, .lst ds]) = .ok .non (M ++ [x, .lst (ds ++ [y])]) := by
  rw [append_R (ds := ds) (by rw [List.getElem?_append_right (by omega)]; simp) h, List.set_append_right _ _ (by omega)]; simp
theorem isL1 {M : Mem} {ds : List D} : isL (M ++ [.lst ds]) (.ref M.length) = true := isL_ref (ds := ds) (by simp)
theorem isL2 {M : Mem} {x : Cell} {ds : List D} : isL (M ++ [x, .lst ds]) (.ref (M.length + 1)) = true := isL_ref (ds := ds) (by rw [List.getElem?_append_right (by omega)]; simp)
theorem addR1 {M : Mem} {x y : List D} (h : x.length + y.length ≤ 1000) : dAdd false (.ref M.length) (.lst y) (M ++ [.lst x]) = .ok (.lst (x ++ y)) (M ++ [.lst x]) := d_addR (by simp) h
theorem all_ref2 {M : Mem} {x : Cell} {rows ds : List D} {t : Nat} (ht : M[t]? = some (.lst ds)) (hd : ds.length = 4) (hsh : ∀ d ∈ ds, Sh M d) (hl : rows.length ≤ 1000) (hr : ∀ r ∈ rows, ∃ j, r = .lst (ds.take j)) : g__law_all [.ref (M.length + 1), .ref t] (M ++ [x, .lst rows]) = .ok (.bl true) (M ++ [x, .lst rows]) :=
  all_ref (rows := rows) (by rw [List.getElem?_append_right (by omega)]; simp) (by rw [List.getElem?_append_left (List.getElem?_eq_some_iff.mp ht).1]; exact ht) hd (fun d h => (hsh d h).ext) hl hr
theorem groups_run {M : Mem} {a b c d : D} {t : Nat} (ha : Sh M a) (hb : Sh M b) (hc : Sh M c) (hd : Sh M d) (ht : M[t]? = some (.lst [a, b, c, d])) : ∃ x, g__law_groups [a, b, c, d, .ref t] M = .ok (.bl true) (M ++ x) := by
  have la := ha.low
  have lb := hb.low
  have lc := hc.low
  have ld := hd.low
  have hl : t < M.length := (List.getElem?_eq_some_iff.mp ht).1
  have st : start3 7 [a, b, c, d, .ref t] = [some a, some b, some c, some d, some (.ref t), none, none] := rfl
  have m1 : ∀ {d : D} {x : Mem}, Low M.length d → Low (M ++ x).length d := fun h => h.mono (by simp)
  unfold g__law_groups fnB s__law_groups
  rw [st]
  simp [pick, n_Ring la, n_Chain la, mkLst_at, d_addL, d_addC, addR1, ap1, ap2, isL1, isL2, e__law_groups_1_run la lb lc ld, e__law_groups_2_run la lb lc ld, n_Balance (m1 la) (m1 lb) (m1 lc) (m1 ld), n_Block (m1 la) (m1 lb) (m1 lc) (m1 ld), n_LeastBoth (m1 la) (m1 lb) (m1 lc), e__law_groups_3_run (m1 la) (m1 lb) (m1 lc) (m1 ld), e__law_groups_4_run (m1 la) (m1 lb) (m1 lc) (m1 ld), e__law_groups_5_run (m1 la) (m1 lb) (m1 lc) (m1 ld), e__law_groups_6_run (m1 la) (m1 lb) (m1 lc) (m1 ld)]
  rw [all_ref2 ht rfl (by simp [ha, hb, hc, hd]) ?_ ?_]
  · exact ⟨_, by rw [trim_bl]; rfl⟩
  · simp
  · repeat (refine List.forall_mem_cons.mpr ⟨by first | exact ⟨1, rfl⟩ | exact ⟨2, rfl⟩ | exact ⟨3, rfl⟩ | exact ⟨4, rfl⟩, ?_⟩)
    exact fun _ h => absurd h List.not_mem_nil
end K77

set_option Elab.async false
set_option linter.all false
set_option maxRecDepth 100000
set_option maxHeartbeats 4000000
namespace K77
open PySem PySem.Spec PyProof.Rows L2 L3
def nums : Nums := ⟨48271, 7919, 30011, 2147483399, 92821, 131, 2147483629, 69621, 13, 2147483587, 32⟩
theorem nums_ok : nums.Ok := {}
theorem mix_eq : g__law_mixed = fnB 4 (mixS nums) := rfl
theorem hand_eq : g__law_hand = fnB 4 (handS 37 1709 2147483549) := rfl
theorem take_eq : g__law_take = fnB 4 (takeS TT g__law_mixed 10 18 2147483399 2147483549) := rfl
theorem take_run {M : Mem} {h c : Nat} (H : HandOk M h c) {many : Int} (h0 : 0 < many) (h1 : many < 2 ^ 64) : ∃ d x, 0 ≤ d ∧ d < many ∧ g__law_take [.ref h, .int many] M = .ok (.int d) (M.set h x) ∧ HandOk (M.set h x) h c := by
  rw [take_eq]
  exact take_ok (fun n t M => by rw [mix_eq]; exact mix_ok nums_ok n t M) (by decide) (by decide) (by decide) (by decide) H h0 h1
theorem trim_intS {nf : Nat → Nat} {M M' : Mem} {i : Int} (h : M'.length = M.length) : trimR nf M (.ok (.int i) M') = .ok (.int i) M' := by
  show (if M'.take M.length = M then (match frzD (frzR nf M.length M' 6) (.int i) with
    | some d' => Res.ok d' M
    | none => .ok (.int i) M') else .ok (.int i) M') = _
  by_cases z : M'.take M.length = M
  · rw [if_pos z]
    have : M' = M := by rw [← h, List.take_length] at z; exact z
    subst this; rfl
  · rw [if_neg z]
theorem hok_ext {M t : Mem} {h c : Nat} (H : HandOk M h c) : HandOk (M ++ t) h c := by
  obtain ⟨ne, cells, pos, rest, tot, g, gc, p0, r0⟩ := H
  exact ⟨ne, cells, pos, rest, tot, by rw [List.getElem?_append_left (List.getElem?_eq_some_iff.mp g).1]; exact g, by rw [List.getElem?_append_left (List.getElem?_eq_some_iff.mp gc).1]; exact gc, p0, r0⟩
theorem hok_set {M : Mem} {h c k : Nat} {x : Cell} (H : HandOk M h c) (h1 : k ≠ h) (h2 : k ≠ c) : HandOk (M.set k x) h c := by
  obtain ⟨ne, cells, pos, rest, tot, g, gc, p0, r0⟩ := H
  exact ⟨ne, cells, pos, rest, tot, by rw [List.getElem?_set_ne h1]; exact g, by rw [List.getElem?_set_ne h2]; exact gc, p0, r0⟩
/-- a thing: a number, a list of it, a tuple, a list of a tuple and None -/
def Th (M : Mem) (d : D) : Prop := ∃ n : Int, n.natAbs < 2 ^ 60 ∧ (d = .int n ∨ d = .tup [.int n, .int (-1)] ∨ ∃ k, 3 ≤ k ∧ d = .ref k ∧ (M[k]? = some (.lst [.int n]) ∨ M[k]? = some (.lst [.tup [.int n, .int 1], .non])))
theorem Th.ext {M t : Mem} {d : D} (h : Th M d) : Th (M ++ t) d := by
  obtain ⟨n, hn, h | h | ⟨k, h1, h2, h3⟩⟩ := h
  · exact ⟨n, hn, .inl h⟩
  · exact ⟨n, hn, .inr (.inl h)⟩
  · refine ⟨n, hn, .inr (.inr ⟨k, h1, h2, ?_⟩)⟩
    rcases h3 with h3 | h3
    · exact .inl (by rw [List.getElem?_append_left (List.getElem?_eq_some_iff.mp h3).1]; exact h3)
    · exact .inr (by rw [List.getElem?_append_left (List.getElem?_eq_some_iff.mp h3).1]; exact h3)
theorem Th.set {M : Mem} {d : D} {j : Nat} {x : Cell} (h : Th M d) (hj : j < 3) : Th (M.set j x) d := by
  obtain ⟨n, hn, h | h | ⟨k, h1, h2, h3⟩⟩ := h
  · exact ⟨n, hn, .inl h⟩
  · exact ⟨n, hn, .inr (.inl h)⟩
  · exact ⟨n, hn, .inr (.inr ⟨k, h1, h2, by rw [List.getElem?_set_ne (by omega)]; exact h3⟩)⟩
theorem turn_run {M : Mem} {ds : List D} {s0 x3 x4 x5 x6 x7 x8 x9 x10 : Option D} {i : Int} (hi : 0 ≤ i ∧ i < 4) (H : HandOk M 1 0) (ht : M[2]? = some (.lst ds)) (hl : ds.length ≤ 4) (hd : ∀ d ∈ ds, Th M d) :
    ∃ M' v y5 y6, b_law_1 [s0, some (.ref 1), some (.ref 2), some (.int i), x4, x5, x6, x7, x8, x9, x10] M = .nx [s0, some (.ref 1), some (.ref 2), some (.int i), x4, y5, y6, x7, x8, x9, x10] M' ∧
      HandOk M' 1 0 ∧ M'[2]? = some (.lst (ds ++ [v])) ∧ ∀ d ∈ ds ++ [v], Th M' d := by
  obtain ⟨k, x, k0, k1, e1, H1⟩ := take_run H (many := 4) (by decide) (by decide)
  obtain ⟨m, y, m0, m1, e2, H2⟩ := take_run H1 (many := 1000000) (by decide) (by decide)
  obtain ⟨M2, hM2⟩ : ∃ M2, ((M.set 1 x).set 1 y) = M2 := ⟨_, rfl⟩
  have ht2 : M2[2]? = some (.lst ds) := by rw [← hM2, List.getElem?_set_ne (by decide), List.getElem?_set_ne (by decide)]; exact ht
  have hd2 : ∀ d ∈ ds, Th M2 d := fun d h => by rw [← hM2]; exact ((hd d h).set (by decide)).set (by decide)
  have t1 : trimR (nfT TT) M (.ok (.int k) (M.set 1 x)) = .ok (.int k) (M.set 1 x) := trim_intS (by simp)
  have t2 : trimR (nfT TT) (M.set 1 x) (.ok (.int m) M2) = .ok (.int m) M2 := trim_intS (by rw [← hM2]; simp)
  rw [hM2] at e2 H2
  have l2 : 2 < M2.length := (List.getElem?_eq_some_iff.mp ht2).1
  have p6 : ∀ M : Mem, dPow (.int 10) (.int 6) M = .ok (.int 1000000) M := fun M => d_pow (by decide)
  have mm : ∀ M : Mem, dMul false (.int 10) (.int m) M = .ok (.int (10 * m)) M := fun M => d_mul (mulOk_l (by decide))
  obtain ⟨n, hn⟩ : ∃ n, 10 * m + i = n := ⟨_, rfl⟩
  have m1' : m < 1000000 := m1
  have nb : n.natAbs < 2 ^ 60 := by omega
  obtain ⟨A, hA⟩ : ∃ A : Cell, .lst [.int n] = A := ⟨_, rfl⟩
  obtain ⟨B, hB⟩ : ∃ B : Cell, .lst [.tup [.int n, .int 1], .non] = B := ⟨_, rfl⟩
  have gA : (M2 ++ [A, B])[M2.length]? = some (.lst [.int n]) := by rw [List.getElem?_append_right (Nat.le_refl _), ← hA]; simp
  have gB : (M2 ++ [A, B])[M2.length + 1]? = some (.lst [.tup [.int n, .int 1], .non]) := by rw [List.getElem?_append_right (by omega), ← hB]; simp
  have ix : ∃ v, (∀ M : Mem, dIx (.lst [.int n, .ref M2.length, .tup [.int n, .int (-1)], .ref (M2.length + 1)]) (.int k) M = .ok v M) ∧ Th (M2 ++ [A, B]) v := by
    have kk : k = 0 ∨ k = 1 ∨ k = 2 ∨ k = 3 := by omega
    rcases kk with rfl | rfl | rfl | rfl
    · exact ⟨.int n, fun _ => rfl, n, nb, .inl rfl⟩
    · exact ⟨.ref M2.length, fun _ => rfl, n, nb, .inr (.inr ⟨_, by omega, rfl, .inl gA⟩)⟩
    · exact ⟨.tup [.int n, .int (-1)], fun _ => rfl, n, nb, .inr (.inl rfl)⟩
    · exact ⟨.ref (M2.length + 1), fun _ => rfl, n, nb, .inr (.inr ⟨_, by omega, rfl, .inr gB⟩)⟩
  obtain ⟨v, hv, tv⟩ := ix
  have ap : dAppend (.ref 2) [v] (M2 ++ [A, B]) = .ok .non ((M2 ++ [A, B]).set 2 (.lst (ds ++ [v]))) := append_R (by rw [List.getElem?_append_left l2]; exact ht2) (by omega)
  have il : isL M2 (.ref 2) = true := isL_ref ht2
  refine ⟨(M2 ++ [A, B]).set 2 (.lst (ds ++ [v])), v, some (.int k), some (.int n), ?_, hok_set (hok_ext H2) (by decide) (by decide), List.getElem?_set_self (by simp; omega), fun d h => ?_⟩
  · unfold b_law_1
    simp [e1, t1, p6, e2, t2, mm, hn, mkLst_at, mkTup_at, mkCell_at, hA, hB, il, hv, ap]
  · refine Th.set ?_ (by decide)
    rcases List.mem_append.mp h with h | h
    · exact (hd2 d h).ext
    · rw [List.mem_singleton.mp h]; exact tv

theorem turns_run : ∀ (ats : List Int) (M : Mem) (ds : List D) (s0 x3 x4 x5 x6 x7 x8 x9 x10 : Option D), (∀ i ∈ ats, 0 ≤ i ∧ i < 4) → HandOk M 1 0 → M[2]? = some (.lst ds) → ds.length + ats.length ≤ 4 → (∀ d ∈ ds, Th M d) →
    ∃ M' ds' y3 y5 y6, svLoop [] (gvName 3) b_law_1 (ats.map D.int) [s0, some (.ref 1), some (.ref 2), x3, x4, x5, x6, x7, x8, x9, x10] M = .nx [s0, some (.ref 1), some (.ref 2), y3, x4, y5, y6, x7, x8, x9, x10] M' ∧ M'[2]? = some (.lst ds') ∧ ds'.length = ds.length + ats.length ∧ ∀ d ∈ ds', Th M' d
  | [], M, ds, s0, x3, x4, x5, x6, x7, x8, x9, x10, _, _, ht, _, hd => ⟨M, ds, x3, x5, x6, loop_nil, ht, rfl, hd⟩
  | i :: ats, M, ds, s0, x3, x4, x5, x6, x7, x8, x9, x10, hi, H, ht, hl, hd => by
    simp only [List.length_cons] at hl
    obtain ⟨M1, v, y5, y6, e, H1, ht1, hd1⟩ := turn_run (s0 := s0) (x3 := x3) (x4 := x4) (x5 := x5) (x6 := x6) (x7 := x7) (x8 := x8) (x9 := x9) (x10 := x10) (hi i List.mem_cons_self) H ht (by omega) hd
    obtain ⟨M2, ds', z3, z5, z6, e2, ht2, hl2, hd2⟩ := turns_run ats M1 (ds ++ [v]) s0 (some (.int i)) x4 y5 y6 x7 x8 x9 x10 (fun j hj => hi j (List.mem_cons_of_mem _ hj)) H1 ht1 (by simp; omega) hd1
    refine ⟨M2, ds', z3, z5, z6, ?_, ht2, by rw [hl2]; simp; omega, hd2⟩
    show svLoop [] (gvName 3) b_law_1 (.int i :: ats.map D.int) _ M = _
    rw [loop_cons]
    simp only [List.set_cons_succ, List.set_cons_zero]
    rw [e]
    exact e2
theorem lg_s {n : Nat} (h : n < 2 ^ 60) : n.log2 < 61 := by
  rcases Nat.eq_zero_or_pos n with z | z
  · subst z; decide
  · exact (Nat.log2_lt (by omega)).mpr (Nat.lt_trans h (by decide))
theorem Th.low {M : Mem} {d : D} (h : Th M d) : Low M.length d := by
  obtain ⟨n, hn, rfl | rfl | ⟨k, h1, rfl, h3⟩⟩ := h
  · exact low_int
  · exact low_tup (by simp [low_int])
  · refine low_ref ?_
    rcases h3 with h3 | h3 <;> exact (List.getElem?_eq_some_iff.mp h3).1
theorem s_int {n : Int} (hn : n.natAbs < 2 ^ 60) : PyData.showable (.int n) = true := decide_eq_true (Nat.lt_trans (lg_s hn) (by decide))
theorem w_int {n : Int} (hn : n.natAbs < 2 ^ 60) : wid (.int n) ≤ 70 := by
  have := lg_s hn
  simp only [wid]; omega
/-- data that can be shown, of at most so many signs -/
structure Ok (p : PyData) (k : Nat) : Prop where
  s : p.showable = true
  d : p.hasDict = false
  w : wid p ≤ k
structure Oks (ps : List PyData) (k : Nat) : Prop where
  s : PyData.showableAll ps = true
  d : PyData.hasDictAll ps = false
  w : wids ps ≤ k
theorem ok_int {n : Int} (hn : n.natAbs < 2 ^ 60) : Ok (.int n) 70 := ⟨s_int hn, rfl, w_int hn⟩
theorem ok_non : Ok .none 70 := ⟨rfl, rfl, by decide⟩
theorem oks_nil : Oks [] 0 := ⟨rfl, rfl, Nat.le_refl _⟩
theorem oks_cons {p : PyData} {ps : List PyData} {j k : Nat} (h : Ok p j) (hs : Oks ps k) : Oks (p :: ps) (j + 2 + k) :=
  ⟨by simp [PyData.showableAll, h.s, hs.s], by simp [PyData.hasDictAll, h.d, hs.d], by
    have := h.w
    have := hs.w
    simp only [wids]; omega⟩
theorem ok_tup {ps : List PyData} {k : Nat} (hs : Oks ps k) : Ok (.tuple ps) (k + 4) := ⟨by simp [PyData.showable, hs.s], by simp [PyData.hasDict, hs.d], by
  have := hs.w
  simp only [wid]; omega⟩
theorem ok_lst {ps : List PyData} {k : Nat} (hs : Oks ps k) : Ok (.list ps) (k + 3) := ⟨by simp [PyData.showable, hs.s], by simp [PyData.hasDict, hs.d], by
  have := hs.w
  simp only [wid]; omega⟩
theorem py_ref {M : Mem} {k : Nat} {ds : List D} {ps : List PyData} (h : M[k]? = some (.lst ds)) (hp : ∀ t, mapO (L3.py (M ++ t) 6) ds = some ps) (t : Mem) : L3.py (M ++ t) 7 (.ref k) = some (.list ps) := by
  have e : (M ++ t)[k]? = some (.lst ds) := by rw [List.getElem?_append_left (List.getElem?_eq_some_iff.mp h).1]; exact h
  show (match (M ++ t)[k]? with
    | some (.lst ds) => (mapO (L3.py (M ++ t) 6) ds).map PyData.list
    | _ => none) = _
  rw [e]
  show (mapO (L3.py (M ++ t) 6) ds).map PyData.list = _
  rw [hp]; rfl
theorem sh_of {M : Mem} {d : D} {p : PyData} {k : Nat} (l : Low M.length d) (h : Ok p k) (hk : k ≤ 1000) (hp : ∀ t, L3.py (M ++ t) 7 d = some p) : Sh M d := ⟨l, p, h.s, h.d, Nat.le_trans h.w hk, hp⟩
theorem c1 : (1 : Int).natAbs < 2 ^ 60 := by decide
theorem cm : (-1 : Int).natAbs < 2 ^ 60 := by decide
theorem c7 : (7 : Int).natAbs < 2 ^ 60 := by decide
theorem Th.sh {M : Mem} {d : D} (h : Th M d) : Sh M d := by
  have low := h.low
  obtain ⟨n, hn, rfl | rfl | ⟨k, h1, rfl, h3⟩⟩ := h
  · exact sh_of low (ok_int hn) (by decide) fun t => rfl
  · exact sh_of low (ok_tup (oks_cons (ok_int hn) (oks_cons (ok_int cm) oks_nil))) (by decide) fun t => rfl
  · rcases h3 with h3 | h3
    · exact sh_of low (ok_lst (oks_cons (ok_int hn) oks_nil)) (by decide) (py_ref h3 fun t => rfl)
    · exact sh_of low (ok_lst (oks_cons (ok_tup (oks_cons (ok_int hn) (oks_cons (ok_int c1) oks_nil))) (oks_cons ok_non oks_nil))) (by decide) (py_ref h3 fun t => rfl)
/-- behind an append to a thing's list -/
theorem Th.sh2 {M : Mem} {d : D} {j : Nat} {xs : List D} (h : Th M d) (hj : 3 ≤ j) (hx : ∃ n : Int, n.natAbs < 2 ^ 60 ∧ (xs = [.int n] ∨ xs = [.tup [.int n, .int 1], .non])) (hm : M[j]? = some (.lst xs)) : Sh (M.set j (.lst (xs ++ [.int 7]))) d := by
  have low : Low (M.set j (.lst (xs ++ [.int 7]))).length d := by rw [List.length_set]; exact h.low
  have hl : j < M.length := (List.getElem?_eq_some_iff.mp hm).1
  by_cases z : d = .ref j
  · subst z
    have g : (M.set j (.lst (xs ++ [.int 7])))[j]? = some (.lst (xs ++ [.int 7])) := List.getElem?_set_self hl
    obtain ⟨n, hn, rfl | rfl⟩ := hx
    · exact sh_of low (ok_lst (oks_cons (ok_int hn) (oks_cons (ok_int c7) oks_nil))) (by decide) (py_ref g fun t => rfl)
    · exact sh_of low (ok_lst (oks_cons (ok_tup (oks_cons (ok_int hn) (oks_cons (ok_int c1) oks_nil))) (oks_cons ok_non (oks_cons (ok_int c7) oks_nil)))) (by decide) (py_ref g fun t => rfl)
  · refine Th.sh ?_
    obtain ⟨n, hn, h | h | ⟨k, h1, h2, h3⟩⟩ := h
    · exact ⟨n, hn, .inl h⟩
    · exact ⟨n, hn, .inr (.inl h)⟩
    · have kj : j ≠ k := fun e => z (by rw [h2, e])
      exact ⟨n, hn, .inr (.inr ⟨k, h1, h2, by rw [List.getElem?_set_ne kj]; exact h3⟩)⟩
end K77

set_option Elab.async false
set_option linter.all false
set_option maxRecDepth 100000
set_option maxHeartbeats 4000000
namespace K77
open PySem PySem.Spec PyProof.Rows L2 L3
theorem unp4 {M : Mem} {n : Nat} {ds : List D} {g : GVs} {σ : St3} (h : M[n]? = some (.lst ds)) (hl : ds.length = 4) : gvUnp 4 g (.ref n) σ M = g ds σ M := by
  have e : listOf M (.ref n) = some ds := by
    show (match M[n]? with
      | some (.lst ds) => some ds
      | _ => none) = _
    rw [h]
  show (match listOf M (.ref n) with
    | some ds => if ds.length = 4 then g ds σ M else .no
    | none => .no) = _
  rw [e]
  exact if_pos hl
/-- the end: b is shown as it is then -/
theorem end_run {M : Mem} {a b c d s0 : D} {x3 x5 x6 : Option D} (ha : Th M a) (hb : Th M b) :
    ∃ M', endB ((svIf (bvT (evA (a2 dIsi) (avCons (evVar 8) (avCons (evC (.ty .list)) avNil)))) (svE (evM isL dAppend (evVar 8) (avCons (evC (.int 7)) avNil))) svNext [some s0, some (.ref 1), some (.ref 2), x3, some (.obj 4 [a, b]), x5, x6, some a, some b, some c, some d] M).seq
    (svRet (ev2 dEqS (evA (a1 dRepr) (avCons (evA mkLst (avCons (ev1 (dFld TT 1) (evVar 4)) (avCons (ev1 (dFld TT 8) (evVar 4)) avNil))) avNil)) (evA (a1 dRepr) (avCons (evA mkLst (avCons (evVar 7) (avCons (evVar 8) avNil))) avNil))))) = .ok (.bl true) M' := by
  have last : ∀ M : Mem, Sh M a → Sh M b → svRet (ev2 dEqS (evA (a1 dRepr) (avCons (evA mkLst (avCons (ev1 (dFld TT 1) (evVar 4)) (avCons (ev1 (dFld TT 8) (evVar 4)) avNil))) avNil)) (evA (a1 dRepr) (avCons (evA mkLst (avCons (evVar 7) (avCons (evVar 8) avNil))) avNil))) [some s0, some (.ref 1), some (.ref 2), x3, some (.obj 4 [a, b]), x5, x6, some a, some b, some c, some d] M = .rt (.bl true) M := fun M ha hb => by
    obtain ⟨x, hx⟩ := repr_lst0 (M := M) (ds := [a, b]) (by simp) (by simp [ha, hb])
    have eq : ∀ (x : Str) (M : Mem), dEqS (.str x) (.str x) M = .ok (.bl true) M := fun x M => by simp [dEqS]
    simp [mkLst_at, hx, eq]
  have hb' := hb
  obtain ⟨n, hn, rfl | rfl | ⟨k, h1, rfl, h3⟩⟩ := hb
  · have e : ∀ M, dIsi (.int n) (.ty .list) M = .ok (.bl false) M := fun _ => rfl
    refine ⟨M, ?_⟩
    simp only [y_if, x_bT, x_A, x_cons, x_var, x_c, x_nil, List.getElem?_cons_succ, List.getElem?_cons_zero, Res.bind_ok, a2_x, e, truD, Res.out_ok, Bool.false_eq_true, if_false, y_next, seq_nx, last M ha.sh hb'.sh, end_rt]
  · have e : ∀ M, dIsi (.tup [.int n, .int (-1)]) (.ty .list) M = .ok (.bl false) M := fun _ => rfl
    refine ⟨M, ?_⟩
    simp only [y_if, x_bT, x_A, x_cons, x_var, x_c, x_nil, List.getElem?_cons_succ, List.getElem?_cons_zero, Res.bind_ok, a2_x, e, truD, Res.out_ok, Bool.false_eq_true, if_false, y_next, seq_nx, last M ha.sh hb'.sh, end_rt]
  · have core : ∀ xs : List D, (∃ n : Int, n.natAbs < 2 ^ 60 ∧ (xs = [.int n] ∨ xs = [.tup [.int n, .int 1], .non])) → M[k]? = some (.lst xs) → endB ((svIf (bvT (evA (a2 dIsi) (avCons (evVar 8) (avCons (evC (.ty .list)) avNil)))) (svE (evM isL dAppend (evVar 8) (avCons (evC (.int 7)) avNil))) svNext [some s0, some (.ref 1), some (.ref 2), x3, some (.obj 4 [a, .ref k]), x5, x6, some a, some (.ref k), some c, some d] M).seq
        (svRet (ev2 dEqS (evA (a1 dRepr) (avCons (evA mkLst (avCons (ev1 (dFld TT 1) (evVar 4)) (avCons (ev1 (dFld TT 8) (evVar 4)) avNil))) avNil)) (evA (a1 dRepr) (avCons (evA mkLst (avCons (evVar 7) (avCons (evVar 8) avNil))) avNil))))) = .ok (.bl true) (M.set k (.lst (xs ++ [.int 7]))) := fun xs hx hm => by
      have e : dIsi (.ref k) (.ty .list) M = .ok (.bl true) M := by
        have : tyOf M (.ref k) = some .list := by simp [tyOf, hm]
        show (match tyOf M (.ref k) with
          | some u => Res.ok (D.bl (isTy u .list)) M
          | none => Res.no) = _
        rw [this]; rfl
      have lx : xs.length ≤ 1000 := by obtain ⟨n, _, rfl | rfl⟩ := hx <;> simp
      have l := last (M.set k (.lst (xs ++ [.int 7]))) (ha.sh2 h1 hx hm) (hb'.sh2 h1 hx hm)
      simp only [y_if, x_bT, x_A, x_cons, x_var, x_c, x_nil, List.getElem?_cons_succ, List.getElem?_cons_zero, Res.bind_ok, a2_x, e, truD, Res.out_ok, if_true, y_E, x_M, isL_ref hm, append_R hm lx, seq_nx, l, end_rt]
    rcases h3 with h3 | h3
    · exact ⟨_, core _ ⟨n, hn, .inl rfl⟩ h3⟩
    · exact ⟨_, core _ ⟨n, hn, .inr rfl⟩ h3⟩
theorem gvCons_x {g : GV} {r : GVs} {d : D} {ds : List D} {σ : St3} {M : Mem} : gvCons g r (d :: ds) σ M = match g d σ M with
  | .nx σ' M' => r ds σ' M'
  | o => o := rfl
theorem gvNil_x {σ : St3} {M : Mem} : gvNil [] σ M = .nx σ M := rfl
theorem law_true (ns : List Int) (hl : ns.length ≤ 63) (hb : ∀ z ∈ ns, Builtin.Int.intBits z ≤ 1048576) : ∃ M, g_law [.scr (ns.map D.int)] [] = .ok (.bl true) M := by
  obtain ⟨t', e1⟩ := hand_ok (t := 37) (a := 1709) (q := 2147483549) (by decide) (by decide) ns hl []
  rw [← hand_eq] at e1
  obtain ⟨A, hA⟩ : ∃ A : Cell, .lst ((ns.map fun i => if i < 0 then -i else i).map D.int) = A := ⟨_, rfl⟩
  have H1 := handOk_new (M := []) (cells := ns.map fun i => if i < 0 then -i else i) (t := t')
  have H2 : HandOk ([] ++ [.lst ((ns.map fun i => if i < 0 then -i else i).map D.int), .lst [.ref 0, .int 0, .int 0, .int t']] ++ [.lst []]) 1 0 := hok_ext H1
  obtain ⟨M, ds, y3, y5, y6, e2, ht, hl4, hd⟩ := turns_run [0, 1, 2, 3] _ [] (some (.scr (ns.map D.int))) none none none none none none none none (by decide) H2 rfl (by decide) (fun d h => absurd h List.not_mem_nil)
  match ds, hl4 with
  | [a, b, c, d], _ =>
    have ha := hd a (by simp)
    have hb := hd b (by simp)
    have hc := hd c (by simp)
    have hdd := hd d (by simp)
    obtain ⟨gx, g2⟩ := groups_run ha.sh hb.sh hc.sh hdd.sh ht
    have g1 := answers_run ha.sh hb.sh hc.sh hdd.sh ht
    have g3 := bounds_run ha.sh hb.sh hc.sh hdd.sh ht
    have g4 := plans_run ha.sh hb.sh hc.sh hdd.sh ht
    have t2 : trimR (nfT TT) M (.ok (.bl true) (M ++ gx)) = .ok (.bl true) M := trim_low low_bl
    obtain ⟨Mf, ef⟩ := end_run (s0 := .scr (ns.map D.int)) (x3 := y3) (x5 := y5) (x6 := y6) (c := c) (d := d) ha hb
    refine ⟨Mf, ?_⟩
    rw [← ef]
    have st : start3 11 [.scr (ns.map D.int)] = [some (.scr (ns.map D.int)), none, none, none, none, none, none, none, none, none, none] := rfl
    have inr : L3.inR 4 = true := by decide
    have rg : rangeD 0 (4 : Int).toNat = [0, 1, 2, 3].map D.int := rfl
    simp only [List.nil_append, List.length_nil, Nat.zero_add, List.cons_append] at e1 e2
    unfold g_law fnB s_law
    rw [st]
    simp only [y_seq, y_set, y_asg, y_for, x_A, x_cons, x_c, x_nil, x_trim, x_var, x_new, x_call, Res.bind_ok, Res.out_ok, seq_nx, List.getElem?_cons_succ, List.getElem?_cons_zero, List.set_cons_succ, List.set_cons_zero, List.append_nil, List.length_cons, List.length_nil, Nat.zero_add, if_true, e1, mkCell_at (xs := []) (by decide), List.cons_append, List.nil_append, i_R1, oneInt, inr, rg]
    rw [show (1 + 1 : Nat) = 2 from rfl, e2]
    simp only [y_seq, y_set, y_asg, y_if, y_ret, y_next, x_A, x_cons, x_c, x_nil, x_trim, x_var, x_new, x_call, x_bOr, x_bNot, x_bT, Res.bind_ok, Res.out_ok, seq_nx, List.getElem?_cons_succ, List.getElem?_cons_zero, List.set_cons_succ, List.set_cons_zero, List.append_nil, List.cons_append, List.nil_append, List.length_cons, List.length_nil, Nat.zero_add, Nat.reduceAdd, if_true, and_self,
      unp4 ht rfl, gvCons_x, gvNil_x, y_name, Out.only_nx, pick, List.map_cons, List.map_nil, List.getD_cons_zero, List.getD_cons_succ, n_Recovered ha.low hb.low, g1, g2, g3, g4, t2, trim_bl, truD, Bool.not_true, Bool.false_eq_true, if_false]
end K77

set_option Elab.async false
set_option linter.all false
set_option maxRecDepth 100000
set_option maxHeartbeats 0
namespace K77
open PySem PySem.Spec PyProof.Rows L2 L3
def lo_0 : List Str := ["Weights", "Hidden", "Core", "Block", "Recovered", "Clash", "Given", "Parted", "Bounds", "Chain", "LeastBoth", "Played", "Come", "Never", "Untold", "Piece", "Walk", "FewestGroups", "SideLot", "WebCore", "Run", "RunTable", "Apart", "Missing", "Meeting", "Lost", "Mended", "Worse", "Fewest", "Dependent"]
def lo_1 : List Str := ["Whole", "RestWeights", "RestHidden", "Bent", "Parts", "Balance", "SideBounds", "Taken", "Solved", "Ladder", "Ring", "Unseen", "Filled", "Twice", "Explained", "_law_hand", "_law_mixed", "_law_take", "_law_all", "_law_answers", "_law_groups", "_law_bounds", "_law_plans"]
def loose : List Str := lo_0 ++ lo_1
def clN : List Str := [Str.ofString "Weights", Str.ofString "Hidden", Str.ofString "Core", Str.ofString "Block", Str.ofString "Recovered", Str.ofString "Clash", Str.ofString "Given", Str.ofString "Parted", Str.ofString "Bounds", Str.ofString "Chain", Str.ofString "LeastBoth", Str.ofString "Played", Str.ofString "Come", Str.ofString "Never", Str.ofString "Untold", Str.ofString "Piece", Str.ofString "Walk", Str.ofString "FewestGroups", Str.ofString "SideLot", Str.ofString "WebCore", Str.ofString "Run", Str.ofString "RunTable", Str.ofString "Apart", Str.ofString "Missing", Str.ofString "Meeting", Str.ofString "Lost", Str.ofString "Mended", Str.ofString "Worse", Str.ofString "Fewest", Str.ofString "Dependent", Str.ofString "Whole", Str.ofString "RestWeights", Str.ofString "RestHidden", Str.ofString "Bent", Str.ofString "Parts", Str.ofString "Balance", Str.ofString "SideBounds", Str.ofString "Taken", Str.ofString "Solved", Str.ofString "Ladder", Str.ofString "Ring", Str.ofString "Unseen", Str.ofString "Filled", Str.ofString "Twice", Str.ofString "Explained"]
theorem nm_nd : nm.Nodup := by decide +kernel
theorem tt_low : ∀ l ∈ TT, (∀ j ∈ l, j < nm.length) ∧ l.length < 1000 := by decide +kernel
def d_0 : He.DefD := ⟨("Weights", some "__init__"), "__init__", "Weights.__init__", defArgs (me 1 0), defBody (me 1 0), defScope (me 1 0), [], []⟩
def d_1 : He.DefD := ⟨("Hidden", some "__init__"), "__init__", "Hidden.__init__", defArgs (me 3 0), defBody (me 3 0), defScope (me 3 0), [], []⟩
def d_2 : He.DefD := ⟨("Core", some "__init__"), "__init__", "Core.__init__", defArgs (me 5 0), defBody (me 5 0), defScope (me 5 0), [], []⟩
def d_3 : He.DefD := ⟨("Block", some "__init__"), "__init__", "Block.__init__", defArgs (me 7 0), defBody (me 7 0), defScope (me 7 0), [], []⟩
def d_4 : He.DefD := ⟨("Recovered", some "__init__"), "__init__", "Recovered.__init__", defArgs (me 9 0), defBody (me 9 0), defScope (me 9 0), [], []⟩
def d_5 : He.DefD := ⟨("Clash", some "__init__"), "__init__", "Clash.__init__", defArgs (me 10 0), defBody (me 10 0), defScope (me 10 0), [], []⟩
def d_6 : He.DefD := ⟨("Given", some "__init__"), "__init__", "Given.__init__", defArgs (me 11 0), defBody (me 11 0), defScope (me 11 0), [], []⟩
def d_7 : He.DefD := ⟨("Parted", some "__init__"), "__init__", "Parted.__init__", defArgs (me 12 0), defBody (me 12 0), defScope (me 12 0), [], []⟩
def d_8 : He.DefD := ⟨("Bounds", some "__init__"), "__init__", "Bounds.__init__", defArgs (me 14 0), defBody (me 14 0), defScope (me 14 0), [], []⟩
def d_9 : He.DefD := ⟨("Chain", some "__init__"), "__init__", "Chain.__init__", defArgs (me 16 0), defBody (me 16 0), defScope (me 16 0), [], []⟩
def d_10 : He.DefD := ⟨("LeastBoth", some "__init__"), "__init__", "LeastBoth.__init__", defArgs (me 18 0), defBody (me 18 0), defScope (me 18 0), [], []⟩
def d_11 : He.DefD := ⟨("Played", some "__init__"), "__init__", "Played.__init__", defArgs (me 20 0), defBody (me 20 0), defScope (me 20 0), [], []⟩
def d_12 : He.DefD := ⟨("Come", some "__init__"), "__init__", "Come.__init__", defArgs (me 22 0), defBody (me 22 0), defScope (me 22 0), [], []⟩
def d_13 : He.DefD := ⟨("Never", some "__init__"), "__init__", "Never.__init__", defArgs (me 23 0), defBody (me 23 0), defScope (me 23 0), [], []⟩
def d_14 : He.DefD := ⟨("Untold", some "__init__"), "__init__", "Untold.__init__", defArgs (me 24 0), defBody (me 24 0), defScope (me 24 0), [], []⟩
def d_15 : He.DefD := ⟨("Piece", some "__init__"), "__init__", "Piece.__init__", defArgs (me 26 0), defBody (me 26 0), defScope (me 26 0), [], []⟩
def d_16 : He.DefD := ⟨("Walk", some "__init__"), "__init__", "Walk.__init__", defArgs (me 28 0), defBody (me 28 0), defScope (me 28 0), [], []⟩
def d_17 : He.DefD := ⟨("FewestGroups", some "__init__"), "__init__", "FewestGroups.__init__", defArgs (me 30 0), defBody (me 30 0), defScope (me 30 0), [], []⟩
def d_18 : He.DefD := ⟨("SideLot", some "__init__"), "__init__", "SideLot.__init__", defArgs (me 32 0), defBody (me 32 0), defScope (me 32 0), [], []⟩
def d_19 : He.DefD := ⟨("WebCore", some "__init__"), "__init__", "WebCore.__init__", defArgs (me 33 0), defBody (me 33 0), defScope (me 33 0), [], []⟩
def d_20 : He.DefD := ⟨("Run", some "__init__"), "__init__", "Run.__init__", defArgs (me 35 0), defBody (me 35 0), defScope (me 35 0), [], []⟩
def d_21 : He.DefD := ⟨("RunTable", some "__init__"), "__init__", "RunTable.__init__", defArgs (me 37 0), defBody (me 37 0), defScope (me 37 0), [], []⟩
def d_22 : He.DefD := ⟨("Apart", some "__init__"), "__init__", "Apart.__init__", defArgs (me 38 0), defBody (me 38 0), defScope (me 38 0), [], []⟩
def d_23 : He.DefD := ⟨("Missing", some "__init__"), "__init__", "Missing.__init__", defArgs (me 40 0), defBody (me 40 0), defScope (me 40 0), [], []⟩
def d_24 : He.DefD := ⟨("Meeting", some "__init__"), "__init__", "Meeting.__init__", defArgs (me 41 0), defBody (me 41 0), defScope (me 41 0), [], []⟩
def d_25 : He.DefD := ⟨("Lost", some "__init__"), "__init__", "Lost.__init__", defArgs (me 43 0), defBody (me 43 0), defScope (me 43 0), [], []⟩
def d_26 : He.DefD := ⟨("Mended", some "__init__"), "__init__", "Mended.__init__", defArgs (me 44 0), defBody (me 44 0), defScope (me 44 0), [], []⟩
def d_27 : He.DefD := ⟨("Worse", some "__init__"), "__init__", "Worse.__init__", defArgs (me 45 0), defBody (me 45 0), defScope (me 45 0), [], []⟩
def d_28 : He.DefD := ⟨("Fewest", some "__init__"), "__init__", "Fewest.__init__", defArgs (me 47 0), defBody (me 47 0), defScope (me 47 0), [], []⟩
def d_29 : He.DefD := ⟨("Dependent", some "__init__"), "__init__", "Dependent.__init__", defArgs (me 48 0), defBody (me 48 0), defScope (me 48 0), [], []⟩
def d_30 : He.DefD := ⟨("Whole", some "__init__"), "__init__", "Whole.__init__", defArgs (me 50 0), defBody (me 50 0), defScope (me 50 0), [], []⟩
def d_31 : He.DefD := ⟨("RestWeights", some "__init__"), "__init__", "RestWeights.__init__", defArgs (me 52 0), defBody (me 52 0), defScope (me 52 0), [], []⟩
def d_32 : He.DefD := ⟨("RestHidden", some "__init__"), "__init__", "RestHidden.__init__", defArgs (me 53 0), defBody (me 53 0), defScope (me 53 0), [], []⟩
def d_33 : He.DefD := ⟨("Bent", some "__init__"), "__init__", "Bent.__init__", defArgs (me 55 0), defBody (me 55 0), defScope (me 55 0), [], []⟩
def d_34 : He.DefD := ⟨("Parts", some "__init__"), "__init__", "Parts.__init__", defArgs (me 56 0), defBody (me 56 0), defScope (me 56 0), [], []⟩
def d_35 : He.DefD := ⟨("Balance", some "__init__"), "__init__", "Balance.__init__", defArgs (me 58 0), defBody (me 58 0), defScope (me 58 0), [], []⟩
def d_36 : He.DefD := ⟨("SideBounds", some "__init__"), "__init__", "SideBounds.__init__", defArgs (me 60 0), defBody (me 60 0), defScope (me 60 0), [], []⟩
def d_37 : He.DefD := ⟨("Taken", some "__init__"), "__init__", "Taken.__init__", defArgs (me 62 0), defBody (me 62 0), defScope (me 62 0), [], []⟩
def d_38 : He.DefD := ⟨("Solved", some "__init__"), "__init__", "Solved.__init__", defArgs (me 64 0), defBody (me 64 0), defScope (me 64 0), [], []⟩
def d_39 : He.DefD := ⟨("Ladder", some "__init__"), "__init__", "Ladder.__init__", defArgs (me 65 0), defBody (me 65 0), defScope (me 65 0), [], []⟩
def d_40 : He.DefD := ⟨("Ring", some "__init__"), "__init__", "Ring.__init__", defArgs (me 66 0), defBody (me 66 0), defScope (me 66 0), [], []⟩
def d_41 : He.DefD := ⟨("Unseen", some "__init__"), "__init__", "Unseen.__init__", defArgs (me 68 0), defBody (me 68 0), defScope (me 68 0), [], []⟩
def d_42 : He.DefD := ⟨("Filled", some "__init__"), "__init__", "Filled.__init__", defArgs (me 69 0), defBody (me 69 0), defScope (me 69 0), [], []⟩
def d_43 : He.DefD := ⟨("Twice", some "__init__"), "__init__", "Twice.__init__", defArgs (me 70 0), defBody (me 70 0), defScope (me 70 0), [], []⟩
def d_44 : He.DefD := ⟨("Explained", some "__init__"), "__init__", "Explained.__init__", defArgs (me 71 0), defBody (me 71 0), defScope (me 71 0), [], []⟩
def d_45 : He.DefD := ⟨("_law_hand", none), "_law_hand", "_law_hand", defArgs (top 73), defBody (top 73), defScope (top 73), [], []⟩
def d_46 : He.DefD := ⟨("_law_mixed", none), "_law_mixed", "_law_mixed", defArgs (top 74), defBody (top 74), defScope (top 74), [], []⟩
def d_47 : He.DefD := ⟨("_law_take", none), "_law_take", "_law_take", defArgs (top 75), defBody (top 75), defScope (top 75), [], []⟩
def d_48 : He.DefD := ⟨("_law_all", none), "_law_all", "_law_all", defArgs (top 76), defBody (top 76), defScope (top 76), [], []⟩
def d_49 : He.DefD := ⟨("_law_answers", none), "_law_answers", "_law_answers", defArgs (top 77), defBody (top 77), defScope (top 77), [], []⟩
def d_50 : He.DefD := ⟨("_law_groups", none), "_law_groups", "_law_groups", defArgs (top 78), defBody (top 78), defScope (top 78), [], []⟩
def d_51 : He.DefD := ⟨("_law_bounds", none), "_law_bounds", "_law_bounds", defArgs (top 79), defBody (top 79), defScope (top 79), [], []⟩
def d_52 : He.DefD := ⟨("_law_plans", none), "_law_plans", "_law_plans", defArgs (top 80), defBody (top 80), defScope (top 80), [], []⟩
def d_53 : He.DefD := ⟨("law", none), "law", "law", defArgs (top 81), defBody (top 81), defScope (top 81), [], []⟩
def fn : List He.DefD := [d_0, d_1, d_2, d_3, d_4, d_5, d_6, d_7, d_8, d_9, d_10, d_11, d_12, d_13, d_14, d_15, d_16, d_17, d_18, d_19, d_20, d_21, d_22, d_23, d_24, d_25, d_26, d_27, d_28, d_29, d_30, d_31, d_32, d_33, d_34, d_35, d_36, d_37, d_38, d_39, d_40, d_41, d_42, d_43, d_44, d_45, d_46, d_47, d_48, d_49, d_50, d_51, d_52, d_53]
def fa : List He.Fa := [.noat "Explained" "strangers", .noat "Explained" "numbers", .noat "Twice" "first", .noat "Twice" "second", .noat "Filled" "numbers", .noat "Filled" "strangers", .noat "Unseen" "numbers", .noat "Unseen" "strangers", .noat "Ring" "points", .noat "Ladder" "read", .noat "Ladder" "taken", .noat "Ladder" "solved", .noat "Ladder" "told", .noat "Solved" "steps", .noat "Solved" "letters", .noat "Taken" "steps", .noat "Taken" "turns", .noat "Taken" "missing", .noat "SideBounds" "low", .noat "SideBounds" "bars", .noat "SideBounds" "high", .noat "SideBounds" "book", .noat "Balance" "plus", .noat "Balance" "minus", .noat "Balance" "times", .noat "Balance" "groups", .noat "Parts" "base", .noat "Parts" "lots", .noat "Bent" "spots", .noat "Bent" "along", .noat "Bent" "back", .noat "Bent" "bends", .noat "Bent" "answer", .noat "Bent" "products", .noat "RestHidden" "numbers", .noat "RestWeights" "row", .noat "Whole" "bottom", .noat "Whole" "weights", .noat "Whole" "numbers", .noat "Dependent" "row", .noat "Dependent" "numbers", .noat "Fewest" "count", .noat "Fewest" "row", .noat "Worse" "most", .noat "Mended" "wrong", .noat "Mended" "answers", .noat "Mended" "numbers", .noat "Lost" "answers", .noat "Lost" "numbers", .noat "Meeting" "row", .noat "Meeting" "first", .noat "Meeting" "second", .noat "Missing" "column", .noat "Apart" "terms", .noat "RunTable" "rows", .noat "RunTable" "products", .noat "Run" "spots", .noat "Run" "slopes", .noat "Run" "answer", .noat "Run" "products", .noat "WebCore" "strikes", .noat "WebCore" "ties", .noat "SideLot" "points", .noat "SideLot" "ties", .noat "SideLot" "most", .noat "FewestGroups" "groups", .noat "FewestGroups" "first", .noat "FewestGroups" "many", .noat "Walk" "points", .noat "Walk" "groups", .noat "Piece" "points", .noat "Piece" "ties", .noat "Piece" "groups", .noat "Untold" "path", .noat "Untold" "filling", .noat "Untold" "hidden", .noat "Never" "path", .noat "Never" "answer", .noat "Never" "weights", .noat "Come" "path", .noat "Come" "book", .noat "Come" "filling", .noat "Played" "path", .noat "Played" "answers", .noat "LeastBoth" "row_groups", .noat "LeastBoth" "column_groups", .noat "LeastBoth" "many", .noat "Chain" "cells", .noat "Bounds" "low", .noat "Bounds" "low_budget", .noat "Bounds" "blocks", .noat "Bounds" "high", .noat "Bounds" "high_budget", .noat "Bounds" "cored", .noat "Bounds" "cored_budget", .noat "Parted" "answer", .noat "Parted" "numbers", .noat "Given" "rows", .noat "Clash" "weights", .noat "Recovered" "numbers", .noat "Recovered" "filling", .noat "Block" "rows", .noat "Block" "columns", .noat "Block" "places", .noat "Block" "most", .noat "Core" "strikes", .noat "Core" "cells", .noat "Hidden" "numbers", .noat "Weights" "row", .cls "Weights", .cls "Hidden", .cls "Core", .cls "Block", .cls "Recovered", .cls "Clash", .cls "Given", .cls "Parted", .cls "Bounds", .cls "Chain", .cls "LeastBoth", .cls "Played", .cls "Come", .cls "Never", .cls "Untold", .cls "Piece", .cls "Walk", .cls "FewestGroups", .cls "SideLot", .cls "WebCore", .cls "Run", .cls "RunTable", .cls "Apart", .cls "Missing", .cls "Meeting", .cls "Lost", .cls "Mended", .cls "Worse", .cls "Fewest", .cls "Dependent", .cls "Whole", .cls "RestWeights", .cls "RestHidden", .cls "Bent", .cls "Parts", .cls "Balance", .cls "SideBounds", .cls "Taken", .cls "Solved", .cls "Ladder", .cls "Ring", .cls "Unseen", .cls "Filled", .cls "Twice", .cls "Explained", .glo "law", .mkr "Weights", .glo "Weights", .mkr "Hidden", .glo "Hidden", .mkr "Core", .glo "Core", .mkr "Block", .glo "Block", .mkr "Recovered", .glo "Recovered", .mkr "Clash", .glo "Clash", .mkr "Given", .glo "Given", .mkr "Parted", .glo "Parted", .mkr "Bounds", .glo "Bounds", .mkr "Chain", .glo "Chain", .mkr "LeastBoth", .glo "LeastBoth", .mkr "Played", .glo "Played", .mkr "Come", .glo "Come", .mkr "Never", .glo "Never", .mkr "Untold", .glo "Untold", .mkr "Piece", .glo "Piece", .mkr "Walk", .glo "Walk", .mkr "FewestGroups", .glo "FewestGroups", .mkr "SideLot", .glo "SideLot", .mkr "WebCore", .glo "WebCore", .mkr "Run", .glo "Run", .mkr "RunTable", .glo "RunTable", .mkr "Apart", .glo "Apart", .mkr "Missing", .glo "Missing", .mkr "Meeting", .glo "Meeting", .mkr "Lost", .glo "Lost", .mkr "Mended", .glo "Mended", .mkr "Worse", .glo "Worse", .mkr "Fewest", .glo "Fewest", .mkr "Dependent", .glo "Dependent", .mkr "Whole", .glo "Whole", .mkr "RestWeights", .glo "RestWeights", .mkr "RestHidden", .glo "RestHidden", .mkr "Bent", .glo "Bent", .mkr "Parts", .glo "Parts", .mkr "Balance", .glo "Balance", .mkr "SideBounds", .glo "SideBounds", .mkr "Taken", .glo "Taken", .mkr "Solved", .glo "Solved", .mkr "Ladder", .glo "Ladder", .mkr "Ring", .glo "Ring", .mkr "Unseen", .glo "Unseen", .mkr "Filled", .glo "Filled", .mkr "Twice", .glo "Twice", .mkr "Explained", .glo "Explained", .free "len", .free "int", .free "abs", .glo "_law_hand", .glo "_law_mixed", .glo "_law_take", .free "repr", .glo "_law_all", .glo "_law_answers", .glo "_law_groups", .glo "_law_bounds", .glo "_law_plans", .free "range", .free "isinstance", .free "list"]
abbrev R : PySem.W.OpenRow := PySem.W.OpenLaw.row PySem.Challenge.rw_thinslopes_k77_all_results_keep_their_th
abbrev hk : PySem.W.Hook := He.hookD 4 fa fn
def ob (s : PySem.W.SharedT) : He.AlD := He.obsDG 4 fa fn (HandSHeadRun.getT s)
theorem ob_eq (s : PySem.W.SharedT) : ob s = hk.obs s.abs := He.obsDG_eq (HandSHeadRun.getT_eq s)
theorem run (w : World) : HandSHeadRun.RunEq R (PySem.W.view R.prog [81]) hk ob 100000 loose w := by
  intro os
  kernel_rfl
theorem facts {P : Program} {w : World} {K : PySem.W.Frag} {h : Heap} {mg : Str → Option Value} {f : Addr} (KX : K.In h) (G : h.Ns mainGlobals mg) (hfa : mg ("law" : Str) = some (.ref f)) (c : He.SaysD fa fn K) :
    ∃ (C : Ct) (fd : FuncData), C.K.In h ∧ (∀ (s : Shared) (v : Value), BindsTo s fd ⟨[v], []⟩ [("_law_script", v)]) ∧ ∀ base : Heap, C.K.In base → base.Ns mainGlobals mg → FnG P w C.K mg base 4 f fd ["_law_script"] (spF C g_law 1) := by
  obtain ⟨fd_Weights___init__, F_Weights___init__⟩ := c.def_ 0 (d := d_0) rfl
  obtain ⟨fd_Hidden___init__, F_Hidden___init__⟩ := c.def_ 1 (d := d_1) rfl
  obtain ⟨fd_Core___init__, F_Core___init__⟩ := c.def_ 2 (d := d_2) rfl
  obtain ⟨fd_Block___init__, F_Block___init__⟩ := c.def_ 3 (d := d_3) rfl
  obtain ⟨fd_Recovered___init__, F_Recovered___init__⟩ := c.def_ 4 (d := d_4) rfl
  obtain ⟨fd_Clash___init__, F_Clash___init__⟩ := c.def_ 5 (d := d_5) rfl
  obtain ⟨fd_Given___init__, F_Given___init__⟩ := c.def_ 6 (d := d_6) rfl
  obtain ⟨fd_Parted___init__, F_Parted___init__⟩ := c.def_ 7 (d := d_7) rfl
  obtain ⟨fd_Bounds___init__, F_Bounds___init__⟩ := c.def_ 8 (d := d_8) rfl
  obtain ⟨fd_Chain___init__, F_Chain___init__⟩ := c.def_ 9 (d := d_9) rfl
  obtain ⟨fd_LeastBoth___init__, F_LeastBoth___init__⟩ := c.def_ 10 (d := d_10) rfl
  obtain ⟨fd_Played___init__, F_Played___init__⟩ := c.def_ 11 (d := d_11) rfl
  obtain ⟨fd_Come___init__, F_Come___init__⟩ := c.def_ 12 (d := d_12) rfl
  obtain ⟨fd_Never___init__, F_Never___init__⟩ := c.def_ 13 (d := d_13) rfl
  obtain ⟨fd_Untold___init__, F_Untold___init__⟩ := c.def_ 14 (d := d_14) rfl
  obtain ⟨fd_Piece___init__, F_Piece___init__⟩ := c.def_ 15 (d := d_15) rfl
  obtain ⟨fd_Walk___init__, F_Walk___init__⟩ := c.def_ 16 (d := d_16) rfl
  obtain ⟨fd_FewestGroups___init__, F_FewestGroups___init__⟩ := c.def_ 17 (d := d_17) rfl
  obtain ⟨fd_SideLot___init__, F_SideLot___init__⟩ := c.def_ 18 (d := d_18) rfl
  obtain ⟨fd_WebCore___init__, F_WebCore___init__⟩ := c.def_ 19 (d := d_19) rfl
  obtain ⟨fd_Run___init__, F_Run___init__⟩ := c.def_ 20 (d := d_20) rfl
  obtain ⟨fd_RunTable___init__, F_RunTable___init__⟩ := c.def_ 21 (d := d_21) rfl
  obtain ⟨fd_Apart___init__, F_Apart___init__⟩ := c.def_ 22 (d := d_22) rfl
  obtain ⟨fd_Missing___init__, F_Missing___init__⟩ := c.def_ 23 (d := d_23) rfl
  obtain ⟨fd_Meeting___init__, F_Meeting___init__⟩ := c.def_ 24 (d := d_24) rfl
  obtain ⟨fd_Lost___init__, F_Lost___init__⟩ := c.def_ 25 (d := d_25) rfl
  obtain ⟨fd_Mended___init__, F_Mended___init__⟩ := c.def_ 26 (d := d_26) rfl
  obtain ⟨fd_Worse___init__, F_Worse___init__⟩ := c.def_ 27 (d := d_27) rfl
  obtain ⟨fd_Fewest___init__, F_Fewest___init__⟩ := c.def_ 28 (d := d_28) rfl
  obtain ⟨fd_Dependent___init__, F_Dependent___init__⟩ := c.def_ 29 (d := d_29) rfl
  obtain ⟨fd_Whole___init__, F_Whole___init__⟩ := c.def_ 30 (d := d_30) rfl
  obtain ⟨fd_RestWeights___init__, F_RestWeights___init__⟩ := c.def_ 31 (d := d_31) rfl
  obtain ⟨fd_RestHidden___init__, F_RestHidden___init__⟩ := c.def_ 32 (d := d_32) rfl
  obtain ⟨fd_Bent___init__, F_Bent___init__⟩ := c.def_ 33 (d := d_33) rfl
  obtain ⟨fd_Parts___init__, F_Parts___init__⟩ := c.def_ 34 (d := d_34) rfl
  obtain ⟨fd_Balance___init__, F_Balance___init__⟩ := c.def_ 35 (d := d_35) rfl
  obtain ⟨fd_SideBounds___init__, F_SideBounds___init__⟩ := c.def_ 36 (d := d_36) rfl
  obtain ⟨fd_Taken___init__, F_Taken___init__⟩ := c.def_ 37 (d := d_37) rfl
  obtain ⟨fd_Solved___init__, F_Solved___init__⟩ := c.def_ 38 (d := d_38) rfl
  obtain ⟨fd_Ladder___init__, F_Ladder___init__⟩ := c.def_ 39 (d := d_39) rfl
  obtain ⟨fd_Ring___init__, F_Ring___init__⟩ := c.def_ 40 (d := d_40) rfl
  obtain ⟨fd_Unseen___init__, F_Unseen___init__⟩ := c.def_ 41 (d := d_41) rfl
  obtain ⟨fd_Filled___init__, F_Filled___init__⟩ := c.def_ 42 (d := d_42) rfl
  obtain ⟨fd_Twice___init__, F_Twice___init__⟩ := c.def_ 43 (d := d_43) rfl
  obtain ⟨fd_Explained___init__, F_Explained___init__⟩ := c.def_ 44 (d := d_44) rfl
  obtain ⟨fd__law_hand, F__law_hand⟩ := c.def_ 45 (d := d_45) rfl
  obtain ⟨fd__law_mixed, F__law_mixed⟩ := c.def_ 46 (d := d_46) rfl
  obtain ⟨fd__law_take, F__law_take⟩ := c.def_ 47 (d := d_47) rfl
  obtain ⟨fd__law_all, F__law_all⟩ := c.def_ 48 (d := d_48) rfl
  obtain ⟨fd__law_answers, F__law_answers⟩ := c.def_ 49 (d := d_49) rfl
  obtain ⟨fd__law_groups, F__law_groups⟩ := c.def_ 50 (d := d_50) rfl
  obtain ⟨fd__law_bounds, F__law_bounds⟩ := c.def_ 51 (d := d_51) rfl
  obtain ⟨fd__law_plans, F__law_plans⟩ := c.def_ 52 (d := d_52) rfl
  obtain ⟨fd_law, F_law⟩ := c.def_ 53 (d := d_53) rfl
  have cl_ : ClsAll K nm clN TT := by
    refine ⟨⟨He.cls_ok (c.fact 109 (f := .cls "Weights") rfl), ?_⟩, ?_⟩
    · intro j hj
      simp only [List.mem_cons, List.not_mem_nil, or_false] at hj
      rcases hj with rfl
      · exact He.noat_ok (c.fact 108 (f := .noat "Weights" "row") rfl)
    refine ⟨⟨He.cls_ok (c.fact 110 (f := .cls "Hidden") rfl), ?_⟩, ?_⟩
    · intro j hj
      simp only [List.mem_cons, List.not_mem_nil, or_false] at hj
      rcases hj with rfl
      · exact He.noat_ok (c.fact 107 (f := .noat "Hidden" "numbers") rfl)
    refine ⟨⟨He.cls_ok (c.fact 111 (f := .cls "Core") rfl), ?_⟩, ?_⟩
    · intro j hj
      simp only [List.mem_cons, List.not_mem_nil, or_false] at hj
      rcases hj with rfl | rfl
      · exact He.noat_ok (c.fact 105 (f := .noat "Core" "strikes") rfl)
      · exact He.noat_ok (c.fact 106 (f := .noat "Core" "cells") rfl)
    refine ⟨⟨He.cls_ok (c.fact 112 (f := .cls "Block") rfl), ?_⟩, ?_⟩
    · intro j hj
      simp only [List.mem_cons, List.not_mem_nil, or_false] at hj
      rcases hj with rfl | rfl | rfl | rfl
      · exact He.noat_ok (c.fact 101 (f := .noat "Block" "rows") rfl)
      · exact He.noat_ok (c.fact 102 (f := .noat "Block" "columns") rfl)
      · exact He.noat_ok (c.fact 103 (f := .noat "Block" "places") rfl)
      · exact He.noat_ok (c.fact 104 (f := .noat "Block" "most") rfl)
    refine ⟨⟨He.cls_ok (c.fact 113 (f := .cls "Recovered") rfl), ?_⟩, ?_⟩
    · intro j hj
      simp only [List.mem_cons, List.not_mem_nil, or_false] at hj
      rcases hj with rfl | rfl
      · exact He.noat_ok (c.fact 99 (f := .noat "Recovered" "numbers") rfl)
      · exact He.noat_ok (c.fact 100 (f := .noat "Recovered" "filling") rfl)
    refine ⟨⟨He.cls_ok (c.fact 114 (f := .cls "Clash") rfl), ?_⟩, ?_⟩
    · intro j hj
      simp only [List.mem_cons, List.not_mem_nil, or_false] at hj
      rcases hj with rfl
      · exact He.noat_ok (c.fact 98 (f := .noat "Clash" "weights") rfl)
    refine ⟨⟨He.cls_ok (c.fact 115 (f := .cls "Given") rfl), ?_⟩, ?_⟩
    · intro j hj
      simp only [List.mem_cons, List.not_mem_nil, or_false] at hj
      rcases hj with rfl
      · exact He.noat_ok (c.fact 97 (f := .noat "Given" "rows") rfl)
    refine ⟨⟨He.cls_ok (c.fact 116 (f := .cls "Parted") rfl), ?_⟩, ?_⟩
    · intro j hj
      simp only [List.mem_cons, List.not_mem_nil, or_false] at hj
      rcases hj with rfl | rfl
      · exact He.noat_ok (c.fact 95 (f := .noat "Parted" "answer") rfl)
      · exact He.noat_ok (c.fact 96 (f := .noat "Parted" "numbers") rfl)
    refine ⟨⟨He.cls_ok (c.fact 117 (f := .cls "Bounds") rfl), ?_⟩, ?_⟩
    · intro j hj
      simp only [List.mem_cons, List.not_mem_nil, or_false] at hj
      rcases hj with rfl | rfl | rfl | rfl | rfl | rfl | rfl
      · exact He.noat_ok (c.fact 88 (f := .noat "Bounds" "low") rfl)
      · exact He.noat_ok (c.fact 89 (f := .noat "Bounds" "low_budget") rfl)
      · exact He.noat_ok (c.fact 90 (f := .noat "Bounds" "blocks") rfl)
      · exact He.noat_ok (c.fact 91 (f := .noat "Bounds" "high") rfl)
      · exact He.noat_ok (c.fact 92 (f := .noat "Bounds" "high_budget") rfl)
      · exact He.noat_ok (c.fact 93 (f := .noat "Bounds" "cored") rfl)
      · exact He.noat_ok (c.fact 94 (f := .noat "Bounds" "cored_budget") rfl)
    refine ⟨⟨He.cls_ok (c.fact 118 (f := .cls "Chain") rfl), ?_⟩, ?_⟩
    · intro j hj
      simp only [List.mem_cons, List.not_mem_nil, or_false] at hj
      rcases hj with rfl
      · exact He.noat_ok (c.fact 87 (f := .noat "Chain" "cells") rfl)
    refine ⟨⟨He.cls_ok (c.fact 119 (f := .cls "LeastBoth") rfl), ?_⟩, ?_⟩
    · intro j hj
      simp only [List.mem_cons, List.not_mem_nil, or_false] at hj
      rcases hj with rfl | rfl | rfl
      · exact He.noat_ok (c.fact 84 (f := .noat "LeastBoth" "row_groups") rfl)
      · exact He.noat_ok (c.fact 85 (f := .noat "LeastBoth" "column_groups") rfl)
      · exact He.noat_ok (c.fact 86 (f := .noat "LeastBoth" "many") rfl)
    refine ⟨⟨He.cls_ok (c.fact 120 (f := .cls "Played") rfl), ?_⟩, ?_⟩
    · intro j hj
      simp only [List.mem_cons, List.not_mem_nil, or_false] at hj
      rcases hj with rfl | rfl
      · exact He.noat_ok (c.fact 82 (f := .noat "Played" "path") rfl)
      · exact He.noat_ok (c.fact 83 (f := .noat "Played" "answers") rfl)
    refine ⟨⟨He.cls_ok (c.fact 121 (f := .cls "Come") rfl), ?_⟩, ?_⟩
    · intro j hj
      simp only [List.mem_cons, List.not_mem_nil, or_false] at hj
      rcases hj with rfl | rfl | rfl
      · exact He.noat_ok (c.fact 79 (f := .noat "Come" "path") rfl)
      · exact He.noat_ok (c.fact 80 (f := .noat "Come" "book") rfl)
      · exact He.noat_ok (c.fact 81 (f := .noat "Come" "filling") rfl)
    refine ⟨⟨He.cls_ok (c.fact 122 (f := .cls "Never") rfl), ?_⟩, ?_⟩
    · intro j hj
      simp only [List.mem_cons, List.not_mem_nil, or_false] at hj
      rcases hj with rfl | rfl | rfl
      · exact He.noat_ok (c.fact 76 (f := .noat "Never" "path") rfl)
      · exact He.noat_ok (c.fact 77 (f := .noat "Never" "answer") rfl)
      · exact He.noat_ok (c.fact 78 (f := .noat "Never" "weights") rfl)
    refine ⟨⟨He.cls_ok (c.fact 123 (f := .cls "Untold") rfl), ?_⟩, ?_⟩
    · intro j hj
      simp only [List.mem_cons, List.not_mem_nil, or_false] at hj
      rcases hj with rfl | rfl | rfl
      · exact He.noat_ok (c.fact 73 (f := .noat "Untold" "path") rfl)
      · exact He.noat_ok (c.fact 74 (f := .noat "Untold" "filling") rfl)
      · exact He.noat_ok (c.fact 75 (f := .noat "Untold" "hidden") rfl)
    refine ⟨⟨He.cls_ok (c.fact 124 (f := .cls "Piece") rfl), ?_⟩, ?_⟩
    · intro j hj
      simp only [List.mem_cons, List.not_mem_nil, or_false] at hj
      rcases hj with rfl | rfl | rfl
      · exact He.noat_ok (c.fact 70 (f := .noat "Piece" "points") rfl)
      · exact He.noat_ok (c.fact 71 (f := .noat "Piece" "ties") rfl)
      · exact He.noat_ok (c.fact 72 (f := .noat "Piece" "groups") rfl)
    refine ⟨⟨He.cls_ok (c.fact 125 (f := .cls "Walk") rfl), ?_⟩, ?_⟩
    · intro j hj
      simp only [List.mem_cons, List.not_mem_nil, or_false] at hj
      rcases hj with rfl | rfl
      · exact He.noat_ok (c.fact 68 (f := .noat "Walk" "points") rfl)
      · exact He.noat_ok (c.fact 69 (f := .noat "Walk" "groups") rfl)
    refine ⟨⟨He.cls_ok (c.fact 126 (f := .cls "FewestGroups") rfl), ?_⟩, ?_⟩
    · intro j hj
      simp only [List.mem_cons, List.not_mem_nil, or_false] at hj
      rcases hj with rfl | rfl | rfl
      · exact He.noat_ok (c.fact 65 (f := .noat "FewestGroups" "groups") rfl)
      · exact He.noat_ok (c.fact 66 (f := .noat "FewestGroups" "first") rfl)
      · exact He.noat_ok (c.fact 67 (f := .noat "FewestGroups" "many") rfl)
    refine ⟨⟨He.cls_ok (c.fact 127 (f := .cls "SideLot") rfl), ?_⟩, ?_⟩
    · intro j hj
      simp only [List.mem_cons, List.not_mem_nil, or_false] at hj
      rcases hj with rfl | rfl | rfl
      · exact He.noat_ok (c.fact 62 (f := .noat "SideLot" "points") rfl)
      · exact He.noat_ok (c.fact 63 (f := .noat "SideLot" "ties") rfl)
      · exact He.noat_ok (c.fact 64 (f := .noat "SideLot" "most") rfl)
    refine ⟨⟨He.cls_ok (c.fact 128 (f := .cls "WebCore") rfl), ?_⟩, ?_⟩
    · intro j hj
      simp only [List.mem_cons, List.not_mem_nil, or_false] at hj
      rcases hj with rfl | rfl
      · exact He.noat_ok (c.fact 60 (f := .noat "WebCore" "strikes") rfl)
      · exact He.noat_ok (c.fact 61 (f := .noat "WebCore" "ties") rfl)
    refine ⟨⟨He.cls_ok (c.fact 129 (f := .cls "Run") rfl), ?_⟩, ?_⟩
    · intro j hj
      simp only [List.mem_cons, List.not_mem_nil, or_false] at hj
      rcases hj with rfl | rfl | rfl | rfl
      · exact He.noat_ok (c.fact 56 (f := .noat "Run" "spots") rfl)
      · exact He.noat_ok (c.fact 57 (f := .noat "Run" "slopes") rfl)
      · exact He.noat_ok (c.fact 58 (f := .noat "Run" "answer") rfl)
      · exact He.noat_ok (c.fact 59 (f := .noat "Run" "products") rfl)
    refine ⟨⟨He.cls_ok (c.fact 130 (f := .cls "RunTable") rfl), ?_⟩, ?_⟩
    · intro j hj
      simp only [List.mem_cons, List.not_mem_nil, or_false] at hj
      rcases hj with rfl | rfl
      · exact He.noat_ok (c.fact 54 (f := .noat "RunTable" "rows") rfl)
      · exact He.noat_ok (c.fact 55 (f := .noat "RunTable" "products") rfl)
    refine ⟨⟨He.cls_ok (c.fact 131 (f := .cls "Apart") rfl), ?_⟩, ?_⟩
    · intro j hj
      simp only [List.mem_cons, List.not_mem_nil, or_false] at hj
      rcases hj with rfl
      · exact He.noat_ok (c.fact 53 (f := .noat "Apart" "terms") rfl)
    refine ⟨⟨He.cls_ok (c.fact 132 (f := .cls "Missing") rfl), ?_⟩, ?_⟩
    · intro j hj
      simp only [List.mem_cons, List.not_mem_nil, or_false] at hj
      rcases hj with rfl
      · exact He.noat_ok (c.fact 52 (f := .noat "Missing" "column") rfl)
    refine ⟨⟨He.cls_ok (c.fact 133 (f := .cls "Meeting") rfl), ?_⟩, ?_⟩
    · intro j hj
      simp only [List.mem_cons, List.not_mem_nil, or_false] at hj
      rcases hj with rfl | rfl | rfl
      · exact He.noat_ok (c.fact 49 (f := .noat "Meeting" "row") rfl)
      · exact He.noat_ok (c.fact 50 (f := .noat "Meeting" "first") rfl)
      · exact He.noat_ok (c.fact 51 (f := .noat "Meeting" "second") rfl)
    refine ⟨⟨He.cls_ok (c.fact 134 (f := .cls "Lost") rfl), ?_⟩, ?_⟩
    · intro j hj
      simp only [List.mem_cons, List.not_mem_nil, or_false] at hj
      rcases hj with rfl | rfl
      · exact He.noat_ok (c.fact 47 (f := .noat "Lost" "answers") rfl)
      · exact He.noat_ok (c.fact 48 (f := .noat "Lost" "numbers") rfl)
    refine ⟨⟨He.cls_ok (c.fact 135 (f := .cls "Mended") rfl), ?_⟩, ?_⟩
    · intro j hj
      simp only [List.mem_cons, List.not_mem_nil, or_false] at hj
      rcases hj with rfl | rfl | rfl
      · exact He.noat_ok (c.fact 44 (f := .noat "Mended" "wrong") rfl)
      · exact He.noat_ok (c.fact 45 (f := .noat "Mended" "answers") rfl)
      · exact He.noat_ok (c.fact 46 (f := .noat "Mended" "numbers") rfl)
    refine ⟨⟨He.cls_ok (c.fact 136 (f := .cls "Worse") rfl), ?_⟩, ?_⟩
    · intro j hj
      simp only [List.mem_cons, List.not_mem_nil, or_false] at hj
      rcases hj with rfl
      · exact He.noat_ok (c.fact 43 (f := .noat "Worse" "most") rfl)
    refine ⟨⟨He.cls_ok (c.fact 137 (f := .cls "Fewest") rfl), ?_⟩, ?_⟩
    · intro j hj
      simp only [List.mem_cons, List.not_mem_nil, or_false] at hj
      rcases hj with rfl | rfl
      · exact He.noat_ok (c.fact 41 (f := .noat "Fewest" "count") rfl)
      · exact He.noat_ok (c.fact 42 (f := .noat "Fewest" "row") rfl)
    refine ⟨⟨He.cls_ok (c.fact 138 (f := .cls "Dependent") rfl), ?_⟩, ?_⟩
    · intro j hj
      simp only [List.mem_cons, List.not_mem_nil, or_false] at hj
      rcases hj with rfl | rfl
      · exact He.noat_ok (c.fact 39 (f := .noat "Dependent" "row") rfl)
      · exact He.noat_ok (c.fact 40 (f := .noat "Dependent" "numbers") rfl)
    refine ⟨⟨He.cls_ok (c.fact 139 (f := .cls "Whole") rfl), ?_⟩, ?_⟩
    · intro j hj
      simp only [List.mem_cons, List.not_mem_nil, or_false] at hj
      rcases hj with rfl | rfl | rfl
      · exact He.noat_ok (c.fact 36 (f := .noat "Whole" "bottom") rfl)
      · exact He.noat_ok (c.fact 37 (f := .noat "Whole" "weights") rfl)
      · exact He.noat_ok (c.fact 38 (f := .noat "Whole" "numbers") rfl)
    refine ⟨⟨He.cls_ok (c.fact 140 (f := .cls "RestWeights") rfl), ?_⟩, ?_⟩
    · intro j hj
      simp only [List.mem_cons, List.not_mem_nil, or_false] at hj
      rcases hj with rfl
      · exact He.noat_ok (c.fact 35 (f := .noat "RestWeights" "row") rfl)
    refine ⟨⟨He.cls_ok (c.fact 141 (f := .cls "RestHidden") rfl), ?_⟩, ?_⟩
    · intro j hj
      simp only [List.mem_cons, List.not_mem_nil, or_false] at hj
      rcases hj with rfl
      · exact He.noat_ok (c.fact 34 (f := .noat "RestHidden" "numbers") rfl)
    refine ⟨⟨He.cls_ok (c.fact 142 (f := .cls "Bent") rfl), ?_⟩, ?_⟩
    · intro j hj
      simp only [List.mem_cons, List.not_mem_nil, or_false] at hj
      rcases hj with rfl | rfl | rfl | rfl | rfl | rfl
      · exact He.noat_ok (c.fact 28 (f := .noat "Bent" "spots") rfl)
      · exact He.noat_ok (c.fact 29 (f := .noat "Bent" "along") rfl)
      · exact He.noat_ok (c.fact 30 (f := .noat "Bent" "back") rfl)
      · exact He.noat_ok (c.fact 31 (f := .noat "Bent" "bends") rfl)
      · exact He.noat_ok (c.fact 32 (f := .noat "Bent" "answer") rfl)
      · exact He.noat_ok (c.fact 33 (f := .noat "Bent" "products") rfl)
    refine ⟨⟨He.cls_ok (c.fact 143 (f := .cls "Parts") rfl), ?_⟩, ?_⟩
    · intro j hj
      simp only [List.mem_cons, List.not_mem_nil, or_false] at hj
      rcases hj with rfl | rfl
      · exact He.noat_ok (c.fact 26 (f := .noat "Parts" "base") rfl)
      · exact He.noat_ok (c.fact 27 (f := .noat "Parts" "lots") rfl)
    refine ⟨⟨He.cls_ok (c.fact 144 (f := .cls "Balance") rfl), ?_⟩, ?_⟩
    · intro j hj
      simp only [List.mem_cons, List.not_mem_nil, or_false] at hj
      rcases hj with rfl | rfl | rfl | rfl
      · exact He.noat_ok (c.fact 22 (f := .noat "Balance" "plus") rfl)
      · exact He.noat_ok (c.fact 23 (f := .noat "Balance" "minus") rfl)
      · exact He.noat_ok (c.fact 24 (f := .noat "Balance" "times") rfl)
      · exact He.noat_ok (c.fact 25 (f := .noat "Balance" "groups") rfl)
    refine ⟨⟨He.cls_ok (c.fact 145 (f := .cls "SideBounds") rfl), ?_⟩, ?_⟩
    · intro j hj
      simp only [List.mem_cons, List.not_mem_nil, or_false] at hj
      rcases hj with rfl | rfl | rfl | rfl
      · exact He.noat_ok (c.fact 18 (f := .noat "SideBounds" "low") rfl)
      · exact He.noat_ok (c.fact 19 (f := .noat "SideBounds" "bars") rfl)
      · exact He.noat_ok (c.fact 20 (f := .noat "SideBounds" "high") rfl)
      · exact He.noat_ok (c.fact 21 (f := .noat "SideBounds" "book") rfl)
    refine ⟨⟨He.cls_ok (c.fact 146 (f := .cls "Taken") rfl), ?_⟩, ?_⟩
    · intro j hj
      simp only [List.mem_cons, List.not_mem_nil, or_false] at hj
      rcases hj with rfl | rfl | rfl
      · exact He.noat_ok (c.fact 15 (f := .noat "Taken" "steps") rfl)
      · exact He.noat_ok (c.fact 16 (f := .noat "Taken" "turns") rfl)
      · exact He.noat_ok (c.fact 17 (f := .noat "Taken" "missing") rfl)
    refine ⟨⟨He.cls_ok (c.fact 147 (f := .cls "Solved") rfl), ?_⟩, ?_⟩
    · intro j hj
      simp only [List.mem_cons, List.not_mem_nil, or_false] at hj
      rcases hj with rfl | rfl
      · exact He.noat_ok (c.fact 13 (f := .noat "Solved" "steps") rfl)
      · exact He.noat_ok (c.fact 14 (f := .noat "Solved" "letters") rfl)
    refine ⟨⟨He.cls_ok (c.fact 148 (f := .cls "Ladder") rfl), ?_⟩, ?_⟩
    · intro j hj
      simp only [List.mem_cons, List.not_mem_nil, or_false] at hj
      rcases hj with rfl | rfl | rfl | rfl
      · exact He.noat_ok (c.fact 9 (f := .noat "Ladder" "read") rfl)
      · exact He.noat_ok (c.fact 10 (f := .noat "Ladder" "taken") rfl)
      · exact He.noat_ok (c.fact 11 (f := .noat "Ladder" "solved") rfl)
      · exact He.noat_ok (c.fact 12 (f := .noat "Ladder" "told") rfl)
    refine ⟨⟨He.cls_ok (c.fact 149 (f := .cls "Ring") rfl), ?_⟩, ?_⟩
    · intro j hj
      simp only [List.mem_cons, List.not_mem_nil, or_false] at hj
      rcases hj with rfl
      · exact He.noat_ok (c.fact 8 (f := .noat "Ring" "points") rfl)
    refine ⟨⟨He.cls_ok (c.fact 150 (f := .cls "Unseen") rfl), ?_⟩, ?_⟩
    · intro j hj
      simp only [List.mem_cons, List.not_mem_nil, or_false] at hj
      rcases hj with rfl | rfl
      · exact He.noat_ok (c.fact 6 (f := .noat "Unseen" "numbers") rfl)
      · exact He.noat_ok (c.fact 7 (f := .noat "Unseen" "strangers") rfl)
    refine ⟨⟨He.cls_ok (c.fact 151 (f := .cls "Filled") rfl), ?_⟩, ?_⟩
    · intro j hj
      simp only [List.mem_cons, List.not_mem_nil, or_false] at hj
      rcases hj with rfl | rfl
      · exact He.noat_ok (c.fact 4 (f := .noat "Filled" "numbers") rfl)
      · exact He.noat_ok (c.fact 5 (f := .noat "Filled" "strangers") rfl)
    refine ⟨⟨He.cls_ok (c.fact 152 (f := .cls "Twice") rfl), ?_⟩, ?_⟩
    · intro j hj
      simp only [List.mem_cons, List.not_mem_nil, or_false] at hj
      rcases hj with rfl | rfl
      · exact He.noat_ok (c.fact 2 (f := .noat "Twice" "first") rfl)
      · exact He.noat_ok (c.fact 3 (f := .noat "Twice" "second") rfl)
    refine ⟨⟨He.cls_ok (c.fact 153 (f := .cls "Explained") rfl), ?_⟩, ?_⟩
    · intro j hj
      simp only [List.mem_cons, List.not_mem_nil, or_false] at hj
      rcases hj with rfl | rfl
      · exact He.noat_ok (c.fact 0 (f := .noat "Explained" "strangers") rfl)
      · exact He.noat_ok (c.fact 1 (f := .noat "Explained" "numbers") rfl)
    exact True.intro
  have ct : CtOk (ctOf K TT nm clN) TT nm := ctOk_of nm_nd tt_low cl_
  have e := hfa.symm.trans (He.glo_ok KX G (c.fact 154 (f := .glo "law") rfl))
  cases e
  refine ⟨ctOf K TT nm clN, fd_law, KX, fun s v => FunD.bindsA (ps := ["_law_script"]) F_law (fun _ _ _ _ _ _ us hl => match us, hl with | [_], _ => rfl) s [v] rfl, fun base _ _ => ?_⟩
  have G_Weights___init__ := ok_Weights___init__ (P := P) (w := w) (C := ctOf K TT nm clN) (mg := mg) (base := base) F_Weights___init__ ct
  have H_Weights_1 : HasC P w (ctOf K TT nm clN) mg base 1 "Weights" 0 g_Weights___init__ 2 1 [] [0] := ⟨_, _, _, He.mkr_ok (c.fact 155 (f := .mkr "Weights") rfl), G_Weights___init__, He.glo_ok KX G (c.fact 156 (f := .glo "Weights") rfl), kbnP F_Weights___init__ fun _ _ _ _ _ _ us ws h1 h2 => match us, ws, h1, h2 with | [_, _], [], _, _ => rfl⟩
  have G_Hidden___init__ := ok_Hidden___init__ (P := P) (w := w) (C := ctOf K TT nm clN) (mg := mg) (base := base) F_Hidden___init__ ct
  have H_Hidden_1 : HasC P w (ctOf K TT nm clN) mg base 1 "Hidden" 1 g_Hidden___init__ 2 1 [] [0] := ⟨_, _, _, He.mkr_ok (c.fact 157 (f := .mkr "Hidden") rfl), G_Hidden___init__, He.glo_ok KX G (c.fact 158 (f := .glo "Hidden") rfl), kbnP F_Hidden___init__ fun _ _ _ _ _ _ us ws h1 h2 => match us, ws, h1, h2 with | [_, _], [], _, _ => rfl⟩
  have G_Core___init__ := ok_Core___init__ (P := P) (w := w) (C := ctOf K TT nm clN) (mg := mg) (base := base) F_Core___init__ ct
  have H_Core_2 : HasC P w (ctOf K TT nm clN) mg base 1 "Core" 2 g_Core___init__ 3 2 [] [0, 1] := ⟨_, _, _, He.mkr_ok (c.fact 159 (f := .mkr "Core") rfl), G_Core___init__, He.glo_ok KX G (c.fact 160 (f := .glo "Core") rfl), kbnP F_Core___init__ fun _ _ _ _ _ _ us ws h1 h2 => match us, ws, h1, h2 with | [_, _, _], [], _, _ => rfl⟩
  have H_Core_0_cells_strikes : HasC P w (ctOf K TT nm clN) mg base 1 "Core" 2 g_Core___init__ 3 0 ["cells", "strikes"] [1, 0] := ⟨_, _, _, He.mkr_ok (c.fact 159 (f := .mkr "Core") rfl), G_Core___init__, He.glo_ok KX G (c.fact 160 (f := .glo "Core") rfl), kbnP F_Core___init__ fun _ _ _ _ _ _ us ws h1 h2 => match us, ws, h1, h2 with | [_], [_, _], _, _ => rfl⟩
  have G_Block___init__ := ok_Block___init__ (P := P) (w := w) (C := ctOf K TT nm clN) (mg := mg) (base := base) F_Block___init__ ct
  have H_Block_4 : HasC P w (ctOf K TT nm clN) mg base 1 "Block" 3 g_Block___init__ 5 4 [] [0, 1, 2, 3] := ⟨_, _, _, He.mkr_ok (c.fact 161 (f := .mkr "Block") rfl), G_Block___init__, He.glo_ok KX G (c.fact 162 (f := .glo "Block") rfl), kbnP F_Block___init__ fun _ _ _ _ _ _ us ws h1 h2 => match us, ws, h1, h2 with | [_, _, _, _, _], [], _, _ => rfl⟩
  have H_Block_0_most_places_columns_rows : HasC P w (ctOf K TT nm clN) mg base 1 "Block" 3 g_Block___init__ 5 0 ["most", "places", "columns", "rows"] [3, 2, 1, 0] := ⟨_, _, _, He.mkr_ok (c.fact 161 (f := .mkr "Block") rfl), G_Block___init__, He.glo_ok KX G (c.fact 162 (f := .glo "Block") rfl), kbnP F_Block___init__ fun _ _ _ _ _ _ us ws h1 h2 => match us, ws, h1, h2 with | [_], [_, _, _, _], _, _ => rfl⟩
  have G_Recovered___init__ := ok_Recovered___init__ (P := P) (w := w) (C := ctOf K TT nm clN) (mg := mg) (base := base) F_Recovered___init__ ct
  have H_Recovered_2 : HasC P w (ctOf K TT nm clN) mg base 1 "Recovered" 4 g_Recovered___init__ 3 2 [] [0, 1] := ⟨_, _, _, He.mkr_ok (c.fact 163 (f := .mkr "Recovered") rfl), G_Recovered___init__, He.glo_ok KX G (c.fact 164 (f := .glo "Recovered") rfl), kbnP F_Recovered___init__ fun _ _ _ _ _ _ us ws h1 h2 => match us, ws, h1, h2 with | [_, _, _], [], _, _ => rfl⟩
  have H_Recovered_0_filling_numbers : HasC P w (ctOf K TT nm clN) mg base 1 "Recovered" 4 g_Recovered___init__ 3 0 ["filling", "numbers"] [1, 0] := ⟨_, _, _, He.mkr_ok (c.fact 163 (f := .mkr "Recovered") rfl), G_Recovered___init__, He.glo_ok KX G (c.fact 164 (f := .glo "Recovered") rfl), kbnP F_Recovered___init__ fun _ _ _ _ _ _ us ws h1 h2 => match us, ws, h1, h2 with | [_], [_, _], _, _ => rfl⟩
  have G_Clash___init__ := ok_Clash___init__ (P := P) (w := w) (C := ctOf K TT nm clN) (mg := mg) (base := base) F_Clash___init__ ct
  have H_Clash_1 : HasC P w (ctOf K TT nm clN) mg base 1 "Clash" 5 g_Clash___init__ 2 1 [] [0] := ⟨_, _, _, He.mkr_ok (c.fact 165 (f := .mkr "Clash") rfl), G_Clash___init__, He.glo_ok KX G (c.fact 166 (f := .glo "Clash") rfl), kbnP F_Clash___init__ fun _ _ _ _ _ _ us ws h1 h2 => match us, ws, h1, h2 with | [_, _], [], _, _ => rfl⟩
  have G_Given___init__ := ok_Given___init__ (P := P) (w := w) (C := ctOf K TT nm clN) (mg := mg) (base := base) F_Given___init__ ct
  have H_Given_1 : HasC P w (ctOf K TT nm clN) mg base 1 "Given" 6 g_Given___init__ 2 1 [] [0] := ⟨_, _, _, He.mkr_ok (c.fact 167 (f := .mkr "Given") rfl), G_Given___init__, He.glo_ok KX G (c.fact 168 (f := .glo "Given") rfl), kbnP F_Given___init__ fun _ _ _ _ _ _ us ws h1 h2 => match us, ws, h1, h2 with | [_, _], [], _, _ => rfl⟩
  have G_Parted___init__ := ok_Parted___init__ (P := P) (w := w) (C := ctOf K TT nm clN) (mg := mg) (base := base) F_Parted___init__ ct
  have H_Parted_2 : HasC P w (ctOf K TT nm clN) mg base 1 "Parted" 7 g_Parted___init__ 3 2 [] [0, 1] := ⟨_, _, _, He.mkr_ok (c.fact 169 (f := .mkr "Parted") rfl), G_Parted___init__, He.glo_ok KX G (c.fact 170 (f := .glo "Parted") rfl), kbnP F_Parted___init__ fun _ _ _ _ _ _ us ws h1 h2 => match us, ws, h1, h2 with | [_, _, _], [], _, _ => rfl⟩
  have H_Parted_0_numbers_answer : HasC P w (ctOf K TT nm clN) mg base 1 "Parted" 7 g_Parted___init__ 3 0 ["numbers", "answer"] [1, 0] := ⟨_, _, _, He.mkr_ok (c.fact 169 (f := .mkr "Parted") rfl), G_Parted___init__, He.glo_ok KX G (c.fact 170 (f := .glo "Parted") rfl), kbnP F_Parted___init__ fun _ _ _ _ _ _ us ws h1 h2 => match us, ws, h1, h2 with | [_], [_, _], _, _ => rfl⟩
  have G_Bounds___init__ := ok_Bounds___init__ (P := P) (w := w) (C := ctOf K TT nm clN) (mg := mg) (base := base) F_Bounds___init__ ct
  have H_Bounds_7 : HasC P w (ctOf K TT nm clN) mg base 1 "Bounds" 8 g_Bounds___init__ 8 7 [] [0, 1, 2, 3, 4, 5, 6] := ⟨_, _, _, He.mkr_ok (c.fact 171 (f := .mkr "Bounds") rfl), G_Bounds___init__, He.glo_ok KX G (c.fact 172 (f := .glo "Bounds") rfl), kbnP F_Bounds___init__ fun _ _ _ _ _ _ us ws h1 h2 => match us, ws, h1, h2 with | [_, _, _, _, _, _, _, _], [], _, _ => rfl⟩
  have H_Bounds_0_cored_budget_cored_high_budget_high_blocks_low_budget_low : HasC P w (ctOf K TT nm clN) mg base 1 "Bounds" 8 g_Bounds___init__ 8 0 ["cored_budget", "cored", "high_budget", "high", "blocks", "low_budget", "low"] [6, 5, 4, 3, 2, 1, 0] := ⟨_, _, _, He.mkr_ok (c.fact 171 (f := .mkr "Bounds") rfl), G_Bounds___init__, He.glo_ok KX G (c.fact 172 (f := .glo "Bounds") rfl), kbnP F_Bounds___init__ fun _ _ _ _ _ _ us ws h1 h2 => match us, ws, h1, h2 with | [_], [_, _, _, _, _, _, _], _, _ => rfl⟩
  have G_Chain___init__ := ok_Chain___init__ (P := P) (w := w) (C := ctOf K TT nm clN) (mg := mg) (base := base) F_Chain___init__ ct
  have H_Chain_1 : HasC P w (ctOf K TT nm clN) mg base 1 "Chain" 9 g_Chain___init__ 2 1 [] [0] := ⟨_, _, _, He.mkr_ok (c.fact 173 (f := .mkr "Chain") rfl), G_Chain___init__, He.glo_ok KX G (c.fact 174 (f := .glo "Chain") rfl), kbnP F_Chain___init__ fun _ _ _ _ _ _ us ws h1 h2 => match us, ws, h1, h2 with | [_, _], [], _, _ => rfl⟩
  have G_LeastBoth___init__ := ok_LeastBoth___init__ (P := P) (w := w) (C := ctOf K TT nm clN) (mg := mg) (base := base) F_LeastBoth___init__ ct
  have H_LeastBoth_3 : HasC P w (ctOf K TT nm clN) mg base 1 "LeastBoth" 10 g_LeastBoth___init__ 4 3 [] [0, 1, 2] := ⟨_, _, _, He.mkr_ok (c.fact 175 (f := .mkr "LeastBoth") rfl), G_LeastBoth___init__, He.glo_ok KX G (c.fact 176 (f := .glo "LeastBoth") rfl), kbnP F_LeastBoth___init__ fun _ _ _ _ _ _ us ws h1 h2 => match us, ws, h1, h2 with | [_, _, _, _], [], _, _ => rfl⟩
  have G_Played___init__ := ok_Played___init__ (P := P) (w := w) (C := ctOf K TT nm clN) (mg := mg) (base := base) F_Played___init__ ct
  have H_Played_2 : HasC P w (ctOf K TT nm clN) mg base 1 "Played" 11 g_Played___init__ 3 2 [] [0, 1] := ⟨_, _, _, He.mkr_ok (c.fact 177 (f := .mkr "Played") rfl), G_Played___init__, He.glo_ok KX G (c.fact 178 (f := .glo "Played") rfl), kbnP F_Played___init__ fun _ _ _ _ _ _ us ws h1 h2 => match us, ws, h1, h2 with | [_, _, _], [], _, _ => rfl⟩
  have H_Played_0_answers_path : HasC P w (ctOf K TT nm clN) mg base 1 "Played" 11 g_Played___init__ 3 0 ["answers", "path"] [1, 0] := ⟨_, _, _, He.mkr_ok (c.fact 177 (f := .mkr "Played") rfl), G_Played___init__, He.glo_ok KX G (c.fact 178 (f := .glo "Played") rfl), kbnP F_Played___init__ fun _ _ _ _ _ _ us ws h1 h2 => match us, ws, h1, h2 with | [_], [_, _], _, _ => rfl⟩
  have G_Come___init__ := ok_Come___init__ (P := P) (w := w) (C := ctOf K TT nm clN) (mg := mg) (base := base) F_Come___init__ ct
  have H_Come_3 : HasC P w (ctOf K TT nm clN) mg base 1 "Come" 12 g_Come___init__ 4 3 [] [0, 1, 2] := ⟨_, _, _, He.mkr_ok (c.fact 179 (f := .mkr "Come") rfl), G_Come___init__, He.glo_ok KX G (c.fact 180 (f := .glo "Come") rfl), kbnP F_Come___init__ fun _ _ _ _ _ _ us ws h1 h2 => match us, ws, h1, h2 with | [_, _, _, _], [], _, _ => rfl⟩
  have H_Come_0_filling_book_path : HasC P w (ctOf K TT nm clN) mg base 1 "Come" 12 g_Come___init__ 4 0 ["filling", "book", "path"] [2, 1, 0] := ⟨_, _, _, He.mkr_ok (c.fact 179 (f := .mkr "Come") rfl), G_Come___init__, He.glo_ok KX G (c.fact 180 (f := .glo "Come") rfl), kbnP F_Come___init__ fun _ _ _ _ _ _ us ws h1 h2 => match us, ws, h1, h2 with | [_], [_, _, _], _, _ => rfl⟩
  have G_Never___init__ := ok_Never___init__ (P := P) (w := w) (C := ctOf K TT nm clN) (mg := mg) (base := base) F_Never___init__ ct
  have H_Never_3 : HasC P w (ctOf K TT nm clN) mg base 1 "Never" 13 g_Never___init__ 4 3 [] [0, 1, 2] := ⟨_, _, _, He.mkr_ok (c.fact 181 (f := .mkr "Never") rfl), G_Never___init__, He.glo_ok KX G (c.fact 182 (f := .glo "Never") rfl), kbnP F_Never___init__ fun _ _ _ _ _ _ us ws h1 h2 => match us, ws, h1, h2 with | [_, _, _, _], [], _, _ => rfl⟩
  have H_Never_0_weights_answer_path : HasC P w (ctOf K TT nm clN) mg base 1 "Never" 13 g_Never___init__ 4 0 ["weights", "answer", "path"] [2, 1, 0] := ⟨_, _, _, He.mkr_ok (c.fact 181 (f := .mkr "Never") rfl), G_Never___init__, He.glo_ok KX G (c.fact 182 (f := .glo "Never") rfl), kbnP F_Never___init__ fun _ _ _ _ _ _ us ws h1 h2 => match us, ws, h1, h2 with | [_], [_, _, _], _, _ => rfl⟩
  have G_Untold___init__ := ok_Untold___init__ (P := P) (w := w) (C := ctOf K TT nm clN) (mg := mg) (base := base) F_Untold___init__ ct
  have H_Untold_3 : HasC P w (ctOf K TT nm clN) mg base 1 "Untold" 14 g_Untold___init__ 4 3 [] [0, 1, 2] := ⟨_, _, _, He.mkr_ok (c.fact 183 (f := .mkr "Untold") rfl), G_Untold___init__, He.glo_ok KX G (c.fact 184 (f := .glo "Untold") rfl), kbnP F_Untold___init__ fun _ _ _ _ _ _ us ws h1 h2 => match us, ws, h1, h2 with | [_, _, _, _], [], _, _ => rfl⟩
  have H_Untold_0_hidden_filling_path : HasC P w (ctOf K TT nm clN) mg base 1 "Untold" 14 g_Untold___init__ 4 0 ["hidden", "filling", "path"] [2, 1, 0] := ⟨_, _, _, He.mkr_ok (c.fact 183 (f := .mkr "Untold") rfl), G_Untold___init__, He.glo_ok KX G (c.fact 184 (f := .glo "Untold") rfl), kbnP F_Untold___init__ fun _ _ _ _ _ _ us ws h1 h2 => match us, ws, h1, h2 with | [_], [_, _, _], _, _ => rfl⟩
  have G_Piece___init__ := ok_Piece___init__ (P := P) (w := w) (C := ctOf K TT nm clN) (mg := mg) (base := base) F_Piece___init__ ct
  have H_Piece_3 : HasC P w (ctOf K TT nm clN) mg base 1 "Piece" 15 g_Piece___init__ 4 3 [] [0, 1, 2] := ⟨_, _, _, He.mkr_ok (c.fact 185 (f := .mkr "Piece") rfl), G_Piece___init__, He.glo_ok KX G (c.fact 186 (f := .glo "Piece") rfl), kbnP F_Piece___init__ fun _ _ _ _ _ _ us ws h1 h2 => match us, ws, h1, h2 with | [_, _, _, _], [], _, _ => rfl⟩
  have H_Piece_0_groups_ties_points : HasC P w (ctOf K TT nm clN) mg base 1 "Piece" 15 g_Piece___init__ 4 0 ["groups", "ties", "points"] [2, 1, 0] := ⟨_, _, _, He.mkr_ok (c.fact 185 (f := .mkr "Piece") rfl), G_Piece___init__, He.glo_ok KX G (c.fact 186 (f := .glo "Piece") rfl), kbnP F_Piece___init__ fun _ _ _ _ _ _ us ws h1 h2 => match us, ws, h1, h2 with | [_], [_, _, _], _, _ => rfl⟩
  have G_Walk___init__ := ok_Walk___init__ (P := P) (w := w) (C := ctOf K TT nm clN) (mg := mg) (base := base) F_Walk___init__ ct
  have H_Walk_2 : HasC P w (ctOf K TT nm clN) mg base 1 "Walk" 16 g_Walk___init__ 3 2 [] [0, 1] := ⟨_, _, _, He.mkr_ok (c.fact 187 (f := .mkr "Walk") rfl), G_Walk___init__, He.glo_ok KX G (c.fact 188 (f := .glo "Walk") rfl), kbnP F_Walk___init__ fun _ _ _ _ _ _ us ws h1 h2 => match us, ws, h1, h2 with | [_, _, _], [], _, _ => rfl⟩
  have H_Walk_0_groups_points : HasC P w (ctOf K TT nm clN) mg base 1 "Walk" 16 g_Walk___init__ 3 0 ["groups", "points"] [1, 0] := ⟨_, _, _, He.mkr_ok (c.fact 187 (f := .mkr "Walk") rfl), G_Walk___init__, He.glo_ok KX G (c.fact 188 (f := .glo "Walk") rfl), kbnP F_Walk___init__ fun _ _ _ _ _ _ us ws h1 h2 => match us, ws, h1, h2 with | [_], [_, _], _, _ => rfl⟩
  have G_FewestGroups___init__ := ok_FewestGroups___init__ (P := P) (w := w) (C := ctOf K TT nm clN) (mg := mg) (base := base) F_FewestGroups___init__ ct
  have H_FewestGroups_3 : HasC P w (ctOf K TT nm clN) mg base 1 "FewestGroups" 17 g_FewestGroups___init__ 4 3 [] [0, 1, 2] := ⟨_, _, _, He.mkr_ok (c.fact 189 (f := .mkr "FewestGroups") rfl), G_FewestGroups___init__, He.glo_ok KX G (c.fact 190 (f := .glo "FewestGroups") rfl), kbnP F_FewestGroups___init__ fun _ _ _ _ _ _ us ws h1 h2 => match us, ws, h1, h2 with | [_, _, _, _], [], _, _ => rfl⟩
  have H_FewestGroups_0_many_first_groups : HasC P w (ctOf K TT nm clN) mg base 1 "FewestGroups" 17 g_FewestGroups___init__ 4 0 ["many", "first", "groups"] [2, 1, 0] := ⟨_, _, _, He.mkr_ok (c.fact 189 (f := .mkr "FewestGroups") rfl), G_FewestGroups___init__, He.glo_ok KX G (c.fact 190 (f := .glo "FewestGroups") rfl), kbnP F_FewestGroups___init__ fun _ _ _ _ _ _ us ws h1 h2 => match us, ws, h1, h2 with | [_], [_, _, _], _, _ => rfl⟩
  have G_SideLot___init__ := ok_SideLot___init__ (P := P) (w := w) (C := ctOf K TT nm clN) (mg := mg) (base := base) F_SideLot___init__ ct
  have H_SideLot_3 : HasC P w (ctOf K TT nm clN) mg base 1 "SideLot" 18 g_SideLot___init__ 4 3 [] [0, 1, 2] := ⟨_, _, _, He.mkr_ok (c.fact 191 (f := .mkr "SideLot") rfl), G_SideLot___init__, He.glo_ok KX G (c.fact 192 (f := .glo "SideLot") rfl), kbnP F_SideLot___init__ fun _ _ _ _ _ _ us ws h1 h2 => match us, ws, h1, h2 with | [_, _, _, _], [], _, _ => rfl⟩
  have H_SideLot_0_most_ties_points : HasC P w (ctOf K TT nm clN) mg base 1 "SideLot" 18 g_SideLot___init__ 4 0 ["most", "ties", "points"] [2, 1, 0] := ⟨_, _, _, He.mkr_ok (c.fact 191 (f := .mkr "SideLot") rfl), G_SideLot___init__, He.glo_ok KX G (c.fact 192 (f := .glo "SideLot") rfl), kbnP F_SideLot___init__ fun _ _ _ _ _ _ us ws h1 h2 => match us, ws, h1, h2 with | [_], [_, _, _], _, _ => rfl⟩
  have G_WebCore___init__ := ok_WebCore___init__ (P := P) (w := w) (C := ctOf K TT nm clN) (mg := mg) (base := base) F_WebCore___init__ ct
  have H_WebCore_2 : HasC P w (ctOf K TT nm clN) mg base 1 "WebCore" 19 g_WebCore___init__ 3 2 [] [0, 1] := ⟨_, _, _, He.mkr_ok (c.fact 193 (f := .mkr "WebCore") rfl), G_WebCore___init__, He.glo_ok KX G (c.fact 194 (f := .glo "WebCore") rfl), kbnP F_WebCore___init__ fun _ _ _ _ _ _ us ws h1 h2 => match us, ws, h1, h2 with | [_, _, _], [], _, _ => rfl⟩
  have H_WebCore_0_ties_strikes : HasC P w (ctOf K TT nm clN) mg base 1 "WebCore" 19 g_WebCore___init__ 3 0 ["ties", "strikes"] [1, 0] := ⟨_, _, _, He.mkr_ok (c.fact 193 (f := .mkr "WebCore") rfl), G_WebCore___init__, He.glo_ok KX G (c.fact 194 (f := .glo "WebCore") rfl), kbnP F_WebCore___init__ fun _ _ _ _ _ _ us ws h1 h2 => match us, ws, h1, h2 with | [_], [_, _], _, _ => rfl⟩
  have G_Run___init__ := ok_Run___init__ (P := P) (w := w) (C := ctOf K TT nm clN) (mg := mg) (base := base) F_Run___init__ ct
  have H_Run_4 : HasC P w (ctOf K TT nm clN) mg base 1 "Run" 20 g_Run___init__ 5 4 [] [0, 1, 2, 3] := ⟨_, _, _, He.mkr_ok (c.fact 195 (f := .mkr "Run") rfl), G_Run___init__, He.glo_ok KX G (c.fact 196 (f := .glo "Run") rfl), kbnP F_Run___init__ fun _ _ _ _ _ _ us ws h1 h2 => match us, ws, h1, h2 with | [_, _, _, _, _], [], _, _ => rfl⟩
  have H_Run_0_products_answer_slopes_spots : HasC P w (ctOf K TT nm clN) mg base 1 "Run" 20 g_Run___init__ 5 0 ["products", "answer", "slopes", "spots"] [3, 2, 1, 0] := ⟨_, _, _, He.mkr_ok (c.fact 195 (f := .mkr "Run") rfl), G_Run___init__, He.glo_ok KX G (c.fact 196 (f := .glo "Run") rfl), kbnP F_Run___init__ fun _ _ _ _ _ _ us ws h1 h2 => match us, ws, h1, h2 with | [_], [_, _, _, _], _, _ => rfl⟩
  have G_RunTable___init__ := ok_RunTable___init__ (P := P) (w := w) (C := ctOf K TT nm clN) (mg := mg) (base := base) F_RunTable___init__ ct
  have H_RunTable_2 : HasC P w (ctOf K TT nm clN) mg base 1 "RunTable" 21 g_RunTable___init__ 3 2 [] [0, 1] := ⟨_, _, _, He.mkr_ok (c.fact 197 (f := .mkr "RunTable") rfl), G_RunTable___init__, He.glo_ok KX G (c.fact 198 (f := .glo "RunTable") rfl), kbnP F_RunTable___init__ fun _ _ _ _ _ _ us ws h1 h2 => match us, ws, h1, h2 with | [_, _, _], [], _, _ => rfl⟩
  have H_RunTable_0_products_rows : HasC P w (ctOf K TT nm clN) mg base 1 "RunTable" 21 g_RunTable___init__ 3 0 ["products", "rows"] [1, 0] := ⟨_, _, _, He.mkr_ok (c.fact 197 (f := .mkr "RunTable") rfl), G_RunTable___init__, He.glo_ok KX G (c.fact 198 (f := .glo "RunTable") rfl), kbnP F_RunTable___init__ fun _ _ _ _ _ _ us ws h1 h2 => match us, ws, h1, h2 with | [_], [_, _], _, _ => rfl⟩
  have G_Apart___init__ := ok_Apart___init__ (P := P) (w := w) (C := ctOf K TT nm clN) (mg := mg) (base := base) F_Apart___init__ ct
  have H_Apart_1 : HasC P w (ctOf K TT nm clN) mg base 1 "Apart" 22 g_Apart___init__ 2 1 [] [0] := ⟨_, _, _, He.mkr_ok (c.fact 199 (f := .mkr "Apart") rfl), G_Apart___init__, He.glo_ok KX G (c.fact 200 (f := .glo "Apart") rfl), kbnP F_Apart___init__ fun _ _ _ _ _ _ us ws h1 h2 => match us, ws, h1, h2 with | [_, _], [], _, _ => rfl⟩
  have G_Missing___init__ := ok_Missing___init__ (P := P) (w := w) (C := ctOf K TT nm clN) (mg := mg) (base := base) F_Missing___init__ ct
  have H_Missing_1 : HasC P w (ctOf K TT nm clN) mg base 1 "Missing" 23 g_Missing___init__ 2 1 [] [0] := ⟨_, _, _, He.mkr_ok (c.fact 201 (f := .mkr "Missing") rfl), G_Missing___init__, He.glo_ok KX G (c.fact 202 (f := .glo "Missing") rfl), kbnP F_Missing___init__ fun _ _ _ _ _ _ us ws h1 h2 => match us, ws, h1, h2 with | [_, _], [], _, _ => rfl⟩
  have G_Meeting___init__ := ok_Meeting___init__ (P := P) (w := w) (C := ctOf K TT nm clN) (mg := mg) (base := base) F_Meeting___init__ ct
  have H_Meeting_3 : HasC P w (ctOf K TT nm clN) mg base 1 "Meeting" 24 g_Meeting___init__ 4 3 [] [0, 1, 2] := ⟨_, _, _, He.mkr_ok (c.fact 203 (f := .mkr "Meeting") rfl), G_Meeting___init__, He.glo_ok KX G (c.fact 204 (f := .glo "Meeting") rfl), kbnP F_Meeting___init__ fun _ _ _ _ _ _ us ws h1 h2 => match us, ws, h1, h2 with | [_, _, _, _], [], _, _ => rfl⟩
  have H_Meeting_0_second_first_row : HasC P w (ctOf K TT nm clN) mg base 1 "Meeting" 24 g_Meeting___init__ 4 0 ["second", "first", "row"] [2, 1, 0] := ⟨_, _, _, He.mkr_ok (c.fact 203 (f := .mkr "Meeting") rfl), G_Meeting___init__, He.glo_ok KX G (c.fact 204 (f := .glo "Meeting") rfl), kbnP F_Meeting___init__ fun _ _ _ _ _ _ us ws h1 h2 => match us, ws, h1, h2 with | [_], [_, _, _], _, _ => rfl⟩
  have G_Lost___init__ := ok_Lost___init__ (P := P) (w := w) (C := ctOf K TT nm clN) (mg := mg) (base := base) F_Lost___init__ ct
  have H_Lost_2 : HasC P w (ctOf K TT nm clN) mg base 1 "Lost" 25 g_Lost___init__ 3 2 [] [0, 1] := ⟨_, _, _, He.mkr_ok (c.fact 205 (f := .mkr "Lost") rfl), G_Lost___init__, He.glo_ok KX G (c.fact 206 (f := .glo "Lost") rfl), kbnP F_Lost___init__ fun _ _ _ _ _ _ us ws h1 h2 => match us, ws, h1, h2 with | [_, _, _], [], _, _ => rfl⟩
  have H_Lost_0_numbers_answers : HasC P w (ctOf K TT nm clN) mg base 1 "Lost" 25 g_Lost___init__ 3 0 ["numbers", "answers"] [1, 0] := ⟨_, _, _, He.mkr_ok (c.fact 205 (f := .mkr "Lost") rfl), G_Lost___init__, He.glo_ok KX G (c.fact 206 (f := .glo "Lost") rfl), kbnP F_Lost___init__ fun _ _ _ _ _ _ us ws h1 h2 => match us, ws, h1, h2 with | [_], [_, _], _, _ => rfl⟩
  have G_Mended___init__ := ok_Mended___init__ (P := P) (w := w) (C := ctOf K TT nm clN) (mg := mg) (base := base) F_Mended___init__ ct
  have H_Mended_3 : HasC P w (ctOf K TT nm clN) mg base 1 "Mended" 26 g_Mended___init__ 4 3 [] [0, 1, 2] := ⟨_, _, _, He.mkr_ok (c.fact 207 (f := .mkr "Mended") rfl), G_Mended___init__, He.glo_ok KX G (c.fact 208 (f := .glo "Mended") rfl), kbnP F_Mended___init__ fun _ _ _ _ _ _ us ws h1 h2 => match us, ws, h1, h2 with | [_, _, _, _], [], _, _ => rfl⟩
  have H_Mended_0_numbers_answers_wrong : HasC P w (ctOf K TT nm clN) mg base 1 "Mended" 26 g_Mended___init__ 4 0 ["numbers", "answers", "wrong"] [2, 1, 0] := ⟨_, _, _, He.mkr_ok (c.fact 207 (f := .mkr "Mended") rfl), G_Mended___init__, He.glo_ok KX G (c.fact 208 (f := .glo "Mended") rfl), kbnP F_Mended___init__ fun _ _ _ _ _ _ us ws h1 h2 => match us, ws, h1, h2 with | [_], [_, _, _], _, _ => rfl⟩
  have G_Worse___init__ := ok_Worse___init__ (P := P) (w := w) (C := ctOf K TT nm clN) (mg := mg) (base := base) F_Worse___init__ ct
  have H_Worse_1 : HasC P w (ctOf K TT nm clN) mg base 1 "Worse" 27 g_Worse___init__ 2 1 [] [0] := ⟨_, _, _, He.mkr_ok (c.fact 209 (f := .mkr "Worse") rfl), G_Worse___init__, He.glo_ok KX G (c.fact 210 (f := .glo "Worse") rfl), kbnP F_Worse___init__ fun _ _ _ _ _ _ us ws h1 h2 => match us, ws, h1, h2 with | [_, _], [], _, _ => rfl⟩
  have G_Fewest___init__ := ok_Fewest___init__ (P := P) (w := w) (C := ctOf K TT nm clN) (mg := mg) (base := base) F_Fewest___init__ ct
  have H_Fewest_2 : HasC P w (ctOf K TT nm clN) mg base 1 "Fewest" 28 g_Fewest___init__ 3 2 [] [0, 1] := ⟨_, _, _, He.mkr_ok (c.fact 211 (f := .mkr "Fewest") rfl), G_Fewest___init__, He.glo_ok KX G (c.fact 212 (f := .glo "Fewest") rfl), kbnP F_Fewest___init__ fun _ _ _ _ _ _ us ws h1 h2 => match us, ws, h1, h2 with | [_, _, _], [], _, _ => rfl⟩
  have H_Fewest_0_row_count : HasC P w (ctOf K TT nm clN) mg base 1 "Fewest" 28 g_Fewest___init__ 3 0 ["row", "count"] [1, 0] := ⟨_, _, _, He.mkr_ok (c.fact 211 (f := .mkr "Fewest") rfl), G_Fewest___init__, He.glo_ok KX G (c.fact 212 (f := .glo "Fewest") rfl), kbnP F_Fewest___init__ fun _ _ _ _ _ _ us ws h1 h2 => match us, ws, h1, h2 with | [_], [_, _], _, _ => rfl⟩
  have G_Dependent___init__ := ok_Dependent___init__ (P := P) (w := w) (C := ctOf K TT nm clN) (mg := mg) (base := base) F_Dependent___init__ ct
  have H_Dependent_2 : HasC P w (ctOf K TT nm clN) mg base 1 "Dependent" 29 g_Dependent___init__ 3 2 [] [0, 1] := ⟨_, _, _, He.mkr_ok (c.fact 213 (f := .mkr "Dependent") rfl), G_Dependent___init__, He.glo_ok KX G (c.fact 214 (f := .glo "Dependent") rfl), kbnP F_Dependent___init__ fun _ _ _ _ _ _ us ws h1 h2 => match us, ws, h1, h2 with | [_, _, _], [], _, _ => rfl⟩
  have H_Dependent_0_numbers_row : HasC P w (ctOf K TT nm clN) mg base 1 "Dependent" 29 g_Dependent___init__ 3 0 ["numbers", "row"] [1, 0] := ⟨_, _, _, He.mkr_ok (c.fact 213 (f := .mkr "Dependent") rfl), G_Dependent___init__, He.glo_ok KX G (c.fact 214 (f := .glo "Dependent") rfl), kbnP F_Dependent___init__ fun _ _ _ _ _ _ us ws h1 h2 => match us, ws, h1, h2 with | [_], [_, _], _, _ => rfl⟩
  have G_Whole___init__ := ok_Whole___init__ (P := P) (w := w) (C := ctOf K TT nm clN) (mg := mg) (base := base) F_Whole___init__ ct
  have H_Whole_3 : HasC P w (ctOf K TT nm clN) mg base 1 "Whole" 30 g_Whole___init__ 4 3 [] [0, 1, 2] := ⟨_, _, _, He.mkr_ok (c.fact 215 (f := .mkr "Whole") rfl), G_Whole___init__, He.glo_ok KX G (c.fact 216 (f := .glo "Whole") rfl), kbnP F_Whole___init__ fun _ _ _ _ _ _ us ws h1 h2 => match us, ws, h1, h2 with | [_, _, _, _], [], _, _ => rfl⟩
  have H_Whole_0_numbers_weights_bottom : HasC P w (ctOf K TT nm clN) mg base 1 "Whole" 30 g_Whole___init__ 4 0 ["numbers", "weights", "bottom"] [2, 1, 0] := ⟨_, _, _, He.mkr_ok (c.fact 215 (f := .mkr "Whole") rfl), G_Whole___init__, He.glo_ok KX G (c.fact 216 (f := .glo "Whole") rfl), kbnP F_Whole___init__ fun _ _ _ _ _ _ us ws h1 h2 => match us, ws, h1, h2 with | [_], [_, _, _], _, _ => rfl⟩
  have G_RestWeights___init__ := ok_RestWeights___init__ (P := P) (w := w) (C := ctOf K TT nm clN) (mg := mg) (base := base) F_RestWeights___init__ ct
  have H_RestWeights_1 : HasC P w (ctOf K TT nm clN) mg base 1 "RestWeights" 31 g_RestWeights___init__ 2 1 [] [0] := ⟨_, _, _, He.mkr_ok (c.fact 217 (f := .mkr "RestWeights") rfl), G_RestWeights___init__, He.glo_ok KX G (c.fact 218 (f := .glo "RestWeights") rfl), kbnP F_RestWeights___init__ fun _ _ _ _ _ _ us ws h1 h2 => match us, ws, h1, h2 with | [_, _], [], _, _ => rfl⟩
  have G_RestHidden___init__ := ok_RestHidden___init__ (P := P) (w := w) (C := ctOf K TT nm clN) (mg := mg) (base := base) F_RestHidden___init__ ct
  have H_RestHidden_1 : HasC P w (ctOf K TT nm clN) mg base 1 "RestHidden" 32 g_RestHidden___init__ 2 1 [] [0] := ⟨_, _, _, He.mkr_ok (c.fact 219 (f := .mkr "RestHidden") rfl), G_RestHidden___init__, He.glo_ok KX G (c.fact 220 (f := .glo "RestHidden") rfl), kbnP F_RestHidden___init__ fun _ _ _ _ _ _ us ws h1 h2 => match us, ws, h1, h2 with | [_, _], [], _, _ => rfl⟩
  have G_Bent___init__ := ok_Bent___init__ (P := P) (w := w) (C := ctOf K TT nm clN) (mg := mg) (base := base) F_Bent___init__ ct
  have H_Bent_6 : HasC P w (ctOf K TT nm clN) mg base 1 "Bent" 33 g_Bent___init__ 7 6 [] [0, 1, 2, 3, 4, 5] := ⟨_, _, _, He.mkr_ok (c.fact 221 (f := .mkr "Bent") rfl), G_Bent___init__, He.glo_ok KX G (c.fact 222 (f := .glo "Bent") rfl), kbnP F_Bent___init__ fun _ _ _ _ _ _ us ws h1 h2 => match us, ws, h1, h2 with | [_, _, _, _, _, _, _], [], _, _ => rfl⟩
  have H_Bent_0_products_answer_bends_back_along_spots : HasC P w (ctOf K TT nm clN) mg base 1 "Bent" 33 g_Bent___init__ 7 0 ["products", "answer", "bends", "back", "along", "spots"] [5, 4, 3, 2, 1, 0] := ⟨_, _, _, He.mkr_ok (c.fact 221 (f := .mkr "Bent") rfl), G_Bent___init__, He.glo_ok KX G (c.fact 222 (f := .glo "Bent") rfl), kbnP F_Bent___init__ fun _ _ _ _ _ _ us ws h1 h2 => match us, ws, h1, h2 with | [_], [_, _, _, _, _, _], _, _ => rfl⟩
  have G_Parts___init__ := ok_Parts___init__ (P := P) (w := w) (C := ctOf K TT nm clN) (mg := mg) (base := base) F_Parts___init__ ct
  have H_Parts_2 : HasC P w (ctOf K TT nm clN) mg base 1 "Parts" 34 g_Parts___init__ 3 2 [] [0, 1] := ⟨_, _, _, He.mkr_ok (c.fact 223 (f := .mkr "Parts") rfl), G_Parts___init__, He.glo_ok KX G (c.fact 224 (f := .glo "Parts") rfl), kbnP F_Parts___init__ fun _ _ _ _ _ _ us ws h1 h2 => match us, ws, h1, h2 with | [_, _, _], [], _, _ => rfl⟩
  have H_Parts_0_lots_base : HasC P w (ctOf K TT nm clN) mg base 1 "Parts" 34 g_Parts___init__ 3 0 ["lots", "base"] [1, 0] := ⟨_, _, _, He.mkr_ok (c.fact 223 (f := .mkr "Parts") rfl), G_Parts___init__, He.glo_ok KX G (c.fact 224 (f := .glo "Parts") rfl), kbnP F_Parts___init__ fun _ _ _ _ _ _ us ws h1 h2 => match us, ws, h1, h2 with | [_], [_, _], _, _ => rfl⟩
  have G_Balance___init__ := ok_Balance___init__ (P := P) (w := w) (C := ctOf K TT nm clN) (mg := mg) (base := base) F_Balance___init__ ct
  have H_Balance_4 : HasC P w (ctOf K TT nm clN) mg base 1 "Balance" 35 g_Balance___init__ 5 4 [] [0, 1, 2, 3] := ⟨_, _, _, He.mkr_ok (c.fact 225 (f := .mkr "Balance") rfl), G_Balance___init__, He.glo_ok KX G (c.fact 226 (f := .glo "Balance") rfl), kbnP F_Balance___init__ fun _ _ _ _ _ _ us ws h1 h2 => match us, ws, h1, h2 with | [_, _, _, _, _], [], _, _ => rfl⟩
  have H_Balance_0_groups_times_minus_plus : HasC P w (ctOf K TT nm clN) mg base 1 "Balance" 35 g_Balance___init__ 5 0 ["groups", "times", "minus", "plus"] [3, 2, 1, 0] := ⟨_, _, _, He.mkr_ok (c.fact 225 (f := .mkr "Balance") rfl), G_Balance___init__, He.glo_ok KX G (c.fact 226 (f := .glo "Balance") rfl), kbnP F_Balance___init__ fun _ _ _ _ _ _ us ws h1 h2 => match us, ws, h1, h2 with | [_], [_, _, _, _], _, _ => rfl⟩
  have G_SideBounds___init__ := ok_SideBounds___init__ (P := P) (w := w) (C := ctOf K TT nm clN) (mg := mg) (base := base) F_SideBounds___init__ ct
  have H_SideBounds_4 : HasC P w (ctOf K TT nm clN) mg base 1 "SideBounds" 36 g_SideBounds___init__ 5 4 [] [0, 1, 2, 3] := ⟨_, _, _, He.mkr_ok (c.fact 227 (f := .mkr "SideBounds") rfl), G_SideBounds___init__, He.glo_ok KX G (c.fact 228 (f := .glo "SideBounds") rfl), kbnP F_SideBounds___init__ fun _ _ _ _ _ _ us ws h1 h2 => match us, ws, h1, h2 with | [_, _, _, _, _], [], _, _ => rfl⟩
  have H_SideBounds_0_book_high_bars_low : HasC P w (ctOf K TT nm clN) mg base 1 "SideBounds" 36 g_SideBounds___init__ 5 0 ["book", "high", "bars", "low"] [3, 2, 1, 0] := ⟨_, _, _, He.mkr_ok (c.fact 227 (f := .mkr "SideBounds") rfl), G_SideBounds___init__, He.glo_ok KX G (c.fact 228 (f := .glo "SideBounds") rfl), kbnP F_SideBounds___init__ fun _ _ _ _ _ _ us ws h1 h2 => match us, ws, h1, h2 with | [_], [_, _, _, _], _, _ => rfl⟩
  have G_Taken___init__ := ok_Taken___init__ (P := P) (w := w) (C := ctOf K TT nm clN) (mg := mg) (base := base) F_Taken___init__ ct
  have H_Taken_3 : HasC P w (ctOf K TT nm clN) mg base 1 "Taken" 37 g_Taken___init__ 4 3 [] [0, 1, 2] := ⟨_, _, _, He.mkr_ok (c.fact 229 (f := .mkr "Taken") rfl), G_Taken___init__, He.glo_ok KX G (c.fact 230 (f := .glo "Taken") rfl), kbnP F_Taken___init__ fun _ _ _ _ _ _ us ws h1 h2 => match us, ws, h1, h2 with | [_, _, _, _], [], _, _ => rfl⟩
  have H_Taken_0_missing_turns_steps : HasC P w (ctOf K TT nm clN) mg base 1 "Taken" 37 g_Taken___init__ 4 0 ["missing", "turns", "steps"] [2, 1, 0] := ⟨_, _, _, He.mkr_ok (c.fact 229 (f := .mkr "Taken") rfl), G_Taken___init__, He.glo_ok KX G (c.fact 230 (f := .glo "Taken") rfl), kbnP F_Taken___init__ fun _ _ _ _ _ _ us ws h1 h2 => match us, ws, h1, h2 with | [_], [_, _, _], _, _ => rfl⟩
  have G_Solved___init__ := ok_Solved___init__ (P := P) (w := w) (C := ctOf K TT nm clN) (mg := mg) (base := base) F_Solved___init__ ct
  have H_Solved_2 : HasC P w (ctOf K TT nm clN) mg base 1 "Solved" 38 g_Solved___init__ 3 2 [] [0, 1] := ⟨_, _, _, He.mkr_ok (c.fact 231 (f := .mkr "Solved") rfl), G_Solved___init__, He.glo_ok KX G (c.fact 232 (f := .glo "Solved") rfl), kbnP F_Solved___init__ fun _ _ _ _ _ _ us ws h1 h2 => match us, ws, h1, h2 with | [_, _, _], [], _, _ => rfl⟩
  have H_Solved_0_letters_steps : HasC P w (ctOf K TT nm clN) mg base 1 "Solved" 38 g_Solved___init__ 3 0 ["letters", "steps"] [1, 0] := ⟨_, _, _, He.mkr_ok (c.fact 231 (f := .mkr "Solved") rfl), G_Solved___init__, He.glo_ok KX G (c.fact 232 (f := .glo "Solved") rfl), kbnP F_Solved___init__ fun _ _ _ _ _ _ us ws h1 h2 => match us, ws, h1, h2 with | [_], [_, _], _, _ => rfl⟩
  have G_Ladder___init__ := ok_Ladder___init__ (P := P) (w := w) (C := ctOf K TT nm clN) (mg := mg) (base := base) F_Ladder___init__ ct
  have H_Ladder_4 : HasC P w (ctOf K TT nm clN) mg base 1 "Ladder" 39 g_Ladder___init__ 5 4 [] [0, 1, 2, 3] := ⟨_, _, _, He.mkr_ok (c.fact 233 (f := .mkr "Ladder") rfl), G_Ladder___init__, He.glo_ok KX G (c.fact 234 (f := .glo "Ladder") rfl), kbnP F_Ladder___init__ fun _ _ _ _ _ _ us ws h1 h2 => match us, ws, h1, h2 with | [_, _, _, _, _], [], _, _ => rfl⟩
  have H_Ladder_0_told_solved_taken_read : HasC P w (ctOf K TT nm clN) mg base 1 "Ladder" 39 g_Ladder___init__ 5 0 ["told", "solved", "taken", "read"] [3, 2, 1, 0] := ⟨_, _, _, He.mkr_ok (c.fact 233 (f := .mkr "Ladder") rfl), G_Ladder___init__, He.glo_ok KX G (c.fact 234 (f := .glo "Ladder") rfl), kbnP F_Ladder___init__ fun _ _ _ _ _ _ us ws h1 h2 => match us, ws, h1, h2 with | [_], [_, _, _, _], _, _ => rfl⟩
  have G_Ring___init__ := ok_Ring___init__ (P := P) (w := w) (C := ctOf K TT nm clN) (mg := mg) (base := base) F_Ring___init__ ct
  have H_Ring_1 : HasC P w (ctOf K TT nm clN) mg base 1 "Ring" 40 g_Ring___init__ 2 1 [] [0] := ⟨_, _, _, He.mkr_ok (c.fact 235 (f := .mkr "Ring") rfl), G_Ring___init__, He.glo_ok KX G (c.fact 236 (f := .glo "Ring") rfl), kbnP F_Ring___init__ fun _ _ _ _ _ _ us ws h1 h2 => match us, ws, h1, h2 with | [_, _], [], _, _ => rfl⟩
  have G_Unseen___init__ := ok_Unseen___init__ (P := P) (w := w) (C := ctOf K TT nm clN) (mg := mg) (base := base) F_Unseen___init__ ct
  have H_Unseen_2 : HasC P w (ctOf K TT nm clN) mg base 1 "Unseen" 41 g_Unseen___init__ 3 2 [] [0, 1] := ⟨_, _, _, He.mkr_ok (c.fact 237 (f := .mkr "Unseen") rfl), G_Unseen___init__, He.glo_ok KX G (c.fact 238 (f := .glo "Unseen") rfl), kbnP F_Unseen___init__ fun _ _ _ _ _ _ us ws h1 h2 => match us, ws, h1, h2 with | [_, _, _], [], _, _ => rfl⟩
  have H_Unseen_0_strangers_numbers : HasC P w (ctOf K TT nm clN) mg base 1 "Unseen" 41 g_Unseen___init__ 3 0 ["strangers", "numbers"] [1, 0] := ⟨_, _, _, He.mkr_ok (c.fact 237 (f := .mkr "Unseen") rfl), G_Unseen___init__, He.glo_ok KX G (c.fact 238 (f := .glo "Unseen") rfl), kbnP F_Unseen___init__ fun _ _ _ _ _ _ us ws h1 h2 => match us, ws, h1, h2 with | [_], [_, _], _, _ => rfl⟩
  have G_Filled___init__ := ok_Filled___init__ (P := P) (w := w) (C := ctOf K TT nm clN) (mg := mg) (base := base) F_Filled___init__ ct
  have H_Filled_2 : HasC P w (ctOf K TT nm clN) mg base 1 "Filled" 42 g_Filled___init__ 3 2 [] [0, 1] := ⟨_, _, _, He.mkr_ok (c.fact 239 (f := .mkr "Filled") rfl), G_Filled___init__, He.glo_ok KX G (c.fact 240 (f := .glo "Filled") rfl), kbnP F_Filled___init__ fun _ _ _ _ _ _ us ws h1 h2 => match us, ws, h1, h2 with | [_, _, _], [], _, _ => rfl⟩
  have H_Filled_0_strangers_numbers : HasC P w (ctOf K TT nm clN) mg base 1 "Filled" 42 g_Filled___init__ 3 0 ["strangers", "numbers"] [1, 0] := ⟨_, _, _, He.mkr_ok (c.fact 239 (f := .mkr "Filled") rfl), G_Filled___init__, He.glo_ok KX G (c.fact 240 (f := .glo "Filled") rfl), kbnP F_Filled___init__ fun _ _ _ _ _ _ us ws h1 h2 => match us, ws, h1, h2 with | [_], [_, _], _, _ => rfl⟩
  have G_Twice___init__ := ok_Twice___init__ (P := P) (w := w) (C := ctOf K TT nm clN) (mg := mg) (base := base) F_Twice___init__ ct
  have H_Twice_2 : HasC P w (ctOf K TT nm clN) mg base 1 "Twice" 43 g_Twice___init__ 3 2 [] [0, 1] := ⟨_, _, _, He.mkr_ok (c.fact 241 (f := .mkr "Twice") rfl), G_Twice___init__, He.glo_ok KX G (c.fact 242 (f := .glo "Twice") rfl), kbnP F_Twice___init__ fun _ _ _ _ _ _ us ws h1 h2 => match us, ws, h1, h2 with | [_, _, _], [], _, _ => rfl⟩
  have H_Twice_0_second_first : HasC P w (ctOf K TT nm clN) mg base 1 "Twice" 43 g_Twice___init__ 3 0 ["second", "first"] [1, 0] := ⟨_, _, _, He.mkr_ok (c.fact 241 (f := .mkr "Twice") rfl), G_Twice___init__, He.glo_ok KX G (c.fact 242 (f := .glo "Twice") rfl), kbnP F_Twice___init__ fun _ _ _ _ _ _ us ws h1 h2 => match us, ws, h1, h2 with | [_], [_, _], _, _ => rfl⟩
  have G_Explained___init__ := ok_Explained___init__ (P := P) (w := w) (C := ctOf K TT nm clN) (mg := mg) (base := base) F_Explained___init__ ct
  have H_Explained_2 : HasC P w (ctOf K TT nm clN) mg base 1 "Explained" 44 g_Explained___init__ 3 2 [] [0, 1] := ⟨_, _, _, He.mkr_ok (c.fact 243 (f := .mkr "Explained") rfl), G_Explained___init__, He.glo_ok KX G (c.fact 244 (f := .glo "Explained") rfl), kbnP F_Explained___init__ fun _ _ _ _ _ _ us ws h1 h2 => match us, ws, h1, h2 with | [_, _, _], [], _, _ => rfl⟩
  have H_Explained_0_numbers_strangers : HasC P w (ctOf K TT nm clN) mg base 1 "Explained" 44 g_Explained___init__ 3 0 ["numbers", "strangers"] [1, 0] := ⟨_, _, _, He.mkr_ok (c.fact 243 (f := .mkr "Explained") rfl), G_Explained___init__, He.glo_ok KX G (c.fact 244 (f := .glo "Explained") rfl), kbnP F_Explained___init__ fun _ _ _ _ _ _ us ws h1 h2 => match us, ws, h1, h2 with | [_], [_, _], _, _ => rfl⟩
  have G__law_hand := ok__law_hand (P := P) (w := w) (C := ctOf K TT nm clN) (mg := mg) (base := base) F__law_hand (He.free_ok KX G (c.fact 245 (f := .free "len") rfl)) (He.free_ok KX G (c.fact 246 (f := .free "int") rfl)) (He.free_ok KX G (c.fact 247 (f := .free "abs") rfl))
  have H__law_hand : Has P w (ctOf K TT nm clN) mg base 1 "_law_hand" g__law_hand 1 [] := Has.of G__law_hand (He.glo_ok KX G (c.fact 248 (f := .glo "_law_hand") rfl)) F__law_hand.kp (F__law_hand.bindsN fun _ _ _ _ _ _ us hl => match us, hl with | [_], _ => rfl)
  have G__law_mixed := ok__law_mixed (P := P) (w := w) (C := ctOf K TT nm clN) (mg := mg) (base := base) F__law_mixed (He.free_ok KX G (c.fact 246 (f := .free "int") rfl))
  have H__law_mixed : Has P w (ctOf K TT nm clN) mg base 1 "_law_mixed" g__law_mixed 2 [] := Has.of G__law_mixed (He.glo_ok KX G (c.fact 249 (f := .glo "_law_mixed") rfl)) F__law_mixed.kp (F__law_mixed.bindsN fun _ _ _ _ _ _ us hl => match us, hl with | [_, _], _ => rfl)
  have G__law_take := ok__law_take (P := P) (w := w) (C := ctOf K TT nm clN) (mg := mg) (base := base) F__law_take (He.free_ok KX G (c.fact 245 (f := .free "len") rfl)) (He.free_ok KX G (c.fact 246 (f := .free "int") rfl)) H__law_mixed ct
  have H__law_take : Has P w (ctOf K TT nm clN) mg base 2 "_law_take" g__law_take 2 [] := Has.of G__law_take (He.glo_ok KX G (c.fact 250 (f := .glo "_law_take") rfl)) F__law_take.kp (F__law_take.bindsN fun _ _ _ _ _ _ us hl => match us, hl with | [_, _], _ => rfl)
  have G__law_all := ok__law_all (P := P) (w := w) (C := ctOf K TT nm clN) (mg := mg) (base := base) F__law_all (He.free_ok KX G (c.fact 251 (f := .free "repr") rfl)) (He.free_ok KX G (c.fact 245 (f := .free "len") rfl)) ct
  have H__law_all : Has P w (ctOf K TT nm clN) mg base 1 "_law_all" g__law_all 2 [] := Has.of G__law_all (He.glo_ok KX G (c.fact 252 (f := .glo "_law_all") rfl)) F__law_all.kp (F__law_all.bindsN fun _ _ _ _ _ _ us hl => match us, hl with | [_, _], _ => rfl)
  have G__law_answers := ok__law_answers (P := P) (w := w) (C := ctOf K TT nm clN) (mg := mg) (base := base) F__law_answers H_Weights_1 ct H_Hidden_1 H_Clash_1 H_Given_1 H_RestWeights_1 H_RestHidden_1 H_Missing_1 H_Recovered_2 H_Recovered_0_filling_numbers H_Parted_2 H_Parted_0_numbers_answer H_Whole_3 H_Whole_0_numbers_weights_bottom H_Meeting_3 H_Meeting_0_second_first_row H_Fewest_2 H_Fewest_0_row_count H_Dependent_2 H_Dependent_0_numbers_row H__law_all
  have H__law_answers : Has P w (ctOf K TT nm clN) mg base 3 "_law_answers" g__law_answers 4 [] := Has.of G__law_answers (He.glo_ok KX G (c.fact 253 (f := .glo "_law_answers") rfl)) F__law_answers.kp (F__law_answers.bindsN fun _ _ _ _ _ _ us hl => match us, hl with | [_, _, _, _], _ => rfl)
  have G__law_groups := ok__law_groups (P := P) (w := w) (C := ctOf K TT nm clN) (mg := mg) (base := base) F__law_groups H_Ring_1 ct H_Chain_1 H_Piece_3 H_Piece_0_groups_ties_points H_Walk_2 H_Walk_0_groups_points H_Balance_4 H_Balance_0_groups_times_minus_plus H_Taken_3 H_Taken_0_missing_turns_steps H_Solved_2 H_Solved_0_letters_steps H_Ladder_4 H_Ladder_0_told_solved_taken_read H_Core_2 H_Core_0_cells_strikes H_Block_4 H_Block_0_most_places_columns_rows H_LeastBoth_3 H__law_all
  have H__law_groups : Has P w (ctOf K TT nm clN) mg base 3 "_law_groups" g__law_groups 5 [] := Has.of G__law_groups (He.glo_ok KX G (c.fact 254 (f := .glo "_law_groups") rfl)) F__law_groups.kp (F__law_groups.bindsN fun _ _ _ _ _ _ us hl => match us, hl with | [_, _, _, _, _], _ => rfl)
  have G__law_bounds := ok__law_bounds (P := P) (w := w) (C := ctOf K TT nm clN) (mg := mg) (base := base) F__law_bounds H_Bounds_7 ct H_Bounds_0_cored_budget_cored_high_budget_high_blocks_low_budget_low (He.free_ok KX G (c.fact 251 (f := .free "repr") rfl)) H_Bent_6 H_Bent_0_products_answer_bends_back_along_spots H_Run_4 H_Run_0_products_answer_slopes_spots H_RunTable_2 H_RunTable_0_products_rows H_Parts_2 H_Parts_0_lots_base H__law_all H_Apart_1
  have H__law_bounds : Has P w (ctOf K TT nm clN) mg base 3 "_law_bounds" g__law_bounds 5 [] := Has.of G__law_bounds (He.glo_ok KX G (c.fact 255 (f := .glo "_law_bounds") rfl)) F__law_bounds.kp (F__law_bounds.bindsN fun _ _ _ _ _ _ us hl => match us, hl with | [_, _, _, _, _], _ => rfl)
  have G__law_plans := ok__law_plans (P := P) (w := w) (C := ctOf K TT nm clN) (mg := mg) (base := base) F__law_plans H_FewestGroups_3 ct H_FewestGroups_0_many_first_groups H_SideLot_3 H_SideLot_0_most_ties_points H_WebCore_2 H_WebCore_0_ties_strikes H_SideBounds_4 H_SideBounds_0_book_high_bars_low H_Played_2 H_Played_0_answers_path H_Come_3 H_Come_0_filling_book_path H_Never_3 H_Never_0_weights_answer_path H_Untold_3 H_Untold_0_hidden_filling_path H_Lost_2 H_Lost_0_numbers_answers H_Mended_3 H_Mended_0_numbers_answers_wrong H_Unseen_2 H_Unseen_0_strangers_numbers H_Filled_2 H_Filled_0_strangers_numbers H_Twice_2 H_Twice_0_second_first H_Explained_2 H_Explained_0_numbers_strangers H__law_all H_Worse_1
  have H__law_plans : Has P w (ctOf K TT nm clN) mg base 3 "_law_plans" g__law_plans 5 [] := Has.of G__law_plans (He.glo_ok KX G (c.fact 256 (f := .glo "_law_plans") rfl)) F__law_plans.kp (F__law_plans.bindsN fun _ _ _ _ _ _ us hl => match us, hl with | [_, _, _, _, _], _ => rfl)
  have G_law := ok_law (P := P) (w := w) (C := ctOf K TT nm clN) (mg := mg) (base := base) F_law H__law_hand (He.free_ok KX G (c.fact 257 (f := .free "range") rfl)) H__law_take ct H_Recovered_2 H__law_answers H__law_groups H__law_bounds H__law_plans (He.free_ok KX G (c.fact 258 (f := .free "isinstance") rfl)) (He.free_ok KX G (c.fact 259 (f := .free "list") rfl)) (He.free_ok KX G (c.fact 251 (f := .free "repr") rfl))
  exact G_law
end K77
open PySem PySem.W PySem.Calls PyProof.Rows
theorem PySem.Challenge.cw_thinslopes_k77_all_results_keep_their_th_holds : PySem.Challenge.rw_thinslopes_k77_all_results_keep_their_th.Holds := by
  w_on; o_law
  refine HandSHeadRun.head_any (r := OpenLaw.row PySem.Challenge.rw_thinslopes_k77_all_results_keep_their_th) (q := view (OpenLaw.row PySem.Challenge.rw_thinslopes_k77_all_results_keep_their_th).prog [81]) (H := K77.hk) (ob := K77.ob) (M := 100000) (loose := K77.loose) (d := HandSHeadRun.topDef (OpenLaw.row PySem.Challenge.rw_thinslopes_k77_all_results_keep_their_th).prog 81) (kwd := []) K77.ob_eq
    (by kernel_rfl) (fun s => by kernel_rfl) K77.run (by kernel_rfl) (by kernel_rfl) (by kernel_rfl) (by rfl) (by first | assumption | decide +kernel) (by decide +kernel) ⟨rfl, rfl, rfl, rfl, rfl, by decide +kernel⟩ ?hw ?hc
  case hw => w_witness2
  case hc =>
    refine L3.walk_g (l := PySem.Challenge.rw_thinslopes_k77_all_results_keep_their_th) (n := 63) (k := 4) (x := "_law_script") rfl (by decide) (by kernel_rfl) ⟨rfl, by decide, by decide⟩ ?F
    intro w mg fa h Y G hmg0
    obtain ⟨K, KX, c⟩ := Y
    have hmg : mg ("law" : PySem.Str) = some (.ref fa) := by
      have e : (HandSHeadRun.topDef (OpenLaw.row PySem.Challenge.rw_thinslopes_k77_all_results_keep_their_th).prog 81).name = ("law" : PySem.Str) := by kernel_rfl
      rw [← e]
      exact hmg0
    obtain ⟨C, fd, h1, h2, h3⟩ := K77.facts (P := (PySem.Challenge.rw_thinslopes_k77_all_results_keep_their_th).prog) (w := w) KX G hmg c
    exact ⟨C, fd, K77.g_law, h1, h2, fun ns hl hb => K77.law_true ns hl hb, h3⟩

