import PyProof.Rows.All
import Wide.All
import OpenK.AllK
import Wide.FinOn
import HandS.ForMost
import HandS.ForExc
import HandS.Wide
import HandS.Gcd
import HandS.ExcInit
import HandS.IsInst
import HandS.SetFor
import HandS.Defaults
import HandS.TupAny
import HandS.Zip
import KE.GoesNew
import KE.GoesMore
import HandS.Rev
import HandS.CallSlots
import HandS.Comp
import HandS.Ends
import HandS.EndBits
import HandS.MakeKw
import HandS.MakeKwOnly
import HandS.List
import PyProof.ReprReads
import PyProof.CallFns
import PyProof.ReprRoads
import HandS.HeadHook1
import HandS.HeadHook2
import HandS.ExcField
import HandS.Exc
import HandS.TryMany
import KE.KStateDown
import HandS.Head0
import HandS.Head1
import HandS.Head2
import HandS.More
import HandS.TupSets
import HandS.GenList
import KE.KTupSum
import KE.DataMinMax
import HandS.Words
import HandS.Codes
import HandS.WordsExc
import HandS.HeadEnd
import PySem.Challenge.RW_thinslopes_k03_whole_groupings_all_and_r
set_option Elab.async false
set_option linter.all false
set_option maxRecDepth 100000
set_option maxHeartbeats 4000000
namespace L3
open PySem PySem.Spec PyProof.Rows L2

/-! values as trees -/
inductive Ty where
  | int | bool | str | none | list | tuple | dict
  deriving DecidableEq
def Ty.name : Ty → String
  | .int => "int" | .bool => "bool" | .str => "str" | .none => "NoneType" | .list => "list" | .tuple => "tuple" | .dict => "dict"
inductive D where
  | non | bl (b : Bool) | int (i : Int) | str (s : Str) | tup (ds : List D) | lst (ds : List D)
  | scr (ds : List D) | ref (n : Nat) | obj (c : Nat) (ds : List D) | glo (g : Nat) | ty (n : Ty)
  | dct (ks vs : List D) | xv (c : Nat) (ds : List D)

mutual
def D.beq : D → D → Bool
  | .non, .non => true
  | .bl a, .bl b => a == b
  | .int a, .int b => decide (a = b)
  | .str a, .str b => decide (a = b)
  | .tup a, .tup b => beqs a b
  | .lst a, .lst b => beqs a b
  | .scr a, .scr b => beqs a b
  | .ref a, .ref b => decide (a = b)
  | .obj c a, .obj d b => decide (c = d) && beqs a b
  | .glo a, .glo b => decide (a = b)
  | .ty a, .ty b => decide (a = b)
  | .dct a b, .dct c d => beqs a c && beqs b d
  | .xv c a, .xv d b => decide (c = d) && beqs a b
  | _, _ => false
def D.beqs : List D → List D → Bool
  | [], [] => true
  | a :: r, b :: s => D.beq a b && D.beqs r s
  | _, _ => false
end
mutual
theorem D.beq_refl : ∀ d : D, D.beq d d = true
  | .non => rfl
  | .bl b => by simp [D.beq]
  | .int b => by simp [D.beq]
  | .str b => by simp [D.beq]
  | .tup ds => by simp only [D.beq]; exact D.beqs_refl ds
  | .lst ds => by simp only [D.beq]; exact D.beqs_refl ds
  | .scr ds => by simp only [D.beq]; exact D.beqs_refl ds
  | .ref b => by simp [D.beq]
  | .obj c ds => by simp only [D.beq, decide_true, Bool.true_and]; exact D.beqs_refl ds
  | .glo b => by simp [D.beq]
  | .ty b => by simp [D.beq]
  | .dct a b => by simp only [D.beq, D.beqs_refl a, D.beqs_refl b, Bool.and_self]
  | .xv c ds => by simp only [D.beq, decide_true, Bool.true_and]; exact D.beqs_refl ds
theorem D.beqs_refl : ∀ ds : List D, D.beqs ds ds = true
  | [] => rfl
  | d :: r => by simp only [D.beqs, D.beq_refl d, D.beqs_refl r, Bool.and_self]
end
mutual
theorem D.beq_eq : ∀ {a b : D}, D.beq a b = true → a = b
  | .non, b, h => by cases b <;> simp_all [D.beq]
  | .bl _, b, h => by cases b <;> simp_all [D.beq]
  | .int _, b, h => by cases b <;> simp_all [D.beq]
  | .str _, b, h => by cases b <;> simp_all [D.beq]
  | .ref _, b, h => by cases b <;> simp_all [D.beq]
  | .glo _, b, h => by cases b <;> simp_all [D.beq]
  | .ty _, b, h => by cases b <;> simp_all [D.beq]
  | .tup a, b, h => by
    cases b with
    | tup b => simp only [D.beq] at h; rw [D.beqs_eq h]
    | _ => simp [D.beq] at h
  | .lst a, b, h => by
    cases b with
    | lst b => simp only [D.beq] at h; rw [D.beqs_eq h]
    | _ => simp [D.beq] at h
  | .scr a, b, h => by
    cases b with
    | scr b => simp only [D.beq] at h; rw [D.beqs_eq h]
    | _ => simp [D.beq] at h
  | .obj c a, b, h => by
    cases b with
    | obj d b =>
      simp only [D.beq, Bool.and_eq_true, decide_eq_true_eq] at h
      rw [h.1, D.beqs_eq h.2]
    | _ => simp [D.beq] at h
  | .dct a b, z, h => by
    cases z with
    | dct c d =>
      simp only [D.beq, Bool.and_eq_true] at h
      rw [D.beqs_eq h.1, D.beqs_eq h.2]
    | _ => simp [D.beq] at h
  | .xv c a, b, h => by
    cases b with
    | xv d b =>
      simp only [D.beq, Bool.and_eq_true, decide_eq_true_eq] at h
      rw [h.1, D.beqs_eq h.2]
    | _ => simp [D.beq] at h
theorem D.beqs_eq : ∀ {a b : List D}, D.beqs a b = true → a = b
  | [], b, h => by cases b <;> simp_all [D.beqs]
  | a :: r, b, h => by
    cases b with
    | nil => simp [D.beqs] at h
    | cons b s =>
      simp only [D.beqs, Bool.and_eq_true] at h
      rw [D.beq_eq h.1, D.beqs_eq h.2]
end
instance : DecidableEq D := fun a b => if h : D.beq a b = true then .isTrue (D.beq_eq h) else .isFalse fun e => h (e ▸ D.beq_refl a)

inductive Cell where
  | lst (ds : List D) | ins (c : Nat) (ds : List D) | dic (kvs : List (D × D))
  deriving DecidableEq

abbrev Mem := List Cell
abbrev St3 := List (Option D)
inductive Res (α : Type) where
  | ok (a : α) (M : Mem) | exc (c : Nat) (ds : List D) (M : Mem) | no
def Res.bind {α β : Type} : Res α → (α → Mem → Res β) → Res β
  | .ok a M, k => k a M
  | .exc c ds M, _ => .exc c ds M
  | .no, _ => .no
@[simp] theorem Res.bind_ok {α β : Type} {a : α} {M : Mem} {k : α → Mem → Res β} : (Res.ok a M).bind k = k a M := rfl
@[simp] theorem Res.bind_exc {α β : Type} {c ds M} {k : α → Mem → Res β} : (Res.exc c ds M : Res α).bind k = .exc c ds M := rfl
@[simp] theorem Res.bind_no {α β : Type} {k : α → Mem → Res β} : (Res.no : Res α).bind k = .no := rfl
abbrev EV := St3 → Mem → Res D
abbrev BV := St3 → Mem → Res Bool
abbrev AV := St3 → Mem → Res (List D)
abbrev Fn3 := List D → Mem → Res D
inductive Out where
  | nx (σ : St3) (M : Mem) | rt (d : D) (M : Mem) | bk (σ : St3) (M : Mem) | ct (σ : St3) (M : Mem) | exc (c : Nat) (ds : List D) (σ : St3) (M : Mem) | no
abbrev SV := St3 → Mem → Out

/-! how trees lie in the heap -/
structure Ext (α : List Addr) (H : Hp) (α' : List Addr) (H' : Hp) : Prop where
  pre : ∃ t, α' = α ++ t ∧ ∀ a ∈ t, H a = none ∧ a ∉ α
  keep : ∀ a o, H a = some o → a ∉ α → H' a = some o
structure Ct where
  K : PySem.W.Frag
  cls : Nat → Addr
  fl : Nat → List Str
  glo : Nat → Addr
  /-- own exception classes -/
  xcls : Nat → Addr
  xfl : Nat → List Str
  /-- what every state bears besides -/
  ps : L2.St → List Addr → Hp → Prop
  mono : ∀ {σ : L2.St} {α α' : List Addr} {H H' : Hp}, Ext α H α' H' → ps σ α H → ps σ α' H'
def SqTK (K : PySem.W.Frag) (a : Addr) (xs : List V) : Prop :=
  ∃ (o : Obj) (its : Array Value) (n : Nat), K.lookup a = some o ∧ o.cls = .type "tuple" ∧ o.data = .seq its n ∧ its.size ≤ sizeLine ∧ Vals xs its.toList
def SqLK (K : PySem.W.Frag) (a : Addr) (xs : List V) : Prop :=
  ∃ (o : Obj) (its : Array Value) (n : Nat), K.lookup a = some o ∧ o.cls = .type "list" ∧ o.dict = none ∧ o.data = .seq its n ∧ its.size ≤ sizeLine ∧ Vals xs its.toList
/-- where an exception's values lie -/
def XDv (fl : List Str) (α : List Addr) (H : Hp) (vs : List V) : Option Addr → Prop
  | none => vs = []
  | some d => d ∉ α ∧ ∃ fs, H d = some (exd d fs) ∧ ∀ (k : Nat) f v, fl[k]? = some f → vs[k]? = some v → fs.lookup f = some v
mutual
def Rl (C : Ct) (α : List Addr) (H : Hp) : D → V → Prop
  | .non, v => v = .non
  | .bl b, v => v = .bl b
  | .int i, v => v = .int i
  | .str s, v => v = .str s
  | .tup ds, v => ∃ a vs, v = .ref a ∧ ((a ∉ α ∧ Rd H a (.tup vs)) ∨ SqTK C.K a vs) ∧ Rls C α H ds vs
  | .lst ds, v => ∃ a vs, v = .ref a ∧ a ∉ α ∧ H a = some (.lst vs) ∧ Rls C α H ds vs
  | .scr ds, v => ∃ a vs, v = .ref a ∧ ((a ∉ α ∧ Rd H a (.lst vs)) ∨ SqLK C.K a vs) ∧ Rls C α H ds vs
  | .ref n, v => ∃ a, α[n]? = some a ∧ v = .ref a
  | .obj c ds, v => ∃ a dx vs, v = .ref a ∧ a ∉ α ∧ H a = some (.ins (C.cls c) dx ((C.fl c).zip vs)) ∧ vs.length = (C.fl c).length ∧ Rls C α H ds vs
  | .glo g, v => v = .ref (C.glo g)
  | .ty n, v => v = .ty n.name
  | .dct ks vs, v => ∃ a kws, v = .ref a ∧ a ∉ α ∧ H a = some (.dK kws) ∧ Rls C α H ks (kws.map fun p => kV p.1) ∧ Rls C α H vs (kws.map (·.2))
  | .xv c ds, v => ∃ a dx vs, v = .ref a ∧ a ∉ α ∧ H a = some (exo a (C.xcls c) dx) ∧ XDv (C.xfl c) α H vs dx ∧ Rls C α H ds vs
def Rls (C : Ct) (α : List Addr) (H : Hp) : List D → List V → Prop
  | [], vs => vs = []
  | d :: ds, vs => ∃ v r, vs = v :: r ∧ Rl C α H d v ∧ Rls C α H ds r
end
theorem Ext.refl (α : List Addr) (H : Hp) : Ext α H α H := ⟨⟨[], by simp, by simp⟩, fun _ _ h _ => h⟩
theorem Ext.notin {α α' : List Addr} {H H' : Hp} (e : Ext α H α' H') {a : Addr} {o : HO} (h : H a = some o) (n : a ∉ α) : a ∉ α' := by
  obtain ⟨t, rfl, ht⟩ := e.pre
  intro hm
  rcases List.mem_append.mp hm with hm | hm
  · exact n hm
  · rw [(ht a hm).1] at h; cases h
theorem Ext.trans {α1 α2 α3 : List Addr} {H1 H2 H3 : Hp} (a : Ext α1 H1 α2 H2) (b : Ext α2 H2 α3 H3) : Ext α1 H1 α3 H3 := by
  refine ⟨?_, fun x o h n => b.keep x o (a.keep x o h n) (a.notin h n)⟩
  obtain ⟨t, rfl, ht⟩ := a.pre
  obtain ⟨u, rfl, hu⟩ := b.pre
  refine ⟨t ++ u, by simp, fun x hx => ?_⟩
  rcases List.mem_append.mp hx with hx | hx
  · exact ht x hx
  · obtain ⟨h2, hn⟩ := hu x hx
    have n : x ∉ α1 := fun hm => hn (List.mem_append_left _ hm)
    refine ⟨?_, n⟩
    cases q : H1 x with
    | none => rfl
    | some o => rw [a.keep x o q n] at h2; cases h2
theorem Ext.get {α α' : List Addr} {H H' : Hp} (e : Ext α H α' H') {n : Nat} {a : Addr} (h : α[n]? = some a) : α'[n]? = some a := by
  obtain ⟨t, rfl, _⟩ := e.pre
  rw [List.getElem?_append_left (List.getElem?_eq_some_iff.mp h).1]; exact h
theorem Ext.rd {α α' : List Addr} {H H' : Hp} (e : Ext α H α' H') {a : Addr} {u : HO} (n : a ∉ α) (r : Rd H a u) : a ∉ α' ∧ Rd H' a u := by
  rcases r with r | ⟨o, r⟩
  · exact ⟨e.notin r n, .inl (e.keep _ _ r n)⟩
  · exact ⟨e.notin r n, .inr ⟨o, e.keep _ _ r n⟩⟩
theorem XDv.ext {fl : List Str} {α α' : List Addr} {H H' : Hp} {vs : List V} (e : Ext α H α' H') : ∀ {dx : Option Addr}, XDv fl α H vs dx → XDv fl α' H' vs dx
  | none, h => h
  | some d, ⟨n, fs, h, q⟩ => ⟨e.notin h n, fs, e.keep _ _ h n, q⟩
mutual
theorem Rl.ext {C : Ct} {α α' : List Addr} {H H' : Hp} (e : Ext α H α' H') : ∀ {d : D} {v : V}, Rl C α H d v → Rl C α' H' d v
  | .non, _, h => h
  | .bl _, _, h => h
  | .int _, _, h => h
  | .str _, _, h => h
  | .glo _, _, h => h
  | .ty _, _, h => h
  | .ref n, _, ⟨a, h, q⟩ => ⟨a, e.get h, q⟩
  | .tup ds, _, ⟨a, vs, q, .inl ⟨n, r⟩, rs⟩ => ⟨a, vs, q, .inl (e.rd n r), Rls.ext e rs⟩
  | .tup ds, _, ⟨a, vs, q, .inr r, rs⟩ => ⟨a, vs, q, .inr r, Rls.ext e rs⟩
  | .lst ds, _, ⟨a, vs, q, n, r, rs⟩ => ⟨a, vs, q, e.notin r n, e.keep _ _ r n, Rls.ext e rs⟩
  | .scr ds, _, ⟨a, vs, q, .inl ⟨n, r⟩, rs⟩ => ⟨a, vs, q, .inl (e.rd n r), Rls.ext e rs⟩
  | .scr ds, _, ⟨a, vs, q, .inr r, rs⟩ => ⟨a, vs, q, .inr r, Rls.ext e rs⟩
  | .obj c ds, _, ⟨a, dx, vs, q, n, r, l, rs⟩ => ⟨a, dx, vs, q, e.notin r n, e.keep _ _ r n, l, Rls.ext e rs⟩
  | .dct ks vs, _, ⟨a, kws, q, n, r, r1, r2⟩ => ⟨a, kws, q, e.notin r n, e.keep _ _ r n, Rls.ext e r1, Rls.ext e r2⟩
  | .xv c ds, _, ⟨a, dx, vs, q, n, r, x, rs⟩ => ⟨a, dx, vs, q, e.notin r n, e.keep _ _ r n, x.ext e, Rls.ext e rs⟩
theorem Rls.ext {C : Ct} {α α' : List Addr} {H H' : Hp} (e : Ext α H α' H') : ∀ {ds : List D} {vs : List V}, Rls C α H ds vs → Rls C α' H' ds vs
  | [], _, h => h
  | _ :: _, _, ⟨v, r, q, h, hs⟩ => ⟨v, r, q, Rl.ext e h, Rls.ext e hs⟩
end
theorem Rls.length {C : Ct} {α : List Addr} {H : Hp} : ∀ {ds : List D} {vs : List V}, Rls C α H ds vs → vs.length = ds.length
  | [], _, h => by subst h; rfl
  | _ :: _, _, ⟨v, r, q, _, hs⟩ => by subst q; simp [Rls.length hs]
theorem Rls.get {C : Ct} {α : List Addr} {H : Hp} : ∀ {ds : List D} {vs : List V} {i : Nat} {d : D}, Rls C α H ds vs → ds[i]? = some d → ∃ v, vs[i]? = some v ∧ Rl C α H d v
  | [], _, _, _, _, e => by simp at e
  | _ :: _, _, 0, _, ⟨v, r, q, h, hs⟩, e => by subst q; simp at e; subst e; exact ⟨v, rfl, h⟩
  | _ :: ds, _, i + 1, d, ⟨v, r, q, h, hs⟩, e => by
    subst q
    obtain ⟨w, h1, h2⟩ := Rls.get (i := i) hs (by simpa using e)
    exact ⟨w, by simpa using h1, h2⟩
theorem Rls.append {C : Ct} {α : List Addr} {H : Hp} : ∀ {ds es : List D} {vs ws : List V}, Rls C α H ds vs → Rls C α H es ws → Rls C α H (ds ++ es) (vs ++ ws)
  | [], _, _, _, h, k => by cases h; exact k
  | _ :: _, _, _, _, ⟨v, r, q, h, hs⟩, k => by subst q; exact ⟨v, _, rfl, h, Rls.append hs k⟩
theorem Rls.one {C : Ct} {α : List Addr} {H : Hp} {d : D} {v : V} (h : Rl C α H d v) : Rls C α H [d] [v] := ⟨v, [], rfl, h, rfl⟩
theorem Rls.nil {C : Ct} {α : List Addr} {H : Hp} : Rls C α H [] [] := rfl
theorem Rls.cons {C : Ct} {α : List Addr} {H : Hp} {d : D} {v : V} {ds : List D} {vs : List V} (h : Rl C α H d v) (k : Rls C α H ds vs) : Rls C α H (d :: ds) (v :: vs) := ⟨v, vs, rfl, h, k⟩
theorem Rls.take {C : Ct} {α : List Addr} {H : Hp} : ∀ {ds : List D} {vs : List V} (n : Nat), Rls C α H ds vs → Rls C α H (ds.take n) (vs.take n)
  | [], _, n, h => by cases h; simp; rfl
  | _ :: _, _, 0, _ => by simp; rfl
  | _ :: _, _, n + 1, ⟨v, r, q, h, hs⟩ => by subst q; exact ⟨v, _, rfl, h, Rls.take n hs⟩
theorem Rls.drop {C : Ct} {α : List Addr} {H : Hp} : ∀ {ds : List D} {vs : List V} (n : Nat), Rls C α H ds vs → Rls C α H (ds.drop n) (vs.drop n)
  | [], _, n, h => by cases h; simp; rfl
  | _ :: _, _, 0, h => h
  | _ :: _, _, n + 1, ⟨v, r, q, h, hs⟩ => by subst q; exact Rls.drop n hs
theorem Rls.set {C : Ct} {α : List Addr} {H : Hp} {d : D} {v : V} (hv : Rl C α H d v) : ∀ {ds : List D} {vs : List V} (n : Nat), Rls C α H ds vs → Rls C α H (ds.set n d) (vs.set n v)
  | [], _, n, h => by cases h; exact rfl
  | _ :: _, _, 0, ⟨w, r, q, h, hs⟩ => by subst q; exact ⟨v, r, rfl, hv, hs⟩
  | _ :: _, _, n + 1, ⟨w, r, q, h, hs⟩ => by subst q; exact ⟨w, _, rfl, h, Rls.set hv n hs⟩

/-! cells -/
def RlC (C : Ct) (α : List Addr) (H : Hp) : Cell → Addr → Prop
  | .lst ds, a => ∃ vs, H a = some (.lst vs) ∧ Rls C α H ds vs
  | .ins c ds, a => ∃ dx vs, H a = some (.ins (C.cls c) dx ((C.fl c).zip vs)) ∧ vs.length ≤ (C.fl c).length ∧ Rls C α H ds vs
  | .dic kvs, a => ∃ kws : List (Key × V), H a = some (.dK kws) ∧ kws.length = kvs.length ∧ Rls C α H (kvs.map (·.1)) (kws.map fun p => kV p.1) ∧ Rls C α H (kvs.map (·.2)) (kws.map (·.2))
structure SMem (C : Ct) (α : List Addr) (M : Mem) (H : Hp) : Prop where
  len : α.length = M.length
  nd : α.Nodup
  cell : ∀ (n : Nat) (c : Cell) (a : Addr), M[n]? = some c → α[n]? = some a → RlC C α H c a
structure SSt (C : Ct) (α : List Addr) (H : Hp) (σ3 : St3) (σ : L2.St) : Prop where
  len : σ.length = σ3.length
  at_ : ∀ (i : Nat) d, σ3[i]? = some (some d) → ∃ v, σ[i]? = some (some v) ∧ Rl C α H d v
  ok : C.ps σ α H
/-- a store to slot i leaves that -/
def Keeps (C : Ct) (i : Nat) : Prop := ∀ (σ : L2.St) (v : Option V) (α : List Addr) (H : Hp), C.ps σ α H → C.ps (σ.set i v) α H
theorem kp {C : Ct} {i : Nat} (h : ∀ σ α H, C.ps σ α H) : Keeps C i := fun _ _ _ _ _ => h _ _ _
theorem SSt.ext {C : Ct} {α α' : List Addr} {H H' : Hp} {σ3 : St3} {σ : L2.St} (h : SSt C α H σ3 σ) (e : Ext α H α' H') : SSt C α' H' σ3 σ :=
  ⟨h.len, fun i d q => let ⟨v, a, b⟩ := h.at_ i d q; ⟨v, a, b.ext e⟩, C.mono e h.ok⟩
theorem SSt.set {C : Ct} {α : List Addr} {H : Hp} {σ3 : St3} {σ : L2.St} (h : SSt C α H σ3 σ) {d : D} {v : V} (r : Rl C α H d v) (i : Nat) (hp : Keeps C i) : SSt C α H (σ3.set i (some d)) (σ.set i (some v)) := by
  refine ⟨by simp [h.len], fun j e q => ?_, hp _ _ _ _ h.ok⟩
  by_cases hij : i = j
  · subst hij
    have hl : i < σ3.length := by
      have := (List.getElem?_eq_some_iff.mp q).1; simpa using this
    rw [List.getElem?_set_self hl] at q
    cases q
    exact ⟨v, by rw [List.getElem?_set_self (by rw [h.len]; exact hl)], r⟩
  · rw [List.getElem?_set_ne hij] at q ⊢
    exact h.at_ j e q
theorem RlC.tracked {C : Ct} {α : List Addr} {H : Hp} : ∀ {c : Cell} {a : Addr}, RlC C α H c a → ∃ o, H a = some o
  | .lst _, _, ⟨vs, h, _⟩ => ⟨_, h⟩
  | .ins _ _, _, ⟨dx, vs, h, _⟩ => ⟨_, h⟩
  | .dic _, _, ⟨kws, h, _⟩ => ⟨_, h⟩
theorem SMem.tracked {C : Ct} {α : List Addr} {M : Mem} {H : Hp} (h : SMem C α M H) {a : Addr} (ha : a ∈ α) : ∃ o, H a = some o := by
  obtain ⟨n, hn, e⟩ := List.getElem_of_mem ha
  have hM : n < M.length := by rw [← h.len]; exact hn
  exact (h.cell n M[n] a (List.getElem?_eq_getElem hM) (by rw [List.getElem?_eq_getElem hn, e])).tracked
theorem SMem.new {C : Ct} {α : List Addr} {M : Mem} {H : Hp} (h : SMem C α M H) {p : Addr} (hp : H p = none) : p ∉ α := fun hm => by
  obtain ⟨o, e⟩ := h.tracked hm
  rw [hp] at e; cases e
/-- a new object that is no cell -/
theorem Ext.laid {C : Ct} {α : List Addr} {M : Mem} {H : Hp} {p : Addr} {o : HO} (hp : H p = none) : Ext α H α (upd H p o) :=
  ⟨⟨[], by simp, by simp⟩, fun a u h _ => by rw [upd_ne (ne_of_none h hp)]; exact h⟩
theorem RlC.ext {C : Ct} {α α' : List Addr} {H H' : Hp} (e : Ext α H α' H') : ∀ {c : Cell} {a : Addr}, RlC C α H c a → H' a = H a → RlC C α' H' c a
  | .lst _, _, ⟨vs, h, r⟩, k => ⟨vs, k.trans h, r.ext e⟩
  | .ins _ _, _, ⟨dx, vs, h, l, r⟩, k => ⟨dx, vs, k.trans h, l, r.ext e⟩
  | .dic _, _, ⟨kws, h, l, r, r'⟩, k => ⟨kws, k.trans h, l, r.ext e, r'.ext e⟩
theorem SMem.laid {C : Ct} {α : List Addr} {M : Mem} {H : Hp} (h : SMem C α M H) {p : Addr} {o : HO} (hp : H p = none) : SMem C α M (upd H p o) :=
  ⟨h.len, h.nd, fun n c a h1 h2 => (h.cell n c a h1 h2).ext (Ext.laid (C := C) (M := M) hp) (by
    obtain ⟨u, e⟩ := (h.cell n c a h1 h2).tracked
    exact upd_ne (ne_of_none e hp))⟩
/-- a new cell -/
theorem Ext.cell {C : Ct} {α : List Addr} {M : Mem} {H : Hp} (h : SMem C α M H) {p : Addr} {o : HO} (hp : H p = none) : Ext α H (α ++ [p]) (upd H p o) :=
  ⟨⟨[p], rfl, fun a ha => by simp at ha; subst ha; exact ⟨hp, h.new hp⟩⟩, fun a u k _ => by rw [upd_ne (ne_of_none k hp)]; exact k⟩
theorem SMem.push {C : Ct} {α : List Addr} {M : Mem} {H : Hp} (h : SMem C α M H) {p : Addr} {o : HO} (hp : H p = none) {c : Cell} (hc : RlC C (α ++ [p]) (upd H p o) c p) : SMem C (α ++ [p]) (M ++ [c]) (upd H p o) := by
  refine ⟨by simp [h.len], ?_, fun n c' a h1 h2 => ?_⟩
  · rw [List.nodup_append]
    exact ⟨h.nd, by simp, fun a ha b hb => by simp at hb; subst hb; intro e; subst e; exact h.new hp ha⟩
  · by_cases hn : n < M.length
    · rw [List.getElem?_append_left hn] at h1
      rw [List.getElem?_append_left (by rw [h.len]; exact hn)] at h2
      refine (h.cell n c' a h1 h2).ext (Ext.cell h hp) ?_
      obtain ⟨u, e⟩ := (h.cell n c' a h1 h2).tracked
      exact upd_ne (ne_of_none e hp)
    · have hl : n < (M ++ [c]).length := (List.getElem?_eq_some_iff.mp h1).1
      have e : n = M.length := by simp at hl; omega
      subst e
      simp at h1
      have e2 : α.length = M.length := h.len
      rw [← e2] at h2
      simp at h2
      subst h1; subst h2
      exact hc
/-- a cell is written -/
theorem Ext.write {C : Ct} {α : List Addr} {M : Mem} {H : Hp} (h : SMem C α M H) {n : Nat} {a : Addr} {o : HO} (ha : α[n]? = some a) : Ext α H α (upd H a o) :=
  ⟨⟨[], by simp, by simp⟩, fun b u k nb => by
    have : b ≠ a := fun e => nb (by subst e; exact List.mem_of_getElem? ha)
    rw [upd_ne this]; exact k⟩
theorem nodup_at {α : List Addr} (nd : α.Nodup) {i j : Nat} {a : Addr} (hi : α[i]? = some a) (hj : α[j]? = some a) : i = j := by
  obtain ⟨h1, e1⟩ := List.getElem?_eq_some_iff.mp hi
  obtain ⟨h2, e2⟩ := List.getElem?_eq_some_iff.mp hj
  have q := List.pairwise_iff_getElem.mp nd
  rcases Nat.lt_trichotomy i j with k | k | k
  · exact absurd (e1.trans e2.symm) (q i j h1 h2 k)
  · exact k
  · exact absurd (e2.trans e1.symm) (q j i h2 h1 k)
theorem SMem.write {C : Ct} {α : List Addr} {M : Mem} {H : Hp} (h : SMem C α M H) {n : Nat} {a : Addr} {o : HO} {c : Cell} (ha : α[n]? = some a) (hc : RlC C α (upd H a o) c a) : SMem C α (M.set n c) (upd H a o) := by
  refine ⟨by simp [h.len], h.nd, fun m c' b h1 h2 => ?_⟩
  by_cases hm : n = m
  · subst hm
    rw [ha] at h2; cases h2
    have hl : n < M.length := by rw [← h.len]; exact (List.getElem?_eq_some_iff.mp ha).1
    rw [List.getElem?_set_self hl] at h1
    cases h1; exact hc
  · rw [List.getElem?_set_ne hm] at h1
    have hb : b ≠ a := fun e => hm (nodup_at h.nd (e ▸ ha) h2 |>.symm ▸ rfl)
    exact (h.cell m c' b h1 h2).ext (Ext.write h ha) (upd_ne hb)
end L3

set_option Elab.async false
set_option linter.all false
set_option maxRecDepth 100000
set_option maxHeartbeats 4000000
namespace L3
open PySem PySem.Spec PyProof.Rows L2

/-! what an end asks -/
def XD (C : Ct) (α : List Addr) (H : Hp) (c : Nat) (ds : List D) (dx : Option Addr) : Prop :=
  ds = [] ∨ ∃ x fs, dx = some x ∧ x ∉ α ∧ H x = some (.xd fs) ∧ ∀ (k : Nat) f d, (C.xfl c)[k]? = some f → ds[k]? = some d → ∃ v, fs.lookup f = some v ∧ Rl C α H d v
theorem XD.ext {C : Ct} {α α' : List Addr} {H H' : Hp} {c ds dx} (h : XD C α H c ds dx) (e : Ext α H α' H') : XD C α' H' c ds dx := by
  rcases h with h | ⟨x, fs, q, n, k, r⟩
  · exact .inl h
  · exact .inr ⟨x, fs, q, e.notin k n, e.keep _ _ k n, fun i f d h1 h2 => let ⟨v, a, b⟩ := r i f d h1 h2; ⟨v, a, b.ext e⟩⟩
/-- the end of a piece of code that gives a value -/
def Fin {τ υ : Type} (C : Ct) (W : WX) (σ : L2.St) (Rel : List Addr → Hp → τ → υ → Prop) (α : List Addr) (H : Hp) (r : Res τ) (Q : υ → Hp → Prop) : Prop :=
  match r with
  | .ok d M' => ∀ α' H' v, Ext α H α' H' → SMem C α' M' H' → Rel α' H' d v → Q v H'
  | .exc c ds M' => ∀ α' H' dx, Ext α H α' H' → SMem C α' M' H' → XD C α' H' c ds dx → W (.ref (C.xcls c)) dx σ H'
  | .no => False
section
variable {τ υ τ' υ' : Type} {C : Ct} {W : WX} {σ : L2.St} {Rel : List Addr → Hp → τ → υ → Prop} {Rel' : List Addr → Hp → τ' → υ' → Prop} {α α' : List Addr} {H H' : Hp}
theorem Fin.ext {r : Res τ} {Q : υ → Hp → Prop} (h : Fin C W σ Rel α H r Q) (e : Ext α H α' H') : Fin C W σ Rel α' H' r Q := by
  cases r with
  | ok d M => exact fun a b v e' m q => h a b v (e.trans e') m q
  | exc c ds M => exact fun a b dx e' m q => h a b dx (e.trans e') m q
  | no => exact h
theorem Fin.mono {r : Res τ} {Q Q' : υ → Hp → Prop} (h : Fin C W σ Rel α H r Q) (k : ∀ v H, Q v H → Q' v H) : Fin C W σ Rel α H r Q' := by
  cases r with
  | ok d M => exact fun a b v e m q => k _ _ (h a b v e m q)
  | exc c ds M => exact h
  | no => exact h
theorem Fin.bind {r : Res τ} {k : τ → Mem → Res τ'} {Q : υ' → Hp → Prop} (h : Fin C W σ Rel' α H (r.bind k) Q) :
    Fin C W σ Rel α H r fun v H1 => ∃ α1 M1 d, Ext α H α1 H1 ∧ SMem C α1 M1 H1 ∧ Rel α1 H1 d v ∧ Fin C W σ Rel' α1 H1 (k d M1) Q := by
  cases r with
  | ok d M => exact fun a b v e m q => ⟨a, M, d, e, m, q, Fin.ext h e⟩
  | exc c ds M => exact h
  | no => exact h
end
abbrev RD (C : Ct) : List Addr → Hp → D → V → Prop := fun α H d v => Rl C α H d v
abbrev RDs (C : Ct) : List Addr → Hp → List D → List V → Prop := fun α H d v => Rls C α H d v
abbrev RB : List Addr → Hp → Bool → Bool → Prop := fun _ _ d v => v = d
/-! lifted readings -/
def LE (C : Ct) (W : WX) (ev : EV) : TE := fun σ H Q => ∃ α σ3 M, SMem C α M H ∧ SSt C α H σ3 σ ∧ Fin C W σ (RD C) α H (ev σ3 M) Q
def LB (C : Ct) (W : WX) (bv : BV) : TT := fun σ H Q => ∃ α σ3 M, SMem C α M H ∧ SSt C α H σ3 σ ∧ Fin C W σ RB α H (bv σ3 M) Q
def LA (C : Ct) (W : WX) (av : AV) : TA := fun σ H Q => ∃ α σ3 M, SMem C α M H ∧ SSt C α H σ3 σ ∧ Fin C W σ (RDs C) α H (av σ3 M) Q
theorem PEimp {X : Cx} {e : Expr} {t t' : TE} (h : PE X e t) (k : ∀ σ H Q, t' σ H Q → t σ H Q) : PE X e t' := ⟨fun p s σ H Q I q => h.run p s σ H Q I (k _ _ _ q)⟩
theorem PTimp {X : Cx} {e : Expr} {t t' : TT} (h : PT X e t) (k : ∀ σ H Q, t' σ H Q → t σ H Q) : PT X e t' := ⟨fun p s σ H Q I q => h.run p s σ H Q I (k _ _ _ q)⟩
theorem PWimp {X : Cx} {e : Expr} {t t' : TT} (h : PW X e t) (k : ∀ σ H Q, t' σ H Q → t σ H Q) : PW X e t' := ⟨fun wh p s σ H Q I q => h.run wh p s σ H Q I (k _ _ _ q)⟩
theorem PAimp {X : Cx} {e : List Expr} {t t' : TA} (h : PA X e t) (k : ∀ σ H Q, t' σ H Q → t σ H Q) : PA X e t' := ⟨fun po p s σ H Q I q => h.run po p s σ H Q I (k _ _ _ q)⟩
theorem PSimp {X : Cx} {e : Stmt} {t t' : TS} (h : PS X e t) (k : ∀ D σ H, t' D σ H → t D σ H) : PS X e t' := ⟨fun p s σ H D I q => h.run p s σ H D I (k _ _ _ q)⟩
theorem PSsimp {X : Cx} {e : List Stmt} {t t' : TS} (h : PSs X e t) (k : ∀ D σ H, t' D σ H → t D σ H) : PSs X e t' := ⟨fun p s σ H D I q => h.run p s σ H D I (k _ _ _ q)⟩

/-! ### evaluators -/
def evVar (i : Nat) : EV := fun σ M => match σ[i]? with
  | some (some d) => .ok d M
  | _ => .no
def evC (d : D) : EV := fun _ M => .ok d M
def ev2 (op : D → D → Mem → Res D) (a b : EV) : EV := fun σ M => (a σ M).bind fun x M1 => (b σ M1).bind fun y M2 => op x y M2
def ev1 (op : D → Mem → Res D) (a : EV) : EV := fun σ M => (a σ M).bind fun x M1 => op x M1
def avNil : AV := fun _ M => .ok [] M
def avCons (a : EV) (r : AV) : AV := fun σ M => (a σ M).bind fun x M1 => (r σ M1).bind fun xs M2 => .ok (x :: xs) M2
def evA (k : List D → Mem → Res D) (t : AV) : EV := fun σ M => (t σ M).bind fun xs M1 => k xs M1
def evIf (c : BV) (a b : EV) : EV := fun σ M => (c σ M).bind fun k M1 => if k = true then a σ M1 else b σ M1
def bvE (e : EV) : BV := fun σ M => (e σ M).bind fun d M1 => match d with
  | .bl k => .ok k M1
  | _ => .no
def truD (M : Mem) : D → Option Bool
  | .non => some false
  | .bl b => some b
  | .int i => some (i != 0)
  | .str y => if y.length ≤ sizeLine then some ((y.length : Int) != 0) else none
  | .tup ds => some (!ds.isEmpty)
  | .lst ds => some (!ds.isEmpty)
  | .scr ds => some (!ds.isEmpty)
  | .ref n => match M[n]? with
    | some (.lst ds) => some (!ds.isEmpty)
    | some (.dic kvs) => some (!kvs.isEmpty)
    | _ => none
  | _ => none
def bvT (e : EV) : BV := fun σ M => (e σ M).bind fun d M1 => match truD M1 d with
  | some k => .ok k M1
  | none => .no
def bvNot (c : BV) : BV := fun σ M => (c σ M).bind fun k M1 => .ok (!k) M1
def bvAnd (a b : BV) : BV := fun σ M => (a σ M).bind fun k M1 => if k = true then b σ M1 else .ok false M1
def bvOr (a b : BV) : BV := fun σ M => (a σ M).bind fun k M1 => if k = true then .ok true M1 else b σ M1
def evNot (a : EV) : EV := fun σ M => (a σ M).bind fun d M1 => match d with
  | .bl k => .ok (.bl (!k)) M1
  | _ => .no
def evAnd (a b : EV) : EV := fun σ M => (a σ M).bind fun d M1 => match d with
  | .bl k => if k = true then b σ M1 else .ok (.bl false) M1
  | _ => .no
def evOr (a b : EV) : EV := fun σ M => (a σ M).bind fun d M1 => match d with
  | .bl k => if k = true then .ok (.bl true) M1 else b σ M1
  | _ => .no

/-! ### the rules -/
section
variable {X : Cx} {C : Ct} {W : WX} {a b c e : Expr} {eva evb evc : EV} {pos : Pos}
theorem l_var (i : Nat) {x : Str} (hN : X.N[i]? = some x := by rfl) (hv : Vis X.env.scope x := by first | exact Or.inl rfl | exact Or.inr (Or.inl rfl) | exact Or.inr (Or.inr rfl)) (hd : (x == ("__debug__" : Str)) = false := by decide)
    (hcd : (x == ("__classdict__" : Str)) = false := by decide) : PE X (.Name x pos) (LE C W (evVar i)) := by
  refine PEimp (pe_var hN hv hd hcd) fun σ H Q ⟨α, σ3, M, m, s, h⟩ => ?_
  unfold evVar at h
  cases q : σ3[i]? with
  | none => rw [q] at h; exact h.elim
  | some o =>
    cases o with
    | none => rw [q] at h; exact h.elim
    | some d =>
      rw [q] at h
      obtain ⟨v, k, r⟩ := s.at_ i d q
      exact ⟨v, k, h α H v (Ext.refl _ _) m r⟩
theorem l_c {d : D} {v : V} (h : PE X e (tC v)) (r : ∀ α H, Rl C α H d v) : PE X e (LE C W (evC d)) :=
  PEimp h fun σ H Q ⟨α, σ3, M, m, s, k⟩ => k α H v (Ext.refl _ _) m (r α H)
theorem l_int {i j pos} : PE X (.Constant (.int i) j pos) (LE C W (evC (.int i))) := l_c pe_int fun _ _ => rfl
theorem l_bl {b j pos} : PE X (.Constant (.bool b) j pos) (LE C W (evC (.bl b))) := l_c pe_bl fun _ _ => rfl
theorem l_non {j pos} : PE X (.Constant .none j pos) (LE C W (evC .non)) := l_c pe_non fun _ _ => rfl
theorem l_str {x j pos} : PE X (.Constant (.str x) j pos) (LE C W (evC (.str x))) := l_c pe_str fun _ _ => rfl
theorem l_glob {x : Str} {u : Value} {v : V} {d : D} (hg : Gl X x) (hm : X.mg x = some u) (r : RelV v u) (q : ∀ α H, Rl C α H d v) (hd : (x == ("__debug__" : Str)) = false := by decide) : PE X (.Name x pos) (LE C W (evC d)) :=
  l_c (pe_glob hg hm r hd) q
def LinkR (C : Ct) (r : R2) (op : D → D → Mem → Res D) : Prop :=
  ∀ (W : WX) (σ : L2.St) (α : List Addr) (M : Mem) (H : Hp) (x y : D) (v u : V) (Q : VK), SMem C α M H → Rl C α H x v → Rl C α H y u → Fin C W σ (RD C) α H (op x y M) Q → r v u H Q
theorem op2 {r : R2} {op : D → D → Mem → Res D} (lk : LinkR C r op) {σ : L2.St} {H : Hp} {Q : VK} (h : LE C W (ev2 op eva evb) σ H Q) : tOp r (LE C W eva) (LE C W evb) σ H Q := by
  obtain ⟨α, σ3, M, m, s, h⟩ := h
  refine ⟨α, σ3, M, m, s, (Fin.bind h).mono fun x H1 ⟨α1, M1, d, e1, m1, r1, h1⟩ => ?_⟩
  refine ⟨α1, σ3, M1, m1, s.ext e1, (Fin.bind h1).mono fun y H2 ⟨α2, M2, d2, e2, m2, r2, h2⟩ => ?_⟩
  exact lk W σ α2 M2 H2 d d2 x y Q m2 (r1.ext e2) r2 h2
theorem l_op {o : Operator} {r : R2} {op : D → D → Mem → Res D} (ho : OpR X (binaryOp o) r) (lk : LinkR C r op) (ha : PE X a (LE C W eva)) (hb : PE X b (LE C W evb)) : PE X (.BinOp a o b pos) (LE C W (ev2 op eva evb)) :=
  PEimp (pe_op ho ha hb) fun _ _ _ h => op2 lk h
theorem l_cmp {o : CmpOp} {r : R2} {op : D → D → Mem → Res D} (ho : OpR X (compareOp o) r) (lk : LinkR C r op) (ha : PE X a (LE C W eva)) (hb : PE X b (LE C W evb)) (hm : behindInMarks o b = false) : PE X (.Compare a [o] [b] pos) (LE C W (ev2 op eva evb)) :=
  PEimp (pe_cmpR ho ha hb hm) fun _ _ _ h => op2 lk h
def LinkU (C : Ct) (r : V → Hp → VK → Prop) (op : D → Mem → Res D) : Prop :=
  ∀ (W : WX) (σ : L2.St) (α : List Addr) (M : Mem) (H : Hp) (x : D) (v : V) (Q : VK), SMem C α M H → Rl C α H x v → Fin C W σ (RD C) α H (op x M) Q → r v H Q
theorem l_un {o : UnaryOp} {r : V → Hp → VK → Prop} {op : D → Mem → Res D} (ho : UnR X (unaryOp o) r) (lk : LinkU C r op) (ha : PE X a (LE C W eva)) : PE X (.UnaryOp o a pos) (LE C W (ev1 op eva)) :=
  PEimp (pe_un ho ha) fun σ H Q ⟨α, σ3, M, m, s, h⟩ => ⟨α, σ3, M, m, s, (Fin.bind h).mono fun x H1 ⟨α1, M1, d, e1, m1, r1, h1⟩ => lk W σ α1 M1 H1 d x Q m1 r1 h1⟩
/-! argument lists -/
theorem la_nil : PA X [] (LA C W avNil) := PAimp pa_nil fun σ H Q ⟨α, σ3, M, m, s, h⟩ => h α H [] (Ext.refl _ _) m rfl
theorem la_cons {es : List Expr} {av : AV} (ha : PE X e (LE C W eva)) (hr : PA X es (LA C W av)) (hs : starEach (e :: es) X.env = (false, eval e X.env) :: starEach es X.env := by rfl) : PA X (e :: es) (LA C W (avCons eva av)) := by
  refine PAimp (pa_cons ha hr hs) fun σ H Q ⟨α, σ3, M, m, s, h⟩ => ?_
  refine ⟨α, σ3, M, m, s, (Fin.bind h).mono fun x H1 ⟨α1, M1, d, e1, m1, r1, h1⟩ => ?_⟩
  refine ⟨α1, σ3, M1, m1, s.ext e1, (Fin.bind h1).mono fun y H2 ⟨α2, M2, d2, e2, m2, r2, h2⟩ => ?_⟩
  exact h2 α2 H2 _ (Ext.refl _ _) m2 ⟨x, y, rfl, r1.ext e2, r2⟩
def LinkA (C : Ct) (r : List V → Hp → VK → Prop) (op : List D → Mem → Res D) : Prop :=
  ∀ (W : WX) (σ : L2.St) (α : List Addr) (M : Mem) (H : Hp) (xs : List D) (vs : List V) (Q : VK), SMem C α M H → Rls C α H xs vs → Fin C W σ (RD C) α H (op xs M) Q → r vs H Q
theorem opA {r : List V → Hp → VK → Prop} {op : List D → Mem → Res D} {av : AV} (lk : LinkA C r op) {σ : L2.St} {H : Hp} {Q : VK} (h : LE C W (evA op av) σ H Q) : LA C W av σ H fun vs H1 => r vs H1 Q := by
  obtain ⟨α, σ3, M, m, s, h⟩ := h
  exact ⟨α, σ3, M, m, s, (Fin.bind h).mono fun x H1 ⟨α1, M1, d, e1, m1, r1, h1⟩ => lk W σ α1 M1 H1 d x Q m1 r1 h1⟩
def mkTup : List D → Mem → Res D := fun xs M => if xs.length ≤ sizeLine then .ok (.tup xs) M else .no
def mkLst : List D → Mem → Res D := fun xs M => if xs.length ≤ sizeLine then .ok (.lst xs) M else .no
def mkCell : List D → Mem → Res D := fun xs M => if xs.length ≤ sizeLine then .ok (.ref M.length) (M ++ [.lst xs]) else .no
theorem fin_new_tup {σ : L2.St} {α : List Addr} {M : Mem} {H : Hp} {xs : List D} {vs : List V} {Q : VK} (m : SMem C α M H) (r : Rls C α H xs vs) (h : Fin C W σ (RD C) α H (.ok (.tup xs) M) Q) : ∀ p, H p = none → Q (.ref p) (upd H p (.tup vs)) :=
  fun p hp => h α _ _ (Ext.laid (C := C) (M := M) hp) (m.laid hp) ⟨p, vs, rfl, .inl ⟨m.new hp, .inl upd_same⟩, r.ext (Ext.laid (C := C) (M := M) hp)⟩
theorem fin_new_lst {σ : L2.St} {α : List Addr} {M : Mem} {H : Hp} {xs : List D} {vs : List V} {Q : VK} (m : SMem C α M H) (r : Rls C α H xs vs) (h : Fin C W σ (RD C) α H (.ok (.lst xs) M) Q) : ∀ p, H p = none → Q (.ref p) (upd H p (.lst vs)) :=
  fun p hp => h α _ _ (Ext.laid (C := C) (M := M) hp) (m.laid hp) ⟨p, vs, rfl, m.new hp, upd_same, r.ext (Ext.laid (C := C) (M := M) hp)⟩
theorem fin_new_cell {σ : L2.St} {α : List Addr} {M : Mem} {H : Hp} {xs : List D} {vs : List V} {Q : VK} (m : SMem C α M H) (r : Rls C α H xs vs) (h : Fin C W σ (RD C) α H (.ok (.ref M.length) (M ++ [.lst xs])) Q) : ∀ p, H p = none → Q (.ref p) (upd H p (.lst vs)) :=
  fun p hp => h (α ++ [p]) _ _ (Ext.cell m hp) (m.push hp ⟨vs, upd_same, r.ext (Ext.cell m hp)⟩) ⟨p, by rw [← m.len]; simp, rfl⟩
theorem l_tup {es : List Expr} {x1} {av : AV} (h : PA X es (LA C W av)) : PE X (.Tuple es x1 pos) (LE C W (evA mkTup av)) := by
  refine PEimp (pe_tup h) fun σ H Q q => opA (r := fun xs H1 Q => xs.length ≤ sizeLine ∧ ∀ p, H1 p = none → Q (.ref p) (upd H1 p (.tup xs))) ?_ q
  intro W σ α M H xs vs Q m r k
  unfold mkTup at k
  split at k
  · exact ⟨by rw [r.length]; assumption, fin_new_tup m r k⟩
  · exact k.elim
theorem l_lst {es : List Expr} {av : AV} (h : PA X es (LA C W av)) : PE X (.List es pos) (LE C W (evA mkLst av)) := by
  refine PEimp (pe_lst h) fun σ H Q q => opA (r := fun xs H1 Q => xs.length ≤ sizeLine ∧ ∀ p, H1 p = none → Q (.ref p) (upd H1 p (.lst xs))) ?_ q
  intro W σ α M H xs vs Q m r k
  unfold mkLst at k
  split at k
  · exact ⟨by rw [r.length]; assumption, fin_new_lst m r k⟩
  · exact k.elim
theorem l_cell {es : List Expr} {av : AV} (h : PA X es (LA C W av)) : PE X (.List es pos) (LE C W (evA mkCell av)) := by
  refine PEimp (pe_lst h) fun σ H Q q => opA (r := fun xs H1 Q => xs.length ≤ sizeLine ∧ ∀ p, H1 p = none → Q (.ref p) (upd H1 p (.lst xs))) ?_ q
  intro W σ α M H xs vs Q m r k
  unfold mkCell at k
  split at k
  · exact ⟨by rw [r.length]; assumption, fin_new_cell m r k⟩
  · exact k.elim
/-! tests -/
theorem lt_val (h : PE X e (LE C W eva)) (he : ∀ whole, isTrue e X.env whole = (do let v ← whole; standAt e.pos; holding [v] (truthy v)) := by intro _; rfl) (hK : C.K = X.K := by rfl) : PT X e (LB C W (bvT eva)) := by
  refine PTimp (pt_truth h he) fun σ H Q ⟨α, σ3, M, m, s, h⟩ => ?_
  refine ⟨α, σ3, M, m, s, (Fin.bind h).mono fun x H1 ⟨α1, M1, d, e1, m1, r1, h1⟩ => ?_⟩
  cases q : truD M1 d with
  | none => rw [q] at h1; exact h1.elim
  | some k =>
    rw [q] at h1
    refine ⟨k, ?_, h1 α1 H1 k (Ext.refl _ _) m1 rfl⟩
    cases d with
    | non => cases r1; cases q; exact rfl
    | bl b => cases r1; cases q; exact rfl
    | int i => cases r1; cases q; exact rfl
    | str y =>
      cases r1
      have q' : (if y.length ≤ sizeLine then some ((y.length : Int) != 0) else none) = some k := q
      by_cases z : y.length ≤ sizeLine
      · rw [if_pos z] at q'; cases q'; exact ⟨z, rfl⟩
      · rw [if_neg z] at q'; cases q'
    | tup ds =>
      obtain ⟨p, vs, rfl, hp, rs⟩ := r1
      cases q
      refine .inr (.inl ⟨vs, ?_, ?_⟩)
      · rcases hp with ⟨_, hp⟩ | hp
        · exact Or.inl hp
        · rw [hK] at hp; exact .inr hp
      · have := rs.length
        cases vs <;> cases ds <;> simp_all
    | lst ds =>
      obtain ⟨p, vs, rfl, n, hp, rs⟩ := r1
      cases q
      refine .inl ⟨vs, .inl (.inl hp), ?_⟩
      have := rs.length
      cases vs <;> cases ds <;> simp_all
    | scr ds =>
      obtain ⟨p, vs, rfl, hp, rs⟩ := r1
      cases q
      refine .inl ⟨vs, ?_, ?_⟩
      · rcases hp with ⟨_, hp⟩ | hp
        · exact Or.inl hp
        · rw [hK] at hp; exact Or.inr hp
      · have := rs.length
        cases vs <;> cases ds <;> simp_all
    | ref n =>
      obtain ⟨p, hp, rfl⟩ := r1
      have q' : (match M1[n]? with
        | some (.lst ds) => some (!ds.isEmpty)
        | some (.dic kvs) => some (!kvs.isEmpty)
        | _ => none) = some k := q
      clear q
      cases z : M1[n]? with
      | none => rw [z] at q'; cases q'
      | some cl =>
        rw [z] at q'
        have rc := m1.cell n cl p z hp
        cases cl with
        | lst ds =>
          obtain ⟨vs, hv, rs⟩ := rc
          cases q'
          refine .inl ⟨vs, .inl (.inl hv), ?_⟩
          have := rs.length
          cases vs <;> cases ds <;> simp_all
        | dic kvs =>
          obtain ⟨kws, hv, hl, _⟩ := rc
          cases q'
          refine .inr (.inr ⟨kws, hv, ?_⟩)
          cases kws <;> cases kvs <;> simp_all
        | ins c ds => cases q'
    | obj c ds => cases q
    | dct ks vs => cases q
    | xv c ds => cases q
    | glo g => cases q
    | ty n => cases q
variable {ta tb : BV}
theorem lt_cmp {o : CmpOp} {r : R2} {op : D → D → Mem → Res D} (ho : OpR X (compareOp o) r) (lk : LinkR C r op) (ha : PE X a (LE C W eva)) (hb : PE X b (LE C W evb)) (hm : behindInMarks o b = false) : PT X (.Compare a [o] [b] pos) (LB C W (bvE (ev2 op eva evb))) := by
  refine PTimp (pt_cmpR ho ha hb hm) fun σ H Q ⟨α, σ3, M, m, s, h⟩ => ?_
  show tOp r _ _ σ H fun x H' => ∃ k, x = .bl k ∧ Q k H'
  refine op2 (eva := eva) (evb := evb) lk ⟨α, σ3, M, m, s, ?_⟩
  refine (Fin.bind h).mono fun x H1 ⟨α1, M1, d, e1, m1, r1, h1⟩ => ?_
  cases d with
  | bl k => cases r1; exact ⟨k, rfl, h1 α1 H1 k (Ext.refl _ _) m1 rfl⟩
  | _ => exact h1.elim
theorem lw_and1 (ha : PT X a (LB C W ta)) : PW X (.BoolOp .And [a] pos) (LB C W ta) := pw_and1 ha
theorem lw_or1 (ha : PT X a (LB C W ta)) : PW X (.BoolOp .Or [a] pos) (LB C W ta) := pw_or1 ha
theorem lw_and {rest : List Expr} (ha : PT X a (LB C W ta)) (hb : PW X (.BoolOp .And (b :: rest) pos) (LB C W tb)) : PW X (.BoolOp .And (a :: b :: rest) pos) (LB C W (bvAnd ta tb)) := by
  refine PWimp (pw_and ha hb) fun σ H Q ⟨α, σ3, M, m, s, h⟩ => ?_
  refine ⟨α, σ3, M, m, s, (Fin.bind h).mono fun x H1 ⟨α1, M1, d, e1, m1, r1, h1⟩ => ?_⟩
  cases r1
  cases x with
  | true => rw [if_pos rfl]; exact ⟨α1, σ3, M1, m1, s.ext e1, h1⟩
  | false => rw [if_neg Bool.false_ne_true]; exact h1 α1 H1 _ (Ext.refl _ _) m1 rfl
theorem lw_or {rest : List Expr} (ha : PT X a (LB C W ta)) (hb : PW X (.BoolOp .Or (b :: rest) pos) (LB C W tb)) : PW X (.BoolOp .Or (a :: b :: rest) pos) (LB C W (bvOr ta tb)) := by
  refine PWimp (pw_or ha hb) fun σ H Q ⟨α, σ3, M, m, s, h⟩ => ?_
  refine ⟨α, σ3, M, m, s, (Fin.bind h).mono fun x H1 ⟨α1, M1, d, e1, m1, r1, h1⟩ => ?_⟩
  cases r1
  cases x with
  | true => rw [if_pos rfl]; exact h1 α1 H1 _ (Ext.refl _ _) m1 rfl
  | false => rw [if_neg Bool.false_ne_true]; exact ⟨α1, σ3, M1, m1, s.ext e1, h1⟩
theorem lt_not (ha : PT X a (LB C W ta)) : PT X (.UnaryOp .Not a pos) (LB C W (bvNot ta)) := by
  refine PTimp (pt_not ha) fun σ H Q ⟨α, σ3, M, m, s, h⟩ => ?_
  refine ⟨α, σ3, M, m, s, (Fin.bind h).mono fun x H1 ⟨α1, M1, d, e1, m1, r1, h1⟩ => ?_⟩
  cases r1
  exact h1 α1 H1 _ (Ext.refl _ _) m1 rfl
theorem l_if (hc : PT X c (LB C W ta)) (ha : PE X a (LE C W eva)) (hb : PE X b (LE C W evb)) : PE X (.IfExp c a b pos) (LE C W (evIf ta eva evb)) := by
  refine PEimp (pe_ifExp hc ha hb) fun σ H Q ⟨α, σ3, M, m, s, h⟩ => ?_
  refine ⟨α, σ3, M, m, s, (Fin.bind h).mono fun x H1 ⟨α1, M1, d, e1, m1, r1, h1⟩ => ?_⟩
  cases r1
  cases x with
  | true => rw [if_pos rfl]; exact ⟨α1, σ3, M1, m1, s.ext e1, h1⟩
  | false => rw [if_neg Bool.false_ne_true]; exact ⟨α1, σ3, M1, m1, s.ext e1, h1⟩
/-! True | False as values -/
theorem l_one {op} (h : PE X a (LE C W eva)) : PE X (.BoolOp op [a] pos) (LE C W eva) := pe_one h
theorem l_and {rest : List Expr} (ha : PE X a (LE C W eva)) (hb : PE X (.BoolOp .And (b :: rest) pos) (LE C W evb)) : PE X (.BoolOp .And (a :: b :: rest) pos) (LE C W (evAnd eva evb)) := by
  refine PEimp (pe_and ha hb) fun σ H Q ⟨α, σ3, M, m, s, h⟩ => ?_
  refine ⟨α, σ3, M, m, s, (Fin.bind h).mono fun x H1 ⟨α1, M1, d, e1, m1, r1, h1⟩ => ?_⟩
  cases d with
  | bl k =>
    cases r1
    refine ⟨k, rfl, ?_⟩
    cases k with
    | true => rw [if_pos rfl]; exact ⟨α1, σ3, M1, m1, s.ext e1, h1⟩
    | false => rw [if_neg Bool.false_ne_true]; exact h1 α1 H1 _ (Ext.refl _ _) m1 rfl
  | _ => exact h1.elim
theorem l_or {rest : List Expr} (ha : PE X a (LE C W eva)) (hb : PE X (.BoolOp .Or (b :: rest) pos) (LE C W evb)) : PE X (.BoolOp .Or (a :: b :: rest) pos) (LE C W (evOr eva evb)) := by
  refine PEimp (pe_or ha hb) fun σ H Q ⟨α, σ3, M, m, s, h⟩ => ?_
  refine ⟨α, σ3, M, m, s, (Fin.bind h).mono fun x H1 ⟨α1, M1, d, e1, m1, r1, h1⟩ => ?_⟩
  cases d with
  | bl k =>
    cases r1
    refine ⟨k, rfl, ?_⟩
    cases k with
    | true => rw [if_pos rfl]; exact h1 α1 H1 _ (Ext.refl _ _) m1 rfl
    | false => rw [if_neg Bool.false_ne_true]; exact ⟨α1, σ3, M1, m1, s.ext e1, h1⟩
  | _ => exact h1.elim
theorem l_not (ha : PE X a (LE C W eva)) : PE X (.UnaryOp .Not a pos) (LE C W (evNot eva)) := by
  refine PEimp (pe_not ha) fun σ H Q ⟨α, σ3, M, m, s, h⟩ => ?_
  refine ⟨α, σ3, M, m, s, (Fin.bind h).mono fun x H1 ⟨α1, M1, d, e1, m1, r1, h1⟩ => ?_⟩
  cases d with
  | bl k => cases r1; exact ⟨k, rfl, h1 α1 H1 _ (Ext.refl _ _) m1 rfl⟩
  | _ => exact h1.elim
end
end L3

set_option Elab.async false
set_option linter.all false
set_option maxRecDepth 100000
set_option maxHeartbeats 4000000
namespace L3
open PySem PySem.Spec PyProof.Rows L2

def FinS (C : Ct) (W : WX) (D : Ends) (α : List Addr) (H : Hp) : Out → Prop
  | .nx σ3 M => ∀ α' H' σ, Ext α H α' H' → SMem C α' M H' → SSt C α' H' σ3 σ → D.nx σ H'
  | .rt d M => ∀ α' H' v, Ext α H α' H' → SMem C α' M H' → Rl C α' H' d v → D.rt v H'
  | .bk σ3 M => ∀ α' H' σ, Ext α H α' H' → SMem C α' M H' → SSt C α' H' σ3 σ → D.bk σ H'
  | .ct σ3 M => ∀ α' H' σ, Ext α H α' H' → SMem C α' M H' → SSt C α' H' σ3 σ → D.ct σ H'
  | .exc c ds σ3 M => ∀ α' H' σ dx, Ext α H α' H' → SMem C α' M H' → SSt C α' H' σ3 σ → XD C α' H' c ds dx → W (.ref (C.xcls c)) dx σ H'
  | .no => False
section
variable {C : Ct} {W : WX} {D D' : Ends} {α α' : List Addr} {H H' : Hp}
theorem FinS.ext {o : Out} (h : FinS C W D α H o) (e : Ext α H α' H') : FinS C W D α' H' o := by
  cases o with
  | nx σ M => exact fun a b s e' m q => h a b s (e.trans e') m q
  | rt d M => exact fun a b s e' m q => h a b s (e.trans e') m q
  | bk σ M => exact fun a b s e' m q => h a b s (e.trans e') m q
  | ct σ M => exact fun a b s e' m q => h a b s (e.trans e') m q
  | exc c ds σ M => exact fun a b s dx e' m q x => h a b s dx (e.trans e') m q x
  | no => exact h
end
def LS (C : Ct) (W : WX) (sv : SV) : TS := fun D σ H => ∃ α σ3 M, SMem C α M H ∧ SSt C α H σ3 σ ∧ FinS C W D α H (sv σ3 M)
def Res.out {τ : Type} (r : Res τ) (σ : St3) (k : τ → Mem → Out) : Out := match r with
  | .ok d M => k d M
  | .exc c ds M => .exc c ds σ M
  | .no => .no
@[simp] theorem Res.out_ok {τ : Type} {a : τ} {M σ} {k : τ → Mem → Out} : (Res.ok a M).out σ k = k a M := rfl
@[simp] theorem Res.out_exc {τ : Type} {c ds M σ} {k : τ → Mem → Out} : (Res.exc c ds M : Res τ).out σ k = .exc c ds σ M := rfl
@[simp] theorem Res.out_no {τ : Type} {σ} {k : τ → Mem → Out} : (Res.no : Res τ).out σ k = .no := rfl
section
variable {τ υ : Type} {C : Ct} {W : WX} {Rel : List Addr → Hp → τ → υ → Prop} {D : Ends} {α : List Addr} {H : Hp} {σ3 : St3} {σ : L2.St}
theorem FinS.out {r : Res τ} {k : τ → Mem → Out} (s : SSt C α H σ3 σ) (h : FinS C W D α H (r.out σ3 k)) :
    Fin C W σ Rel α H r fun v H1 => ∃ α1 M1 d, Ext α H α1 H1 ∧ SMem C α1 M1 H1 ∧ Rel α1 H1 d v ∧ FinS C W D α1 H1 (k d M1) := by
  cases r with
  | ok d M => exact fun a b v e m q => ⟨a, M, d, e, m, q, FinS.ext h e⟩
  | exc c ds M => exact fun a b dx e m q => h a b σ dx e m (s.ext e) q
  | no => exact h
end
/-! evaluators -/
def svNext : SV := fun σ M => .nx σ M
def svBreak : SV := fun σ M => .bk σ M
def svCont : SV := fun σ M => .ct σ M
def svNever : SV := fun _ _ => .no
def svSeq (a b : SV) : SV := fun σ M => match a σ M with
  | .nx σ' M' => b σ' M'
  | o => o
def svE (e : EV) : SV := fun σ M => (e σ M).out σ fun _ M1 => .nx σ M1
def svRet (e : EV) : SV := fun σ M => (e σ M).out σ fun d M1 => .rt d M1
def svRetN : SV := fun _ M => .rt .non M
def svIf (c : BV) (a b : SV) : SV := fun σ M => (c σ M).out σ fun k M1 => if k = true then a σ M1 else b σ M1
abbrev GV := D → SV
abbrev GVs := List D → SV
def gvName (i : Nat) : GV := fun d σ M => .nx (σ.set i (some d)) M
def gvNil : GVs := fun ds σ M => match ds with
  | [] => .nx σ M
  | _ => .no
def gvCons (g : GV) (r : GVs) : GVs := fun ds σ M => match ds with
  | d :: ds => (match g d σ M with
    | .nx σ' M' => r ds σ' M'
    | o => o)
  | [] => .no
def gvTup (n : Nat) (g : GVs) : GV := fun d σ M => match d with
  | .tup ds => if ds.length = n then g ds σ M else .no
  | _ => .no
def gvSub (o i : EV) (st : D → D → D → Mem → Option Mem) : GV := fun d σ M => (o σ M).out σ fun x M1 => (i σ M1).out σ fun y M2 => match st x y d M2 with
  | some M3 => .nx σ M3
  | none => .no
def Out.only : Out → Out
  | .nx σ M => .nx σ M
  | .exc c ds σ M => .exc c ds σ M
  | _ => .no
@[simp] theorem Out.only_nx {σ M} : (Out.nx σ M).only = .nx σ M := rfl
@[simp] theorem Out.only_exc {c ds σ M} : (Out.exc c ds σ M).only = .exc c ds σ M := rfl
@[simp] theorem Out.only_no : Out.no.only = .no := rfl
def svAsg (e : EV) (g : GV) : SV := fun σ M => (e σ M).out σ fun d M1 => (g d σ M1).only
def svSet (i : Nat) (e : EV) : SV := svAsg e (gvName i)
def svPar (i j : Nat) (t : AV) : SV := fun σ M => (t σ M).out σ fun ds M1 => match ds with
  | [x, y] => .nx ((σ.set i (some x)).set j (some y)) M1
  | _ => .no
def svAug (i : Nat) (op : D → D → Mem → Res D) (e : EV) : SV := fun σ M => match σ[i]? with
  | some (some x) => (e σ M).out σ fun y M1 => (op x y M1).out σ fun z M2 => .nx (σ.set i (some z)) M2
  | _ => .no
def svWhile (c : BV) (b : SV) : Nat → SV
  | 0, _, _ => .no
  | n + 1, σ, M => (c σ M).out σ fun k M1 => if k = true then (match b σ M1 with
      | .nx σ' M' => svWhile c b n σ' M'
      | .ct σ' M' => svWhile c b n σ' M'
      | .bk σ' M' => .nx σ' M'
      | o => o) else .nx σ M1
structure Src where
  items : List D
  watch : List (Nat × List D)
def watched (w : List (Nat × List D)) (M : Mem) : Bool := w.all fun p => decide (M[p.1]? = some (.lst p.2))
abbrev IV := St3 → Mem → Res Src
def svLoop (w : List (Nat × List D)) (g : GV) (b : SV) : List D → SV
  | [], σ, M => if watched w M = true then .nx σ M else .no
  | d :: r, σ, M => if watched w M = true then (match g d σ M with
      | .nx σ1 M1 => (match b σ1 M1 with
        | .nx σ2 M2 => svLoop w g b r σ2 M2
        | .ct σ2 M2 => svLoop w g b r σ2 M2
        | .bk σ2 M2 => .nx σ2 M2
        | o => o)
      | .exc c ds σ1 M1 => .exc c ds σ1 M1
      | _ => .no) else .no
def svFor (it : IV) (g : GV) (b : SV) : SV := fun σ M => (it σ M).out σ fun s M1 => svLoop s.watch g b s.items σ M1

/-! rules -/
section
variable {X : Cx} {C : Ct} {W : WX} {e : Expr} {eva evb : EV} {pos : Pos} {sa sb : SV} {tc : BV}
theorem s_pass : PS X (.Pass pos) (LS C W svNext) := PSimp ps_pass fun D σ H ⟨α, σ3, M, m, s, h⟩ => h α H σ (Ext.refl _ _) m s
theorem s_break : PS X (.Break pos) (LS C W svBreak) := PSimp ps_break fun D σ H ⟨α, σ3, M, m, s, h⟩ => h α H σ (Ext.refl _ _) m s
theorem s_cont : PS X (.Continue pos) (LS C W svCont) := PSimp ps_continue fun D σ H ⟨α, σ3, M, m, s, h⟩ => h α H σ (Ext.refl _ _) m s
theorem s_never {st : Stmt} : PS X st (LS C W svNever) := PSimp ps_never fun D σ H ⟨α, σ3, M, m, s, h⟩ => h
theorem s_expr (he : PE X e (LE C W eva)) (hs : swapsWith e none pos.line X.env = pure false := by rfl) : PS X (.Expr e pos) (LS C W (svE eva)) :=
  PSimp (ps_expr he hs) fun D σ H ⟨α, σ3, M, m, s, h⟩ => ⟨α, σ3, M, m, s, (FinS.out s h).mono fun v H1 ⟨α1, M1, d, e1, m1, r1, h1⟩ => h1 α1 H1 σ (Ext.refl _ _) m1 (s.ext e1)⟩
theorem s_ret (he : PE X e (LE C W eva)) : PS X (.Return (some e) pos) (LS C W (svRet eva)) :=
  PSimp (ps_ret he) fun D σ H ⟨α, σ3, M, m, s, h⟩ => ⟨α, σ3, M, m, s, (FinS.out s h).mono fun v H1 ⟨α1, M1, d, e1, m1, r1, h1⟩ => h1 α1 H1 v (Ext.refl _ _) m1 r1⟩
theorem s_retN : PS X (.Return none pos) (LS C W svRetN) := PSimp ps_retN fun D σ H ⟨α, σ3, M, m, s, h⟩ => h α H _ (Ext.refl _ _) m rfl
theorem ss_nil : PSs X [] (LS C W svNext) := PSsimp pss_nil fun D σ H ⟨α, σ3, M, m, s, h⟩ => h α H σ (Ext.refl _ _) m s
theorem ss_one {st : Stmt} (h : PS X st (LS C W sa)) : PSs X [st] (LS C W sa) := pss_one h
theorem ss_cons {st : Stmt} {rest : List Stmt} (h1 : PS X st (LS C W sa)) (h2 : PSs X rest (LS C W sb)) : PSs X (st :: rest) (LS C W (svSeq sa sb)) := by
  refine PSsimp (pss_cons h1 h2) fun D σ H ⟨α, σ3, M, m, s, h⟩ => ⟨α, σ3, M, m, s, ?_⟩
  unfold svSeq at h
  cases q : sa σ3 M with
  | nx σ' M' => rw [q] at h; exact fun α' H' σ1 e1 m1 s1 => ⟨α', σ', M', m1, s1, FinS.ext h e1⟩
  | rt d M' => rw [q] at h; exact h
  | bk σ' M' => rw [q] at h; exact h
  | ct σ' M' => rw [q] at h; exact h
  | exc c ds σ' M' => rw [q] at h; exact h
  | no => rw [q] at h; exact h
theorem s_if {c : Expr} {a b : List Stmt} (hc : PT X c (LB C W tc)) (ha : PSs X a (LS C W sa)) (hb : PSs X b (LS C W sb)) : PS X (.If c a b pos) (LS C W (svIf tc sa sb)) := by
  refine PSimp (ps_if hc ha hb) fun D σ H ⟨α, σ3, M, m, s, h⟩ => ⟨α, σ3, M, m, s, (FinS.out s h).mono fun k H1 ⟨α1, M1, d, e1, m1, r1, h1⟩ => ?_⟩
  cases r1
  cases k with
  | true => rw [if_pos rfl]; exact ⟨α1, σ3, M1, m1, s.ext e1, h1⟩
  | false => rw [if_neg Bool.false_ne_true]; exact ⟨α1, σ3, M1, m1, s.ext e1, h1⟩
/-! targets -/
def LG (C : Ct) (W : WX) (gv : GV) : TG := fun v σ H Q => ∃ α σ3 M d, SMem C α M H ∧ SSt C α H σ3 σ ∧ Rl C α H d v ∧ FinS C W { nx := Q, rt := fun _ _ => False } α H (gv d σ3 M)
def LGs (C : Ct) (W : WX) (gv : GVs) : TGs := fun vs σ H Q => ∃ α σ3 M ds, SMem C α M H ∧ SSt C α H σ3 σ ∧ Rls C α H ds vs ∧ FinS C W { nx := Q, rt := fun _ _ => False } α H (gv ds σ3 M)
theorem PGimp {t : Expr} {g g' : TG} (h : PG X t g) (k : ∀ v σ H Q, g' v σ H Q → g v σ H Q) : PG X t g' := ⟨fun p s σ H v u Q I r q => h.run p s σ H v u Q I r (k _ _ _ _ q)⟩
theorem PGsimp {t : List Expr} {g g' : TGs} (h : PGs X t g) (k : ∀ v σ H Q, g' v σ H Q → g v σ H Q) : PGs X t g' := ⟨fun p s σ H v u Q I r q => h.run p s σ H v u Q I r (k _ _ _ _ q)⟩
theorem g_name (i : Nat) {x : Str} (hp : Keeps C i) (hN : X.N.Nodup) (hi : X.N[i]? = some x := by rfl) (hx : Loc X.env.scope x := by first | exact Or.inl rfl | exact Or.inr rfl) (hf : X.fn x = true ∨ X.env.scope.names.lookup x = some .local := by first | exact .inl rfl | exact .inr rfl | assumption) : PG X (.Name x pos) (LG C W (gvName i)) :=
  PGimp (pg_name hN hi hx hf) fun v σ H Q ⟨α, σ3, M, d, m, s, r, h⟩ => h α H _ (Ext.refl _ _) m (s.set r i hp)
theorem gs_nil : PGs X [] (LGs C W gvNil) := PGsimp pgs_nil fun vs σ H Q ⟨α, σ3, M, ds, m, s, r, h⟩ => by
  cases ds with
  | nil => cases r; exact ⟨rfl, h α H σ (Ext.refl _ _) m s⟩
  | cons d ds => exact h.elim
theorem gs_cons {es : List Expr} {g : GV} {r : GVs} (h1 : PG X e (LG C W g)) (h2 : PGs X es (LGs C W r)) (hs : (assignEach (e :: es) X.env).map (·.2) = assign e X.env :: (assignEach es X.env).map (·.2) := by rfl) : PGs X (e :: es) (LGs C W (gvCons g r)) := by
  refine PGsimp (pgs_cons h1 h2 hs) fun vs σ H Q ⟨α, σ3, M, ds, m, s, rl, h⟩ => ?_
  cases ds with
  | nil => exact h.elim
  | cons d ds =>
    obtain ⟨v, vr, rfl, rv, rr⟩ := rl
    refine ⟨v, vr, rfl, α, σ3, M, d, m, s, rv, ?_⟩
    have h : FinS C W { nx := Q, rt := fun _ _ => False } α H (match g d σ3 M with
      | .nx σ' M' => r ds σ' M'
      | o => o) := h
    cases q : g d σ3 M with
    | nx σ' M' => rw [q] at h; exact fun α' H' σ1 e1 m1 s1 => ⟨α', σ', M', ds, m1, s1, rr.ext e1, FinS.ext h e1⟩
    | rt d M' => rw [q] at h; exact h
    | bk σ' M' => rw [q] at h; exact h
    | ct σ' M' => rw [q] at h; exact h
    | exc c ds σ' M' => rw [q] at h; exact h
    | no => rw [q] at h; exact h
theorem g_tup {es : List Expr} {k n : Nat} {g : GVs} (hc : X.calm = true) (h : PGs X es (LGs C W g)) (hn : (assignEach es X.env).length = n := by rfl) (hst : (assignEach es X.env).findIdx? (·.1) = none := by rfl) (hK : C.K = X.K := by rfl) : PG X (.Tuple es k pos) (LG C W (gvTup n g)) := by
  refine PGimp (pg_tup hc h hn hst) fun v σ H Q ⟨α, σ3, M, d, m, s, r, h⟩ => ?_
  cases d with
  | tup ds =>
    obtain ⟨a, vs, rfl, ha, rs⟩ := r
    have h : FinS C W { nx := Q, rt := fun _ _ => False } α H (if ds.length = n then g ds σ3 M else .no) := h
    by_cases z : ds.length = n
    · rw [if_pos z] at h
      refine ⟨a, vs, rfl, ?_, by rw [rs.length]; exact z, α, σ3, M, ds, m, s, rs, h⟩
      rcases ha with ⟨_, ha⟩ | ha
      · exact Or.inl ha
      · rw [hK] at ha; exact Or.inr ha
    · rw [if_neg z] at h; exact h.elim
  | _ => exact h.elim
def LinkSet (C : Ct) (t : TSet) (st : D → D → D → Mem → Option Mem) : Prop :=
  ∀ (α : List Addr) (M M' : Mem) (H : Hp) (x y z : D) (v u w : V) (Q : Hp → Prop), SMem C α M H → Rl C α H x v → Rl C α H y u → Rl C α H z w → st x y z M = some M' →
    (∀ α' H', Ext α H α' H' → SMem C α' M' H' → Q H') → t v u w H Q
theorem g_sub {o i : Expr} {t : TSet} {st : D → D → D → Mem → Option Mem} (ho : PE X o (LE C W eva)) (hi : PE X i (LE C W evb)) (hs : PSet X t) (lk : LinkSet C t st)
    (ha : ∀ v, assign (.Subscript o i pos) X.env v = (do
      let ov ← holding [v] (eval o X.env)
      let iv ← holding [v, ov] (eval i X.env)
      standAt pos
      holding [v, ov, iv] (setItem ov iv v)
      release [v, ov, iv] []) := by intro _; rfl) : PG X (.Subscript o i pos) (LG C W (gvSub eva evb st)) := by
  refine PGimp (pg_sub ho hi hs ha) fun v σ H Q ⟨α, σ3, M, d, m, s, r, h⟩ => ?_
  refine ⟨α, σ3, M, m, s, (FinS.out s h).mono fun x H1 ⟨α1, M1, d1, e1, m1, r1, h1⟩ => ?_⟩
  refine ⟨α1, σ3, M1, m1, s.ext e1, (FinS.out (s.ext e1) h1).mono fun y H2 ⟨α2, M2, d2, e2, m2, r2, h2⟩ => ?_⟩
  cases q : st d1 d2 d M2 with
  | none => rw [q] at h2; exact h2.elim
  | some M3 =>
    rw [q] at h2
    exact lk α2 M2 M3 H2 d1 d2 d x y v _ m2 (r1.ext e2) r2 (r.ext (e1.trans e2)) q fun α' H' e' m' => h2 α' H' σ e' m' (s.ext (e1.trans (e2.trans e')))
theorem s_asg {tg : Expr} {g : GV} (he : PE X e (LE C W eva)) (hg : PG X tg (LG C W g)) (hs : swapsWithSole [tg] e pos.line X.env = pure false := by rfl) (hw : swappedStores [tg] e X.env = pure none := by rfl)
    (h1 : (assignEach [tg] X.env).map (·.2) = [assign tg X.env] := by rfl) : PS X (.Assign [tg] e pos) (LS C W (svAsg eva g)) := by
  refine PSimp (ps_asg he hg hs hw h1) fun D σ H ⟨α, σ3, M, m, s, h⟩ => ⟨α, σ3, M, m, s, (FinS.out s h).mono fun v H1 ⟨α1, M1, d, e1, m1, r1, h2⟩ => ?_⟩
  refine ⟨α1, σ3, M1, d, m1, s.ext e1, r1, ?_⟩
  have h2 : FinS C W D α1 H1 (g d σ3 M1).only := h2
  show FinS C W _ α1 H1 (g d σ3 M1)
  cases q : g d σ3 M1 with
  | nx σ' M' => rw [q] at h2; exact h2
  | exc c ds σ' M' => rw [q] at h2; exact h2
  | no => rw [q] at h2; exact h2
  | rt d M' => rw [q] at h2; exact h2.elim
  | bk σ' M' => rw [q] at h2; exact h2.elim
  | ct σ' M' => rw [q] at h2; exact h2.elim
theorem s_set (i : Nat) {x : Str} {pos' : Pos} (hp : Keeps C i) (hN : X.N.Nodup) (he : PE X e (LE C W eva)) (hi : X.N[i]? = some x := by rfl) (hx : Loc X.env.scope x := by first | exact Or.inl rfl | exact Or.inr rfl) (hs : swapsWith e (some (.Name x pos')) pos.line X.env = pure false := by rfl) (hf : X.fn x = true ∨ X.env.scope.names.lookup x = some .local := by first | exact .inl rfl | exact .inr rfl | assumption) :
    PS X (.Assign [.Name x pos'] e pos) (LS C W (svSet i eva)) :=
  PSimp (ps_set hN hi hx he hs hf) fun D σ H ⟨α, σ3, M, m, s, h⟩ => ⟨α, σ3, M, m, s, (FinS.out s h).mono fun v H1 ⟨α1, M1, d, e1, m1, r1, h2⟩ => h2 α1 H1 _ (Ext.refl _ _) m1 ((s.ext e1).set r1 i hp)⟩
theorem s_par (i j : Nat) {x y : Str} {a b : Expr} {ta : AV} {px py pt : Pos} {kt k2 pt2} (hpi : Keeps C i) (hpj : Keeps C j) (hc : X.calm = true) (hN : X.N.Nodup) (ha : PA X [a, b] (LA C W ta)) (hi : X.N[i]? = some x := by rfl) (hj : X.N[j]? = some y := by rfl) (hij : i ≠ j := by decide)
    (hx : X.env.scope.names.lookup x = some .local := by rfl) (hy : X.env.scope.names.lookup y = some .local := by rfl)
    (hw : swappedStores [.Tuple [.Name x px, .Name y py] kt pt] (.Tuple [a, b] k2 pt2) X.env = pure (some [x, y]) := by rfl)
    (hs : swapsWithSole [.Tuple [.Name x px, .Name y py] kt pt] (.Tuple [a, b] k2 pt2) pos.line X.env = pure false := by rfl) : PS X (.Assign [.Tuple [.Name x px, .Name y py] kt pt] (.Tuple [a, b] k2 pt2) pos) (LS C W (svPar i j ta)) := by
  refine PSimp (ps_par hc hN hi hj hij hx hy ha hw hs) fun D σ H ⟨α, σ3, M, m, s, h⟩ => ⟨α, σ3, M, m, s, (FinS.out s h).mono fun vs H1 ⟨α1, M1, ds, e1, m1, r1, h2⟩ => ?_⟩
  match ds, r1, h2 with
  | [d1, d2], r1, h2 =>
    obtain ⟨v, r, e2, rv, w, r', e3, rw', e4⟩ := r1
    subst e4; subst e3; subst e2
    exact ⟨v, w, rfl, h2 α1 H1 _ (Ext.refl _ _) m1 (((s.ext e1).set rv i hpi).set rw' j hpj)⟩
  | [], _, h2 => exact h2.elim
  | [_], _, h2 => exact h2.elim
  | _ :: _ :: _ :: _, _, h2 => exact h2.elim
/-! while -/
theorem s_while {c : Expr} {body : List Stmt} (n : Nat) (hp : PassesOwn (model X.prog X.w) X.A X.env X.xe) (hc : PT X c (LB C W tc)) (hb : PSs X body (LS C W sb)) : PS X (.While c body [] pos) (LS C W (svWhile tc sb n)) := by
  refine PSimp (ps_while hp hc hb) fun D σ H ⟨α, σ3, M, m, s, h⟩ => ?_
  refine ⟨fun k σ H => ∃ α σ3 M, SMem C α M H ∧ SSt C α H σ3 σ ∧ FinS C W D α H (svWhile tc sb k σ3 M), ⟨n, α, σ3, M, m, s, h⟩, ?_⟩
  rintro k σ H ⟨α, σ3, M, m, s, h⟩
  cases k with
  | zero => exact h.elim
  | succ k =>
    refine ⟨α, σ3, M, m, s, (FinS.out s h).mono fun b H1 ⟨α1, M1, d, e1, m1, r1, h1⟩ => ?_⟩
    cases r1
    cases b with
    | false => rw [if_neg Bool.false_ne_true]; exact h1 α1 H1 σ (Ext.refl _ _) m1 (s.ext e1)
    | true =>
      rw [if_pos rfl]
      refine ⟨fun σ H => ∃ α σ3 M, SMem C α M H ∧ SSt C α H σ3 σ ∧ FinS C W D α H (svWhile tc sb k σ3 M), fun σ' H' q => ⟨k, Nat.lt_succ_self k, q⟩, α1, σ3, M1, m1, s.ext e1, ?_⟩
      have h2 : FinS C W D α1 H1 (match sb σ3 M1 with
        | .nx σ' M' => svWhile tc sb k σ' M'
        | .ct σ' M' => svWhile tc sb k σ' M'
        | .bk σ' M' => .nx σ' M'
        | o => o) := h1
      cases q : sb σ3 M1 with
      | nx σ' M' => rw [q] at h2; exact fun α' H' σ1 e2 m2 s2 => ⟨α', σ', M', m2, s2, FinS.ext h2 e2⟩
      | ct σ' M' => rw [q] at h2; exact fun α' H' σ1 e2 m2 s2 => ⟨α', σ', M', m2, s2, FinS.ext h2 e2⟩
      | bk σ' M' => rw [q] at h2; exact h2
      | rt d M' => rw [q] at h2; exact h2
      | exc c ds σ' M' => rw [q] at h2; exact h2
      | no => rw [q] at h2; exact h2
/-! for -/
/-- an iterator walks these items, while what it watches stands -/
def JOk (C : Ct) (J : It) (src : Src) (α : List Addr) (H : Hp) : Prop :=
  ∀ α' M' H', Ext α H α' H' → SMem C α' M' H' → watched src.watch M' = true → ∀ i : Nat,
    (∀ d, src.items[i]? = some d → J.go i H' ∧ ∀ x H2, J.yld i H' x H2 → Ext α' H' α' H2 ∧ SMem C α' M' H2 ∧ Rl C α' H2 d x) ∧ (src.items.length = i → J.stop i H')
theorem JOk.ext {C : Ct} {J : It} {src : Src} {α α' : List Addr} {H H' : Hp} (h : JOk C J src α H) (e : Ext α H α' H') : JOk C J src α' H' := fun a M b e' m w => h a M b (e.trans e') m w
def LI (C : Ct) (W : WX) (iv : IV) : TI := fun σ H R => ∃ α σ3 M, SMem C α M H ∧ SSt C α H σ3 σ ∧ Fin C W σ (fun α H src J => JOk C J src α H) α H (iv σ3 M) R
theorem PIimp {tg it : Expr} {t t' : TI} (h : PI X tg it t) (k : ∀ σ H R, t' σ H R → t σ H R) : PI X tg it t' := ⟨fun p s σ H R I q => h.run p s σ H R I (k _ _ _ q)⟩
theorem s_for {tg iter : Expr} {body : List Stmt} {iv : IV} {g : GV} (hp : PassesOwn (model X.prog X.w) X.A X.env X.xe) (hc : X.calm = true) (hi : PI X tg iter (LI C W iv)) (hg : PG X tg (LG C W g)) (hb : PSs X body (LS C W sb))
    (hs : ∀ x, foldedSetIterable iter X.env x = pure x := by intro _; rfl) : PS X (.For tg iter body [] pos) (LS C W (svFor iv g sb)) := by
  refine PSimp (ps_for hp hc hi hg hb hs) fun D σ H ⟨α, σ3, M, m, s, h⟩ => ⟨α, σ3, M, m, s, (FinS.out s h).mono fun J H1 ⟨α1, M1, src, e1, m1, j1, h1⟩ => ?_⟩
  refine ⟨fun i k σ H => i + k = src.items.length ∧ ∃ α' σ3 M, Ext α1 H1 α' H ∧ SMem C α' M H ∧ SSt C α' H σ3 σ ∧ FinS C W D α' H (svLoop src.watch g sb (src.items.drop i) σ3 M), ⟨src.items.length, by omega, α1, σ3, M1, Ext.refl _ _, m1, s.ext e1, h1⟩, ?_⟩
  rintro i k σ H ⟨hk, α', σ3, M, e2, m2, s2, h2⟩
  cases z : src.items[i]? with
  | none =>
    have hl : src.items.length ≤ i := List.getElem?_eq_none_iff.mp z
    rw [List.drop_eq_nil_of_le hl] at h2
    have h2 : FinS C W D α' H (if watched src.watch M = true then .nx σ3 M else .no) := h2
    by_cases hw : watched src.watch M = true
    · rw [if_pos hw] at h2
      exact .inl ⟨(j1 α' M H e2 m2 hw i).2 (by omega), h2 α' H σ (Ext.refl _ _) m2 s2⟩
    · rw [if_neg hw] at h2; exact h2.elim
  | some d =>
    have hl : i < src.items.length := (List.getElem?_eq_some_iff.mp z).1
    have hd : src.items.drop i = d :: src.items.drop (i + 1) := by
      rw [List.drop_eq_getElem_cons hl]
      congr 1
      exact (List.getElem?_eq_some_iff.mp z).2
    rw [hd] at h2
    have h2 : FinS C W D α' H (if watched src.watch M = true then (match g d σ3 M with
      | .nx σ1 M1 => (match sb σ1 M1 with
        | .nx σ2 M2 => svLoop src.watch g sb (src.items.drop (i + 1)) σ2 M2
        | .ct σ2 M2 => svLoop src.watch g sb (src.items.drop (i + 1)) σ2 M2
        | .bk σ2 M2 => .nx σ2 M2
        | o => o)
      | .exc c ds σ1 M1 => .exc c ds σ1 M1
      | _ => .no) else .no) := h2
    by_cases hw : watched src.watch M = true
    · rw [if_pos hw] at h2
      obtain ⟨go, yld⟩ := (j1 α' M H e2 m2 hw i).1 d z
      refine .inr ⟨go, fun σ H => (i + 1) + (k - 1) = src.items.length ∧ ∃ α' σ3 M, Ext α1 H1 α' H ∧ SMem C α' M H ∧ SSt C α' H σ3 σ ∧ FinS C W D α' H (svLoop src.watch g sb (src.items.drop (i + 1)) σ3 M), fun σ' H' q => ⟨k - 1, by omega, q⟩, fun x H2 y => ?_⟩
      obtain ⟨e3, m3, r3⟩ := yld x H2 y
      refine ⟨α', σ3, M, d, m3, s2.ext e3, r3, ?_⟩
      have h2 := FinS.ext h2 e3
      cases q : g d σ3 M with
      | exc c ds σ' M' => rw [q] at h2; exact h2
      | no => rw [q] at h2; exact h2
      | rt d M' => rw [q] at h2; exact h2.elim
      | bk σ' M' => rw [q] at h2; exact h2.elim
      | ct σ' M' => rw [q] at h2; exact h2.elim
      | nx σ1 M1 =>
        rw [q] at h2
        refine fun α4 H4 σ4 e4 m4 s4 => ⟨α4, σ1, M1, m4, s4, ?_⟩
        have h2 := FinS.ext h2 e4
        have h2 : FinS C W D α4 H4 (match sb σ1 M1 with
          | .nx σ2 M2 => svLoop src.watch g sb (src.items.drop (i + 1)) σ2 M2
          | .ct σ2 M2 => svLoop src.watch g sb (src.items.drop (i + 1)) σ2 M2
          | .bk σ2 M2 => .nx σ2 M2
          | o => o) := h2
        cases q : sb σ1 M1 with
        | nx σ' M' => rw [q] at h2; exact fun α' H' σ1 e5 m5 s5 => ⟨by omega, α', σ', M', e2.trans (e3.trans (e4.trans e5)), m5, s5, FinS.ext h2 e5⟩
        | ct σ' M' => rw [q] at h2; exact fun α' H' σ1 e5 m5 s5 => ⟨by omega, α', σ', M', e2.trans (e3.trans (e4.trans e5)), m5, s5, FinS.ext h2 e5⟩
        | bk σ' M' => rw [q] at h2; exact h2
        | rt d M' => rw [q] at h2; exact h2
        | exc c ds σ' M' => rw [q] at h2; exact h2
        | no => rw [q] at h2; exact h2
    · rw [if_neg hw] at h2; exact h2.elim
/-! augmented assignment -/
theorem s_aug (i : Nat) {x : Str} {o : Operator} {r : TIp} {op : D → D → Mem → Res D} {pos' : Pos} (hp : Keeps C i) (hN : X.N.Nodup) (he : PE X e (LE C W eva)) (ho : PIp X o r) (lk : LinkR C r op) (hi : X.N[i]? = some x := by rfl) (hx : Loc X.env.scope x := by first | exact Or.inl rfl | exact Or.inr rfl) (hf : X.fn x = true ∨ X.env.scope.names.lookup x = some .local := by first | exact .inl rfl | exact .inr rfl | assumption) :
    PS X (.AugAssign (.Name x pos') o e pos) (LS C W (svAug i op eva)) := by
  refine PSimp (ps_aug hN hi hx he ho (hf := hf)) fun D σ H ⟨α, σ3, M, m, s, h⟩ => ?_
  unfold svAug at h
  cases q : σ3[i]? with
  | none => rw [q] at h; exact h.elim
  | some z =>
    cases z with
    | none => rw [q] at h; exact h.elim
    | some d0 =>
      rw [q] at h
      obtain ⟨v0, k0, r0⟩ := s.at_ i d0 q
      refine ⟨v0, k0, α, σ3, M, m, s, (FinS.out s h).mono fun y H1 ⟨α1, M1, d, e1, m1, r1, h2⟩ => ?_⟩
      refine lk W σ α1 M1 H1 d0 d v0 y _ m1 (r0.ext e1) r1 ?_
      exact (FinS.out (s.ext e1) h2).mono fun z H2 ⟨α2, M2, dz, e2, m2, rz, h3⟩ => h3 α2 H2 _ (Ext.refl _ _) m2 (((s.ext (e1.trans e2))).set rz i hp)
end
end L3

set_option Elab.async false
set_option linter.all false
set_option maxRecDepth 100000
set_option maxHeartbeats 4000000
namespace L3
open PySem PySem.Spec PyProof.Rows L2

/-! sequences, seen through the cells -/
def listOf (M : Mem) : D → Option (List D)
  | .lst ds => some ds
  | .scr ds => some ds
  | .ref n => match M[n]? with
    | some (.lst ds) => some ds
    | _ => none
  | _ => none
/-- lists that the program made -/
def madeOf (M : Mem) : D → Option (List D)
  | .lst ds => some ds
  | .ref n => match M[n]? with
    | some (.lst ds) => some ds
    | _ => none
  | _ => none
def tupOf : D → Option (List D)
  | .tup ds => some ds
  | _ => none
section
variable {C : Ct} {W : WX} {σ : L2.St} {α : List Addr} {M : Mem} {H : Hp}
theorem SqT_of {K : PySem.W.Frag} {a : Addr} {vs : List V} (hK : C.K = K) (h : (a ∉ α ∧ Rd H a (.tup vs)) ∨ SqTK C.K a vs) : SqT K H a vs := by
  rcases h with ⟨_, h⟩ | h
  · exact Or.inl h
  · rw [hK] at h; exact Or.inr h
theorem SqL_of {K : PySem.W.Frag} {a : Addr} {vs : List V} (hK : C.K = K) (h : (a ∉ α ∧ Rd H a (.lst vs)) ∨ SqLK C.K a vs) : SqL K H a vs := by
  rcases h with ⟨_, h⟩ | h
  · exact Or.inl h
  · rw [hK] at h; exact Or.inr h
theorem ref_lst {n : Nat} {ds : List D} {v : V} (m : SMem C α M H) (r : Rl C α H (.ref n) v) (h : M[n]? = some (.lst ds)) : ∃ a vs, v = .ref a ∧ α[n]? = some a ∧ H a = some (.lst vs) ∧ Rls C α H ds vs := by
  obtain ⟨a, ha, rfl⟩ := r
  obtain ⟨vs, hv, rs⟩ := m.cell n _ a h ha
  exact ⟨a, vs, rfl, ha, hv, rs⟩
theorem madeOf_ok {d : D} {ds : List D} {v : V} (m : SMem C α M H) (r : Rl C α H d v) (h : madeOf M d = some ds) : ∃ a vs, v = .ref a ∧ H a = some (.lst vs) ∧ Rls C α H ds vs := by
  cases d with
  | lst es =>
    cases h
    obtain ⟨a, vs, rfl, _, h, rs⟩ := r
    exact ⟨a, vs, rfl, h, rs⟩
  | ref n =>
    have h : (match M[n]? with
      | some (.lst ds) => some ds
      | _ => none) = some ds := h
    cases q : M[n]? with
    | none => rw [q] at h; cases h
    | some c =>
      rw [q] at h
      cases c with
      | lst es =>
        cases h
        obtain ⟨a, vs, e, _, hv, rs⟩ := ref_lst m r q
        exact ⟨a, vs, e, hv, rs⟩
      | _ => cases h
  | _ => cases h
theorem listOf_ok {K : PySem.W.Frag} {d : D} {ds : List D} {v : V} (hK : C.K = K) (m : SMem C α M H) (r : Rl C α H d v) (h : listOf M d = some ds) : ∃ a vs, v = .ref a ∧ SqL K H a vs ∧ Rls C α H ds vs := by
  cases d with
  | scr es =>
    cases h
    obtain ⟨a, vs, rfl, h, rs⟩ := r
    exact ⟨a, vs, rfl, SqL_of hK h, rs⟩
  | lst es =>
    obtain ⟨a, vs, e, hv, rs⟩ := madeOf_ok (M := M) m r h
    exact ⟨a, vs, e, .inl (.inl hv), rs⟩
  | ref n =>
    obtain ⟨a, vs, e, hv, rs⟩ := madeOf_ok (M := M) m r h
    exact ⟨a, vs, e, .inl (.inl hv), rs⟩
  | _ => cases h
theorem tupOf_ok {K : PySem.W.Frag} {d : D} {ds : List D} {v : V} (hK : C.K = K) (r : Rl C α H d v) (h : tupOf d = some ds) : ∃ a vs, v = .ref a ∧ SqT K H a vs ∧ Rls C α H ds vs := by
  cases d with
  | tup es =>
    cases h
    obtain ⟨a, vs, rfl, h, rs⟩ := r
    exact ⟨a, vs, rfl, SqT_of hK h, rs⟩
  | _ => cases h
theorem fin_ok {d : D} {v : V} {Q : VK} (m : SMem C α M H) (r : Rl C α H d v) (h : Fin C W σ (RD C) α H (.ok d M) Q) : Q v H := h α H v (Ext.refl _ _) m r
end

/-! ### numbers -/
def mulOk (i j : Int) : Bool := decide (i.natAbs < 2 ^ 64) || (decide (j.natAbs < 2 ^ 64) || decide (i.natAbs.log2 + j.natAbs.log2 < 100000000))
theorem mulOk_ok {i j : Int} (h : mulOk i j = true) : IntMulOk i j := by
  unfold mulOk at h
  rcases Bool.or_eq_true_iff.mp h with h | h
  · exact .of_left (intBits_le_64 (by have := of_decide_eq_true h; omega) (by have := of_decide_eq_true h; omega))
  rcases Bool.or_eq_true_iff.mp h with h | h
  · exact .of_right (intBits_le_64 (by have := of_decide_eq_true h; omega) (by have := of_decide_eq_true h; omega))
  have h3 := of_decide_eq_true h
  have b : ∀ x : Int, Builtin.Int.intBits x ≤ x.natAbs.log2 + 1 := fun x => by
    unfold Builtin.Int.intBits
    split <;> omega
  have h1 := b i
  have h2 := b j
  have e : bitsLine = 134217728 := by decide
  unfold IntMulOk
  intro z
  rw [Bool.and_eq_true] at z
  have z2 := z.2
  unfold Builtin.Int.intTooBig at z2
  have z3 := of_decide_eq_true z2
  rw [e] at z3
  omega
def divOk (j : Int) : Bool := decide (j ≠ 0) && decide (j.natAbs.log2 < 9000)
def powOk (i j : Int) : Bool := decide (0 ≤ j) && (decide (j ≤ 1000000) && decide (i.natAbs < 2 ^ 64))
section
variable {X : Cx}
theorem op_mulX : OpR X (binaryOp .Mult) (rI (fun i j => mulOk i j = true) fun i j => .int (i * j)) := opI fun _ _ _ _ _ _ _ hc q => mul_int q (mulOk_ok hc)
theorem op_divX : OpR X (binaryOp .FloorDiv) (rI (fun _ j => divOk j = true) fun i j => .int (i.fdiv j)) := opI fun i j _ _ _ _ _ hc q => by
  obtain ⟨h1, h2⟩ := Bool.and_eq_true_iff.mp hc
  exact floordiv_int (of_decide_eq_true h1) q (.inl (PyProof.noPylong_of_log2 (of_decide_eq_true h2)))
theorem op_powX : OpR X (binaryOp .Pow) (rI (fun i j => powOk i j = true) fun i j => .int (i ^ j.toNat)) := opI fun i j _ _ _ _ _ hc q => by
  obtain ⟨h1, h2⟩ := Bool.and_eq_true_iff.mp hc
  obtain ⟨h2, h3⟩ := Bool.and_eq_true_iff.mp h2
  exact pow_int_small (of_decide_eq_true h1) (of_decide_eq_true h2) (of_decide_eq_true h3) q
end
/-- two ints in -/
def int2 (ok : Int → Int → Bool) (f : Int → Int → D) : D → D → Mem → Res D := fun x y M => match x, y with
  | .int i, .int j => if ok i j = true then .ok (f i j) M else .no
  | _, _ => .no
theorem lk_int2 {C : Ct} {ok : Int → Int → Bool} {P : Int → Int → Prop} {f : Int → Int → D} {g : Int → Int → V} (hp : ∀ i j, ok i j = true → P i j) (hg : ∀ i j α H, Rl C α H (f i j) (g i j)) : LinkR C (rI P g) (int2 ok f) := by
  intro W σ α M H x y v u Q m rx ry h
  cases x with
  | int i =>
    cases y with
    | int j =>
      cases rx; cases ry
      have h : Fin C W σ (RD C) α H (if ok i j = true then .ok (f i j) M else .no) Q := h
      by_cases z : ok i j = true
      · rw [if_pos z] at h; exact ⟨i, j, rfl, rfl, hp i j z, h α H _ (Ext.refl _ _) m (hg i j α H)⟩
      · rw [if_neg z] at h; exact h.elim
    | _ => exact h.elim
  | _ => exact h.elim
theorem lk_int2' {C : Ct} {f : Int → Int → D} {g : Int → Int → V} (hg : ∀ i j α H, Rl C α H (f i j) (g i j)) : LinkR C (rI0 g) (int2 (fun _ _ => true) f) := fun W σ α M H x y v u Q m rx ry h =>
  let ⟨i, j, a, b, _, q⟩ := lk_int2 (P := fun _ _ => True) (fun _ _ _ => trivial) hg W σ α M H x y v u Q m rx ry h
  ⟨i, j, a, b, q⟩
theorem lk_or {C : Ct} {r r' : R2} {op op' op2 : D → D → Mem → Res D} (h : LinkR C r op) (h' : LinkR C r' op') (hs : ∀ x y M, op2 x y M = op x y M ∨ op2 x y M = op' x y M) : LinkR C (fun x y H Q => r x y H Q ∨ r' x y H Q) op2 := by
  intro W σ α M H x y v u Q m rx ry k
  rcases hs x y M with e | e
  · exact .inl (h W σ α M H x y v u Q m rx ry (by rw [← e]; exact k))
  · exact .inr (h' W σ α M H x y v u Q m rx ry (by rw [← e]; exact k))
/-! + -/
def newL (cell : Bool) (ds : List D) (M : Mem) : Res D := if ds.length ≤ sizeLine then (if cell = true then .ok (.ref M.length) (M ++ [.lst ds]) else .ok (.lst ds) M) else .no
theorem newL_ok {C : Ct} {W : WX} {σ : L2.St} {α : List Addr} {M : Mem} {H : Hp} {cell : Bool} {ds : List D} {vs : List V} {Q : VK} (m : SMem C α M H) (r : Rls C α H ds vs) (h : Fin C W σ (RD C) α H (newL cell ds M) Q) :
    vs.length ≤ sizeLine ∧ ∀ p, H p = none → Q (.ref p) (upd H p (.lst vs)) := by
  unfold newL at h
  by_cases z : ds.length ≤ sizeLine
  · rw [if_pos z] at h
    refine ⟨by rw [r.length]; exact z, ?_⟩
    cases cell with
    | true => rw [if_pos rfl] at h; exact fin_new_cell m r h
    | false => rw [if_neg Bool.false_ne_true] at h; exact fin_new_lst m r h
  · rw [if_neg z] at h; exact h.elim
def catL (cell : Bool) : D → D → Mem → Res D := fun x y M => match madeOf M x, madeOf M y with
  | some a, some b => newL cell (a ++ b) M
  | _, _ => .no
theorem lk_catL {C : Ct} {cell : Bool} : LinkR C rCat (catL cell) := by
  intro W σ α M H x y v u Q m rx ry h
  unfold catL at h
  cases qx : madeOf M x with
  | none => rw [qx] at h; exact h.elim
  | some a =>
    cases qy : madeOf M y with
    | none => rw [qx, qy] at h; exact h.elim
    | some b =>
      rw [qx, qy] at h
      obtain ⟨p, vs, rfl, hp, rs⟩ := madeOf_ok m rx qx
      obtain ⟨q, ws, rfl, hq, rt⟩ := madeOf_ok m ry qy
      obtain ⟨h1, h2⟩ := newL_ok m (rs.append rt) h
      exact ⟨p, q, vs, ws, rfl, rfl, hp, hq, by rw [List.length_append] at h1; exact h1, h2⟩
def catT : D → D → Mem → Res D := fun x y M => match x, y with
  | .tup a, .tup b => if a.length + b.length ≤ sizeLine then .ok (.tup (a ++ b)) M else .no
  | _, _ => .no
def dAdd (cell : Bool) : D → D → Mem → Res D := fun x y M => match x with
  | .int _ => int2 (fun _ _ => true) (fun i j => .int (i + j)) x y M
  | .tup _ => catT x y M
  | _ => catL cell x y M
def dMulL (cell : Bool) : D → D → Mem → Res D := fun x y M => match madeOf M x, y with
  | some a, .int k => if -(2 ^ 63) ≤ k ∧ k < 2 ^ 63 then newL cell (List.replicate k.toNat a).flatten M else .no
  | _, _ => .no
def dSub : D → D → Mem → Res D := int2 (fun _ _ => true) fun i j => .int (i - j)
def dMul (cell : Bool) : D → D → Mem → Res D := fun x y M => match x with
  | .int _ => int2 mulOk (fun i j => .int (i * j)) x y M
  | _ => dMulL cell x y M
def dDiv : D → D → Mem → Res D := int2 (fun _ j => divOk j) fun i j => .int (i.fdiv j)
def dMod : D → D → Mem → Res D := int2 (fun _ j => decide (j ≠ 0)) fun i j => .int (i.fmod j)
def dPow : D → D → Mem → Res D := int2 powOk fun i j => .int (i ^ j.toNat)
def dAnd : D → D → Mem → Res D := int2 (fun _ _ => true) fun i j => .int (Builtin.bitAnd i j)
def dLt : D → D → Mem → Res D := int2 (fun _ _ => true) fun i j => .bl (decide (i < j))
def dLe : D → D → Mem → Res D := int2 (fun _ _ => true) fun i j => .bl (decide (i ≤ j))
def dGt : D → D → Mem → Res D := int2 (fun _ _ => true) fun i j => .bl (decide (j < i))
def dGe : D → D → Mem → Res D := int2 (fun _ _ => true) fun i j => .bl (decide (j ≤ i))
section
variable {X : Cx} {C : Ct} {W : WX} {a b c e : Expr} {eva evb evc : EV} {pos : Pos}
/-- t + u -/
theorem lk_catT {K : PySem.W.Frag} (hK : C.K = K) : LinkR C (rCatA K) catT := by
  intro W σ α M H x y v u Q m rx ry h
  cases x with
  | tup a =>
    cases y with
    | tup b =>
      have h : Fin C W σ (RD C) α H (if a.length + b.length ≤ sizeLine then .ok (.tup (a ++ b)) M else .no) Q := h
      by_cases z : a.length + b.length ≤ sizeLine
      · rw [if_pos z] at h
        obtain ⟨p, vs, rfl, hp, rs⟩ := rx
        obtain ⟨q, ws, rfl, hq, rt⟩ := ry
        have l1 := rs.length
        have l2 := rt.length
        refine ⟨p, q, vs, ws, rfl, rfl, SqT_of hK hp, SqT_of hK hq, by rw [l1, l2]; exact z, fun e => ?_, fun _ e => ?_, fun _ _ => fin_new_tup m (rs.append rt) h⟩
        · subst e
          have : a = [] := List.length_eq_zero_iff.mp (by simpa using l1.symm)
          subst this
          exact fin_ok (d := .tup b) m ⟨q, ws, rfl, hq, rt⟩ h
        · subst e
          have : b = [] := List.length_eq_zero_iff.mp (by simpa using l2.symm)
          subst this
          rw [List.append_nil] at h
          exact fin_ok (d := .tup a) m ⟨p, vs, rfl, hp, rs⟩ h
      · rw [if_neg z] at h; exact h.elim
    | _ => exact h.elim
  | _ => exact h.elim
theorem l_add (cell : Bool) (ha : PE X a (LE C W eva)) (hb : PE X b (LE C W evb)) (hK : C.K = X.K := by rfl) : PE X (.BinOp a .Add b pos) (LE C W (ev2 (dAdd cell) eva evb)) := by
  refine l_op (op_add.or (op_catA.or op_cat)) ?_ ha hb
  refine lk_or (lk_int2' (f := fun i j => .int (i + j)) fun _ _ _ _ => rfl) (lk_or (lk_catT hK) (lk_catL (cell := cell)) (op2 := fun x y M => match x with
    | .tup _ => catT x y M
    | _ => catL cell x y M) fun x y M => ?_) fun x y M => ?_
  · cases x <;> first | exact .inl rfl | exact .inr rfl
  · cases x <;> first | exact .inl rfl | exact .inr rfl
theorem l_sub (ha : PE X a (LE C W eva)) (hb : PE X b (LE C W evb)) : PE X (.BinOp a .Sub b pos) (LE C W (ev2 dSub eva evb)) := l_op op_sub (lk_int2' fun _ _ _ _ => rfl) ha hb
theorem lk_rep {cell : Bool} : LinkR C rRep (dMulL cell) := by
  intro W σ α M H x y v u Q m rx ry h
  unfold dMulL at h
  cases qx : madeOf M x with
  | none => rw [qx] at h; exact h.elim
  | some a =>
    rw [qx] at h
    cases y with
    | int k =>
      cases ry
      have h : Fin C W σ (RD C) α H (if -(2 ^ 63) ≤ k ∧ k < 2 ^ 63 then newL cell (List.replicate k.toNat a).flatten M else .no) Q := h
      by_cases z : -(2 ^ 63) ≤ k ∧ k < 2 ^ 63
      · rw [if_pos z] at h
        obtain ⟨p, vs, rfl, hp, rs⟩ := madeOf_ok m rx qx
        have rr : ∀ n : Nat, Rls C α H (List.replicate n a).flatten (List.replicate n vs).flatten := fun n => by
          induction n with
          | zero => exact rfl
          | succ n ih => rw [List.replicate_succ, List.replicate_succ, List.flatten_cons, List.flatten_cons]; exact rs.append ih
        obtain ⟨h1, h2⟩ := newL_ok m (rr _) h
        refine ⟨p, k, vs, rfl, rfl, hp, z.1, z.2, ?_, h2⟩
        rw [List.length_flatten, List.map_replicate, List.sum_replicate_nat] at h1
        rw [Nat.mul_comm]; exact h1
      · rw [if_neg z] at h; exact h.elim
    | _ => exact h.elim
theorem l_mul (cell : Bool) (ha : PE X a (LE C W eva)) (hb : PE X b (LE C W evb)) : PE X (.BinOp a .Mult b pos) (LE C W (ev2 (dMul cell) eva evb)) := by
  refine l_op (op_mulX.or op_rep) ?_ ha hb
  refine lk_or (lk_int2 (f := fun i j => .int (i * j)) (fun _ _ z => z) fun _ _ _ _ => rfl) (lk_rep (cell := cell)) fun x y M => ?_
  cases x <;> first | exact .inl rfl | exact .inr rfl
theorem l_div (ha : PE X a (LE C W eva)) (hb : PE X b (LE C W evb)) : PE X (.BinOp a .FloorDiv b pos) (LE C W (ev2 dDiv eva evb)) := l_op op_divX (lk_int2 (fun _ _ z => z) fun _ _ _ _ => rfl) ha hb
theorem l_mod (ha : PE X a (LE C W eva)) (hb : PE X b (LE C W evb)) : PE X (.BinOp a .Mod b pos) (LE C W (ev2 dMod eva evb)) := l_op op_modN (lk_int2 (fun _ _ z => of_decide_eq_true z) fun _ _ _ _ => rfl) ha hb
theorem l_pow (ha : PE X a (LE C W eva)) (hb : PE X b (LE C W evb)) : PE X (.BinOp a .Pow b pos) (LE C W (ev2 dPow eva evb)) := l_op op_powX (lk_int2 (fun _ _ z => z) fun _ _ _ _ => rfl) ha hb
theorem l_band (ha : PE X a (LE C W eva)) (hb : PE X b (LE C W evb)) : PE X (.BinOp a .BitAnd b pos) (LE C W (ev2 dAnd eva evb)) := l_op op_and (lk_int2' fun _ _ _ _ => rfl) ha hb
def dNeg : D → Mem → Res D := fun x M => match x with
  | .int i => .ok (.int (-i)) M
  | _ => .no
theorem l_neg (ha : PE X a (LE C W eva)) : PE X (.UnaryOp .USub a pos) (LE C W (ev1 dNeg eva)) := by
  refine l_un un_neg (fun W σ α M H x v Q m r h => ?_) ha
  cases x with
  | int i => cases r; exact ⟨i, rfl, fin_ok (d := .int (-i)) m rfl h⟩
  | _ => exact h.elim
/-! comparisons of ints; bool(a < b) as test or value: l_cmp, lt_cmp with these -/
theorem lk_lt : LinkR C (rI0 fun i j => .bl (decide (i < j))) dLt := lk_int2' fun _ _ _ _ => rfl
theorem lk_le : LinkR C (rI0 fun i j => .bl (decide (i ≤ j))) dLe := lk_int2' fun _ _ _ _ => rfl
theorem lk_gt : LinkR C (rI0 fun i j => .bl (decide (j < i))) dGt := lk_int2' fun _ _ _ _ => rfl
theorem lk_ge : LinkR C (rI0 fun i j => .bl (decide (j ≤ i))) dGe := lk_int2' fun _ _ _ _ => rfl
/-! is None -/
def isNon : D → Bool
  | .non => true
  | _ => false
def dIsN : D → D → Mem → Res D := fun x y M => if isNon y = true then .ok (.bl (isNon x)) M else .no
def dNotN : D → D → Mem → Res D := fun x y M => if isNon y = true then .ok (.bl (!isNon x)) M else .no
theorem isNon_rel {α : List Addr} {H : Hp} {x : D} {v : V} (r : Rl C α H x v) : decide (v = .non) = isNon x := by
  cases x with
  | non => cases r; rfl
  | bl b => cases r; rfl
  | int b => cases r; rfl
  | str b => cases r; rfl
  | tup ds => obtain ⟨a, vs, rfl, _⟩ := r; rfl
  | lst ds => obtain ⟨a, vs, rfl, _⟩ := r; rfl
  | scr ds => obtain ⟨a, vs, rfl, _⟩ := r; rfl
  | ref n => obtain ⟨a, _, rfl⟩ := r; rfl
  | obj c ds => obtain ⟨a, dx, vs, rfl, _⟩ := r; rfl
  | dct ks vs => obtain ⟨a, kws, rfl, _⟩ := r; rfl
  | xv c ds => obtain ⟨a, dx, vs, rfl, _⟩ := r; rfl
  | glo g => cases r; rfl
  | ty n => cases r; rfl
theorem isNon_eq {α : List Addr} {H : Hp} {x : D} {v : V} (r : Rl C α H x v) (h : isNon x = true) : v = .non := by
  rw [← isNon_rel r] at h; exact of_decide_eq_true h
theorem lk_isN : LinkR C (fun x y H Q => y = .non ∧ Q (.bl (decide (x = .non))) H) dIsN := by
  intro W σ α M H x y v u Q m rx ry h
  unfold dIsN at h
  by_cases z : isNon y = true
  · rw [if_pos z] at h
    exact ⟨isNon_eq ry z, by rw [isNon_rel rx]; exact fin_ok (d := .bl (isNon x)) m rfl h⟩
  · rw [if_neg z] at h; exact h.elim
theorem lk_notN : LinkR C (fun x y H Q => y = .non ∧ Q (.bl (!decide (x = .non))) H) dNotN := by
  intro W σ α M H x y v u Q m rx ry h
  unfold dNotN at h
  by_cases z : isNon y = true
  · rw [if_pos z] at h
    exact ⟨isNon_eq ry z, by rw [isNon_rel rx]; exact fin_ok (d := .bl (!isNon x)) m rfl h⟩
  · rw [if_neg z] at h; exact h.elim
/-! == of data -/
def mapO (f : D → Option PyData) : List D → Option (List PyData)
  | [] => some []
  | d :: r => match f d, mapO f r with
    | some p, some ps => some (p :: ps)
    | _, _ => none
def leaf : D → Option PyData
  | .non => some .none
  | .bl b => some (.bool b)
  | .int i => some (.int i)
  | .str s => if PySem.PyData.strOk s = true then some (.str s) else none
  | _ => none
def py (M : Mem) : Nat → D → Option PyData
  | 0, d => leaf d
  | n + 1, d => match d with
    | .tup ds => (mapO (py M n) ds).map .tuple
    | .lst ds => (mapO (py M n) ds).map .list
    | .scr ds => (mapO (py M n) ds).map .list
    | .ref k => (match M[k]? with
      | some (.lst ds) => (mapO (py M n) ds).map .list
      | _ => none)
    | d => leaf d
section
variable {K : PySem.W.Frag} {α : List Addr} {M : Mem} {H : Hp}
theorem leaf_ok {d : D} {p : PyData} {v : V} (r : Rl C α H d v) (h : leaf d = some p) : Dp K H v p ∧ p.canLay0 = true ∧ p.depth = 0 := by
  cases d with
  | non => cases h; cases r; exact ⟨.non, by simp [PyData.canLay0], by simp [PyData.depth]⟩
  | bl b => cases h; cases r; exact ⟨.bl b, by simp [PyData.canLay0], by simp [PyData.depth]⟩
  | int i => cases h; cases r; exact ⟨.int i, by simp [PyData.canLay0], by simp [PyData.depth]⟩
  | str s =>
    cases r
    have h : (if PySem.PyData.strOk s = true then some (.str s) else none) = some p := h
    by_cases z : PySem.PyData.strOk s = true
    · rw [if_pos z] at h; cases h; exact ⟨.str s, by simp [PyData.canLay0, z], by simp [PyData.depth]⟩
    · rw [if_neg z] at h; cases h
  | _ => cases h
theorem mapO_ok {f : D → Option PyData} {n : Nat} (hf : ∀ d p v, Rl C α H d v → f d = some p → Dp K H v p ∧ p.canLay0 = true ∧ p.depth ≤ n) :
    ∀ {ds : List D} {ps : List PyData} {vs : List V}, Rls C α H ds vs → mapO f ds = some ps → DpAll K H vs ps ∧ PyData.canLayAll0 ps = true ∧ PyData.depthAll ps ≤ n
  | [], ps, vs, r, h => by cases h; cases r; exact ⟨.nil, by simp [PyData.canLayAll0], by simp [PyData.depthAll]⟩
  | d :: ds, ps, vs, r, h => by
    obtain ⟨v, vr, rfl, rv, rr⟩ := r
    have h : (match f d, mapO f ds with
      | some p, some ps => some (p :: ps)
      | _, _ => none) = some ps := h
    cases q : f d with
    | none => rw [q] at h; cases h
    | some p =>
      cases q2 : mapO f ds with
      | none => rw [q, q2] at h; cases h
      | some qs =>
        rw [q, q2] at h
        cases h
        obtain ⟨a1, a2, a3⟩ := hf d p v rv q
        obtain ⟨b1, b2, b3⟩ := mapO_ok hf rr q2
        exact ⟨.cons a1 b1, by simp [PyData.canLayAll0, a2, b2], by simp only [PyData.depthAll]; omega⟩
theorem py_ok (hK : C.K = K) (m : SMem C α M H) : ∀ (n : Nat) (d : D) (p : PyData) (v : V), Rl C α H d v → py M n d = some p → Dp K H v p ∧ p.canLay0 = true ∧ p.depth ≤ n
  | 0, d, p, v, r, h => let ⟨a, b, c⟩ := leaf_ok (K := K) r h; ⟨a, b, by omega⟩
  | n + 1, d, p, v, r, h => by
    have lst : ∀ {ds : List D} {a : Addr} {vs : List V}, v = .ref a → SqL K H a vs → Rls C α H ds vs → (mapO (py M n) ds).map PyData.list = some p → Dp K H v p ∧ p.canLay0 = true ∧ p.depth ≤ n + 1 := fun {ds a vs} e hs rs hm => by
      subst e
      cases q : mapO (py M n) ds with
      | none => rw [q] at hm; cases hm
      | some ps =>
        rw [q] at hm; cases hm
        obtain ⟨a1, a2, a3⟩ := mapO_ok (py_ok hK m n) rs q
        exact ⟨.lst hs a1, by simp [PyData.canLay0, a2], by simp only [PyData.depth]; omega⟩
    cases d with
    | tup ds =>
      obtain ⟨a, vs, rfl, hs, rs⟩ := r
      have h : (mapO (py M n) ds).map PyData.tuple = some p := h
      cases q : mapO (py M n) ds with
      | none => rw [q] at h; cases h
      | some ps =>
        rw [q] at h; cases h
        obtain ⟨a1, a2, a3⟩ := mapO_ok (py_ok hK m n) rs q
        exact ⟨.tup (SqT_of hK hs) a1, by simp [PyData.canLay0, a2], by simp only [PyData.depth]; omega⟩
    | lst ds => obtain ⟨a, vs, e, _, hs, rs⟩ := r; exact lst e (.inl (.inl hs)) rs h
    | scr ds => obtain ⟨a, vs, e, hs, rs⟩ := r; exact lst e (SqL_of hK hs) rs h
    | ref k =>
      have h : (match M[k]? with
        | some (.lst ds) => (mapO (py M n) ds).map PyData.list
        | _ => none) = some p := h
      cases q : M[k]? with
      | none => rw [q] at h; cases h
      | some c =>
        rw [q] at h
        cases c with
        | lst ds =>
          obtain ⟨a, vs, e, _, hv, rs⟩ := ref_lst m r q
          exact lst e (.inl (.inl hv)) rs h
        | _ => cases h
    | non => obtain ⟨a, b, c⟩ := leaf_ok (K := K) r h; exact ⟨a, b, by omega⟩
    | bl b => obtain ⟨a, b, c⟩ := leaf_ok (K := K) r h; exact ⟨a, b, by omega⟩
    | int b => obtain ⟨a, b, c⟩ := leaf_ok (K := K) r h; exact ⟨a, b, by omega⟩
    | str b => obtain ⟨a, b, c⟩ := leaf_ok (K := K) r h; exact ⟨a, b, by omega⟩
    | _ => cases h
end
def dEq : D → D → Mem → Res D := fun x y M => match py M 8 x, py M 8 y with
  | some a, some b => .ok (.bl (PyData.eqv a b)) M
  | _, _ => .no
def dNe : D → D → Mem → Res D := fun x y M => match py M 8 x, py M 8 y with
  | some a, some b => .ok (.bl (!PyData.eqv a b)) M
  | _, _ => .no
theorem shaped_of {p : PyData} (h1 : p.canLay0 = true) (h2 : p.depth ≤ 8) : SeqAt.shaped p = true := by
  unfold SeqAt.shaped
  rw [h1, decide_eq_true (by omega)]; rfl
theorem lk_eq {K : PySem.W.Frag} (hK : C.K = K) : LinkR C (rEqD K) dEq := by
  intro W σ α M H x y v u Q m rx ry h
  unfold dEq at h
  cases qx : py M 8 x with
  | none => rw [qx] at h; exact h.elim
  | some a =>
    cases qy : py M 8 y with
    | none => rw [qx, qy] at h; exact h.elim
    | some b =>
      rw [qx, qy] at h
      obtain ⟨a1, a2, a3⟩ := py_ok hK m 8 x a v rx qx
      obtain ⟨b1, b2, b3⟩ := py_ok hK m 8 y b u ry qy
      exact ⟨a, b, a1, b1, shaped_of a2 a3, shaped_of b2 b3, fin_ok (d := .bl (PyData.eqv a b)) m rfl h⟩
theorem lk_ne {K : PySem.W.Frag} (hK : C.K = K) : LinkR C (rNeD K) dNe := by
  intro W σ α M H x y v u Q m rx ry h
  unfold dNe at h
  cases qx : py M 8 x with
  | none => rw [qx] at h; exact h.elim
  | some a =>
    cases qy : py M 8 y with
    | none => rw [qx, qy] at h; exact h.elim
    | some b =>
      rw [qx, qy] at h
      obtain ⟨a1, a2, a3⟩ := py_ok hK m 8 x a v rx qx
      obtain ⟨b1, b2, b3⟩ := py_ok hK m 8 y b u ry qy
      exact ⟨a, b, a1, b1, shaped_of a2 a3, shaped_of b2 b3, fin_ok (d := .bl (!PyData.eqv a b)) m rfl h⟩
/-! x in s -/
def flatD : D → Bool
  | .non => true | .bl _ => true | .int _ => true | .str _ => true | _ => false
def eqF : D → D → Bool
  | .non, .non => true
  | .bl a, .bl b => a == b
  | .bl a, .int b => (if a then 1 else 0) == b
  | .int a, .bl b => a == (if b then 1 else 0)
  | .int a, .int b => a == b
  | .str a, .str b => a == b
  | _, _ => false
def seqOf (M : Mem) (d : D) : Option (List D) := match d with
  | .tup ds => some ds
  | d => listOf M d
def dIn (neg : Bool) : D → D → Mem → Res D := fun x y M => match seqOf M y with
  | some ds => if flatD x = true ∧ ds.all flatD = true then .ok (.bl (if neg then !(ds.any fun z => eqF z x) else ds.any fun z => eqF z x)) M else .no
  | none => .no
theorem flat_rel {α : List Addr} {H : Hp} {x : D} {v : V} (r : Rl C α H x v) (h : flatD x = true) : flatV v = true := by
  cases x <;> first | (cases r; rfl) | cases h
theorem eqF_rel {α : List Addr} {H : Hp} {x y : D} {v u : V} (r : Rl C α H x v) (q : Rl C α H y u) (h : flatD x = true) (k : flatD y = true) : eqV v u = eqF x y := by
  cases x <;> first | exact Bool.noConfusion h | (cases y <;> first | exact Bool.noConfusion k | (cases r; cases q; rfl))
theorem any_rel {α : List Addr} {H : Hp} {x : D} {v : V} (r : Rl C α H x v) (h : flatD x = true) : ∀ {ds : List D} {vs : List V}, Rls C α H ds vs → ds.all flatD = true → vs.all flatV = true ∧ inV v vs = ds.any fun z => eqF z x
  | [], vs, rs, _ => by cases rs; exact ⟨rfl, rfl⟩
  | d :: ds, vs, rs, k => by
    obtain ⟨w, wr, rfl, rw', rr⟩ := rs
    rw [List.all_cons, Bool.and_eq_true] at k
    obtain ⟨a, b⟩ := any_rel r h rr k.2
    refine ⟨by rw [List.all_cons, flat_rel rw' k.1, a]; rfl, ?_⟩
    have b : (wr.any fun y => eqV y v) = ds.any fun z => eqF z x := b
    show ((w :: wr).any fun y => eqV y v) = _
    rw [List.any_cons, List.any_cons, b, eqF_rel rw' r k.1 h]
theorem lk_in {K : PySem.W.Frag} {neg : Bool} (hK : C.K = K) : LinkR C (rIn K neg) (dIn neg) := by
  intro W σ α M H x y v u Q m rx ry h
  unfold dIn at h
  cases q : seqOf M y with
  | none => rw [q] at h; exact h.elim
  | some ds =>
    rw [q] at h
    have h : Fin C W σ (RD C) α H (if flatD x = true ∧ ds.all flatD = true then .ok (.bl (if neg then !(ds.any fun z => eqF z x) else ds.any fun z => eqF z x)) M else .no) Q := h
    by_cases z : flatD x = true ∧ ds.all flatD = true
    · rw [if_pos z] at h
      have key : ∃ a vs, u = .ref a ∧ (SqL K H a vs ∨ SqT K H a vs) ∧ Rls C α H ds vs := by
        cases y with
        | tup es => cases q; obtain ⟨a, vs, e, hs, rs⟩ := tupOf_ok (C := C) hK ry rfl; exact ⟨a, vs, e, .inr hs, rs⟩
        | lst es => obtain ⟨a, vs, e, hs, rs⟩ := listOf_ok hK m ry q; exact ⟨a, vs, e, .inl hs, rs⟩
        | scr es => obtain ⟨a, vs, e, hs, rs⟩ := listOf_ok hK m ry q; exact ⟨a, vs, e, .inl hs, rs⟩
        | ref n => obtain ⟨a, vs, e, hs, rs⟩ := listOf_ok hK m ry q; exact ⟨a, vs, e, .inl hs, rs⟩
        | _ => cases q
      obtain ⟨a, vs, e, hs, rs⟩ := key
      obtain ⟨k1, k2⟩ := any_rel rx z.1 rs z.2
      refine ⟨a, vs, e, hs, flat_rel rx z.1, k1, ?_⟩
      rw [k2]
      exact fin_ok (d := .bl _) m rfl h
    · rw [if_neg z] at h; exact h.elim
/-! s[i] -/
def dIx : D → D → Mem → Res D := fun x y M => match y with
  | .int i => (match x with
    | .str z => if z.length ≤ sizeLine then (match atI z.cps.toList i with
      | some c => .ok (.str ⟨#[c]⟩) M
      | none => .no) else .no
    | x => match seqOf M x with
      | some ds => (match atI ds i with
        | some d => .ok d M
        | none => .no)
      | none => .no)
  | _ => .no
theorem atI_rel {α : List Addr} {H : Hp} {ds : List D} {vs : List V} (r : Rls C α H ds vs) {i : Int} {d : D} (h : atI ds i = some d) : ∃ v, atI vs i = some v ∧ Rl C α H d v := by
  unfold atI at h ⊢
  rw [r.length]
  cases q : ixN ds.length i with
  | none => rw [q] at h; cases h
  | some j => rw [q] at h; exact r.get h
theorem lk_ix {K : PySem.W.Frag} (hK : C.K = K) : LinkR C (rIx K) dIx := by
  intro W σ α M H x y v u Q m rx ry h
  cases y with
  | int i =>
    cases ry
    cases x with
    | str z =>
      cases rx
      have h : Fin C W σ (RD C) α H (if z.length ≤ sizeLine then (match atI z.cps.toList i with
        | some c => .ok (.str ⟨#[c]⟩) M
        | none => .no) else .no) Q := h
      by_cases hz : z.length ≤ sizeLine
      · rw [if_pos hz] at h
        cases q : atI z.cps.toList i with
        | none => rw [q] at h; exact h.elim
        | some c => rw [q] at h; exact .inr (.inr ⟨z, i, c, rfl, rfl, hz, q, fin_ok (d := .str ⟨#[c]⟩) m rfl h⟩)
      · rw [if_neg hz] at h; exact h.elim
    | tup es =>
      have h : Fin C W σ (RD C) α H (match atI es i with
        | some d => .ok d M
        | none => .no) Q := h
      obtain ⟨a, vs, rfl, hs, rs⟩ := tupOf_ok (C := C) hK rx rfl
      cases q : atI es i with
      | none => rw [q] at h; exact h.elim
      | some d => rw [q] at h; obtain ⟨w, h1, h2⟩ := atI_rel rs q; exact .inr (.inl ⟨a, vs, i, w, rfl, rfl, hs, h1, fin_ok m h2 h⟩)
    | lst es =>
      have h : Fin C W σ (RD C) α H (match atI es i with
        | some d => .ok d M
        | none => .no) Q := h
      obtain ⟨a, vs, rfl, hs, rs⟩ := listOf_ok (M := M) hK m rx rfl
      cases q : atI es i with
      | none => rw [q] at h; exact h.elim
      | some d => rw [q] at h; obtain ⟨w, h1, h2⟩ := atI_rel rs q; exact .inl ⟨a, vs, i, w, rfl, rfl, hs, h1, fin_ok m h2 h⟩
    | scr es =>
      have h : Fin C W σ (RD C) α H (match atI es i with
        | some d => .ok d M
        | none => .no) Q := h
      obtain ⟨a, vs, rfl, hs, rs⟩ := listOf_ok (M := M) hK m rx rfl
      cases q : atI es i with
      | none => rw [q] at h; exact h.elim
      | some d => rw [q] at h; obtain ⟨w, h1, h2⟩ := atI_rel rs q; exact .inl ⟨a, vs, i, w, rfl, rfl, hs, h1, fin_ok m h2 h⟩
    | ref n =>
      have h : Fin C W σ (RD C) α H (match listOf M (.ref n) with
        | some ds => (match atI ds i with
          | some d => .ok d M
          | none => .no)
        | none => .no) Q := h
      cases q0 : listOf M (.ref n) with
      | none => rw [q0] at h; exact h.elim
      | some es =>
        rw [q0] at h
        have h : Fin C W σ (RD C) α H (match atI es i with
          | some d => .ok d M
          | none => .no) Q := h
        obtain ⟨a, vs, rfl, hs, rs⟩ := listOf_ok hK m rx q0
        cases q : atI es i with
        | none => rw [q] at h; exact h.elim
        | some d => rw [q] at h; obtain ⟨w, h1, h2⟩ := atI_rel rs q; exact .inl ⟨a, vs, i, w, rfl, rfl, hs, h1, fin_ok m h2 h⟩
    | _ => exact h.elim
  | _ => exact h.elim
theorem l_ix (ha : PE X a (LE C W eva)) (hb : PE X b (LE C W evb)) (hs : PlainIx b := by exact fun _ _ => rfl) (hK : C.K = X.K := by rfl) : PE X (.Subscript a b pos) (LE C W (ev2 dIx eva evb)) :=
  PEimp (pe_ix ix_seq ha hb hs) fun _ _ _ h => op2 (lk_ix hK) h
end
end L3

set_option Elab.async false
set_option linter.all false
set_option maxRecDepth 100000
set_option maxHeartbeats 4000000
namespace L3
open PySem PySem.Spec PyProof.Rows L2

/-! lists (false) and tuples (true) alike -/
def ItAt : Bool → Heap → Addr → Addr → Nat → Prop
  | true, h, it, a, i => h.IsTupleIter it a i
  | false, h, it, a, i => h.IsListIter it a i
def IsAt : Bool → Heap → Addr → Array Value → Prop
  | true, h, a, vs => h.IsTuple a vs
  | false, h, a, vs => h.IsList a vs
def SqAt : Bool → PySem.W.Frag → Hp → Addr → List V → Prop
  | true, K, H, a, xs => SqT K H a xs
  | false, K, H, a, xs => SqL K H a xs
def objIt : Bool → Addr → Obj
  | true, a => { cls := .type "tuple_iterator", data := .fields #[.ref a, .int 0 0] }
  | false, a => { cls := .type "list_iterator", data := .fields #[.ref a, .int 0 0] }
section
variable {X : Cx} {pins : List (Addr × Obj)} {σ : L2.St} {H : Hp} {s : Shared} {a : Addr} {xs ys : List V} {k : Bool}
theorem sq_is (I : Inv X pins σ H s) (h : SqAt k X.K H a xs) : ∃ its : List Value, Vals xs its ∧ IsAt k s.heap a its.toArray ∧ a < s.heap.objs.size := by
  cases k with
  | true => obtain ⟨its, r, p, _⟩ := I.tuple h; exact ⟨its, r, p, p.lt⟩
  | false => obtain ⟨its, r, p, _⟩ := I.list h; exact ⟨its, r, p.isList, p.lt⟩
theorem sq_inj (I : Inv X pins σ H s) (h : SqAt k X.K H a xs) (h' : SqAt k X.K H a ys) : xs = ys := by
  cases k with
  | true => exact I.tuple_inj h h'
  | false => exact I.list_inj h h'
theorem draws_at {P : Program} {w : World} {A : Around} (k : Bool) (hh : A.handled = none) (it a : Addr) (hne : a ≠ it) (its : Array Value) :
    Draws P w A it [it, a] its.size (fun i v => its[i]? = some v) (fun i h => ItAt k h it a i ∧ IsAt k h a its) := by
  cases k with
  | true => exact Draws.tuple hh it a hne its
  | false => exact Draws.list hh it a hne its
theorem begins_at (k : Bool) (a : Addr) (its : Array Value) : Begins (.ref a) (objIt k a) fun h => IsAt k h a its := by
  cases k with
  | true => exact begins_tuple a its
  | false => exact begins_list a its
theorem itAt_new {k : Bool} {h : Heap} {it a : Addr} (e : h.get? it = some (objIt k a)) : ItAt k h it a 0 := by
  cases k with
  | true => exact ⟨_, e, rfl, rfl⟩
  | false => exact ⟨_, e, rfl, rfl⟩
theorem ItAt.obj {k : Bool} {h : Heap} {it a : Addr} {i : Nat} (e : ItAt k h it a i) : ∃ o, h.get? it = some o ∧ ∀ v, o.data ≠ .cell v := by
  cases k with
  | true => obtain ⟨o, e, _, d⟩ := e; exact ⟨o, e, fun v z => by rw [d] at z; cases z⟩
  | false => obtain ⟨o, e, _, d⟩ := e; exact ⟨o, e, fun v z => by rw [d] at z; cases z⟩
theorem ItAt.keep {k : Bool} {h h' : Heap} {it a : Addr} {i : Nat} (e : ItAt k h it a i) (q : ∀ o, h.get? it = some o → h'.get? it = some o) : ItAt k h' it a i := by
  cases k with
  | true => exact Heap.IsTupleIter.at e q
  | false => exact Heap.IsListIter.at e q
end
/-! zip of two, each a list or a tuple -/
def JzAt (K : PySem.W.Frag) (k1 k2 : Bool) (a b : Addr) : It where
  go := fun i H => ∃ xs ys, SqAt k1 K H a xs ∧ SqAt k2 K H b ys ∧ i < min xs.length ys.length
  yld := fun i H v H' => ∃ T x y, v = .ref T ∧ H T = none ∧ H' = upd H T (.tup [x, y]) ∧ (∀ xs, SqAt k1 K H a xs → xs[i]? = some x) ∧ ∀ ys, SqAt k2 K H b ys → ys[i]? = some y
  stop := fun i H => ∃ xs ys, SqAt k1 K H a xs ∧ SqAt k2 K H b ys ∧ i = min xs.length ys.length
def zipSt (k1 k2 : Bool) (a b z TI TO i1 i2 : Addr) (i : Nat) (h : Heap) : Prop :=
  IsZip h z TI TO .none ∧ IsTupOf2 h TI (.ref i1) (.ref i2) ∧ (∃ x y, IsTupOf2 h TO x y) ∧ ItAt k1 h i1 a i ∧ ItAt k2 h i2 b i
theorem turn_zipAt {P : Program} {w : World} {K : PySem.W.Frag} {elts : List Expr} {kk : Nat} {tpos : Pos} (k1 k2 : Bool) {a b z TI TO i1 i2 : Addr} (S : ZipSep2 z TI TO i1 i2 [i1, a] [i2, b]) (n1 : a ≠ i1) (n2 : b ≠ i2) :
    Turn P w K (.Tuple elts kk tpos) (JzAt K k1 k2 a b) [z, TI, TO, i1, i2] z (zipSt k1 k2 a b z TI TO i1 i2) where
  mem := by simp
  obj := fun i h st c hc => by
    obtain ⟨h1, h2, ⟨x, y, h3⟩, h4, h5⟩ := st
    simp only [List.mem_cons, List.not_mem_nil, or_false] at hc
    rcases hc with q | q | q | q | q <;> subst q
    · exact ⟨_, h1, fun v q => nomatch q⟩
    · exact ⟨_, h2, fun v q => nomatch q⟩
    · exact ⟨_, h3, fun v q => nomatch q⟩
    · exact h4.obj
    · exact h5.obj
  keep := fun i h h' st k => by
    obtain ⟨h1, h2, ⟨x, y, h3⟩, h4, h5⟩ := st
    exact ⟨k z (by simp) _ h1, k TI (by simp) _ h2, ⟨x, y, k TO (by simp) _ h3⟩, h4.keep fun o q => k i1 (by simp) o q, h5.keep fun o q => k i2 (by simp) o q⟩
  item := by
    intro X hP hw hK hc i pins s σ H E I hf st hg
    subst hP hw hK
    obtain ⟨h1, h2, h3, h4, h5⟩ := st
    obtain ⟨xs, ys, hx, hy, hi⟩ := hg
    obtain ⟨us, ru, pu, _⟩ := sq_is I hx
    obtain ⟨ws, rw', pw, _⟩ := sq_is I hy
    have G := GoesN.zip2 (elts := elts) (x1 := kk) (pos := tpos) S (draws_at (P := X.prog) (w := X.w) (A := X.A.in1) k1 (I.ok.hd hc) i1 a n1 us.toArray) (draws_at (P := X.prog) (w := X.w) (A := X.A.in1) k2 (I.ok.hd hc) i2 b n2 ws.toArray)
    refine G.goes i s _ E (by simp only [List.size_toArray, ← ru.length, ← rw'.length]; exact hi) ⟨h1, h2, h3, ⟨h4, pu⟩, ⟨h5, pw⟩⟩ fun v h' tk hv st' kp _ => ?_
    obtain ⟨T, u, u2, rfl, hT, e1, e2, tT⟩ := hv
    obtain ⟨g1, g2, g3, ⟨g4, _⟩, ⟨g5, _⟩⟩ := st'
    have b1 : i < xs.length := Nat.lt_of_lt_of_le hi (Nat.min_le_left _ _)
    have b2 : i < ys.length := Nat.lt_of_lt_of_le hi (Nat.min_le_right _ _)
    obtain ⟨u', eu, ru'⟩ := ru.get (List.getElem?_eq_getElem b1)
    obtain ⟨w', ew, rw''⟩ := rw'.get (List.getElem?_eq_getElem b2)
    have q1 : us[i]? = some u := by simpa using e1
    have q2 : ws[i]? = some u2 := by simpa using e2
    rw [eu] at q1; rw [ew] at q2
    cases q1; cases q2
    have new : ObjOk X.prog X.w (upd H T (.tup [xs[i], ys[i]])) h' T (.tup [xs[i], ys[i]]) := ⟨by show 2 ≤ sizeLine; decide, [u, u2], .cons ru' (.cons rw'' .nil), tT⟩
    have sub : ∀ c, c ∈ [z, TO, i1, i2] → c ∈ [z, TI, TO, i1, i2] := fun c hc => by simp only [List.mem_cons, List.not_mem_nil, or_false] at hc ⊢; rcases hc with q | q | q | q <;> simp [q]
    have I1 := I.turnedNew (t' := tk) (ch := [z, TO, i1, i2]) kp (fun c hc => hf c (sub c hc)) hT new
    refine ⟨.ref T, _, I1, rfl, ⟨T, xs[i], ys[i], rfl, I.hok.fresh hT, rfl, fun l hl => ?_, fun l hl => ?_⟩, ⟨g1, g2, g3, g4, g5⟩, fun c hc => ?_⟩
    · rw [sq_inj I hl hx]; exact List.getElem?_eq_getElem b1
    · rw [sq_inj I hl hy]; exact List.getElem?_eq_getElem b2
    · have hlt : c < s.heap.objs.size := by
        obtain ⟨x, y, h3⟩ := h3
        simp only [List.mem_cons, List.not_mem_nil, or_false] at hc
        rcases hc with q | q | q | q | q <;> subst q
        · exact Heap.lt_size h1
        · exact Heap.lt_size h2
        · exact Heap.lt_size h3
        · obtain ⟨_, e, _⟩ := h4.obj; exact Heap.lt_size e
        · obtain ⟨_, e, _⟩ := h5.obj; exact Heap.lt_size e
      rw [upd_ne (Nat.ne_of_lt (Nat.lt_of_lt_of_le hlt hT))]
      exact (hf c hc).1
  done := by
    intro X hP hw hK hc i pins s σ H E I hf st hg
    subst hP hw hK
    obtain ⟨h1, h2, h3, h4, h5⟩ := st
    obtain ⟨xs, ys, hx, hy, hi⟩ := hg
    obtain ⟨us, ru, pu, _⟩ := sq_is I hx
    obtain ⟨ws, rw', pw, _⟩ := sq_is I hy
    have G := GoesN.zip2 (elts := elts) (x1 := kk) (pos := tpos) S (draws_at (P := X.prog) (w := X.w) (A := X.A.in1) k1 (I.ok.hd hc) i1 a n1 us.toArray) (draws_at (P := X.prog) (w := X.w) (A := X.A.in1) k2 (I.ok.hd hc) i2 b n2 ws.toArray)
    have en : i = min us.toArray.size ws.toArray.size := by simp only [List.size_toArray, ← ru.length, ← rw'.length]; exact hi
    subst en
    have sub : ∀ c, c ∈ [z, TO, i1, i2] → c ∈ [z, TI, TO, i1, i2] := fun c hc => by simp only [List.mem_cons, List.not_mem_nil, or_false] at hc ⊢; rcases hc with q | q | q | q <;> simp [q]
    exact G.stops s _ E ⟨h1, h2, h3, ⟨h4, pu⟩, ⟨h5, pw⟩⟩ fun h' tk kp _ => I.turnedL (t' := tk) (ch := [z, TO, i1, i2]) kp fun c hc => hf c (sub c hc)
  self := fun A i s Q E st h => wpAny_pyIter_zip st.1 h
def iZipM (K : PySem.W.Frag) (ta : TA) : TI := fun σ H R => ta σ H fun vs H1 => ∃ k1 k2 a b xs ys, vs = [.ref a, .ref b] ∧ SqAt k1 K H1 a xs ∧ SqAt k2 K H1 b ys ∧ R (JzAt K k1 k2 a b) H1
theorem fp_new {X : Cx} {pins : List (Addr × Obj)} {σ : L2.St} {H : Hp} {s : Shared} (I : Inv X pins σ H s) {c : Addr} (h : s.heap.objs.size ≤ c) : FpOk X pins H c := I.fpOk h (I.hok.fresh h)
theorem pi_zipM {X : Cx} {e e2 : Expr} {ta : TA} {p pos tpos : Pos} {elts : List Expr} {kk : Nat} (hg : Gl X "zip") (hm : X.mg "zip" = none) (ha : PA X [e, e2] ta)
    (hs : starEach [e, e2] X.env = (false, eval e X.env) :: starEach [e2] X.env := by rfl) (hpl : (backTo pos (starEach [e2] X.env)).any (·.1) = false := by rfl) :
    PI X (.Tuple elts kk tpos) (.Call (.Name "zip" p) [e, e2] [] pos) (iZipM X.K ta) := by
  refine ⟨fun pins s σ H R I h => Call_ (ld_blt I hg hm PyProof.Rows.boot_zip (PyProof.Rows.callWith_type1 (thn (ha.run pos pins s σ H _ I h) fun us s1 ⟨vs, H1, I1, r1, q1⟩ => ?_) hs hpl))⟩
  obtain ⟨k1, k2, a, b, xs, ys, rfl, hx, hy, q⟩ := q1
  obtain ⟨u1, u2, rfl, r1, r2⟩ := Vals.two r1
  cases r1; cases r2
  obtain ⟨us, ru, pu, la⟩ := sq_is I1 hx
  obtain ⟨ws, rw', pw, lb⟩ := sq_is I1 hy
  refine zip_begins2 (begins_at k1 a us.toArray) (begins_at k2 b ws.toArray) pu pw fun h' g1 g2 g3 g4 g5 gs kp => wpAny_pyIter_zip g1 ?_
  have I2 : Inv X pins σ H1 { s1 with heap := h' } := I1.kept (t' := s1.toks) kp
  refine ⟨s1.heap.objs.size + 4, [s1.heap.objs.size + 4, s1.heap.objs.size + 2, s1.heap.objs.size + 3, s1.heap.objs.size, s1.heap.objs.size + 1], _, _, H1, rfl, I2,
    turn_zipAt k1 k2 (zip_sep2 (N := s1.heap.objs.size) (fp1 := [a]) (fp2 := [b]) (by simpa using la) (by simpa using lb)) (Nat.ne_of_lt la) (Nat.ne_of_lt (Nat.lt_succ_of_lt lb)), ⟨g1, g2, ⟨_, _, g3⟩, itAt_new g4, itAt_new g5⟩, fun c hc => ?_, q⟩
  simp only [List.mem_cons, List.not_mem_nil, or_false] at hc
  refine fp_new I1 ?_
  rcases hc with q | q | q | q | q <;> subst q <;> first | exact Nat.le_add_right _ _ | exact Nat.le_refl _
/-! enumerate of a list or a tuple -/
def JeAt (K : PySem.W.Frag) (k : Bool) (a : Addr) : It where
  go := fun i H => ∃ xs, SqAt k K H a xs ∧ i < xs.length
  yld := fun i H v H' => ∃ T x, v = .ref T ∧ H T = none ∧ H' = upd H T (.tup [.int (i : Nat), x]) ∧ ∀ xs, SqAt k K H a xs → xs[i]? = some x
  stop := fun i H => ∃ xs, SqAt k K H a xs ∧ i = xs.length
def enumSt (k : Bool) (a e it : Addr) (i : Nat) (h : Heap) : Prop := (∃ old, IsEnum h e it (0 + (i : Int)) old) ∧ ItAt k h it a i
theorem turn_enumAt {P : Program} {w : World} {K : PySem.W.Frag} {elts : List Expr} {kk : Nat} {tpos : Pos} (k : Bool) {a e it : Addr} (n1 : a ≠ it) (n2 : e ≠ it) (n3 : e ≠ a) :
    Turn P w K (.Tuple elts kk tpos) (JeAt K k a) [e, it] e (enumSt k a e it) where
  mem := by simp
  obj := fun i h st c hc => by
    obtain ⟨⟨old, h1⟩, h2⟩ := st
    simp only [List.mem_cons, List.not_mem_nil, or_false] at hc
    rcases hc with q | q <;> subst q
    · exact ⟨_, h1, fun v q => nomatch q⟩
    · exact h2.obj
  keep := fun i h h' st k => by
    obtain ⟨⟨old, h1⟩, h2⟩ := st
    exact ⟨⟨old, k e (by simp) _ h1⟩, h2.keep fun o q => k it (by simp) o q⟩
  item := by
    intro X hP hw hK hc i pins s σ H E I hf st hg
    subst hP hw hK
    obtain ⟨⟨old, h1⟩, h2⟩ := st
    obtain ⟨xs, hx, hi⟩ := hg
    obtain ⟨us, ru, pu, _⟩ := sq_is I hx
    have G := GoesN.enumFrom (elts := elts) (x1 := kk) (pos := tpos) 0 (draws_at (P := X.prog) (w := X.w) (A := X.A.in1) k (I.ok.hd hc) it a n1 us.toArray) e n2 (by simp [n2, n3]) (by simp)
    refine G.goes i s _ E (by simp only [List.size_toArray, ← ru.length]; exact hi) ⟨⟨old, h1⟩, h2, pu⟩ fun v h' tk hv st' kp _ => ?_
    obtain ⟨T, t, u, rfl, hT, e1, tT⟩ := hv
    obtain ⟨⟨old', g1⟩, g2, _⟩ := st'
    obtain ⟨u', eu, ru'⟩ := ru.get (List.getElem?_eq_getElem hi)
    have q1 : us[i]? = some u := by simpa using e1
    rw [eu] at q1
    cases q1
    rw [Int.zero_add] at tT
    have new : ObjOk X.prog X.w (upd H T (.tup [.int (i : Nat), xs[i]])) h' T (.tup [.int (i : Nat), xs[i]]) := ⟨by show 2 ≤ sizeLine; decide, [.int (i : Nat) t, u], .cons ⟨_, rfl⟩ (.cons ru' .nil), tT⟩
    have I1 := I.turnedNew (t' := tk) (ch := [e, it]) kp hf hT new
    refine ⟨.ref T, _, I1, rfl, ⟨T, xs[i], rfl, I.hok.fresh hT, rfl, fun l hl => ?_⟩, ⟨⟨old', g1⟩, g2⟩, fun c hc => ?_⟩
    · rw [sq_inj I hl hx]; exact List.getElem?_eq_getElem hi
    · have hlt : c < s.heap.objs.size := by
        simp only [List.mem_cons, List.not_mem_nil, or_false] at hc
        rcases hc with q | q <;> subst q
        · exact Heap.lt_size h1
        · obtain ⟨_, e, _⟩ := h2.obj; exact Heap.lt_size e
      rw [upd_ne (Nat.ne_of_lt (Nat.lt_of_lt_of_le hlt hT))]
      exact (hf c hc).1
  done := by
    intro X hP hw hK hc i pins s σ H E I hf st hg
    subst hP hw hK
    obtain ⟨⟨old, h1⟩, h2⟩ := st
    obtain ⟨xs, hx, hi⟩ := hg
    obtain ⟨us, ru, pu, _⟩ := sq_is I hx
    have G := GoesN.enumFrom (elts := elts) (x1 := kk) (pos := tpos) 0 (draws_at (P := X.prog) (w := X.w) (A := X.A.in1) k (I.ok.hd hc) it a n1 us.toArray) e n2 (by simp [n2, n3]) (by simp)
    have en : i = us.toArray.size := by simp only [List.size_toArray, ← ru.length]; exact hi
    subst en
    exact G.stops s _ E ⟨⟨old, h1⟩, h2, pu⟩ fun h' tk kp _ => I.turnedL (t' := tk) (ch := [e, it]) kp hf
  self := fun A i s Q E st h => let ⟨⟨_, h1⟩, _⟩ := st; wpAny_pyIter_enum h1 h
set_option maxHeartbeats 2000000 in
/-- enumerate(v) makes its two cells -/
theorem enum_made {v : Value} {o : Obj} {Hh : Heap → Prop} (B : Begins v o Hh) :
    Meets (Builtin.«enumerate.__new__» ⟨[.type "enumerate", v], []⟩) (fun _ R s => Hh s.heap ∧
      R (.ok (.ret (.ref (s.heap.push o).objs.size))) { s with heap := (s.heap.push o).push { cls := .type "enumerate", data := .fields #[.none, .bool false, .ref s.heap.objs.size, rawInt 0, .none, .none] } }) :=
  .of_wp fun P w A R s hh => by
    obtain ⟨hp, g, dr, tk, os⟩ := s
    obtain ⟨h1, hR⟩ := hh
    have sb := sub_enumerate
    have go : ∀ {B' : Around} {E : Value → Shared → Prop} {Q : Value → Shared → Prop}, Q (.ref hp.objs.size) ⟨hp.push o, g, dr, tk, os⟩ → wpAny (model P w) B' (pyIter v) Q E ⟨hp, g, dr, tk, os⟩ :=
      fun q => B.iter P w _ _ ⟨hp, g, dr, tk, os⟩ _ h1 q
    wp_walk using go
    refine wpAny_stack_any fun st => wpAny_pure ?_
    split
    · rename_i cc _ _ _ _ _
      cases (cc == Value.type "enumerate") <;> (wp_walk using go; exact ⟨_, rfl, hR⟩)
    · wp_walk using go
      exact ⟨_, rfl, hR⟩
theorem call_enum {P : Program} {w : World} {A : Around} {E : Value → Shared → Prop} {s : Shared} {v : Value} {o : Obj} {Hh : Heap → Prop} {Q : Value → Shared → Prop} (B : Begins v o Hh) (h1 : Hh s.heap)
    (h : ∀ h', IsEnum h' (s.heap.objs.size + 1) s.heap.objs.size 0 .none → h'.get? s.heap.objs.size = some o → (∀ b u, s.heap.get? b = some u → h'.get? b = some u) → Q (.ref (s.heap.objs.size + 1)) { s with heap := h' }) :
    wpAny (model P w) A (call (.type "enumerate") [v]) Q E s := by
  refine callType_new F.called_enumerate (by decide) (F.typeCall_enumerate_1 _) (F.newCall_enumerate_1 _) (fun x => F.args_object_init_2 x _) F.entry_enumerate_new (enum_made B) ⟨h1, ?_⟩
  have z : (s.heap.push o).objs.size = s.heap.objs.size + 1 := Heap.size_push ..
  show _ ∧ _
  rw [z]
  have en : IsEnum ((s.heap.push o).push { cls := .type "enumerate", data := .fields #[.none, .bool false, .ref s.heap.objs.size, rawInt 0, .none, .none] }) (s.heap.objs.size + 1) s.heap.objs.size 0 .none := by
    have q := Heap.get?_push_size (s.heap.push o) (o := { cls := .type "enumerate", data := .fields #[.none, .bool false, .ref s.heap.objs.size, rawInt 0, .none, .none] }) rfl
    rw [z] at q
    exact q
  exact ⟨⟨_, en, rfl⟩, h _ en (Heap.get?_push_of_some _ (Heap.get?_push_size _ B.free)) fun b u q => Heap.get?_push_of_some _ (Heap.get?_push_of_some _ q)⟩
def iEnumM (K : PySem.W.Frag) (ta : TA) : TI := fun σ H R => ta σ H fun vs H1 => ∃ k a xs, vs = [.ref a] ∧ SqAt k K H1 a xs ∧ R (JeAt K k a) H1
theorem pi_enumM {X : Cx} {e : Expr} {ta : TA} {p pos tpos : Pos} {elts : List Expr} {kk : Nat} (hg : Gl X "enumerate") (hm : X.mg "enumerate" = none) (ha : PA X [e] ta) (hs : starEach [e] X.env = [(false, eval e X.env)] := by rfl) :
    PI X (.Tuple elts kk tpos) (.Call (.Name "enumerate" p) [e] [] pos) (iEnumM X.K ta) := by
  refine ⟨fun pins s σ H R I h => Call_ (ld_blt I hg hm boot_enumerate (PyProof.Rows.callWith_type1 (thn (ha.run pos pins s σ H _ I h) fun us s1 ⟨vs, H1, I1, r1, q1⟩ => ?_) hs rfl))⟩
  obtain ⟨k, a, xs, rfl, hx, q⟩ := q1
  obtain ⟨u1, rfl, r2⟩ := Vals.one r1
  obtain rfl : u1 = Value.ref a := r2
  obtain ⟨us, ru, pu, la⟩ := sq_is I1 hx
  refine call_enum (begins_at k a us.toArray) pu fun h' g1 g2 kp => wpAny_pyIter_enum g1 ?_
  have I2 : Inv X pins σ H1 { s1 with heap := h' } := I1.kept (t' := s1.toks) kp
  refine ⟨s1.heap.objs.size + 1, [s1.heap.objs.size + 1, s1.heap.objs.size], _, _, H1, rfl, I2, turn_enumAt k (Nat.ne_of_lt la) (Nat.succ_ne_self _) (Nat.ne_of_gt (Nat.lt_succ_of_lt la)), ⟨⟨_, g1⟩, itAt_new g2⟩, fun c hc => ?_, q⟩
  simp only [List.mem_cons, List.not_mem_nil, or_false] at hc
  refine fp_new I1 ?_
  rcases hc with q | q <;> subst q <;> first | exact Nat.le_add_right _ _ | exact Nat.le_refl _
/-! ### what a loop walks -/
def srcOf (M : Mem) : D → Option (Bool × Src)
  | .tup ds => some (true, ⟨ds, []⟩)
  | .lst ds => some (false, ⟨ds, []⟩)
  | .scr ds => some (false, ⟨ds, []⟩)
  | .ref n => match M[n]? with
    | some (.lst ds) => some (false, ⟨ds, [(n, ds)]⟩)
    | _ => none
  | _ => none
/-- at every later time the source stands -/
def SrcOk (C : Ct) (k : Bool) (a : Addr) (src : Src) (α : List Addr) (H : Hp) : Prop :=
  ∀ α' M' H', Ext α H α' H' → SMem C α' M' H' → watched src.watch M' = true → ∃ vs, SqAt k C.K H' a vs ∧ Rls C α' H' src.items vs
theorem SrcOk.ext {C : Ct} {k : Bool} {a : Addr} {src : Src} {α α' : List Addr} {H H' : Hp} (h : SrcOk C k a src α H) (e : Ext α H α' H') : SrcOk C k a src α' H' := fun x y z e' m w => h x y z (e.trans e') m w
theorem srcOf_ok {C : Ct} {α : List Addr} {M : Mem} {H : Hp} {d : D} {v : V} {k : Bool} {src : Src} (m : SMem C α M H) (r : Rl C α H d v) (h : srcOf M d = some (k, src)) :
    ∃ a, v = .ref a ∧ SrcOk C k a src α H ∧ ∃ vs, SqAt k C.K H a vs ∧ Rls C α H src.items vs := by
  have done : ∀ {a : Addr}, v = .ref a → SrcOk C k a src α H → watched src.watch M = true → ∃ a, v = .ref a ∧ SrcOk C k a src α H ∧ ∃ vs, SqAt k C.K H a vs ∧ Rls C α H src.items vs :=
    fun {a} e s w => ⟨a, e, s, s α M H (Ext.refl _ _) m w⟩
  cases d with
  | tup ds =>
    cases h
    obtain ⟨a, vs, rfl, hs, rs⟩ := r
    refine done rfl (fun α' M' H' e m' _ => ⟨vs, ?_, rs.ext e⟩) rfl
    rcases hs with ⟨n, hs⟩ | hs
    · exact Or.inl (e.rd n hs).2
    · exact Or.inr hs
  | lst ds =>
    cases h
    obtain ⟨a, vs, rfl, n, hs, rs⟩ := r
    exact done rfl (fun α' M' H' e m' _ => ⟨vs, .inl (.inl (e.keep _ _ hs n)), rs.ext e⟩) rfl
  | scr ds =>
    cases h
    obtain ⟨a, vs, rfl, hs, rs⟩ := r
    refine done rfl (fun α' M' H' e m' _ => ⟨vs, ?_, rs.ext e⟩) rfl
    rcases hs with ⟨n, hs⟩ | hs
    · exact Or.inl (e.rd n hs).2
    · exact Or.inr hs
  | ref n =>
    have h : (match M[n]? with
      | some (.lst ds) => some (false, (⟨ds, [(n, ds)]⟩ : Src))
      | _ => none) = some (k, src) := h
    cases q : M[n]? with
    | none => rw [q] at h; cases h
    | some c =>
      rw [q] at h
      cases c with
      | lst ds =>
        cases h
        obtain ⟨a, ha, rfl⟩ := r
        refine done rfl (fun α' M' H' e m' w => ?_) (by simp [watched, q])
        have w' : M'[n]? = some (.lst ds) := by simpa [watched] using w
        obtain ⟨vs, hv, rs⟩ := m'.cell n _ a w' (e.get ha)
        exact ⟨vs, .inl (.inl hv), rs⟩
      | _ => cases h
  | _ => cases h
theorem watched_app {a b : List (Nat × List D)} {M : Mem} (h : watched (a ++ b) M = true) : watched a M = true ∧ watched b M = true := by
  unfold watched at h ⊢
  rw [List.all_append, Bool.and_eq_true] at h
  exact h
def ivSeq (e : EV) : IV := fun σ M => (e σ M).bind fun d M1 => match srcOf M1 d with
  | some (_, s) => .ok s M1
  | none => .no
def rangeD (lo : Int) (n : Nat) : List D := (List.range n).map fun i => .int (lo + ((i : Nat) : Int))
def inR (i : Int) : Bool := decide (-(2 ^ 62) ≤ i) && decide (i < 2 ^ 62)
/-- one int, or nothing -/
def oneInt : List D → Option Int
  | [.int j] => some j
  | _ => none
def twoInt : List D → Option (Int × Int)
  | [.int i, .int j] => some (i, j)
  | _ => none
def oneD : List D → Option D
  | [d] => some d
  | _ => none
def twoD : List D → Option (D × D)
  | [d, e] => some (d, e)
  | _ => none
def ivR1 (t : AV) : IV := fun σ M => (t σ M).bind fun ds M1 => match oneInt ds with
  | some j => if inR j = true then .ok ⟨rangeD 0 j.toNat, []⟩ M1 else .no
  | none => .no
def ivR2 (t : AV) : IV := fun σ M => (t σ M).bind fun ds M1 => match twoInt ds with
  | some (i, j) => if inR i = true ∧ inR j = true then .ok ⟨rangeD i (j - i).toNat, []⟩ M1 else .no
  | none => .no
def enumD : Nat → List D → List D
  | _, [] => []
  | k, d :: r => .tup [.int (k : Nat), d] :: enumD (k + 1) r
def ivEnum (t : AV) : IV := fun σ M => (t σ M).bind fun ds M1 => match (oneD ds).bind (srcOf M1) with
  | some (_, s) => .ok ⟨enumD 0 s.items, s.watch⟩ M1
  | none => .no
def ivZip (t : AV) : IV := fun σ M => (t σ M).bind fun ds M1 => match (twoD ds).bind fun p => (srcOf M1 p.1).bind fun s => (srcOf M1 p.2).map fun u => (s, u) with
  | some (s, u) => .ok ⟨List.zipWith (fun x y => .tup [x, y]) s.2.items u.2.items, s.2.watch ++ u.2.watch⟩ M1
  | none => .no
def ivRev (e : EV) : IV := fun σ M => (e σ M).bind fun d M1 => match srcOf M1 d with
  | some (_, s) => .ok ⟨s.items.reverse, s.watch⟩ M1
  | none => .no
theorem enumD_get : ∀ (ds : List D) (k i : Nat) (x : D), (enumD k ds)[i]? = some x → ∃ d, ds[i]? = some d ∧ x = .tup [.int ((k + i : Nat) : Int), d]
  | [], k, i, x, h => by simp [enumD] at h
  | d :: r, k, 0, x, h => by simp [enumD] at h; exact ⟨d, rfl, by rw [← h]; simp⟩
  | d :: r, k, i + 1, x, h => by
    obtain ⟨e, h1, h2⟩ := enumD_get r (k + 1) i x (by simpa [enumD] using h)
    exact ⟨e, by simpa using h1, by rw [h2]; congr 2; congr 1; omega⟩
theorem enumD_length : ∀ (ds : List D) (k : Nat), (enumD k ds).length = ds.length
  | [], _ => rfl
  | _ :: r, k => by simp [enumD, enumD_length r (k + 1)]
section
variable {X : Cx} {C : Ct} {W : WX} {e e2 : Expr} {eva evb : EV} {tg : Expr} {p pos tpos : Pos} {av : AV}
/-- an item that is yielded with the heap as it is -/
theorem jok_same {J : It} {src : Src} {α : List Addr} {H : Hp} (h : ∀ α' M' H', Ext α H α' H' → SMem C α' M' H' → watched src.watch M' = true → ∀ i : Nat,
    (∀ d, src.items[i]? = some d → J.go i H' ∧ ∀ x H2, J.yld i H' x H2 → H2 = H' ∧ Rl C α' H' d x) ∧ (src.items.length = i → J.stop i H')) : JOk C J src α H :=
  fun α' M' H' e m w i => ⟨fun d z => let ⟨a, b⟩ := (h α' M' H' e m w i).1 d z; ⟨a, fun x H2 y => by obtain ⟨rfl, r⟩ := b x H2 y; exact ⟨Ext.refl _ _, m, r⟩⟩, (h α' M' H' e m w i).2⟩
def Jk : Bool → PySem.W.Frag → Addr → It
  | true, K, a => Itt K a
  | false, K, a => Itl K a
theorem jok_seq {k : Bool} {a : Addr} {src : Src} {α : List Addr} {H : Hp} (s : SrcOk C k a src α H) : JOk C (Jk k C.K a) src α H := by
  refine jok_same fun α' M' H' e m w i => ?_
  obtain ⟨vs, hs, rs⟩ := s α' M' H' e m w
  cases k with
  | true =>
    refine ⟨fun d z => ?_, fun z => ⟨vs, hs, by rw [rs.length]; exact Nat.le_of_eq z⟩⟩
    obtain ⟨v, h1, h2⟩ := rs.get z
    refine ⟨⟨vs, v, hs, h1⟩, fun x H2 y => ⟨y.1, ?_⟩⟩
    have := y.2 vs hs
    rw [h1] at this; cases this; exact h2
  | false =>
    refine ⟨fun d z => ?_, fun z => ⟨vs, hs, by rw [rs.length]; exact Nat.le_of_eq z⟩⟩
    obtain ⟨v, h1, h2⟩ := rs.get z
    refine ⟨⟨vs, v, hs, h1⟩, fun x H2 y => ⟨y.1, ?_⟩⟩
    have := y.2 vs hs
    rw [h1] at this; cases this; exact h2
theorem i_seq (he : PE X e (LE C W eva)) (hK : C.K = X.K := by rfl) : PI X tg e (LI C W (ivSeq eva)) := by
  refine ⟨fun pins s σ H R I ⟨α, σ3, M, m, st, h⟩ => ?_⟩
  have h1 := Fin.bind (Rel := RD C) h
  have hb : ∀ k : Bool, (∀ d M1, eva σ3 M = .ok d M1 → ∀ q src, srcOf M1 d = some (q, src) → q = k) → wpAny (model X.prog X.w) X.A (eval e X.env) (fun v s1 => wpAny (model X.prog X.w) X.A (pyIter v) (PIE X pins σ tg R) X.xe s1) X.xe s := fun k hk => by
    have core : ∀ v H1, (∃ α1 M1 d, eva σ3 M = .ok d M1 ∧ Ext α H α1 H1 ∧ SMem C α1 M1 H1 ∧ Rl C α1 H1 d v ∧ Fin C W σ (fun α H src J => JOk C J src α H) α1 H1 (match srcOf M1 d with
        | some (_, s) => .ok s M1
        | none => .no) R) → ∃ a, v = .ref a ∧ (∃ xs, SqAt k X.K H1 a xs) ∧ R (Jk k X.K a) H1 := by
      rintro v H1 ⟨α1, M1, d, ev, e1, m1, r1, h2⟩
      cases q : srcOf M1 d with
      | none => rw [q] at h2; exact h2.elim
      | some ks =>
        obtain ⟨k', src⟩ := ks
        rw [q] at h2
        obtain rfl := hk d M1 ev k' src q
        obtain ⟨a, rfl, so, vs, hs, rs⟩ := srcOf_ok m1 r1 q
        rw [← hK]
        exact ⟨a, rfl, ⟨vs, hs⟩, h2 α1 H1 _ (Ext.refl _ _) m1 (jok_seq so)⟩
    have rd : LE C W eva σ H fun v H1 => ∃ a, v = .ref a ∧ (∃ xs, SqAt k X.K H1 a xs) ∧ R (Jk k X.K a) H1 := by
      refine ⟨α, σ3, M, m, st, ?_⟩
      cases z : eva σ3 M with
      | ok d M1 =>
        have h : Fin C W σ (fun α H src J => JOk C J src α H) α H ((eva σ3 M).bind _) R := h
        rw [z] at h
        exact fun α1 H1 v e1 m1 r1 => core v H1 ⟨α1, M1, d, z, e1, m1, r1, Fin.ext h e1⟩
      | exc c ds M1 =>
        have h : Fin C W σ (fun α H src J => JOk C J src α H) α H ((eva σ3 M).bind _) R := h
        rw [z] at h
        exact h
      | no =>
        have h : Fin C W σ (fun α H src J => JOk C J src α H) α H ((eva σ3 M).bind _) R := h
        rw [z] at h
        exact h
    cases k with
    | true => exact (pi_tup he).run pins s σ H R I rd
    | false => exact (pi_list he).run pins s σ H R I rd
  cases z : eva σ3 M with
  | ok d M1 =>
    cases q : srcOf M1 d with
    | none =>
      refine hb true fun d' M' e' q' src h' => ?_
      rw [z] at e'; cases e'
      rw [q] at h'; cases h'
    | some ks =>
      refine hb ks.1 fun d' M' e' q' src h' => ?_
      rw [z] at e'; cases e'
      rw [q] at h'; cases h'; rfl
  | exc c ds M1 => exact hb true fun d' M' e' => by rw [z] at e'; cases e'
  | no => exact hb true fun d' M' e' => by rw [z] at e'; cases e'
theorem range_get {lo : Int} {n i : Nat} {d : D} (h : (rangeD lo n)[i]? = some d) : i < n ∧ d = .int (lo + (i : Nat)) := by
  unfold rangeD at h
  rw [List.getElem?_map] at h
  by_cases hi : i < n
  · rw [List.getElem?_range hi] at h; cases h; exact ⟨hi, rfl⟩
  · rw [List.getElem?_eq_none (by simpa using hi)] at h; cases h
theorem jok_range {lo : Int} {n : Nat} {α : List Addr} {H : Hp} : JOk C (Itr lo n) ⟨rangeD lo n, []⟩ α H := by
  refine jok_same fun α' M' H' e m w i => ⟨fun d z => ?_, fun z => ?_⟩
  · obtain ⟨h1, rfl⟩ := range_get z
    exact ⟨h1, fun x H2 y => ⟨y.1, y.2⟩⟩
  · have z : (rangeD lo n).length = i := z
    unfold rangeD at z
    rw [List.length_map, List.length_range] at z
    exact Nat.le_of_eq z
theorem inR_ok {i : Int} (h : inR i = true) : -(2 ^ 62) ≤ i ∧ i < 2 ^ 62 := by
  obtain ⟨a, b⟩ := Bool.and_eq_true_iff.mp h
  exact ⟨of_decide_eq_true a, of_decide_eq_true b⟩
theorem Rls.int1 {α : List Addr} {H : Hp} {i : Int} {vs : List V} (h : Rls C α H [.int i] vs) : vs = [.int i] := by
  obtain ⟨v, r, rfl, a, b⟩ := h; cases a; cases b; rfl
theorem Rls.int2 {α : List Addr} {H : Hp} {i j : Int} {vs : List V} (h : Rls C α H [.int i, .int j] vs) : vs = [.int i, .int j] := by
  obtain ⟨v, r, rfl, a, v2, r2, rfl, b, c⟩ := h; cases a; cases b; cases c; rfl
theorem oneInt_ok {α : List Addr} {H : Hp} {ds : List D} {vs : List V} {j : Int} (h : oneInt ds = some j) (r : Rls C α H ds vs) : vs = [.int j] := by
  unfold oneInt at h
  split at h
  · cases h; exact r.int1
  · cases h
theorem twoInt_ok {α : List Addr} {H : Hp} {ds : List D} {vs : List V} {i j : Int} (h : twoInt ds = some (i, j)) (r : Rls C α H ds vs) : vs = [.int i, .int j] := by
  unfold twoInt at h
  split at h
  · cases h; exact r.int2
  · cases h
theorem i_range1 {a : Expr} (hg : Gl X "range") (hm : X.mg "range" = none) (ha : PA X [a] (LA C W av)) (hs : starEach [a] X.env = [(false, eval a X.env)] := by rfl) : PI X tg (.Call (.Name "range" p) [a] [] pos) (LI C W (ivR1 av)) := by
  refine PIimp (pi_range1 hg hm ha hs) fun σ H R ⟨α, σ3, M, m, st, h⟩ => ⟨α, σ3, M, m, st, (Fin.bind h).mono fun vs H1 ⟨α1, M1, ds, e1, m1, r1, h1⟩ => ?_⟩
  cases q : oneInt ds with
  | none => rw [q] at h1; exact h1.elim
  | some j =>
    rw [q] at h1
    have h1 : Fin C W σ (fun α H src J => JOk C J src α H) α1 H1 (if inR j = true then .ok ⟨rangeD 0 j.toNat, []⟩ M1 else .no) R := h1
    by_cases z : inR j = true
    · rw [if_pos z] at h1
      exact ⟨j, oneInt_ok q r1, (inR_ok z).1, (inR_ok z).2, h1 α1 H1 _ (Ext.refl _ _) m1 jok_range⟩
    · rw [if_neg z] at h1; exact h1.elim
theorem i_range2 {a b : Expr} (hg : Gl X "range") (hm : X.mg "range" = none) (ha : PA X [a, b] (LA C W av)) (hs : starEach [a, b] X.env = [(false, eval a X.env), (false, eval b X.env)] := by rfl) (hs2 : starEach [b] X.env = [(false, eval b X.env)] := by rfl) : PI X tg (.Call (.Name "range" p) [a, b] [] pos) (LI C W (ivR2 av)) := by
  refine PIimp (pi_range2 hg hm ha hs hs2) fun σ H R ⟨α, σ3, M, m, st, h⟩ => ⟨α, σ3, M, m, st, (Fin.bind h).mono fun vs H1 ⟨α1, M1, ds, e1, m1, r1, h1⟩ => ?_⟩
  cases q : twoInt ds with
  | none => rw [q] at h1; exact h1.elim
  | some ij =>
    obtain ⟨i, j⟩ := ij
    rw [q] at h1
    have h1 : Fin C W σ (fun α H src J => JOk C J src α H) α1 H1 (if inR i = true ∧ inR j = true then .ok ⟨rangeD i (j - i).toNat, []⟩ M1 else .no) R := h1
    by_cases z : inR i = true ∧ inR j = true
    · rw [if_pos z] at h1
      exact ⟨i, j, twoInt_ok q r1, ⟨(inR_ok z.1).1, (inR_ok z.1).2, (inR_ok z.2).1, (inR_ok z.2).2⟩, h1 α1 H1 _ (Ext.refl _ _) m1 jok_range⟩
    · rw [if_neg z] at h1; exact h1.elim
theorem tup2_rl {α : List Addr} {H : Hp} {M : Mem} {d e : D} {v u : V} {T : Addr} (m : SMem C α M H) (hT : H T = none) (rd : Rl C α H d v) (re : Rl C α H e u) : Ext α H α (upd H T (.tup [v, u])) ∧ SMem C α M (upd H T (.tup [v, u])) ∧ Rl C α (upd H T (.tup [v, u])) (.tup [d, e]) (.ref T) := by
  have ex := Ext.laid (C := C) (α := α) (M := M) (o := HO.tup [v, u]) hT
  exact ⟨ex, m.laid hT, T, [v, u], rfl, .inl ⟨m.new hT, .inl upd_same⟩, (Rls.cons rd (Rls.one re)).ext ex⟩
theorem jok_enum {k : Bool} {a : Addr} {src : Src} {α : List Addr} {H : Hp} (s : SrcOk C k a src α H) : JOk C (JeAt C.K k a) ⟨enumD 0 src.items, src.watch⟩ α H := by
  intro α' M' H' e m w i
  obtain ⟨vs, hs, rs⟩ := s α' M' H' e m w
  refine ⟨fun d z => ?_, fun z => ⟨vs, hs, by rw [rs.length]; have z : (enumD 0 src.items).length = i := z; rw [enumD_length] at z; exact z.symm⟩⟩
  obtain ⟨d0, h0, rfl⟩ := enumD_get _ _ _ _ z
  obtain ⟨v, h1, h2⟩ := rs.get h0
  refine ⟨⟨vs, hs, (List.getElem?_eq_some_iff.mp h1).1⟩, fun x H2 y => ?_⟩
  obtain ⟨T, x', rfl, hT, rfl, hx⟩ := y
  have := hx vs hs
  rw [h1] at this; cases this
  rw [Nat.zero_add]
  exact tup2_rl m hT (d := .int (i : Nat)) rfl h2
theorem jok_zip {k1 k2 : Bool} {a b : Addr} {s u : Src} {α : List Addr} {H : Hp} (hs : SrcOk C k1 a s α H) (hu : SrcOk C k2 b u α H) : JOk C (JzAt C.K k1 k2 a b) ⟨List.zipWith (fun x y => .tup [x, y]) s.items u.items, s.watch ++ u.watch⟩ α H := by
  intro α' M' H' e m w i
  obtain ⟨w1, w2⟩ := watched_app w
  obtain ⟨vs, h1, r1⟩ := hs α' M' H' e m w1
  obtain ⟨ws, h2, r2⟩ := hu α' M' H' e m w2
  refine ⟨fun d z => ?_, fun z => ⟨vs, ws, h1, h2, ?_⟩⟩
  · have z : (List.zipWith (fun x y => D.tup [x, y]) s.items u.items)[i]? = some d := z
    rw [List.getElem?_zipWith] at z
    cases q1 : s.items[i]? with
    | none => rw [q1] at z; cases z
    | some d1 =>
      cases q2 : u.items[i]? with
      | none => rw [q1, q2] at z; cases z
      | some d2 =>
        rw [q1, q2] at z; cases z
        obtain ⟨v1, g1, t1⟩ := r1.get q1
        obtain ⟨v2, g2, t2⟩ := r2.get q2
        refine ⟨⟨vs, ws, h1, h2, Nat.lt_min.mpr ⟨(List.getElem?_eq_some_iff.mp g1).1, (List.getElem?_eq_some_iff.mp g2).1⟩⟩, fun x H2 y => ?_⟩
        obtain ⟨T, x1, x2, rfl, hT, rfl, hx1, hx2⟩ := y
        have e1 := hx1 vs h1
        have e2 := hx2 ws h2
        rw [g1] at e1; rw [g2] at e2
        cases e1; cases e2
        exact tup2_rl m hT t1 t2
  · have z : (List.zipWith (fun x y => D.tup [x, y]) s.items u.items).length = i := z
    rw [List.length_zipWith] at z
    rw [r1.length, r2.length]; exact z.symm
theorem i_enum {elts : List Expr} {kk : Nat} (hg : Gl X "enumerate") (hm : X.mg "enumerate" = none) (ha : PA X [e] (LA C W av)) (hs : starEach [e] X.env = [(false, eval e X.env)] := by rfl) (hK : C.K = X.K := by rfl) : PI X (.Tuple elts kk tpos) (.Call (.Name "enumerate" p) [e] [] pos) (LI C W (ivEnum av)) := by
  refine PIimp (pi_enumM hg hm ha hs) fun σ H R ⟨α, σ3, M, m, st, h⟩ => ⟨α, σ3, M, m, st, (Fin.bind h).mono fun vs H1 ⟨α1, M1, ds, e1, m1, r1, h1⟩ => ?_⟩
  match ds, r1, h1 with
  | [d], r1, h1 =>
    obtain ⟨v, _, rfl, rv, rfl⟩ := r1
    have h1 : Fin C W σ (fun α H src J => JOk C J src α H) α1 H1 (match srcOf M1 d with
      | some (_, s) => .ok ⟨enumD 0 s.items, s.watch⟩ M1
      | none => .no) R := h1
    cases q : srcOf M1 d with
    | none => rw [q] at h1; exact h1.elim
    | some ks =>
      obtain ⟨k, src⟩ := ks
      rw [q] at h1
      obtain ⟨a, rfl, so, xs, hx, rx⟩ := srcOf_ok m1 rv q
      rw [← hK]
      exact ⟨k, a, xs, rfl, hx, h1 α1 H1 _ (Ext.refl _ _) m1 (jok_enum so)⟩
  | [], _, h1 => exact h1.elim
  | _ :: _ :: _, _, h1 => exact h1.elim
theorem i_zip {elts : List Expr} {kk : Nat} (hg : Gl X "zip") (hm : X.mg "zip" = none) (ha : PA X [e, e2] (LA C W av)) (hs : starEach [e, e2] X.env = (false, eval e X.env) :: starEach [e2] X.env := by rfl) (hpl : (backTo pos (starEach [e2] X.env)).any (·.1) = false := by rfl) (hK : C.K = X.K := by rfl) : PI X (.Tuple elts kk tpos) (.Call (.Name "zip" p) [e, e2] [] pos) (LI C W (ivZip av)) := by
  refine PIimp (pi_zipM hg hm ha hs hpl) fun σ H R ⟨α, σ3, M, m, st, h⟩ => ⟨α, σ3, M, m, st, (Fin.bind h).mono fun vs H1 ⟨α1, M1, ds, e1, m1, r1, h1⟩ => ?_⟩
  match ds, r1, h1 with
  | [d, d'], r1, h1 =>
    obtain ⟨v, _, rfl, rv, v', _, rfl, rv', rfl⟩ := r1
    have h1 : Fin C W σ (fun α H src J => JOk C J src α H) α1 H1 (match (srcOf M1 d).bind fun s => (srcOf M1 d').map fun u => (s, u) with
      | some (s, u) => .ok ⟨List.zipWith (fun x y => .tup [x, y]) s.2.items u.2.items, s.2.watch ++ u.2.watch⟩ M1
      | none => .no) R := h1
    cases q : srcOf M1 d with
    | none => rw [q] at h1; exact h1.elim
    | some ks =>
      cases q' : srcOf M1 d' with
      | none => rw [q, q'] at h1; exact h1.elim
      | some ks' =>
        obtain ⟨k, src⟩ := ks
        obtain ⟨k', src'⟩ := ks'
        rw [q, q'] at h1
        obtain ⟨a, rfl, so, xs, hx, rx⟩ := srcOf_ok m1 rv q
        obtain ⟨b, rfl, so', ys, hy, ry⟩ := srcOf_ok m1 rv' q'
        rw [← hK]
        exact ⟨k, k', a, b, xs, ys, rfl, hx, hy, h1 α1 H1 _ (Ext.refl _ _) m1 (jok_zip so so')⟩
  | [], _, h1 => exact h1.elim
  | [_], _, h1 => exact h1.elim
  | _ :: _ :: _ :: _, _, h1 => exact h1.elim
end
end L3

set_option Elab.async false
set_option linter.all false
set_option maxRecDepth 100000
set_option maxHeartbeats 4000000
namespace L3
open PySem PySem.Spec PyProof.Rows L2

/-! ### cells that nobody needs any more -/
mutual
def frzD (rf : Nat → Option D) : D → Option D
  | .non => some .non
  | .bl b => some (.bl b)
  | .int i => some (.int i)
  | .str s => some (.str s)
  | .glo g => some (.glo g)
  | .ty n => some (.ty n)
  | .ref n => rf n
  | .tup ds => (frzDs rf ds).map .tup
  | .lst ds => (frzDs rf ds).map .lst
  | .scr ds => (frzDs rf ds).map .scr
  | .obj c ds => (frzDs rf ds).map (.obj c)
  | .dct ks vs => (frzDs rf ks).bind fun a => (frzDs rf vs).map fun b => .dct a b
  | .xv c ds => (frzDs rf ds).map (.xv c)
def frzDs (rf : Nat → Option D) : List D → Option (List D)
  | [] => some []
  | d :: r => match frzD rf d, frzDs rf r with
    | some a, some b => some (a :: b)
    | _, _ => none
end
def frzR (nf : Nat → Nat) (b : Nat) (M : Mem) : Nat → Nat → Option D
  | 0, k => if k < b then some (.ref k) else none
  | n + 1, k => if k < b then some (.ref k) else match M[k]? with
    | some (.lst ds) => (frzDs (frzR nf b M n) ds).map .lst
    | some (.ins c ds) => if ds.length = nf c then (frzDs (frzR nf b M n) ds).map (.obj c) else none
    | _ => none
def trimR (nf : Nat → Nat) (M : Mem) : Res D → Res D
  | .ok d M' => if M'.take M.length = M then (match frzD (frzR nf M.length M' 6) d with
    | some d' => .ok d' M
    | none => .ok d M') else .ok d M'
  | .exc c ds M' => if M'.take M.length = M then (match frzDs (frzR nf M.length M' 6) ds with
    | some ds' => .exc c ds' M
    | none => .exc c ds M') else .exc c ds M'
  | .no => .no
def evTrim (nf : Nat → Nat) (e : EV) : EV := fun σ M => trimR nf M (e σ M)
section
variable {C : Ct} {α t : List Addr} {H H0 : Hp}
theorem nin_left {a : Addr} (h : a ∉ α ++ t) : a ∉ α := fun hm => h (List.mem_append_left _ hm)
theorem XDv.back {fl : List Str} {α t : List Addr} {H : Hp} {vs : List V} : ∀ {dx : Option Addr}, XDv fl (α ++ t) H vs dx → XDv fl α H vs dx
  | none, h => h
  | some _, ⟨n, fs, h, q⟩ => ⟨nin_left n, fs, h, q⟩
mutual
theorem Rl.back : ∀ {d : D} {v v0 : V}, Rl C α H0 d v0 → Rl C (α ++ t) H d v → Rl C α H d v
  | .non, _, _, _, h => h
  | .bl _, _, _, _, h => h
  | .int _, _, _, _, h => h
  | .str _, _, _, _, h => h
  | .glo _, _, _, _, h => h
  | .ty _, _, _, _, h => h
  | .ref n, _, _, ⟨a0, h0, _⟩, ⟨a, h, q⟩ => by
    rw [List.getElem?_append_left (List.getElem?_eq_some_iff.mp h0).1] at h
    exact ⟨a, h, q⟩
  | .tup ds, _, _, ⟨_, _, _, _, r0⟩, ⟨a, vs, q, .inl ⟨n, r⟩, rs⟩ => ⟨a, vs, q, .inl ⟨nin_left n, r⟩, Rls.back r0 rs⟩
  | .tup ds, _, _, ⟨_, _, _, _, r0⟩, ⟨a, vs, q, .inr r, rs⟩ => ⟨a, vs, q, .inr r, Rls.back r0 rs⟩
  | .lst ds, _, _, ⟨_, _, _, _, _, r0⟩, ⟨a, vs, q, n, r, rs⟩ => ⟨a, vs, q, nin_left n, r, Rls.back r0 rs⟩
  | .scr ds, _, _, ⟨_, _, _, _, r0⟩, ⟨a, vs, q, .inl ⟨n, r⟩, rs⟩ => ⟨a, vs, q, .inl ⟨nin_left n, r⟩, Rls.back r0 rs⟩
  | .scr ds, _, _, ⟨_, _, _, _, r0⟩, ⟨a, vs, q, .inr r, rs⟩ => ⟨a, vs, q, .inr r, Rls.back r0 rs⟩
  | .obj c ds, _, _, ⟨_, _, _, _, _, _, _, r0⟩, ⟨a, dx, vs, q, n, r, l, rs⟩ => ⟨a, dx, vs, q, nin_left n, r, l, Rls.back r0 rs⟩
  | .dct ks vs, _, _, ⟨_, _, _, _, _, r0, r0'⟩, ⟨a, kws, q, n, r, r1, r2⟩ => ⟨a, kws, q, nin_left n, r, Rls.back r0 r1, Rls.back r0' r2⟩
  | .xv c ds, _, _, ⟨_, _, _, _, _, _, _, r0⟩, ⟨a, dx, vs, q, n, r, x, rs⟩ => ⟨a, dx, vs, q, nin_left n, r, x.back, Rls.back r0 rs⟩
theorem Rls.back : ∀ {ds : List D} {vs vs0 : List V}, Rls C α H0 ds vs0 → Rls C (α ++ t) H ds vs → Rls C α H ds vs
  | [], _, _, _, h => h
  | _ :: _, _, _, ⟨_, _, _, h0, r0⟩, ⟨v, r, q, h, hs⟩ => ⟨v, r, q, Rl.back h0 h, Rls.back r0 hs⟩
end
theorem RlC.back {c : Cell} {a : Addr} (h0 : RlC C α H0 c a) (h : RlC C (α ++ t) H c a) : RlC C α H c a := by
  cases c with
  | lst ds => obtain ⟨vs0, _, r0⟩ := h0; obtain ⟨vs, e, r⟩ := h; exact ⟨vs, e, r0.back r⟩
  | ins c ds => obtain ⟨_, vs0, _, _, r0⟩ := h0; obtain ⟨dx, vs, e, l, r⟩ := h; exact ⟨dx, vs, e, l, r0.back r⟩
  | dic kvs => obtain ⟨_, _, _, r0, r1⟩ := h0; obtain ⟨kws, e, l, r, r'⟩ := h; exact ⟨kws, e, l, r0.back r, r1.back r'⟩
mutual
theorem frzD_ok {rf : Nat → Option D} (hr : ∀ k d a, rf k = some d → (α ++ t)[k]? = some a → Rl C α H d (.ref a)) : ∀ {d d' : D} {v : V}, Rl C (α ++ t) H d v → frzD rf d = some d' → Rl C α H d' v
  | .non, _, _, h, e => by cases e; exact h
  | .bl _, _, _, h, e => by cases e; exact h
  | .int _, _, _, h, e => by cases e; exact h
  | .str _, _, _, h, e => by cases e; exact h
  | .glo _, _, _, h, e => by cases e; exact h
  | .ty _, _, _, h, e => by cases e; exact h
  | .ref n, d', _, ⟨a, h, q⟩, e => by subst q; exact hr n d' a e h
  | .tup ds, d', _, ⟨a, vs, q, hh, rs⟩, e => by
    have e : (frzDs rf ds).map D.tup = some d' := e
    cases z : frzDs rf ds with
    | none => rw [z] at e; cases e
    | some ds' =>
      rw [z] at e; cases e
      refine ⟨a, vs, q, ?_, frzDs_ok hr rs z⟩
      rcases hh with ⟨n, r⟩ | r
      · exact .inl ⟨nin_left n, r⟩
      · exact .inr r
  | .lst ds, d', _, ⟨a, vs, q, n, r, rs⟩, e => by
    have e : (frzDs rf ds).map D.lst = some d' := e
    cases z : frzDs rf ds with
    | none => rw [z] at e; cases e
    | some ds' => rw [z] at e; cases e; exact ⟨a, vs, q, nin_left n, r, frzDs_ok hr rs z⟩
  | .scr ds, d', _, ⟨a, vs, q, hh, rs⟩, e => by
    have e : (frzDs rf ds).map D.scr = some d' := e
    cases z : frzDs rf ds with
    | none => rw [z] at e; cases e
    | some ds' =>
      rw [z] at e; cases e
      refine ⟨a, vs, q, ?_, frzDs_ok hr rs z⟩
      rcases hh with ⟨n, r⟩ | r
      · exact .inl ⟨nin_left n, r⟩
      · exact .inr r
  | .obj c ds, d', _, ⟨a, dx, vs, q, n, r, l, rs⟩, e => by
    have e : (frzDs rf ds).map (D.obj c) = some d' := e
    cases z : frzDs rf ds with
    | none => rw [z] at e; cases e
    | some ds' => rw [z] at e; cases e; exact ⟨a, dx, vs, q, nin_left n, r, l, frzDs_ok hr rs z⟩
  | .dct ks vs, d', _, ⟨a, kws, q, n, r, r1, r2⟩, e => by
    have e : ((frzDs rf ks).bind fun a => (frzDs rf vs).map fun b => D.dct a b) = some d' := e
    cases z : frzDs rf ks with
    | none => rw [z] at e; cases e
    | some ks' =>
      rw [z] at e
      cases z2 : frzDs rf vs with
      | none => rw [z2] at e; cases e
      | some vs' => rw [z2] at e; cases e; exact ⟨a, kws, q, nin_left n, r, frzDs_ok hr r1 z, frzDs_ok hr r2 z2⟩
  | .xv c ds, d', _, ⟨a, dx, vs, q, n, r, x, rs⟩, e => by
    have e : (frzDs rf ds).map (D.xv c) = some d' := e
    cases z : frzDs rf ds with
    | none => rw [z] at e; cases e
    | some ds' => rw [z] at e; cases e; exact ⟨a, dx, vs, q, nin_left n, r, x.back, frzDs_ok hr rs z⟩
theorem frzDs_ok {rf : Nat → Option D} (hr : ∀ k d a, rf k = some d → (α ++ t)[k]? = some a → Rl C α H d (.ref a)) : ∀ {ds ds' : List D} {vs : List V}, Rls C (α ++ t) H ds vs → frzDs rf ds = some ds' → Rls C α H ds' vs
  | [], _, _, h, e => by cases e; exact h
  | d :: ds, ds', _, ⟨v, r, q, h, hs⟩, e => by
    have e : (match frzD rf d, frzDs rf ds with
      | some a, some b => some (a :: b)
      | _, _ => none) = some ds' := e
    cases z : frzD rf d with
    | none => rw [z] at e; cases e
    | some a =>
      cases z2 : frzDs rf ds with
      | none => rw [z, z2] at e; cases e
      | some b => rw [z, z2] at e; cases e; exact ⟨v, r, q, frzD_ok hr h z, frzDs_ok hr hs z2⟩
end
theorem frzDs_length {rf : Nat → Option D} : ∀ {ds ds' : List D}, frzDs rf ds = some ds' → ds'.length = ds.length
  | [], _, e => by cases e; rfl
  | d :: ds, ds', e => by
    have e : (match frzD rf d, frzDs rf ds with
      | some a, some b => some (a :: b)
      | _, _ => none) = some ds' := e
    cases z : frzD rf d with
    | none => rw [z] at e; cases e
    | some a =>
      cases z2 : frzDs rf ds with
      | none => rw [z, z2] at e; cases e
      | some b => rw [z, z2] at e; cases e; simp [frzDs_length z2]
theorem frzDs_get {rf : Nat → Option D} : ∀ {ds ds' : List D} {i : Nat} {d' : D}, frzDs rf ds = some ds' → ds'[i]? = some d' → ∃ d, ds[i]? = some d ∧ frzD rf d = some d'
  | [], ds', i, d', e, h => by cases e; simp at h
  | d :: ds, ds', i, d', e, h => by
    have e : (match frzD rf d, frzDs rf ds with
      | some a, some b => some (a :: b)
      | _, _ => none) = some ds' := e
    cases z : frzD rf d with
    | none => rw [z] at e; cases e
    | some a =>
      cases z2 : frzDs rf ds with
      | none => rw [z, z2] at e; cases e
      | some b =>
        rw [z, z2] at e; cases e
        cases i with
        | zero => simp at h; subst h; exact ⟨d, rfl, z⟩
        | succ i => exact frzDs_get (i := i) z2 (by simpa using h)
theorem frzR_ok {nf : Nat → Nat} (hn : ∀ c, nf c = (C.fl c).length) {M : Mem} (m : SMem C (α ++ t) M H) : ∀ (n k : Nat) (d : D) (a : Addr), frzR nf α.length M n k = some d → (α ++ t)[k]? = some a → Rl C α H d (.ref a)
  | 0, k, d, a, e, h => by
    have e : (if k < α.length then some (D.ref k) else none) = some d := e
    by_cases z : k < α.length
    · rw [if_pos z] at e; cases e
      rw [List.getElem?_append_left z] at h
      exact ⟨a, h, rfl⟩
    · rw [if_neg z] at e; cases e
  | n + 1, k, d, a, e, h => by
    have e : (if k < α.length then some (D.ref k) else match M[k]? with
      | some (.lst ds) => (frzDs (frzR nf α.length M n) ds).map .lst
      | some (.ins c ds) => if ds.length = nf c then (frzDs (frzR nf α.length M n) ds).map (.obj c) else none
      | _ => none) = some d := e
    by_cases z : k < α.length
    · rw [if_pos z] at e; cases e
      rw [List.getElem?_append_left z] at h
      exact ⟨a, h, rfl⟩
    · rw [if_neg z] at e
      have na : a ∉ α := fun hm => by
        obtain ⟨j, hj, ej⟩ := List.getElem_of_mem hm
        have h2 : (α ++ t)[j]? = some a := by rw [List.getElem?_append_left hj, List.getElem?_eq_getElem hj, ej]
        have := nodup_at m.nd h2 h
        omega
      cases q : M[k]? with
      | none => rw [q] at e; cases e
      | some c =>
        rw [q] at e
        have rc := m.cell k c a q h
        cases c with
        | lst ds =>
          have e : (frzDs (frzR nf α.length M n) ds).map D.lst = some d := e
          obtain ⟨vs, hv, rs⟩ := rc
          cases y : frzDs (frzR nf α.length M n) ds with
          | none => rw [y] at e; cases e
          | some ds' => rw [y] at e; cases e; exact ⟨a, vs, rfl, na, hv, frzDs_ok (frzR_ok hn m n) rs y⟩
        | ins c ds =>
          have e : (if ds.length = nf c then (frzDs (frzR nf α.length M n) ds).map (D.obj c) else none) = some d := e
          obtain ⟨dx, vs, hv, l, rs⟩ := rc
          by_cases w : ds.length = nf c
          · rw [if_pos w] at e
            cases y : frzDs (frzR nf α.length M n) ds with
            | none => rw [y] at e; cases e
            | some ds' => rw [y] at e; cases e; exact ⟨a, dx, vs, rfl, na, hv, by rw [rs.length, w, hn], frzDs_ok (frzR_ok hn m n) rs y⟩
          · rw [if_neg w] at e; cases e
        | dic kvs => cases e
end
section
variable {C : Ct} {W : WX} {σ : L2.St} {α : List Addr} {M : Mem} {H : Hp}
theorem SMem.back {α' : List Addr} {M' : Mem} {H' : Hp} (m : SMem C α M H) (e : Ext α H α' H') (m' : SMem C α' M' H') (p : M'.take M.length = M) : SMem C α M H' ∧ Ext α H α H' ∧ ∃ t, α' = α ++ t := by
  obtain ⟨t, rfl, ht⟩ := e.pre
  refine ⟨⟨m.len, m.nd, fun n c a h1 h2 => ?_⟩, ⟨⟨[], by simp, by simp⟩, e.keep⟩, t, rfl⟩
  have h3 : M'[n]? = some c := by
    have hn : n < M.length := (List.getElem?_eq_some_iff.mp h1).1
    rw [← p] at h1
    rw [List.getElem?_take] at h1
    rw [if_pos hn] at h1; exact h1
  have h4 : (α ++ t)[n]? = some a := by rw [List.getElem?_append_left (List.getElem?_eq_some_iff.mp h2).1]; exact h2
  exact (m.cell n c a h1 h2).back (m'.cell n c a h3 h4)
theorem Fin.trim {nf : Nat → Nat} (hn : ∀ c, nf c = (C.fl c).length) (m : SMem C α M H) {r : Res D} {Q : VK} (h : Fin C W σ (RD C) α H (trimR nf M r) Q) : Fin C W σ (RD C) α H r Q := by
  cases r with
  | no => exact h
  | ok d M' =>
    have h : Fin C W σ (RD C) α H (if M'.take M.length = M then (match frzD (frzR nf M.length M' 6) d with
      | some d' => .ok d' M
      | none => .ok d M') else .ok d M') Q := h
    by_cases z : M'.take M.length = M
    · rw [if_pos z] at h
      cases q : frzD (frzR nf M.length M' 6) d with
      | none => rw [q] at h; exact h
      | some d' =>
        rw [q] at h
        intro α' H' v e m' r'
        obtain ⟨m2, e2, t, rfl⟩ := m.back e m' z
        rw [← m.len] at q
        exact h α H' v e2 m2 (frzD_ok (fun k d a h1 h2 => frzR_ok hn m' 6 k d a h1 h2) r' q)
    · rw [if_neg z] at h; exact h
  | exc c ds M' =>
    have h : Fin C W σ (RD C) α H (if M'.take M.length = M then (match frzDs (frzR nf M.length M' 6) ds with
      | some ds' => .exc c ds' M
      | none => .exc c ds M') else .exc c ds M') Q := h
    by_cases z : M'.take M.length = M
    · rw [if_pos z] at h
      cases q : frzDs (frzR nf M.length M' 6) ds with
      | none => rw [q] at h; exact h
      | some d' =>
        rw [q] at h
        intro α' H' dx e m' r'
        obtain ⟨m2, e2, t, rfl⟩ := m.back e m' z
        rw [← m.len] at q
        refine h α H' dx e2 m2 ?_
        rcases r' with b | ⟨x, fs, a, n, b, rs⟩
        · subst b; cases q; exact .inl rfl
        · refine .inr ⟨x, fs, a, nin_left n, b, fun i f d h1 h2 => ?_⟩
          obtain ⟨d0, h3, h4⟩ := frzDs_get q h2
          obtain ⟨v, h5, h6⟩ := rs i f d0 h1 h3
          exact ⟨v, h5, frzD_ok (fun k d a h1 h2 => frzR_ok hn m' 6 k d a h1 h2) h6 h4⟩
    · rw [if_neg z] at h; exact h
end
section
variable {X : Cx} {C : Ct} {W : WX} {a b e : Expr} {ev eva evb : EV} {pos : Pos} {nf : Nat → Nat}
theorem trim_imp (hn : ∀ c, nf c = (C.fl c).length) : ∀ σ H Q, LE C W (evTrim nf ev) σ H Q → LE C W ev σ H Q := fun σ H Q ⟨α, σ3, M, m, s, h⟩ => ⟨α, σ3, M, m, s, Fin.trim hn m h⟩
theorem l_trim (hn : ∀ c, nf c = (C.fl c).length) (h : PE X e (LE C W ev)) : PE X e (LE C W (evTrim nf ev)) := PEimp h (trim_imp hn)
end

/-! ### defs and calls -/
def start3 (n : Nat) (ds : List D) : St3 := ds.map some ++ List.replicate (n - ds.length) none
def endB : Out → Res D
  | .nx _ M => .ok .non M
  | .rt d M => .ok d M
  | .exc c ds _ M => .exc c ds M
  | _ => .no
def fnB (n : Nat) (body : SV) : Fn3 := fun ds M => endB (body (start3 n ds) M)
def spF (C : Ct) (g : Fn3) (ar : Nat) : Sp := fun vs H Q E => vs.length = ar ∧ ∃ α M ds, SMem C α M H ∧ Rls C α H ds vs ∧ Fin C (fun cls d _ H => E cls d H) [] (RD C) α H (g ds M) Q
theorem start_ok {C : Ct} {α : List Addr} {H : Hp} {N : List Str} {ds : List D} {vs : List V} (hP : ∀ σ α H, C.ps σ α H) (r : Rls C α H ds vs) : SSt C α H (start3 N.length ds) (L2.start N vs) := by
  have l := r.length
  refine ⟨by simp [L2.start, start3, l], fun i d h => ?_, hP _ _ _⟩
  unfold start3 at h
  unfold L2.start
  by_cases z : i < ds.length
  · rw [List.getElem?_append_left (by simpa using z)] at h
    rw [List.getElem?_append_left (by simpa [l] using z)]
    rw [List.getElem?_map] at h ⊢
    cases q : ds[i]? with
    | none => rw [q] at h; cases h
    | some d' =>
      rw [q] at h; cases h
      obtain ⟨v, h1, h2⟩ := r.get q
      exact ⟨v, by rw [h1]; rfl, h2⟩
  · rw [List.getElem?_append_right (by simpa using z)] at h
    rw [List.getElem?_replicate] at h
    split at h <;> cases h
theorem FinS.endB {C : Ct} {E : XK} {α : List Addr} {H : Hp} {o : Out} {Q : VK} (h : Fin C (fun cls d _ H => E cls d H) [] (RD C) α H (endB o) Q) : FinS C (fun cls d _ H => E cls d H) { nx := fun _ H' => Q .non H', rt := Q } α H o := by
  cases o with
  | nx σ M => exact fun a b s e m q => h a b _ e m rfl
  | rt d M => exact fun a b v e m q => h a b v e m q
  | exc c ds σ M => exact fun a b s dx e m q x => h a b dx e m x
  | bk σ M => exact h.elim
  | ct σ M => exact h.elim
  | no => exact h
def WF : WX := fun _ _ _ _ => False
theorem passF {X : Cx} (σ : L2.St) : PassesAt (L2.CX X.prog X.w) X σ (WE WF σ) := fun _ _ _ _ _ _ c => by
  obtain ⟨a, B, H', cls, d, _, _, _, _, _, _, _, z⟩ := c
  exact z.elim
def evCall (g : Fn3) (ar : Nat) (dd : List D) (av : AV) : EV := evA (fun ds M => if (ds ++ dd).length = ar then g (ds ++ dd) M else .no) av
section
variable {X : Cx} {C : Ct} {W : WX} {k : Nat} {f : Addr} {fd : FuncData} {ps : List Str} {g : Fn3} {ar : Nat} {x : Str} {p pos : Pos} {e : Expr} {es : List Expr} {av : AV} {dvs : List V} {ds : List Value} {dd : List D}
theorem call_ok (hdd : ∀ α H, Rls C α H dd dvs) {σ : L2.St} {H : Hp} {Q : VK} (h : LE C W (evCall g ar dd av) σ H Q) : tCallSD (spF C g ar) dvs (WE W) (LA C W av) σ H Q := by
  obtain ⟨α, σ3, M, m, s, h⟩ := h
  refine ⟨α, σ3, M, m, s, (Fin.bind h).mono fun vs H1 ⟨α1, M1, xs, e1, m1, r1, h1⟩ => ?_⟩
  have h1 : Fin C W σ (RD C) α1 H1 (if (xs ++ dd).length = ar then g (xs ++ dd) M1 else .no) Q := h1
  have r2 := Rls.append r1 (hdd α1 H1)
  by_cases z : (xs ++ dd).length = ar
  · rw [if_pos z] at h1
    refine ⟨by rw [r2.length]; exact z, α1, M1, xs ++ dd, m1, r2, ?_⟩
    cases q : g (xs ++ dd) M1 with
    | ok d M => rw [q] at h1; exact h1
    | exc c es M => rw [q] at h1; exact h1
    | no => rw [q] at h1; exact h1.elim
  · rw [if_neg z] at h1; exact h1.elim
end

/-! ### list comprehensions -/
def wipe3 (σ : St3) : List Nat → St3
  | [] => σ
  | v :: vs => (wipe3 σ vs).set v none
theorem SSt.unset {C : Ct} {α : List Addr} {H : Hp} {σ3 : St3} {σ : L2.St} (h : SSt C α H σ3 σ) (i : Nat) (hp : Keeps C i) : SSt C α H (σ3.set i none) (σ.set i none) := by
  refine ⟨by simp [h.len], fun j e q => ?_, hp _ _ _ _ h.ok⟩
  by_cases hij : i = j
  · subst hij
    have hl : i < σ3.length := by
      have := (List.getElem?_eq_some_iff.mp q).1; simpa using this
    rw [List.getElem?_set_self hl] at q
    cases q
  · rw [List.getElem?_set_ne hij] at q ⊢
    exact h.at_ j e q
theorem SSt.wipe {C : Ct} {α : List Addr} {H : Hp} {σ3 : St3} {σ : L2.St} (hP : ∀ σ α H, C.ps σ α H) (h : SSt C α H σ3 σ) : ∀ vs : List Nat, SSt C α H (wipe3 σ3 vs) (L2.wipe σ vs)
  | [] => h
  | v :: vs => (SSt.wipe hP h vs).unset v (kp hP)
theorem wipe_get (σ : L2.St) (j : Nat) : ∀ vs : List Nat, (L2.wipe σ vs)[j]? = if j ∈ vs then σ[j]?.map (fun _ => none) else σ[j]?
  | [] => by simp [L2.wipe]
  | v :: vs => by
    unfold L2.wipe
    have hl := L2.wipe_length σ vs
    by_cases hv : v = j
    · subst hv
      rw [if_pos List.mem_cons_self]
      by_cases z : v < σ.length
      · rw [List.getElem?_set_self (by rw [hl]; exact z), List.getElem?_eq_getElem z]; rfl
      · rw [List.getElem?_eq_none (by rw [List.length_set, hl]; omega), List.getElem?_eq_none (by omega)]; rfl
    · rw [List.getElem?_set_ne hv, wipe_get σ j vs]
      by_cases z : j ∈ vs
      · rw [if_pos z, if_pos (List.mem_cons_of_mem _ z)]
      · rw [if_neg z, if_neg (fun hm => by rcases List.mem_cons.mp hm with q | q; exact hv q.symm; exact z q)]
theorem wipe_wipe (σ : L2.St) (vs : List Nat) : L2.wipe (L2.wipe σ vs) vs = L2.wipe σ vs := by
  apply List.ext_getElem?
  intro j
  rw [wipe_get, wipe_get]
  by_cases z : j ∈ vs
  · rw [if_pos z, if_pos z]; cases σ[j]? <;> rfl
  · rw [if_neg z, if_neg z]
theorem wipe_set {σ : L2.St} {vs : List Nat} {i : Nat} {x : Option V} (h : i ∈ vs) : L2.wipe (σ.set i x) vs = L2.wipe σ vs := by
  apply List.ext_getElem?
  intro j
  rw [wipe_get, wipe_get]
  by_cases z : j ∈ vs
  · rw [if_pos z, if_pos z]
    by_cases hij : i = j
    · subst hij
      by_cases y : i < σ.length
      · rw [List.getElem?_set_self y, List.getElem?_eq_getElem y]; rfl
      · rw [List.getElem?_eq_none (by simpa using y), List.getElem?_eq_none (by omega)]
    · rw [List.getElem?_set_ne hij]
  · rw [if_neg z, if_neg z, List.getElem?_set_ne (fun (e : i = j) => z (by rw [← e]; exact h))]
abbrev CGV := D → St3 → Option St3
abbrev CGVs := List D → St3 → Option St3
def cgName (i : Nat) : CGV := fun d σ => some (σ.set i (some d))
def cgNil : CGVs := fun ds σ => match ds with
  | [] => some σ
  | _ => none
def cgCons (g : CGV) (r : CGVs) : CGVs := fun ds σ => match ds with
  | d :: ds => (g d σ).bind fun σ' => r ds σ'
  | [] => none
def cgTup (n : Nat) (g : CGVs) : CGV := fun d σ => match d with
  | .tup ds => if ds.length = n then g ds σ else none
  | _ => none
/-- a comprehension's target: g is its reading, gv what it does -/
def LCG (C : Ct) (vs : List Nat) (g : TG) (gv : CGV) : Prop := ∀ α M H d x σ3 σ σ3' (Q : L2.St → Hp → Prop), SMem C α M H → SSt C α H σ3 σ → Rl C α H d x → gv d σ3 = some σ3' →
  (∀ σ', SSt C α H σ3' σ' → L2.wipe σ' vs = L2.wipe σ vs → Q σ' H) → g x σ H Q
def LCGs (C : Ct) (vs : List Nat) (g : TGs) (gv : CGVs) : Prop := ∀ α M H ds xs σ3 σ σ3' (Q : L2.St → Hp → Prop), SMem C α M H → SSt C α H σ3 σ → Rls C α H ds xs → gv ds σ3 = some σ3' →
  (∀ σ', SSt C α H σ3' σ' → L2.wipe σ' vs = L2.wipe σ vs → Q σ' H) → g xs σ H Q
section
variable {C : Ct} {vs : List Nat} {K : PySem.W.Frag}
theorem lcg_name {i : Nat} (hP : ∀ σ α H, C.ps σ α H) (h : i ∈ vs) : LCG C vs (L2.gName i) (cgName i) := fun α M H d x σ3 σ σ3' Q m s r e q => by
  have e : some (σ3.set i (some d)) = some σ3' := e
  cases e
  exact q _ (s.set r i (kp hP)) (wipe_set h)
theorem lcg_tup {n : Nat} {g : TGs} {gv : CGVs} (hK : C.K = K) (h : LCGs C vs g gv) : LCG C vs (L2.gTup K n g) (cgTup n gv) := fun α M H d x σ3 σ σ3' Q m s r e q => by
  cases d with
  | tup ds =>
    have e : (if ds.length = n then gv ds σ3 else none) = some σ3' := e
    by_cases z : ds.length = n
    · rw [if_pos z] at e
      obtain ⟨a, xs, rfl, ha, rs⟩ := r
      exact ⟨a, xs, rfl, SqT_of hK ha, by rw [rs.length]; exact z, h α M H ds xs σ3 σ σ3' Q m s rs e q⟩
    · rw [if_neg z] at e; cases e
  | _ => cases e
theorem lcg_nil : LCGs C vs L2.gNil cgNil := fun α M H ds xs σ3 σ σ3' Q m s r e q => by
  cases ds with
  | nil =>
    have e : some σ3 = some σ3' := e
    cases e; cases r
    exact ⟨rfl, q σ s rfl⟩
  | cons d ds => cases e
theorem lcg_cons {g : TG} {gr : TGs} {gv : CGV} {gvr : CGVs} (h1 : LCG C vs g gv) (h2 : LCGs C vs gr gvr) : LCGs C vs (L2.gCons g gr) (cgCons gv gvr) := fun α M H ds xs σ3 σ σ3' Q m s r e q => by
  cases ds with
  | nil => cases e
  | cons d ds =>
    have e : (gv d σ3).bind (fun σ' => gvr ds σ') = some σ3' := e
    obtain ⟨x, xr, rfl, rx, rr⟩ := r
    cases z : gv d σ3 with
    | none => rw [z] at e; cases e
    | some σ1 =>
      rw [z] at e
      exact ⟨x, xr, rfl, h1 α M H d x σ3 σ σ1 _ m s rx z fun σ' s' w => h2 α M H ds xr σ1 σ' σ3' _ m s' rr e fun σ2 s2 w2 => q σ2 s2 (w2.trans w)⟩
end
def bvYes : BV := fun _ M => .ok true M
theorem lts_nil {X : Cx} {C : Ct} {W : WX} : PTs X [] (LB C W bvYes) := ⟨fun pins s σ H Q I ⟨α, σ3, M, m, st, h⟩ => pts_nil.run pins s σ H Q I (h α H true (Ext.refl _ _) m rfl)⟩
theorem lts_one {X : Cx} {C : Ct} {W : WX} {c : Expr} {tc : BV} (h : PT X c (LB C W tc)) : PTs X [c] (LB C W tc) := pts_one h
def lcLoop (w : List (Nat × List D)) (n0 : Nat) (g : CGV) (tt : BV) (te : EV) (σ : St3) : List D → Mem → Option Mem
  | [], M => if watched w M = true then some M else none
  | d :: r, M => if watched w M = true then (match g d σ with
    | some σ1 => (match tt σ1 M with
      | .ok b M1 => if b = true then (match te σ1 M1 with
        | .ok y M2 => (match M2[n0]? with
          | some (.lst acc) => if acc.length < sizeLine then lcLoop w n0 g tt te σ r (M2.set n0 (.lst (acc ++ [y]))) else none
          | _ => none)
        | _ => none) else lcLoop w n0 g tt te σ r M1
      | _ => none)
    | none => none) else none
def evLc (iv : IV) (vs : List Nat) (g : CGV) (tt : BV) (te : EV) : EV := fun σ M => (iv σ M).bind fun s M1 => match lcLoop s.watch M1.length g tt te (wipe3 σ vs) s.items (M1 ++ [.lst []]) with
  | some M2 => .ok (.ref M1.length) M2
  | none => .no
section
variable {X : Cx} {C : Ct} {W : WX}
theorem lc_imp (hP : ∀ σ α H, C.ps σ α H) {iv : IV} {vs : List Nat} {g : TG} {gv : CGV} {tt : BV} {te : EV} (hg : LCG C vs g gv) {σ : L2.St} {H : Hp} {Q : VK} (h : LE C W (evLc iv vs gv tt te) σ H Q) : tLc (LI C W iv) g (LB C WF tt) (LE C WF te) vs σ H Q := by
  obtain ⟨α, σ3, M, m, s, h⟩ := h
  refine ⟨α, σ3, M, m, s, (Fin.bind h).mono fun J H1 ⟨α1, M1, src, e1, m1, j1, h1⟩ => fun L hL => ?_⟩
  have h1 : Fin C W σ (RD C) α1 H1 (match lcLoop src.watch M1.length gv tt te (wipe3 σ3 vs) src.items (M1 ++ [.lst []]) with
    | some M2 => .ok (.ref M1.length) M2
    | none => .no) Q := h1
  cases z0 : lcLoop src.watch M1.length gv tt te (wipe3 σ3 vs) src.items (M1 ++ [.lst []]) with
  | none => rw [z0] at h1; exact h1.elim
  | some Mf =>
    rw [z0] at h1
    have x1 : Ext α1 H1 (α1 ++ [L]) (upd H1 L (.lst [])) := Ext.cell m1 hL
    have nL : α1.length = M1.length := m1.len
    refine ⟨fun i k H => i + k = src.items.length ∧ ∃ α' M', Ext (α1 ++ [L]) (upd H1 L (.lst [])) α' H ∧ SMem C α' M' H ∧ lcLoop src.watch M1.length gv tt te (wipe3 σ3 vs) (src.items.drop i) M' = some Mf,
      ⟨src.items.length, by omega, α1 ++ [L], M1 ++ [.lst []], Ext.refl _ _, m1.push (c := .lst []) hL ⟨[], upd_same, rfl⟩, by rw [List.drop_zero]; exact z0⟩, ?_⟩
    rintro i k H ⟨hk, α', M', e2, m2, h2⟩
    have gL : α'[M1.length]? = some L := e2.get (by rw [← nL]; simp)
    cases z : src.items[i]? with
    | none =>
      have hl : src.items.length ≤ i := List.getElem?_eq_none_iff.mp z
      rw [List.drop_eq_nil_of_le hl] at h2
      have h2 : (if watched src.watch M' = true then some M' else none) = some Mf := h2
      by_cases hw : watched src.watch M' = true
      · rw [if_pos hw] at h2
        have h2 := Option.some.inj h2
        subst h2
        exact .inl ⟨(j1 α' M' H (x1.trans e2) m2 hw i).2 (by omega), h1 α' H (.ref L) (x1.trans e2) m2 ⟨L, gL, rfl⟩⟩
      · rw [if_neg hw] at h2; cases h2
    | some d =>
      have hl : i < src.items.length := (List.getElem?_eq_some_iff.mp z).1
      have hd : src.items.drop i = d :: src.items.drop (i + 1) := by
        rw [List.drop_eq_getElem_cons hl]
        congr 1
        exact (List.getElem?_eq_some_iff.mp z).2
      rw [hd] at h2
      unfold lcLoop at h2
      by_cases hw : watched src.watch M' = true
      · rw [if_pos hw] at h2
        obtain ⟨go, yld⟩ := (j1 α' M' H (x1.trans e2) m2 hw i).1 d z
        refine .inr ⟨go, fun H => (i + 1) + (k - 1) = src.items.length ∧ ∃ α' M', Ext (α1 ++ [L]) (upd H1 L (.lst [])) α' H ∧ SMem C α' M' H ∧ lcLoop src.watch M1.length gv tt te (wipe3 σ3 vs) (src.items.drop (i + 1)) M' = some Mf, fun H' q => ⟨k - 1, by omega, q⟩, fun x H2 y => ?_⟩
        obtain ⟨e3, m3, r3⟩ := yld x H2 y
        cases q1 : gv d (wipe3 σ3 vs) with
        | none => rw [q1] at h2; cases h2
        | some σ1 =>
          rw [q1] at h2
          refine hg α' M' H2 d x (wipe3 σ3 vs) (L2.wipe σ vs) σ1 _ m3 (SSt.wipe hP (s.ext (e1.trans (x1.trans (e2.trans e3)))) vs) r3 q1 fun σ' s' w' => ⟨by rw [w', wipe_wipe], ?_⟩
          refine ⟨α', σ1, M', m3, s', ?_⟩
          have h2 : (match tt σ1 M' with
            | .ok b M1' => if b = true then (match te σ1 M1' with
              | .ok y M2 => (match M2[M1.length]? with
                | some (.lst acc) => if acc.length < sizeLine then lcLoop src.watch M1.length gv tt te (wipe3 σ3 vs) (src.items.drop (i + 1)) (M2.set M1.length (.lst (acc ++ [y]))) else none
                | _ => none)
              | _ => none) else lcLoop src.watch M1.length gv tt te (wipe3 σ3 vs) (src.items.drop (i + 1)) M1'
            | _ => none) = some Mf := h2
          cases q2 : tt σ1 M' with
          | no => rw [q2] at h2; cases h2
          | exc c ds M5 => rw [q2] at h2; cases h2
          | ok b M5 =>
            rw [q2] at h2
            intro α5 H5 b' e5 m5 rb
            have rb : b' = b := rb
            subst rb
            have h2 : (if b' = true then (match te σ1 M5 with
              | .ok y M2 => (match M2[M1.length]? with
                | some (.lst acc) => if acc.length < sizeLine then lcLoop src.watch M1.length gv tt te (wipe3 σ3 vs) (src.items.drop (i + 1)) (M2.set M1.length (.lst (acc ++ [y]))) else none
                | _ => none)
              | _ => none) else lcLoop src.watch M1.length gv tt te (wipe3 σ3 vs) (src.items.drop (i + 1)) M5) = some Mf := h2
            cases b' with
            | false =>
              rw [if_neg Bool.false_ne_true] at h2 ⊢
              exact ⟨by omega, α5, M5, e2.trans (e3.trans e5), m5, h2⟩
            | true =>
              rw [if_pos rfl] at h2 ⊢
              refine ⟨α5, σ1, M5, m5, s'.ext e5, ?_⟩
              cases q3 : te σ1 M5 with
              | no => rw [q3] at h2; cases h2
              | exc c ds M5 => rw [q3] at h2; cases h2
              | ok y M6 =>
                rw [q3] at h2
                intro α6 H6 yv e6 m6 ry
                have h2 : (match M6[M1.length]? with
                  | some (.lst acc) => if acc.length < sizeLine then lcLoop src.watch M1.length gv tt te (wipe3 σ3 vs) (src.items.drop (i + 1)) (M6.set M1.length (.lst (acc ++ [y]))) else none
                  | _ => none) = some Mf := h2
                have gL6 : α6[M1.length]? = some L := e6.get (e5.get (e3.get gL))
                cases q4 : M6[M1.length]? with
                | none => rw [q4] at h2; cases h2
                | some cl =>
                  rw [q4] at h2
                  cases cl with
                  | lst acc =>
                    have h2 : (if acc.length < sizeLine then lcLoop src.watch M1.length gv tt te (wipe3 σ3 vs) (src.items.drop (i + 1)) (M6.set M1.length (.lst (acc ++ [y]))) else none) = some Mf := h2
                    obtain ⟨as, ha, ra⟩ := m6.cell _ _ L q4 gL6
                    by_cases hz : acc.length < sizeLine
                    · rw [if_pos hz] at h2
                      have ew : Ext α6 H6 α6 (upd H6 L (.lst (as ++ [yv]))) := Ext.write m6 gL6
                      exact ⟨as, ha, by rw [ra.length]; exact hz, by omega, α6, _, e2.trans (e3.trans (e5.trans (e6.trans ew))), m6.write (c := .lst (acc ++ [y])) gL6 ⟨_, upd_same, (ra.append (Rls.one ry)).ext ew⟩, h2⟩
                    · rw [if_neg hz] at h2; cases h2
                  | _ => cases h2
      · rw [if_neg hw] at h2; cases h2
variable {elt tg iter : Expr} {ifs : List Expr} {scope : Scope} {own : List (Str × Nat)} {pos spos py : Pos} {iv : IV} {g : TG} {gv : CGV} {tt : BV} {te ev : EV}
/-- ev: evLc iv (own.map (·.2)) gv tt te, or that trimmed -/
theorem l_lc (hP : ∀ σ α H, C.ps σ α H) (hT : ∀ σ H Q, LE C W ev σ H Q → LE C W (evLc iv (own.map (·.2)) gv tt te) σ H Q) (hc : X.calm = true) (hN : X.N.Nodup) (hi : PI X tg iter (LI C W iv)) (ok : BlkOk X.N X.env.scope scope own) (hgv : LCG C (own.map (·.2)) g gv)
    (hg : ∀ (s : Shared) (H : Hp) (C : Addr) (cl : List (Str × Addr)) (fp : List Addr), PG (X.blk s H scope (compEnvC scope cl C X.env) fp) tg g) (ht : ∀ (s : Shared) (H : Hp) (C' : Addr) (cl : List (Str × Addr)) (fp : List Addr), PTs (X.blk s H scope (compEnvC scope cl C' X.env) fp) ifs (LB C WF tt))
    (he : ∀ (s : Shared) (H : Hp) (C' : Addr) (cl : List (Str × Addr)) (fp : List Addr), PE (X.blk s H scope (compEnvC scope cl C' X.env) fp) elt (LE C WF te)) (hs : ∀ x, foldedSetIterable iter X.env x = pure x := by intro _; rfl) :
    PE X (.ListComp elt [⟨tg, iter, ifs, 0⟩] scope pos) (LE C W ev) := PEimp (pe_lc hc hN hi ok hg ht he hs) fun σ H Q h => lc_imp hP hgv (hT σ H Q h)
theorem s_setLc (i : Nat) {y : Str} (hP : ∀ σ α H, C.ps σ α H) (hT : ∀ σ H Q, LE C W ev σ H Q → LE C W (evLc iv (own.map (·.2)) gv tt te) σ H Q) (hc : X.calm = true) (hN : X.N.Nodup) (hy : X.N[i]? = some y) (hyl : X.env.scope.names.lookup y = some .local)
    (hsw : swapsWith (.ListComp elt [⟨tg, iter, ifs, 0⟩] scope pos) (some (.Name y py)) spos.line X.env = pure true) (hi : PI X tg iter (LI C W iv)) (ok : BlkOk X.N X.env.scope scope own) (hgv : LCG C (own.map (·.2)) g gv)
    (hg : ∀ (s : Shared) (H : Hp) (C : Addr) (cl : List (Str × Addr)) (fp : List Addr), PG (X.blk s H scope (compEnvC scope cl C X.env) fp) tg g) (ht : ∀ (s : Shared) (H : Hp) (C' : Addr) (cl : List (Str × Addr)) (fp : List Addr), PTs (X.blk s H scope (compEnvC scope cl C' X.env) fp) ifs (LB C WF tt))
    (he : ∀ (s : Shared) (H : Hp) (C' : Addr) (cl : List (Str × Addr)) (fp : List Addr), PE (X.blk s H scope (compEnvC scope cl C' X.env) fp) elt (LE C WF te)) (hs : ∀ x, foldedSetIterable iter X.env x = pure x := by intro _; rfl) :
    PS X (.Assign [.Name y py] (.ListComp elt [⟨tg, iter, ifs, 0⟩] scope pos) spos) (LS C W (svSet i ev)) := by
  refine PSimp (ps_setLc hc hN hy hyl hsw hi ok hg ht he hs) fun D σ H ⟨α, σ3, M, m, s, h⟩ => ?_
  show tLc _ _ _ _ _ σ H fun v H1 => L2.gName i v σ H1 D.nx
  refine lc_imp (W := W) hP hgv (hT σ H _ ⟨α, σ3, M, m, s, ?_⟩)
  exact (FinS.out s h).mono fun v H1 ⟨α1, M1, d, e1, m1, r1, h2⟩ => h2 α1 H1 _ (Ext.refl _ _) m1 ((s.ext e1).set r1 i (kp hP))
end
end L3

set_option Elab.async false
set_option linter.all false
set_option maxRecDepth 100000
set_option maxHeartbeats 4000000
namespace L3
open PySem PySem.Spec PyProof.Rows L2

/-! ### promises that hold where no repr is under way -/
structure FnG (b : Bool) (P : Program) (w : World) (K : PySem.W.Frag) (mg : Str → Option Value) (base : Heap) (k : Nat) (f : Addr) (fd : FuncData) (ps : List Str) (sp : Sp) : Prop where
  len : ∀ vs H Q E, sp vs H Q E → vs.length = ps.length
  run : ∀ (A : Around) (st : List Env) (s : Shared) (H : Hp) (args : Args) (us : List Value) (vs : List V) (Q : VK) (E : XK), Room k A → (b = true → A.guards = some []) → Env0 P w K mg base A st s H → BindsTo s fd args (ps.zip us) → Vals vs us → sp vs H Q E →
    codeAny (model P w) A (.call (.ref f) args) (CR (L2.CX P w) st P w H s Q E) s
theorem FnG.mono {b : Bool} {P : Program} {w : World} {K : PySem.W.Frag} {mg : Str → Option Value} {base : Heap} {j k : Nat} {f : Addr} {fd : FuncData} {ps : List Str} {sp : Sp} (F : FnG b P w K mg base j f fd ps sp) (h : j ≤ k) : FnG b P w K mg base k f fd ps sp :=
  ⟨F.len, fun A st s H args us vs Q E r g => F.run A st s H args us vs Q E (Room.mono r h) g⟩
theorem FnG.imp {b : Bool} {P : Program} {w : World} {K : PySem.W.Frag} {mg : Str → Option Value} {base : Heap} {k : Nat} {f : Addr} {fd : FuncData} {ps : List Str} {sp sp' : Sp} (F : FnG b P w K mg base k f fd ps sp)
    (h : ∀ vs H Q E, sp' vs H Q E → sp vs H Q E) : FnG b P w K mg base k f fd ps sp' :=
  ⟨fun vs H Q E q => F.len vs H Q E (h _ _ _ _ q), fun A st s H args us vs Q E r g e b v q => F.run A st s H args us vs Q E r g e b v (h _ _ _ _ q)⟩
section
variable {b : Bool} {P : Program} {w : World} {K : PySem.W.Frag} {mg : Str → Option Value} {base : Heap} {x qual : Str} {params : Arguments} {body : List Stmt} {scope : Scope} {dvs : List V} {kws : List (Str × V)} {f : Addr} {fd : FuncData}
theorem fn_g {sp : Sp} {N ps : List Str} {k : Nat} (F : FunD K x qual params body scope dvs kws f fd) (S : FnScope N ps scope) (len : ∀ vs H Q E, sp vs H Q E → vs.length = ps.length)
    (hb : ∀ (cdv : Value) (A : Around) (st : List Env) (s : Shared) (H : Hp) (vs : List V) (Q : VK) (E : XK), Room k (A.deeper (envOfC qual scope s.heap.objs.size f cdv)) → (b = true → A.guards = some []) → sp vs H Q E →
      ∃ t, PSs (cxOf (L2.CX P w) P w K mg base N qual scope f cdv A st s H E) body t ∧ t { nx := fun _ H' => Q .non H', rt := Q } (L2.start N vs) H) : FnG b P w K mg base (k + 1) f fd ps sp := by
  obtain ⟨oc, od, dV, kV, doc, pm, an, cdv, ct, osl, rfl, lk, cd, _, _⟩ := F.ex
  refine ⟨len, fun A st s H args us vs Q E room gd env bind rel q => ?_⟩
  have inK : K.In s.heap := env.mod.kin.keeps fun b o h => (env.bs b o h).1
  have noLim : s.heap.NoLimit := env.mod.nolimit.keeps fun b o h => (env.bs b o h).1
  have kinds : ∀ y ∈ ps.zip us, scope.names.lookup y.1 = some .local ∨ (scope.names.lookup y.1 = some .cell ∧ ((cellsFrom (s.heap.objs.size + 1) scope.names []).lookup y.1).isSome = true) := by
    rintro ⟨n, v⟩ hy
    rcases S.par n (List.of_mem_zip hy).1 with z | z
    · exact Or.inl z
    · exact Or.inr ⟨z, PySem.W.cellsFrom_some _ _ _ (Or.inl z)⟩
  refine codeAny_call_function room.depth (inK _ _ lk) rfl S.co S.gen rfl (PySem.W.codeRec_of inK cd) (bind _ _ _ _ (wpAny_newFunctionEnv_cells S.kind kinds fun env' he s1 in1 => ?_))
  subst he
  refine ⟨noLim.keeps in1.toInCall.keep, codeAny_func ?_⟩
  obtain ⟨t, run, want⟩ := hb cdv A st s H vs Q E (Room.deeper room _) gd q
  have inv := inv_start (CX := L2.CX P w) (cd := cdv) (f := f) (qual := qual) (E := E) S room.hd env (len _ _ _ _ q) rel in1
  refine wpAny_mono (run.run [] s1 (L2.start N vs) H _ inv want) (fun fl s' g => ?_) fun _ _ g => g
  cases fl with
  | next => obtain ⟨σ', H', J, g⟩ := g; exact ⟨.non, H', J.os, J.bare, J.base, J.hok, rfl, g⟩
  | ret u => obtain ⟨v, σ', H', J, rv, g⟩ := g; exact ⟨v, H', J.os, J.bare, J.base, J.hok, rv, g⟩
  | brk => obtain ⟨_, _, _, g⟩ := g; exact g.elim
  | cont => obtain ⟨_, _, _, g⟩ := g; exact g.elim
theorem fn_ok {C : Ct} {N ps : List Str} {k n ar : Nat} {sv : SV} (hP : ∀ σ α H, C.ps σ α H) (F : FunD K x qual params body scope dvs kws f fd) (S : FnScope N ps scope) (hn : N.length = n) (hp : ps.length = ar)
    (hb : ∀ (cdv : Value) (A : Around) (st : List Env) (s : Shared) (H : Hp) (E : XK), Room k (A.deeper (envOfC qual scope s.heap.objs.size f cdv)) → (b = true → (A.deeper (envOfC qual scope s.heap.objs.size f cdv)).guards = some []) →
      PSs (cxOf (L2.CX P w) P w K mg base N qual scope f cdv A st s H E) body (LS C (fun cls d _ H => E cls d H) sv)) : FnG b P w K mg base (k + 1) f fd ps (spF C (fnB n sv) ar) := by
  subst hn hp
  refine fn_g F S (fun vs H Q E h => h.1) fun cdv A st s H vs Q E room gd ⟨l, α, M, ds, m, r, h⟩ => ?_
  exact ⟨_, hb cdv A st s H E room gd, α, start3 N.length ds, M, m, start_ok hP r, FinS.endB h⟩
end
section
variable {b : Bool} {X : Cx} {C : Ct} {W : WX} {k : Nat} {f : Addr} {fd : FuncData} {ps : List Str} {sp : Sp} {g : Fn3} {ar : Nat} {x : Str} {p pos : Pos} {e : Expr} {es : List Expr} {t : TA} {av : AV} {dvs : List V} {ds : List Value} {dd : List D}
theorem run_g {pins : List (Addr × Obj)} {σ : L2.St} {H : Hp} {s : Shared} {Q : VK} {E : XK} {args : Args} {us : List Value} {vs : List V} (F : FnG b X.prog X.w X.K X.mg X.base k f fd ps sp) (hr : Room k X.A) (gd : b = true → X.A.guards = some []) (hx : PassesAt (L2.CX X.prog X.w) X σ E)
    (I : Inv X pins σ H s) (hb : BindsTo s fd args (ps.zip us)) (r : Vals vs us) (h : sp vs H Q E) : codeAny (model X.prog X.w) X.A (.call (.ref f) args) (fun R s' => match R with
      | .ok (.ret u) => EP X pins σ Q u s'
      | .ok _ => False
      | .error e => X.xe e s') s := by
  refine codeAny_mono (F.run X.A X.stack s H args us vs Q E hr gd I.env0 hb r h) fun R s' q => ?_
  cases R with
  | error e => exact hx pins H s e s' I q
  | ok fl => cases fl <;> first | exact I.after q | exact False.elim q
theorem pe_g (F : FnG b X.prog X.w X.K X.mg X.base k f fd ps sp) (hr : Room k X.A) (gd : b = true → X.A.guards = some []) (hg : Gl X x) (hm : X.mg x = some (.ref f)) (hk : PySem.W.keepIn X.K (.ref f) = true) (hb : Binds X.K fd ps ds) (hd : Vals dvs ds) (hx : ∀ σ, PassesAt (L2.CX X.prog X.w) X σ (WE W σ))
    (ha : PA X (e :: es) t) (hdb : (x == ("__debug__" : Str)) = false := by decide) (he : starEach (e :: es) X.env = (false, eval e X.env) :: starEach es X.env := by rfl) (hpl : (backTo pos (starEach es X.env)).any (·.1) = false := by rfl) : PE X (.Call (.Name x p) (e :: es) [] pos) (tCallSD sp dvs (WE W) t) := by
  refine ⟨fun pins s σ H Q I h => wpAny_Call_Name_kw (ld_glob I hg hm (PySem.W.callWith_K (h₀ := X.base) I.ok.mod.kin hk (thn (ha.run pos pins s σ H _ I h) fun us s1 ⟨vs, H1, I1, r, q⟩ => ⟨I1.kIn, ?_⟩) he hpl) hdb)⟩
  have rr := r.append hd
  have hl : (us ++ ds).length = ps.length := rr.length.symm.trans (F.len _ _ _ _ q)
  refine wpAny_call (codeAny_mono (run_g F hr gd (hx σ) I1 (hb s1 us I1.kIn hl) rr q) fun R s' z => ?_)
  cases R with
  | error e => exact z
  | ok fl => cases fl <;> first | exact z | exact False.elim z
theorem l_call (F : FnG b X.prog X.w X.K X.mg X.base k f fd ps (spF C g ar)) (hr : Room k X.A) (gd : b = true → X.A.guards = some []) (hg : Gl X x) (hm : X.mg x = some (.ref f)) (hk : PySem.W.keepIn X.K (.ref f) = true) (hb : Binds X.K fd ps ds) (hd : Vals dvs ds) (hx : ∀ σ, PassesAt (L2.CX X.prog X.w) X σ (WE W σ)) (hdd : ∀ α H, Rls C α H dd dvs)
    (ha : PA X (e :: es) (LA C W av)) (hdb : (x == ("__debug__" : Str)) = false := by decide) (he : starEach (e :: es) X.env = (false, eval e X.env) :: starEach es X.env := by rfl) (hpl : (backTo pos (starEach es X.env)).any (·.1) = false := by rfl) :
    PE X (.Call (.Name x p) (e :: es) [] pos) (LE C W (evCall g ar dd av)) := PEimp (pe_g F hr gd hg hm hk hb hd hx ha hdb he hpl) fun _ _ _ h => call_ok hdd h
end

/-! ### new instances -/
theorem under_guards {A : Around} {C : Addr} {us : List Value} {kw : List (Str × Value)} (h : A.guards = some []) : (A.under (.builtin "type.__call__" ⟨.ref C :: us, kw⟩)).guards = some [] := by
  have n : ¬ ("type.__call__" ∈ guardIds) := by decide
  simp [Around.under, pushGuards, Code.guards, Code.isGuard, h, n]
def tNew (C : Addr) (sp : Sp) (gV : List V → List V → List V) (n m : Nat) (E : L2.St → XK) (t tk : TA) : TE := fun σ H Q => t σ H fun vs H1 => tk σ H1 fun zs H2 => vs.length = n ∧ zs.length = m ∧
  ∀ x dx, H2 x = none → H2 dx = none → dx ≠ x → sp (gV (.ref x :: vs) zs) (upd (upd H2 dx (.own x)) x (.ins C dx [])) (fun v H3 => v = .non ∧ Q (.ref x) H3) (E σ)
section
variable {b : Bool} {X : Cx} {C : Addr} {W : WX} {k n : Nat} {f : Addr} {fd : FuncData} {ps ks : List Str} {sp : Sp} {x : Str} {p pos : Pos} {e : Expr} {es : List Expr} {kws : List Keyword} {t tk : TA} {g : List Value → List Value → List Value} {gV : List V → List V → List V}
theorem run_new {pins : List (Addr × Obj)} {σ : L2.St} {H : Hp} {s : Shared} {Q : VK} {E : XK} {us ws : List Value} {vs zs : List V} (M : Mk X.K C f) (F : FnG b X.prog X.w X.K X.mg X.base k f fd ps sp) (hr : Room (k + 1) X.A) (gd : b = true → X.A.guards = some []) (hb : KBn X.K fd ps (n + 1) ks g gV)
    (hx : PassesAt (L2.CX X.prog X.w) X σ E) (I : Inv X pins σ H s) (r : Vals vs us) (rz : Vals zs ws) (l1 : vs.length = n) (l2 : zs.length = ks.length)
    (h : ∀ x dx, H x = none → H dx = none → dx ≠ x → sp (gV (.ref x :: vs) zs) (upd (upd H dx (.own x)) x (.ins C dx [])) (fun v H2 => v = .non ∧ Q (.ref x) H2) E) :
    wpAny (model X.prog X.w) X.A (call (.ref C) us (ks.zip ws)) (EP X pins σ Q) X.xe s := by
  obtain ⟨m, hmm⟩ : ∃ m, s.heap.objs.size = m := ⟨_, rfl⟩
  have want := h (m + 1) m (I.hok.fresh (by rw [hmm]; exact Nat.le_succ _)) (I.hok.fresh (by rw [hmm]; exact Nat.le_refl _)) (Nat.ne_of_lt (Nat.lt_succ_self _))
  have I2 := Inv.made (C := C) I
  have rr := hb.rel (vs := V.ref (m + 1) :: vs) (us := Value.ref (m + 1) :: us) (.cons rfl r) rz
  have go := F.run (X.A.under (.builtin "type.__call__" ⟨.ref C :: us, ks.zip ws⟩)) X.stack _ _ ⟨Value.ref (m + 1) :: us, ks.zip ws⟩ _ _ _ _ (hr.make C us (ks.zip ws)) (fun z => under_guards (gd z)) (hmm ▸ I2.env0.make C us (ks.zip ws))
    (hb.to _ (Value.ref (m + 1) :: us) ws (hmm ▸ I2.kIn) (congrArg Nat.succ (r.length.symm.trans l1)) (rz.length.symm.trans l2)) rr want
  subst hmm
  refine wpAny_call (make_map (f := f) I.kIn M.makes M.init (beq_iff_eq.mp M.fn) (codeAny_mono go fun R s' q => ?_))
  cases R with
  | error e => exact hx pins _ _ e s' I2 q
  | ok fl =>
    cases fl with
    | ret u =>
      obtain ⟨v, H', I3, rv, ev, q3⟩ := I2.after q
      subst ev
      exact ⟨rv, V.ref (s.heap.objs.size + 1), H', I3, rfl, q3⟩
    | _ => exact False.elim q
theorem kbn_pos {dvs : List V} {ds : List Value} (hb : Binds X.K fd ps ds) (hd : Vals dvs ds) (hl : n + 1 + dvs.length = ps.length) : KBn X.K fd ps (n + 1) [] (fun us _ => us ++ ds) (fun vs _ => vs ++ dvs) where
  to := fun s us ws hk l1 l2 => hb s us hk (by rw [List.length_append, l1, ← hd.length]; exact hl)
  rel := fun r _ => r.append hd
theorem pe_newP (M : Mk X.K C f) (F : FnG b X.prog X.w X.K X.mg X.base k f fd ps sp) (hr : Room (k + 1) X.A) (gd : b = true → X.A.guards = some []) (hg : Gl X x) (hm : X.mg x = some (.ref C)) (hb : KBn X.K fd ps (n + 1) [] g gV) (hx : ∀ σ, PassesAt (L2.CX X.prog X.w) X σ (WE W σ))
    (ha : PA X (e :: es) t) (hdb : (x == ("__debug__" : Str)) = false := by decide) (he : starEach (e :: es) X.env = (false, eval e X.env) :: starEach es X.env := by rfl) (hpl : (backTo pos (starEach es X.env)).any (·.1) = false := by rfl) :
    PE X (.Call (.Name x p) (e :: es) [] pos) (tNew C sp gV n 0 (WE W) t (fun _ H Q => Q [] H)) := by
  refine ⟨fun pins s σ H Q I h => wpAny_Call_Name_kw (ld_glob I hg hm (PySem.W.callWith_K (h₀ := X.base) I.ok.mod.kin M.kp (thn (ha.run pos pins s σ H _ I h) fun us s1 ⟨vs, H1, I1, r, l1, l2, q⟩ => ⟨I1.kIn, ?_⟩) he hpl) hdb)⟩
  exact run_new (ks := []) (ws := []) M F hr gd hb (hx σ) I1 r .nil l1 rfl q
theorem pe_newK0 (M : Mk X.K C f) (F : FnG b X.prog X.w X.K X.mg X.base k f fd ps sp) (hr : Room (k + 1) X.A) (gd : b = true → X.A.guards = some []) (hg : Gl X x) (hm : X.mg x = some (.ref C)) (hb : KBn X.K fd ps 1 ks g gV) (hx : ∀ σ, PassesAt (L2.CX X.prog X.w) X σ (WE W σ)) (hkw : PK X kws tk)
    (hall : (backToKw pos (keywordEach kws X.env)).all (·.1.isSome) = true := by rfl) (hks : (backToKw pos (keywordEach kws X.env)).filterMap (·.1) = ks := by rfl) (hdb : (x == ("__debug__" : Str)) = false := by decide)
    (hpl : ((backTo pos (starEach [] X.env)).any (·.1) || (backToKw pos (keywordEach kws X.env)).any (·.1.isNone)) = false := by rfl) :
    PE X (.Call (.Name x p) [] kws pos) (tNew C sp gV 0 ks.length (WE W) (fun _ H Q => Q [] H) tk) := by
  refine ⟨fun pins s σ H Q I h => wpAny_Call_Name_kw (ld_glob I hg hm (PySem.W.callWith_KW0 (h₀ := X.base) I.ok.mod.kin M.kp hall ?_ hpl) hdb)⟩
  refine thn (hkw.run pos pins s σ H _ I h) fun ws s2 ⟨zs, H2, I2, rz, l1, l2, q2⟩ => ⟨I2.kIn, ?_⟩
  rw [hks]
  exact run_new (us := []) (vs := []) M F hr gd hb (hx σ) I2 .nil rz rfl l2 q2
theorem pe_newKW (M : Mk X.K C f) (F : FnG b X.prog X.w X.K X.mg X.base k f fd ps sp) (hr : Room (k + 1) X.A) (gd : b = true → X.A.guards = some []) (hg : Gl X x) (hm : X.mg x = some (.ref C)) (hb : KBn X.K fd ps (n + 1) ks g gV) (hx : ∀ σ, PassesAt (L2.CX X.prog X.w) X σ (WE W σ)) (ha : PA X (e :: es) t) (hkw : PK X kws tk)
    (hall : (backToKw pos (keywordEach kws X.env)).all (·.1.isSome) = true := by rfl) (hks : (backToKw pos (keywordEach kws X.env)).filterMap (·.1) = ks := by rfl) (hdb : (x == ("__debug__" : Str)) = false := by decide)
    (he : starEach (e :: es) X.env = (false, eval e X.env) :: starEach es X.env := by rfl) (hpl : ((backTo pos (starEach (e :: es) X.env)).any (·.1) || (backToKw pos (keywordEach kws X.env)).any (·.1.isNone)) = false := by rfl) :
    PE X (.Call (.Name x p) (e :: es) kws pos) (tNew C sp gV n ks.length (WE W) t tk) := by
  refine ⟨fun pins s σ H Q I h => wpAny_Call_Name_kw (ld_glob I hg hm (PySem.W.callWith_KW (h₀ := X.base) I.ok.mod.kin M.kp hall (thn (ha.run pos pins s σ H _ I h) fun us s1 ⟨vs, H1, I1, r, q⟩ => ?_) hpl he) hdb)⟩
  refine thn (hkw.run pos pins s1 σ H1 _ I1 q) fun ws s2 ⟨zs, H2, I2, rz, l1, l2, q2⟩ => ⟨I2.kIn, ?_⟩
  rw [hks]
  exact run_new M F hr gd hb (hx σ) I2 r rz l1 l2 q2
end
/-! in trees: a new cell, then __init__ -/
def newR (c : Nat) (g : Fn3) (ar : Nat) (args : List D) (M : Mem) : Res D := if args.length + 1 = ar then (match g (.ref M.length :: args) (M ++ [.ins c []]) with
  | .ok .non M2 => .ok (.ref M.length) M2
  | .exc k ds M2 => .exc k ds M2
  | _ => .no) else .no
def evNew (c : Nat) (g : Fn3) (ar : Nat) (gd : List D → List D → List D) (n m : Nat) (av ak : AV) : EV := fun σ M => (av σ M).bind fun xs M1 => (ak σ M1).bind fun ys M2 => if xs.length = n ∧ ys.length = m then newR c g ar (gd xs ys) M2 else .no
def LK (C : Ct) (W : WX) (X : Cx) (kws : List Keyword) (av : AV) : Prop := PK X kws (LA C W av)
theorem lk_nil {X : Cx} {C : Ct} {W : WX} : LK C W X [] avNil := ⟨fun po p s σ H Q I ⟨α, σ3, M, m, st, h⟩ => pk_nil.run po p s σ H Q I (h α H [] (Ext.refl _ _) m rfl)⟩
theorem lk_cons {X : Cx} {C : Ct} {W : WX} {kws : List Keyword} {nm : Option Str} {e : Expr} {kpos : Pos} {ev : EV} {av : AV} (ha : PE X e (LE C W ev)) (hr : LK C W X kws av) : LK C W X (⟨nm, e, kpos⟩ :: kws) (avCons ev av) := by
  refine ⟨fun po p s σ H Q I ⟨α, σ3, M, m, st, h⟩ => (pk_cons ha hr).run po p s σ H Q I ⟨α, σ3, M, m, st, (Fin.bind h).mono fun x H1 ⟨α1, M1, d, e1, m1, r1, h1⟩ => ?_⟩⟩
  refine ⟨α1, σ3, M1, m1, st.ext e1, (Fin.bind h1).mono fun y H2 ⟨α2, M2, d2, e2, m2, r2, h2⟩ => ?_⟩
  exact h2 α2 H2 _ (Ext.refl _ _) m2 ⟨x, y, rfl, r1.ext e2, r2⟩
section
variable {b : Bool} {X : Cx} {C : Ct} {W : WX} {k n m c : Nat} {f : Addr} {fd : FuncData} {ps ks : List Str} {g : Fn3} {ar : Nat} {av ak : AV} {gV : List V → List V → List V} {gd : List D → List D → List D}
/-- how arguments go round, the same of trees and of values -/
def Goes (C : Ct) (n m : Nat) (gd : List D → List D → List D) (gV : List V → List V → List V) : Prop := ∀ α H xs ys vs zs (x : V), xs.length = n → ys.length = m → Rls C α H xs vs → Rls C α H ys zs → ∃ us, gV (x :: vs) zs = x :: us ∧ Rls C α H (gd xs ys) us
theorem new_imp (hg : Goes C n m gd gV) {σ : L2.St} {H : Hp} {Q : VK} {t tk : TA} (h : LE C W (evNew c g ar gd n m av ak) σ H Q) (ht : ∀ σ H Q, LA C W av σ H Q → t σ H Q) (htk : ∀ σ H Q, LA C W ak σ H Q → tk σ H Q) : tNew (C.cls c) (spF C g ar) gV n m (WE W) t tk σ H Q := by
  obtain ⟨α, σ3, M, mm, s, h⟩ := h
  refine ht _ _ _ ⟨α, σ3, M, mm, s, (Fin.bind h).mono fun vs H1 ⟨α1, M1, xs, e1, m1, r1, h1⟩ => ?_⟩
  refine htk _ _ _ ⟨α1, σ3, M1, m1, s.ext e1, (Fin.bind h1).mono fun zs H2 ⟨α2, M2, ys, e2, m2, r2, h2⟩ => ?_⟩
  have h2 : Fin C W σ (RD C) α2 H2 (if xs.length = n ∧ ys.length = m then newR c g ar (gd xs ys) M2 else .no) Q := h2
  by_cases z : xs.length = n ∧ ys.length = m
  · rw [if_pos z] at h2
    have r1 := Rls.ext e2 r1
    refine ⟨by rw [r1.length]; exact z.1, by rw [r2.length]; exact z.2, fun x dx hx hdx hne => ?_⟩
    obtain ⟨us, eu, ru⟩ := hg α2 H2 xs ys vs zs (.ref x) z.1 z.2 r1 r2
    rw [eu]
    unfold newR at h2
    by_cases y : (gd xs ys).length + 1 = ar
    · rw [if_pos y] at h2
      have hx' : upd H2 dx (.own x) x = none := by rw [upd_ne (fun q => hne q.symm)]; exact hx
      have ma : SMem C α2 M2 (upd H2 dx (.own x)) := m2.laid hdx
      have ea : Ext α2 H2 α2 (upd H2 dx (.own x)) := Ext.laid (C := C) (M := M2) hdx
      have eb : Ext α2 (upd H2 dx (.own x)) (α2 ++ [x]) (upd (upd H2 dx (.own x)) x (.ins (C.cls c) dx [])) := Ext.cell ma hx'
      have mb : SMem C (α2 ++ [x]) (M2 ++ [.ins c []]) (upd (upd H2 dx (.own x)) x (.ins (C.cls c) dx [])) := ma.push (c := .ins c []) hx' ⟨dx, [], by rw [List.zip_nil_right]; exact upd_same, Nat.zero_le _, rfl⟩
      refine ⟨by rw [List.length_cons, ru.length]; exact y, α2 ++ [x], M2 ++ [.ins c []], .ref M2.length :: gd xs ys, mb, ⟨.ref x, us, rfl, ⟨x, by rw [← m2.len]; simp, rfl⟩, ru.ext (ea.trans eb)⟩, ?_⟩
      have gx : (α2 ++ [x])[M2.length]? = some x := by rw [← m2.len]; simp
      cases q : g (.ref M2.length :: gd xs ys) (M2 ++ [.ins c []]) with
      | no => rw [q] at h2; exact h2.elim
      | exc k ds M3 => rw [q] at h2; exact fun α3 H3 d3 e3 m3 x3 => h2 α3 H3 d3 (ea.trans (eb.trans e3)) m3 x3
      | ok d M3 =>
        rw [q] at h2
        cases d with
        | non => exact fun α3 H3 v e3 m3 r3 => ⟨r3, h2 α3 H3 (.ref x) (ea.trans (eb.trans e3)) m3 ⟨x, e3.get gx, rfl⟩⟩
        | _ => exact h2.elim
    · rw [if_neg y] at h2; exact h2.elim
  · rw [if_neg z] at h2; exact h2.elim
end
section
variable {b : Bool} {X : Cx} {C : Ct} {W : WX} {k n c : Nat} {f cl : Addr} {fd : FuncData} {ps ks : List Str} {g : Fn3} {ar : Nat} {x : Str} {p pos : Pos} {e : Expr} {es : List Expr} {kws : List Keyword} {av ak : AV} {gB : List Value → List Value → List Value} {gV : List V → List V → List V} {gd : List D → List D → List D}
theorem l_newP (hC : C.cls c = cl) (M : Mk X.K cl f) (F : FnG b X.prog X.w X.K X.mg X.base k f fd ps (spF C g ar)) (hr : Room (k + 1) X.A) (gu : b = true → X.A.guards = some []) (hg : Gl X x) (hm : X.mg x = some (.ref cl)) (hb : KBn X.K fd ps (n + 1) [] gB gV) (hgo : Goes C n 0 gd gV) (hx : ∀ σ, PassesAt (L2.CX X.prog X.w) X σ (WE W σ))
    (ha : PA X (e :: es) (LA C W av)) (hdb : (x == ("__debug__" : Str)) = false := by decide) (he : starEach (e :: es) X.env = (false, eval e X.env) :: starEach es X.env := by rfl) (hpl : (backTo pos (starEach es X.env)).any (·.1) = false := by rfl) :
    PE X (.Call (.Name x p) (e :: es) [] pos) (LE C W (evNew c g ar gd n 0 av avNil)) := by
  subst hC
  exact PEimp (pe_newP M F hr gu hg hm hb hx ha hdb he hpl) fun σ H Q h => new_imp hgo h (fun _ _ _ z => z) fun σ H Q ⟨α, σ3, M, m, s, z⟩ => z α H [] (Ext.refl _ _) m rfl
theorem l_newK0 (hC : C.cls c = cl) (M : Mk X.K cl f) (F : FnG b X.prog X.w X.K X.mg X.base k f fd ps (spF C g ar)) (hr : Room (k + 1) X.A) (gu : b = true → X.A.guards = some []) (hg : Gl X x) (hm : X.mg x = some (.ref cl)) (hb : KBn X.K fd ps 1 ks gB gV) (hgo : Goes C 0 ks.length gd gV) (hx : ∀ σ, PassesAt (L2.CX X.prog X.w) X σ (WE W σ)) (hkw : LK C W X kws ak)
    (hall : (backToKw pos (keywordEach kws X.env)).all (·.1.isSome) = true := by rfl) (hks : (backToKw pos (keywordEach kws X.env)).filterMap (·.1) = ks := by rfl) (hdb : (x == ("__debug__" : Str)) = false := by decide)
    (hpl : ((backTo pos (starEach [] X.env)).any (·.1) || (backToKw pos (keywordEach kws X.env)).any (·.1.isNone)) = false := by rfl) :
    PE X (.Call (.Name x p) [] kws pos) (LE C W (evNew c g ar gd 0 ks.length avNil ak)) := by
  subst hC
  exact PEimp (pe_newK0 M F hr gu hg hm hb hx hkw hall hks hdb hpl) fun σ H Q h => new_imp hgo h (fun σ H Q ⟨α, σ3, M, m, s, z⟩ => z α H [] (Ext.refl _ _) m rfl) fun _ _ _ z => z
end

/-! ### a law's end -/
theorem walk_g {l : PySem.W.OpenLaw} {n k : Nat} {q : Program} {loose : List Str} {XP : (Str → Option Value) → Heap → Prop} {YP : World → Heap → Prop} {d : DefRec} {x : Str}
    (hn : l.most = some n) (hn2 : n ≤ sizeLine) (hdf : d.params.defaults = []) (hr : Room k callerA)
    (F : ∀ (w : World) (mg : Str → Option Value) (fa : Addr) (h : Heap), YP w h → h.Ns mainGlobals mg → mg d.name = some (.ref fa) →
      ∃ (C : Ct) (fd : FuncData) (g : Fn3), C.K.In h ∧ (∀ (s : Shared) (u : Value), BindsTo s fd ⟨[u], []⟩ [(x, u)]) ∧
        (∀ ns : List Int, ns.length ≤ n → (∀ z ∈ ns, Builtin.Int.intBits z ≤ 1048576) → ∃ M, g [.scr (ns.map D.int)] [] = .ok (.bl true) M) ∧
        ∀ base : Heap, C.K.In base → base.Ns mainGlobals mg → FnG true l.prog w C.K mg base k fa fd [x] (spF C g 1)) :
    PySem.W.WalkO q loose XP YP l.row.toRowW d [] (fun f vs => PySem.call f vs) := by
  refine Att.attach_callB hn hdf fun w s₀ s₁ mg mb fa o pm cd doc a vs ns G Y ho hd hcd hmg hobj hints hlen hbits gens => ?_
  obtain ⟨C, fd, g, KX, bind, pure_, FG⟩ := F w mg fa _ Y G.T.g hmg
  obtain ⟨Mf, law⟩ := pure_ ns hlen hbits
  have rints : ∀ (H : Hp) (is : List Int), Rls C [] H (is.map D.int) (is.map V.int) := fun H is => by
    induction is with
    | nil => exact rfl
    | cons i r ih => exact ⟨.int i, _, rfl, rfl, ih⟩
  have go : ∀ H : Hp, (∀ b u, H b = some u → b = a ∧ C.K.lookup a = none ∧ u = .frz { cls := .type "list", data := .seq vs.toArray } (.lst (ns.map V.int))) → Rl C [] H (.scr (ns.map D.int)) (.ref a) →
      codeAny (model l.prog w) callerA (.call (.ref fa) ⟨[.ref a], []⟩) (fun r s' => r = .ok (.ret (.bool true)) ∧ OldK s₁.heap s'.heap ∧ s'.os = s₁.os ∧ AllBare s'.gens) s₁ := by
    intro H hH rel
    have ok : HOk l.prog w H s₁.heap := fun b u e => by
      obtain ⟨rfl, _, rfl⟩ := hH b u e
      exact ⟨hobj, by rw [List.length_map]; exact Nat.le_trans hlen hn2, vs, _, vals_ints hints, hobj⟩
    have seen : ∀ {b : Addr} {u : Obj}, s₁.heap.get? b = some u → (b = a → C.K.lookup a ≠ none ∨ u.cls ≠ .type "list") → (hidT s₁.heap H).get? b = some u := fun {b u} e n => hidT_get e (by
      cases z : H b with
      | none => rfl
      | some v =>
        obtain ⟨rfl, z2, _⟩ := hH b v z
        rcases n rfl with n | n
        · exact absurd z2 n
        · rw [hobj] at e; cases e; exact absurd rfl n)
    have kin : C.K.In (hidT s₁.heap H) := fun b u e => seen (KX b u e) fun q => .inl (by rw [← q, e]; exact fun z => nomatch z)
    have nsp : ∀ {b : Addr} {m : Str → Option Value}, s₁.heap.Ns b m → (hidT s₁.heap H).Ns b m := fun {b m} ⟨u, es, ep, e, dd, r⟩ => ⟨u, es, ep, hidT_get e (by
      cases z : H b with
      | none => rfl
      | some v =>
        obtain ⟨rfl, _, _⟩ := hH b v z
        rw [hobj] at e; cases e; cases dd), dd, r⟩
    have env : Env0 l.prog w C.K mg (hidT s₁.heap H) callerA [] s₁ H := ⟨rfl, ⟨kin, nsp G.T.g, ⟨mb, nsp G.T.b, G.T.builtins⟩, (let ⟨mc, h1, h2⟩ := G.T.nolimit; ⟨mc, nsp h1, h2⟩)⟩, fun b u e => of_hidT e, Nat.le_of_eq (hidT_size _ _), trivial, fun b hb => absurd hb (by simp [frs]), ok, .of_eq gens⟩
    have run := (FG _ kin (nsp G.T.g)).run callerA [] s₁ H ⟨[.ref a], []⟩ [.ref a] [.ref a] (fun v _ => v = .bl true) (fun _ _ _ => False) hr (fun _ => rfl) env (bind s₁ (.ref a)) (.cons rfl .nil)
      ⟨rfl, [], [], [.scr (ns.map D.int)], ⟨rfl, List.nodup_nil, fun n c b h => by simp at h⟩, Rls.one rel, by rw [law]; exact fun α' H' v _ _ r => r⟩
    refine codeAny_mono run fun r s' z => ?_
    cases r with
    | error e =>
      obtain ⟨_, _, _, _, _, _, _, _, _, _, _, _, z⟩ := z
      exact z.elim
    | ok fl =>
      cases fl with
      | ret u =>
        obtain ⟨v, H', os, bare, un, ok', rv, z⟩ := z
        obtain rfl : v = .bl true := z
        obtain rfl : u = Value.bool true := rv
        refine ⟨rfl, OldK.of_keep fun b u e => ?_, os, bare⟩
        cases z : H b with
        | none => exact un.keep b u e z (fun y => absurd y (by simp [frs])) (by simp)
        | some v =>
          obtain ⟨rfl, _, rfl⟩ := hH b v z
          have h2 := ok' b _ (un.frzs b _ _ z)
          rw [hobj] at e; cases e
          exact h2.1
      | _ => exact False.elim z
  cases hk : C.K.lookup a with
  | some o' =>
    have e := KX a o' hk
    rw [hobj] at e
    cases e
    exact go (fun _ => none) (fun b u z => nomatch z) ⟨a, _, rfl, .inr ⟨_, vs.toArray, _, hk, rfl, rfl, rfl, by rw [List.size_toArray, hints.length]; exact Nat.le_trans hlen hn2, by simpa using vals_ints hints⟩, rints _ ns⟩
  | none =>
    refine go (fun b => if b = a then some (.frz { cls := .type "list", data := .seq vs.toArray } (.lst (ns.map V.int))) else none) (fun b u z => ?_) ⟨a, _, rfl, .inl ⟨by simp, .inr ⟨_, if_pos rfl⟩⟩, rints _ ns⟩
    by_cases y : b = a
    · rw [if_pos y] at z; cases z; exact ⟨y, hk, rfl⟩
    · rw [if_neg y] at z; cases z
end L3

set_option Elab.async false
set_option linter.all false
set_option maxRecDepth 100000
set_option maxHeartbeats 4000000
namespace L3
open PySem PySem.Spec PyProof.Rows L2

/-! ### own classes: fields by codes -/
structure CtOk (C : Ct) (T : List (List Nat)) (nm : List Str) : Prop where
  fl : ∀ c, C.fl c = (T.getD c []).map (nm.getD · Str.empty)
  nd : nm.Nodup
  low : ∀ l ∈ T, (∀ j ∈ l, j < nm.length) ∧ l.length < 1000
  cls : ∀ c f, f ∈ C.fl c → Cls C.K (C.cls c) ∧ NoAttr C.K (C.cls c) f
def nfT (T : List (List Nat)) : Nat → Nat := fun c => (T.getD c []).length
theorem CtOk.nf {C : Ct} {T : List (List Nat)} {nm : List Str} (k : CtOk C T nm) : ∀ c, nfT T c = (C.fl c).length := fun c => by rw [k.fl, List.length_map]; rfl
theorem getD_mem {T : List (List Nat)} {c : Nat} : T.getD c [] = [] ∨ T.getD c [] ∈ T := by
  rw [List.getD_eq_getElem?_getD]
  cases h : T[c]? with
  | none => exact .inl rfl
  | some l => exact .inr (List.mem_of_getElem? h)
theorem CtOk.same {C : Ct} {T : List (List Nat)} {nm : List Str} (k : CtOk C T nm) {c j g : Nat} {f : Str} (hj : nm[j]? = some f) (hg : g ∈ T.getD c []) : nm.getD g Str.empty = f ↔ g = j := by
  have hl : g < nm.length := by
    rcases getD_mem (T := T) (c := c) with h | h
    · rw [h] at hg; cases hg
    · exact (k.low _ h).1 g hg
  obtain ⟨h1, h2⟩ := List.getElem?_eq_some_iff.mp hj
  rw [List.getD_eq_getElem?_getD, List.getElem?_eq_getElem hl]
  show nm[g] = f ↔ g = j
  constructor
  · intro e
    rw [← h2] at e
    have q := List.pairwise_iff_getElem.mp k.nd
    rcases Nat.lt_trichotomy g j with z | z | z
    · exact absurd e (q g j hl h1 z)
    · exact z
    · exact absurd e.symm (q j g h1 hl z)
  · intro e; subst e; exact h2
def lkN : List Nat → List D → Nat → Option D
  | g :: fs, d :: ds, j => if g = j then some d else lkN fs ds j
  | _, _, _ => none
def putN : List Nat → Nat → D → List D → Option (List D)
  | g :: fs, j, y, d :: ds => if g = j then some (y :: ds) else (putN fs j y ds).map (d :: ·)
  | g :: fs, j, y, [] => if g = j then some [y] else none
  | [], _, _, _ => none
theorem lkN_ok {C : Ct} {α : List Addr} {H : Hp} {nm : Nat → Str} {f : Str} {j : Nat} {d : D} : ∀ {fs : List Nat} {ds : List D} {vs : List V}, (∀ g ∈ fs, nm g = f ↔ g = j) → Rls C α H ds vs → lkN fs ds j = some d → ∃ v, ((fs.map nm).zip vs).lookup f = some v ∧ Rl C α H d v
  | [], _, _, _, _, h => by simp [lkN] at h
  | _ :: _, [], _, _, _, h => by simp [lkN] at h
  | g :: fs, e :: ds, _, hs, ⟨v, r, q, hv, hr⟩, h => by
    subst q
    have h : (if g = j then some e else lkN fs ds j) = some d := h
    have hg := hs g List.mem_cons_self
    show ∃ w, List.lookup f ((nm g, v) :: (fs.map nm).zip r) = some w ∧ _
    by_cases z : g = j
    · rw [if_pos z] at h; cases h
      have e1 : (f == nm g) = true := beq_iff_eq.mpr (hg.mpr z).symm
      exact ⟨v, by rw [List.lookup_cons, e1], hv⟩
    · rw [if_neg z] at h
      have e1 : (f == nm g) = false := by
        cases q : f == nm g with
        | false => rfl
        | true => exact absurd (hg.mp (beq_iff_eq.mp q).symm) z
      obtain ⟨w, h1, h2⟩ := lkN_ok (fun g hg => hs g (List.mem_cons_of_mem _ hg)) hr h
      exact ⟨w, by rw [List.lookup_cons, e1]; exact h1, h2⟩
theorem putN_ok {C : Ct} {α : List Addr} {H : Hp} {nm : Nat → Str} {f : Str} {j : Nat} {y : D} {u : V} (hu : Rl C α H y u) : ∀ {fs : List Nat} {ds ds' : List D} {vs : List V}, (∀ g ∈ fs, nm g = f ↔ g = j) → Rls C α H ds vs → putN fs j y ds = some ds' →
    ∃ vs', putF f u ((fs.map nm).zip vs) = (fs.map nm).zip vs' ∧ Rls C α H ds' vs' ∧ (vs.length ≤ fs.length → vs'.length ≤ fs.length)
  | [], _, _, _, _, _, h => by simp [putN] at h
  | g :: fs, [], ds', _, hs, r, h => by
    cases r
    have h : (if g = j then some [y] else none) = some ds' := h
    by_cases z : g = j
    · rw [if_pos z] at h; cases h
      have e := (hs g List.mem_cons_self).mpr z
      refine ⟨[u], ?_, Rls.one hu, fun _ => by simp⟩
      show putF f u [] = [(nm g, u)] ++ (fs.map nm).zip []
      rw [e]; simp [putF]
    · rw [if_neg z] at h; cases h
  | g :: fs, e :: ds, ds', _, hs, ⟨v, r, q, hv, hr⟩, h => by
    subst q
    have h : (if g = j then some (y :: ds) else (putN fs j y ds).map (e :: ·)) = some ds' := h
    have hg := hs g List.mem_cons_self
    have pf : putF f u ((nm g, v) :: (fs.map nm).zip r) = if nm g = f then (nm g, u) :: (fs.map nm).zip r else (nm g, v) :: putF f u ((fs.map nm).zip r) := rfl
    show ∃ vs', putF f u ((nm g, v) :: (fs.map nm).zip r) = (nm g :: fs.map nm).zip vs' ∧ _
    by_cases z : g = j
    · rw [if_pos z] at h; cases h
      rw [pf, if_pos (hg.mpr z)]
      exact ⟨u :: r, rfl, Rls.cons hu hr, fun l => by simpa using l⟩
    · rw [if_neg z] at h
      rw [pf, if_neg (fun e => z (hg.mp e))]
      cases w : putN fs j y ds with
      | none => rw [w] at h; cases h
      | some es =>
        rw [w] at h; cases h
        obtain ⟨vs', h1, h2, h3⟩ := putN_ok hu (fun g hg => hs g (List.mem_cons_of_mem _ hg)) hr w
        exact ⟨v :: vs', by rw [h1]; rfl, Rls.cons hv h2, fun l => by have := h3 (by simpa using l); simpa using this⟩
def dFld (T : List (List Nat)) (j : Nat) : D → Mem → Res D := fun x M => match x with
  | .obj c ds => (match lkN (T.getD c []) ds j with
    | some d => .ok d M
    | none => .no)
  | .ref n => (match M[n]? with
    | some (.ins c ds) => (match lkN (T.getD c []) ds j with
      | some d => .ok d M
      | none => .no)
    | _ => .no)
  | _ => .no
section
variable {X : Cx} {C : Ct} {W : WX} {T : List (List Nat)} {nm : List Str} {eva evb : EV} {e o value : Expr} {f : Str} {j : Nat} {pos pos' : Pos}
theorem lkN_mem {fs : List Nat} {ds : List D} {d : D} (h : lkN fs ds j = some d) : j ∈ fs := by
  induction fs generalizing ds with
  | nil => simp [lkN] at h
  | cons g fs ih =>
    cases ds with
    | nil => simp [lkN] at h
    | cons e ds =>
      have h : (if g = j then some e else lkN fs ds j) = some d := h
      by_cases z : g = j
      · subst z; exact List.mem_cons_self
      · rw [if_neg z] at h; exact List.mem_cons_of_mem _ (ih h)
theorem putN_mem {fs : List Nat} {ds ds' : List D} {y : D} (h : putN fs j y ds = some ds') : j ∈ fs := by
  induction fs generalizing ds ds' with
  | nil => simp [putN] at h
  | cons g fs ih =>
    by_cases z : g = j
    · subst z; exact List.mem_cons_self
    · cases ds with
      | nil => have h : (if g = j then some [y] else none) = some ds' := h; rw [if_neg z] at h; cases h
      | cons e ds =>
        have h : (if g = j then some (y :: ds) else (putN fs j y ds).map (e :: ·)) = some ds' := h
        rw [if_neg z] at h
        cases w : putN fs j y ds with
        | none => rw [w] at h; cases h
        | some es => exact List.mem_cons_of_mem _ (ih w)
theorem CtOk.mem (k : CtOk C T nm) {c : Nat} (hj : nm[j]? = some f) (h : j ∈ T.getD c []) : f ∈ C.fl c := by
  rw [k.fl]
  exact List.mem_map.mpr ⟨j, h, by rw [List.getD_eq_getElem?_getD, hj]; rfl⟩
theorem l_fld (j : Nat) (k : CtOk C T nm) (hj : nm[j]? = some f) (he : PE X e (LE C W eva)) (hb : attributeBase e f X.env (eval e X.env) = eval e X.env := by rfl) (hK : C.K = X.K := by rfl) : PE X (.Attribute e f pos) (LE C W (ev1 (dFld T j) eva)) := by
  refine PEimp (pe_fld he hb) fun σ H Q ⟨α, σ3, M, m, s, h⟩ => ⟨α, σ3, M, m, s, (Fin.bind h).mono fun x H1 ⟨α1, M1, d, e1, m1, r1, h1⟩ => ?_⟩
  have core : ∀ (c : Nat) (ds : List D) (a dx : Addr) (vs : List V), x = .ref a → H1 a = some (.ins (C.cls c) dx ((C.fl c).zip vs)) → Rls C α1 H1 ds vs → Fin C W σ (RD C) α1 H1 (match lkN (T.getD c []) ds j with
      | some d => .ok d M1
      | none => .no) Q → ∃ a Cl dx fs v, x = .ref a ∧ H1 a = some (.ins Cl dx fs) ∧ Cls X.K Cl ∧ NoAttr X.K Cl f ∧ fs.lookup f = some v ∧ Q v H1 := by
    intro c ds a dx vs e ha rs h2
    cases q : lkN (T.getD c []) ds j with
    | none => rw [q] at h2; exact h2.elim
    | some d =>
      rw [q] at h2
      obtain ⟨v, h3, h4⟩ := lkN_ok (nm := (nm.getD · Str.empty)) (f := f) (fun g hg => k.same hj hg) rs q
      obtain ⟨c1, c2⟩ := k.cls c f (k.mem hj (lkN_mem q))
      rw [← hK]
      exact ⟨a, C.cls c, dx, _, v, e, ha, c1, c2, by rw [k.fl]; exact h3, fin_ok m1 h4 h2⟩
  cases d with
  | obj c ds =>
    obtain ⟨a, dx, vs, rfl, n, ha, l, rs⟩ := r1
    exact core c ds a dx vs rfl ha rs h1
  | ref n =>
    obtain ⟨a, ha, rfl⟩ := r1
    have h1 : Fin C W σ (RD C) α1 H1 (match M1[n]? with
      | some (.ins c ds) => (match lkN (T.getD c []) ds j with
        | some d => .ok d M1
        | none => .no)
      | _ => .no) Q := h1
    cases q : M1[n]? with
    | none => rw [q] at h1; exact h1.elim
    | some cl =>
      rw [q] at h1
      cases cl with
      | ins c ds =>
        obtain ⟨dx, vs, hv, l, rs⟩ := m1.cell n _ a q ha
        exact core c ds a dx vs rfl hv rs h1
      | _ => exact h1.elim
  | _ => exact h1.elim
def svFld (T : List (List Nat)) (j : Nat) (o v : EV) : SV := fun σ M => (v σ M).out σ fun y M1 => (o σ M1).out σ fun x M2 => match x with
  | .ref n => (match M2[n]? with
    | some (.ins c ds) => (match putN (T.getD c []) j y ds with
      | some ds' => .nx σ (M2.set n (.ins c ds'))
      | none => .no)
    | _ => .no)
  | _ => .no
theorem s_fld (j : Nat) (k : CtOk C T nm) (hj : nm[j]? = some f) (ho : PE X o (LE C W eva)) (hv : PE X value (LE C W evb)) (hs : swapsWith value (some (.Attribute o f pos')) pos.line X.env = pure false := by rfl) (hK : C.K = X.K := by rfl) : PS X (.Assign [.Attribute o f pos'] value pos) (LS C W (svFld T j eva evb)) := by
  refine PSimp (ps_fld ho hv hs) fun D σ H ⟨α, σ3, M, m, s, h⟩ => ⟨α, σ3, M, m, s, (FinS.out s h).mono fun u H1 ⟨α1, M1, y, e1, m1, r1, h1⟩ => ?_⟩
  refine ⟨α1, σ3, M1, m1, s.ext e1, (FinS.out (s.ext e1) h1).mono fun x H2 ⟨α2, M2, d, e2, m2, r2, h2⟩ => ?_⟩
  cases d with
  | ref n =>
    obtain ⟨a, ha, rfl⟩ := r2
    have h2 : FinS C W D α2 H2 (match M2[n]? with
      | some (.ins c ds) => (match putN (T.getD c []) j y ds with
        | some ds' => .nx σ3 (M2.set n (.ins c ds'))
        | none => .no)
      | _ => .no) := h2
    cases q : M2[n]? with
    | none => rw [q] at h2; exact h2.elim
    | some cl =>
      rw [q] at h2
      cases cl with
      | ins c ds =>
        have h2 : FinS C W D α2 H2 (match putN (T.getD c []) j y ds with
          | some ds' => .nx σ3 (M2.set n (.ins c ds'))
          | none => .no) := h2
        obtain ⟨dx, vs, hv, l, rs⟩ := m2.cell n _ a q ha
        cases q2 : putN (T.getD c []) j y ds with
        | none => rw [q2] at h2; exact h2.elim
        | some ds' =>
          rw [q2] at h2
          obtain ⟨vs', g1, g2, g3⟩ := putN_ok (nm := (nm.getD · Str.empty)) (f := f) (r1.ext e2) (fun g hg => k.same hj hg) rs q2
          obtain ⟨c1, c2⟩ := k.cls c f (k.mem hj (putN_mem q2))
          have lf : (C.fl c).length < 1000 := by
            rw [k.fl, List.length_map]
            rcases getD_mem (T := T) (c := c) with z | z
            · rw [z]; decide
            · exact (k.low _ z).2
          have hz : ((C.fl c).zip vs).length < 1000 := by rw [List.length_zip]; omega
          rw [← hK]
          refine ⟨a, C.cls c, dx, _, rfl, hv, c1, c2, hz, ?_⟩
          have ep : putF f u ((C.fl c).zip vs) = (C.fl c).zip vs' := by rw [k.fl]; exact g1
          rw [ep]
          have ew : Ext α2 H2 α2 (upd H2 a (.ins (C.cls c) dx ((C.fl c).zip vs'))) := Ext.write m2 ha
          have lv : vs'.length ≤ (C.fl c).length := by
            rw [k.fl, List.length_map] at l ⊢
            exact g3 l
          exact h2 α2 _ σ ew (m2.write (c := .ins c ds') ha ⟨dx, vs', upd_same, lv, g2.ext ew⟩) (s.ext (e1.trans (e2.trans ew)))
      | _ => exact h2.elim
  | _ => exact h2.elim
end
end L3

set_option Elab.async false
set_option linter.all false
set_option maxRecDepth 100000
set_option maxHeartbeats 4000000
namespace L3
open PySem PySem.Spec PyProof.Rows L2

/-! ### a, b, .. = xs, xs a list -/
section
variable {prog : Program} {w : World} {A : Around} {E : Value → Shared → Prop} {s : Shared}
theorem drawL {it l : Addr} {items : Array Value} (hne : l ≠ it) : ∀ (n i : Nat) (s : Shared) (Q : List Value → Shared → Prop), s.heap.IsListIter it l i → s.heap.IsList l items → i + n ≤ items.size →
    (∀ h', h'.IsListIter it l (i + n) → Heap.SameBut it s.heap h' → Q ((items.toList.drop i).take n) { s with heap := h' }) → wpAny (model prog w) A (PySem.draw (.ref it) n) Q E s
  | 0, i, s, Q, hi, _, _, q => wpAny_pure (by simpa using q s.heap hi (Heap.SameBut.refl ..))
  | n + 1, i, s, Q, hi, hl, le, q => by
    have lt : i < items.size := by omega
    show wpAny _ _ (pyNext (.ref it) >>= _) Q E s
    refine wpAny_bind (wpAny_pyNext_list_item hi hl (x := items[i]) (by simp [lt]) fun h1 i1 s1 => ?_)
    refine wpAny_bind (wpAny_holding (drawL hne n (i + 1) _ _ i1 (hl.extBut s1.extBut hne) (by omega) fun h2 i2 s2 => wpAny_pure ?_))
    have e : items.toList.drop i = items[i] :: items.toList.drop (i + 1) := by simp [List.drop_eq_getElem_cons, lt]
    have z := q h2 (by rw [show i + (n + 1) = i + 1 + n by omega]; exact i2) (s1.trans s2)
    rw [e, List.take_succ_cons] at z
    exact z
theorem unpackL {l : Addr} {items : Array Value} {Q : List Value → Shared → Prop} (hh : A.handled = none) (hl : s.heap.IsList l items)
    (q : ∀ h', Heap.ExtBut s.heap.objs.size s.heap h' → Q items.toList { s with heap := h' }) : wpAny (model prog w) A (unpackItems (.ref l) items.size none) Q E s := by
  have lt : l ≠ s.heap.objs.size := by obtain ⟨o, ho, _⟩ := hl; exact Nat.ne_of_lt (Heap.lt_size ho)
  have all : List.take items.size (List.drop 0 items.toList) = items.toList := by
    rw [List.drop_zero]; exact List.take_of_length_le (by simp)
  have push : (s.heap.push { cls := .type "list_iterator", data := .fields #[.ref l, .int 0 0] }).IsList l items := hl.at fun o e => Heap.get?_push_of_some _ e
  unfold unpackItems
  refine wpAny_bind ?_
  unfold notIterableAtAll
  refine wpAny_bind (wpAny_specialOf hl.typeIs slot_list_iter.lookup (wpAny_pure ?_))
  simp only [Bool.false_eq_true, if_false]
  refine wpAny_bind (wpAny_holding (wpAny_pyIter_list hl (wpAny_bind (wpAny_holding (drawL lt items.size 0 _ _ ⟨_, Heap.get?_push_size _ rfl, rfl, rfl⟩ push (by omega) fun h1 i1 s1 => ?_)))))
  rw [all, if_neg (by simp)]
  refine wpAny_bind (wpAny_holding (wpAny_pyNext_list_end hh i1 (push.extBut s1.extBut lt) (by simp) fun h2 e2 => ?_))
  simp only [Option.isSome_none, Bool.false_eq_true, if_false]
  exact wpAny_pure (q h2 fun b o hb e => e2 b o hb (s1.extBut b o hb (Heap.get?_push_of_some _ e)))
end
def gLst (K : PySem.W.Frag) (n : Nat) (t : TGs) : TG := fun v σ H Q => ∃ a xs, v = .ref a ∧ SqL K H a xs ∧ xs.length = n ∧ t xs σ H Q
theorem pg_lst {X : Cx} {es : List Expr} {k : Nat} {t : TGs} {n : Nat} {pos : Pos} (hc : X.calm = true) (h : PGs X es t) (hn : (assignEach es X.env).length = n := by rfl) (hst : (assignEach es X.env).findIdx? (·.1) = none := by rfl) : PG X (.Tuple es k pos) (gLst X.K n t) := by
  refine ⟨fun pins s σ H v u Q I r q => ?_⟩
  obtain ⟨a, xs, rfl, hs, hl, q⟩ := q
  cases r
  obtain ⟨its, rv, pl, _⟩ := I.list hs
  rw [PyProof.Rows.assign_Tuple]
  refine wpAny_bind (wpAny_standAt ?_)
  unfold unpack
  have en : (assignEach es X.env).length = its.toArray.size := by rw [List.size_toArray, hn, ← hl, rv.length]
  rw [en, hst]
  refine wpAny_bind (wpAny_holding (unpackL (I.ok.hd hc) pl.isList fun h' hx => ?_))
  exact h.run pins _ σ H xs _ Q (I.kept (t' := s.toks) fun b o e => hx b o (Nat.ne_of_lt (Heap.lt_size e)) e) (by simpa using rv) q
def gvUnp (n : Nat) (g : GVs) : GV := fun d σ M => match listOf M d with
  | some ds => if ds.length = n then g ds σ M else .no
  | none => .no
theorem g_unp {X : Cx} {C : Ct} {W : WX} {es : List Expr} {k n : Nat} {g : GVs} {pos : Pos} (hc : X.calm = true) (h : PGs X es (LGs C W g)) (hn : (assignEach es X.env).length = n := by rfl) (hst : (assignEach es X.env).findIdx? (·.1) = none := by rfl) (hK : C.K = X.K := by rfl) : PG X (.Tuple es k pos) (LG C W (gvUnp n g)) := by
  refine PGimp (pg_lst hc h hn hst) fun v σ H Q ⟨α, σ3, M, d, m, s, r, h⟩ => ?_
  have h : FinS C W { nx := Q, rt := fun _ _ => False } α H (match listOf M d with
    | some ds => if ds.length = n then g ds σ3 M else .no
    | none => .no) := h
  cases q : listOf M d with
  | none => rw [q] at h; exact h.elim
  | some ds =>
    rw [q] at h
    have h : FinS C W { nx := Q, rt := fun _ _ => False } α H (if ds.length = n then g ds σ3 M else .no) := h
    obtain ⟨a, vs, rfl, hs, rs⟩ := listOf_ok hK m r q
    by_cases z : ds.length = n
    · rw [if_pos z] at h
      exact ⟨a, vs, rfl, hs, by rw [rs.length]; exact z, α, σ3, M, ds, m, s, rs, h⟩
    · rw [if_neg z] at h; exact h.elim

/-! ### built-in functions -/
section
variable {X : Cx} {C : Ct} {W : WX} {x : Str} {id T : String} {r : List V → Hp → VK → Prop} {op : List D → Mem → Res D} {p pos : Pos} {e : Expr} {es : List Expr} {av : AV}
theorem l_blt (hc : CallR X (.builtin id) r) (lk : LinkA C r op) (hg : Gl X x) (hm : X.mg x = none) (hv : bootBuiltins x = some (.builtin id)) (ha : PA X (e :: es) (LA C W av)) (hn : x ≠ "__name__" := by decide) (hdb : (x == ("__debug__" : Str)) = false := by decide)
    (he : starEach (e :: es) X.env = (false, eval e X.env) :: starEach es X.env := by rfl) (hpl : (backTo pos (starEach es X.env)).any (·.1) = false := by rfl) : PE X (.Call (.Name x p) (e :: es) [] pos) (LE C W (evA op av)) :=
  PEimp (pe_callB hc hg hm hv ha hn hdb he hpl) fun _ _ _ h => opA lk h
theorem l_bltT (hc : CallR X (.type T) r) (lk : LinkA C r op) (hg : Gl X x) (hm : X.mg x = none) (hv : bootBuiltins x = some (.type T)) (ha : PA X (e :: es) (LA C W av)) (hn : x ≠ "__name__" := by decide) (hdb : (x == ("__debug__" : Str)) = false := by decide)
    (he : starEach (e :: es) X.env = (false, eval e X.env) :: starEach es X.env := by rfl) (hpl : (backTo pos (starEach es X.env)).any (·.1) = false := by rfl) : PE X (.Call (.Name x p) (e :: es) [] pos) (LE C W (evA op av)) :=
  PEimp (pe_callTy hc hg hm hv ha hn hdb he hpl) fun _ _ _ h => opA lk h
end
/-- one tree in -/
def a1 (op : D → Mem → Res D) : List D → Mem → Res D := fun xs M => match xs with
  | [x] => op x M
  | _ => .no
def a2 (op : D → D → Mem → Res D) : List D → Mem → Res D := fun xs M => match xs with
  | [x, y] => op x y M
  | _ => .no
theorem lk_a1 {C : Ct} {op : D → Mem → Res D} {r : List V → Hp → VK → Prop} (h : ∀ (W : WX) (σ : L2.St) (α : List Addr) (M : Mem) (H : Hp) (x : D) (v : V) (Q : VK), SMem C α M H → Rl C α H x v → Fin C W σ (RD C) α H (op x M) Q → r [v] H Q) : LinkA C r (a1 op) := by
  intro W σ α M H xs vs Q m rs k
  match xs, rs, k with
  | [x], rs, k => obtain ⟨v, _, rfl, rv, rfl⟩ := rs; exact h W σ α M H x v Q m rv k
  | [], _, k => exact k.elim
  | _ :: _ :: _, _, k => exact k.elim
theorem lk_a2 {C : Ct} {op : D → D → Mem → Res D} {r : List V → Hp → VK → Prop} (h : ∀ (W : WX) (σ : L2.St) (α : List Addr) (M : Mem) (H : Hp) (x y : D) (v u : V) (Q : VK), SMem C α M H → Rl C α H x v → Rl C α H y u → Fin C W σ (RD C) α H (op x y M) Q → r [v, u] H Q) : LinkA C r (a2 op) := by
  intro W σ α M H xs vs Q m rs k
  match xs, rs, k with
  | [x, y], rs, k => obtain ⟨v, _, rfl, rv, u, _, rfl, ru, rfl⟩ := rs; exact h W σ α M H x y v u Q m rv ru k
  | [], _, k => exact k.elim
  | [_], _, k => exact k.elim
  | _ :: _ :: _ :: _, _, k => exact k.elim
def dInt : D → Mem → Res D := fun x M => match x with
  | .int i => .ok (.int i) M
  | .bl b => .ok (.int (if b then 1 else 0)) M
  | _ => .no
def dAbs : D → Mem → Res D := fun x M => match x with
  | .int i => .ok (.int (if i < 0 then -i else i)) M
  | _ => .no
def dLen : D → Mem → Res D := fun x M => match x with
  | .str z => if z.length ≤ sizeLine then .ok (.int (z.length : Nat)) M else .no
  | x => match seqOf M x with
    | some ds => .ok (.int (ds.length : Nat)) M
    | none => .no
def dMax2 : D → D → Mem → Res D := int2 (fun _ _ => true) fun i j => .int (if j > i then j else i)
def dMin2 : D → D → Mem → Res D := int2 (fun _ _ => true) fun i j => .int (if j < i then j else i)
def dGcd : D → D → Mem → Res D := int2 (fun _ _ => true) fun i j => .int ((Nat.gcd i.natAbs j.natAbs : Nat) : Int)
def dListOf (cell : Bool) : D → Mem → Res D := fun x M => match seqOf M x with
  | some ds => newL cell ds M
  | none => .no
def dTupOf : D → Mem → Res D := fun x M => match x with
  | .tup ds => .ok (.tup ds) M
  | x => match listOf M x with
    | some ds => if ds.length ≤ sizeLine then .ok (.tup ds) M else .no
    | none => .no
def tyOf (M : Mem) : D → Option Ty
  | .non => some .none
  | .bl _ => some .bool
  | .int _ => some .int
  | .str _ => some .str
  | .tup _ => some .tuple
  | .lst _ => some .list
  | .scr _ => some .list
  | .dct _ _ => some .dict
  | .ref n => match M[n]? with
    | some (.lst _) => some .list
    | some (.dic _) => some .dict
    | _ => none
  | _ => none
def isTy : Ty → Ty → Bool
  | .bool, .int => true
  | a, b => decide (a = b)
def dIsi : D → D → Mem → Res D := fun x y M => match y with
  | .ty t => (match tyOf M x with
    | some u => .ok (.bl (isTy u t)) M
    | none => .no)
  | _ => .no
section
variable {X : Cx} {C : Ct}
theorem seqOf_ok {K : PySem.W.Frag} {α : List Addr} {M : Mem} {H : Hp} {d : D} {ds : List D} {v : V} (hK : C.K = K) (m : SMem C α M H) (r : Rl C α H d v) (h : seqOf M d = some ds) : ∃ a vs, v = .ref a ∧ (SqL K H a vs ∨ SqT K H a vs) ∧ Rls C α H ds vs := by
  cases d with
  | tup es => cases h; obtain ⟨a, vs, e, hs, rs⟩ := tupOf_ok (C := C) hK r rfl; exact ⟨a, vs, e, .inr hs, rs⟩
  | lst es => obtain ⟨a, vs, e, hs, rs⟩ := listOf_ok hK m r h; exact ⟨a, vs, e, .inl hs, rs⟩
  | scr es => obtain ⟨a, vs, e, hs, rs⟩ := listOf_ok hK m r h; exact ⟨a, vs, e, .inl hs, rs⟩
  | ref n => obtain ⟨a, vs, e, hs, rs⟩ := listOf_ok hK m r h; exact ⟨a, vs, e, .inl hs, rs⟩
  | _ => cases h
theorem lk_int : LinkA C (fun xs H Q => (∃ i, xs = [.int i] ∧ Q (.int i) H) ∨ ∃ k, xs = [.bl k] ∧ Q (.int (if k then 1 else 0)) H) (a1 dInt) := lk_a1 fun W σ α M H x v Q m r h => by
  cases x with
  | int i => cases r; exact .inl ⟨i, rfl, fin_ok (d := .int i) m rfl h⟩
  | bl b => cases r; exact .inr ⟨b, rfl, fin_ok (d := .int (if b then 1 else 0)) m rfl h⟩
  | _ => exact h.elim
theorem lk_abs : LinkA C (fun xs H Q => ∃ i, xs = [.int i] ∧ Q (.int (if i < 0 then -i else i)) H) (a1 dAbs) := lk_a1 fun W σ α M H x v Q m r h => by
  cases x with
  | int i => cases r; exact ⟨i, rfl, fin_ok (d := .int (if i < 0 then -i else i)) m rfl h⟩
  | _ => exact h.elim
theorem lk_len {K : PySem.W.Frag} (hK : C.K = K) : LinkA C (fun xs H Q => ∃ x n, xs = [x] ∧ LenV K x H n ∧ Q (.int n) H) (a1 dLen) := lk_a1 fun W σ α M H x v Q m r h => by
  have core : ∀ ds, seqOf M x = some ds → Fin C W σ (RD C) α H (.ok (.int (ds.length : Nat)) M) Q → ∃ y n, [v] = [y] ∧ LenV K y H n ∧ Q (.int n) H := fun ds q h => by
    obtain ⟨a, vs, rfl, hs, rs⟩ := seqOf_ok hK m r q
    have z := fin_ok (d := .int (ds.length : Nat)) (v := .int (ds.length : Nat)) m rfl h
    rw [← rs.length] at z
    rcases hs with hs | hs
    · exact ⟨_, vs.length, rfl, .inl ⟨vs, hs, rfl⟩, z⟩
    · exact ⟨_, vs.length, rfl, .inr ⟨vs, hs, rfl⟩, z⟩
  cases x with
  | str z =>
    cases r
    have h : Fin C W σ (RD C) α H (if z.length ≤ sizeLine then .ok (.int (z.length : Nat)) M else .no) Q := h
    by_cases y : z.length ≤ sizeLine
    · rw [if_pos y] at h; exact ⟨_, z.length, rfl, ⟨y, rfl⟩, fin_ok (d := .int (z.length : Nat)) m rfl h⟩
    · rw [if_neg y] at h; exact h.elim
  | tup es => exact core es rfl h
  | lst es => exact core es rfl h
  | scr es => exact core es rfl h
  | ref n =>
    have h : Fin C W σ (RD C) α H (match seqOf M (.ref n) with
      | some ds => .ok (.int (ds.length : Nat)) M
      | none => .no) Q := h
    cases q : seqOf M (.ref n) with
    | none => rw [q] at h; exact h.elim
    | some ds => rw [q] at h; exact core ds q h
  | _ => exact h.elim
theorem lk_max2 : LinkA C (fun xs H Q => ∃ i j, xs = [.int i, .int j] ∧ Q (.int (if j > i then j else i)) H) (a2 dMax2) := lk_a2 fun W σ α M H x y v u Q m rx ry h => by
  obtain ⟨i, j, rfl, rfl, q⟩ := lk_int2' (f := fun i j => .int (if j > i then j else i)) (g := fun i j => .int (if j > i then j else i)) (C := C) (fun _ _ _ _ => rfl) W σ α M H x y v u Q m rx ry h
  exact ⟨i, j, rfl, q⟩
theorem lk_min2 : LinkA C (fun xs H Q => ∃ i j, xs = [.int i, .int j] ∧ Q (.int (if j < i then j else i)) H) (a2 dMin2) := lk_a2 fun W σ α M H x y v u Q m rx ry h => by
  obtain ⟨i, j, rfl, rfl, q⟩ := lk_int2' (f := fun i j => .int (if j < i then j else i)) (g := fun i j => .int (if j < i then j else i)) (C := C) (fun _ _ _ _ => rfl) W σ α M H x y v u Q m rx ry h
  exact ⟨i, j, rfl, q⟩
theorem lk_gcd : LinkA C rGcd (a2 dGcd) := lk_a2 fun W σ α M H x y v u Q m rx ry h => by
  obtain ⟨i, j, rfl, rfl, q⟩ := lk_int2' (f := fun i j => .int ((Nat.gcd i.natAbs j.natAbs : Nat) : Int)) (g := fun i j => .int ((Nat.gcd i.natAbs j.natAbs : Nat) : Int)) (C := C) (fun _ _ _ _ => rfl) W σ α M H x y v u Q m rx ry h
  exact ⟨i, j, rfl, q⟩
theorem lk_listOf {K : PySem.W.Frag} {cell : Bool} (hK : C.K = K) : LinkA C (fun xs H Q => ∃ p ys, xs = [.ref p] ∧ (SqL K H p ys ∨ SqT K H p ys) ∧ ∀ l, H l = none → Q (.ref l) (upd H l (.lst ys))) (a1 (dListOf cell)) := lk_a1 fun W σ α M H x v Q m r h => by
  unfold dListOf at h
  cases q : seqOf M x with
  | none => rw [q] at h; exact h.elim
  | some ds =>
    rw [q] at h
    obtain ⟨a, vs, rfl, hs, rs⟩ := seqOf_ok hK m r q
    exact ⟨a, vs, rfl, hs, (newL_ok m rs h).2⟩
theorem lk_tupOf {K : PySem.W.Frag} (hK : C.K = K) : LinkA C (fun xs H Q => ∃ p ys, xs = [.ref p] ∧ ((SqL K H p ys ∧ ∀ l, H l = none → Q (.ref l) (upd H l (.tup ys))) ∨ (SqT K H p ys ∧ Q (.ref p) H))) (a1 dTupOf) := lk_a1 fun W σ α M H x v Q m r h => by
  have core : ∀ ds, listOf M x = some ds → Fin C W σ (RD C) α H (if ds.length ≤ sizeLine then .ok (.tup ds) M else .no) Q → ∃ p ys, [v] = [.ref p] ∧ ((SqL K H p ys ∧ ∀ l, H l = none → Q (.ref l) (upd H l (.tup ys))) ∨ (SqT K H p ys ∧ Q (.ref p) H)) := fun ds q h => by
    obtain ⟨a, vs, rfl, hs, rs⟩ := listOf_ok hK m r q
    by_cases z : ds.length ≤ sizeLine
    · rw [if_pos z] at h; exact ⟨a, vs, rfl, .inl ⟨hs, fin_new_tup m rs h⟩⟩
    · rw [if_neg z] at h; exact h.elim
  cases x with
  | tup ds =>
    have h : Fin C W σ (RD C) α H (.ok (.tup ds) M) Q := h
    have q := fin_ok m r h
    obtain ⟨a, vs, rfl, hs, rs⟩ := r
    exact ⟨a, vs, rfl, .inr ⟨SqT_of hK hs, q⟩⟩
  | lst es => exact core es rfl h
  | scr es => exact core es rfl h
  | ref n =>
    have h : Fin C W σ (RD C) α H (match listOf M (.ref n) with
      | some ds => if ds.length ≤ sizeLine then .ok (.tup ds) M else .no
      | none => .no) Q := h
    cases q : listOf M (.ref n) with
    | none => rw [q] at h; exact h.elim
    | some ds => rw [q] at h; exact core ds q h
  | _ => exact h.elim
theorem kitTy {K : PySem.W.Frag} (a b : Ty) : PySem.W.kitOne K (.type a.name) (.type b.name) = some (isTy a b) := by
  cases a <;> cases b <;> exact kit_ty (by decide +kernel)
theorem lk_isi {K : PySem.W.Frag} (hK : C.K = K) : LinkA C (rIsi K) (a2 dIsi) := lk_a2 fun W σ α M H x y v u Q m rx ry h => by
  cases y with
  | ty t =>
    cases ry
    have h : Fin C W σ (RD C) α H (match tyOf M x with
      | some u => .ok (.bl (isTy u t)) M
      | none => .no) Q := h
    have core : ∀ k, tyOf M x = some k → TyX K H v (.type k.name) → rIsi K [v, .ty t.name] H Q := fun k q tx => by
      rw [q] at h
      exact ⟨v, .ty t.name, .type k.name, .type t.name, isTy k t, rfl, .ty _, tx, kitTy k t, fin_ok (d := .bl (isTy k t)) m rfl h⟩
    have lst : ∀ a vs, SqL K H a vs → TyX K H (.ref a) (.type "list") := fun a vs hs => by
      rcases hs with (hs | ⟨o, hs⟩) | ⟨o, its, n, e, c, _⟩
      · exact .base (.lst hs)
      · exact .base (.frz hs)
      · exact .kList e c
    have tup : ∀ a vs, SqT K H a vs → TyX K H (.ref a) (.type "tuple") := fun a vs hs => by
      rcases hs with (hs | ⟨o, hs⟩) | ⟨o, its, n, e, c, _⟩
      · exact .base (.tup hs)
      · exact .fTuple hs
      · exact .kTuple e c
    cases x with
    | non => cases rx; exact core .none rfl (.base .non)
    | bl b => cases rx; exact core .bool rfl (.base (.bl b))
    | int b => cases rx; exact core .int rfl (.base (.int b))
    | str b => cases rx; exact core .str rfl (.base (.str b))
    | dct ks vs => obtain ⟨a, kws, rfl, _, hv, _⟩ := rx; exact core .dict rfl (.base (.dK hv))
    | tup ds => obtain ⟨a, vs, rfl, hs, rs⟩ := tupOf_ok (C := C) hK rx rfl; exact core .tuple rfl (tup a vs hs)
    | lst ds => obtain ⟨a, vs, rfl, hs, rs⟩ := listOf_ok (M := M) hK m rx rfl; exact core .list rfl (lst a vs hs)
    | scr ds => obtain ⟨a, vs, rfl, hs, rs⟩ := listOf_ok (M := M) hK m rx rfl; exact core .list rfl (lst a vs hs)
    | ref n =>
      obtain ⟨a, ha, rfl⟩ := rx
      cases q : M[n]? with
      | none => have e : tyOf M (.ref n) = none := by simp [tyOf, q]
                rw [e] at h; exact h.elim
      | some cl =>
        have rc := m.cell n cl a q ha
        cases cl with
        | lst ds => obtain ⟨vs, hv, rs⟩ := rc; exact core .list (by simp [tyOf, q]) (.base (.lst hv))
        | dic kvs => obtain ⟨kws, hv, _⟩ := rc; exact core .dict (by simp [tyOf, q]) (.base (.dK hv))
        | ins c ds =>
          have e : tyOf M (.ref n) = none := by simp [tyOf, q]
          rw [e] at h; exact h.elim
    | _ => exact h.elim
  | _ => exact h.elim
end
end L3

set_option Elab.async false
set_option linter.all false
set_option maxRecDepth 100000
set_option maxHeartbeats 4000000
namespace L3
open PySem PySem.Spec PyProof.Rows L2

/-! ### methods -/
def LinkM (C : Ct) (r : V → List V → Hp → VK → Prop) (op : D → List D → Mem → Res D) : Prop :=
  ∀ (W : WX) (σ : L2.St) (α : List Addr) (M : Mem) (H : Hp) (x : D) (xs : List D) (v : V) (vs : List V) (Q : VK), SMem C α M H → Rl C α H x v → Rls C α H xs vs → Fin C W σ (RD C) α H (op x xs M) Q → r v vs H Q
def isL (M : Mem) (x : D) : Bool := (listOf M x).isSome
def evM (ok : Mem → D → Bool) (op : D → List D → Mem → Res D) (o : EV) (t : AV) : EV := fun σ M => (o σ M).bind fun x M1 => if ok M1 x = true then (t σ M1).bind fun xs M2 => op x xs M2 else .no
section
variable {X : Cx} {C : Ct} {W : WX} {T id : String} {name : Str} {r : V → List V → Hp → VK → Prop} {op : D → List D → Mem → Res D} {ok : Mem → D → Bool} {o e : Expr} {es : List Expr} {evo : EV} {av : AV} {apos cpos : Pos}
def TyOk (C : Ct) (K : PySem.W.Frag) (T : String) (ok : Mem → D → Bool) : Prop := ∀ α M H x v, SMem C α M H → Rl C α H x v → ok M x = true → tyV K T v H
theorem ty_list {K : PySem.W.Frag} (hK : C.K = K) : TyOk C K "list" isL := fun α M H x v m r h => by
  unfold isL at h
  cases q : listOf M x with
  | none => rw [q] at h; cases h
  | some ds => obtain ⟨a, vs, rfl, hs, rs⟩ := listOf_ok hK m r q; exact .inl ⟨rfl, vs, hs⟩
theorem l_bm (ty : TyOk C X.K T ok) (lk : LinkM C r op) (pa : PlainAttrs T) (slot : Slot T name id) (hty : typeOf (.builtin id) = pure (.type "method_descriptor")) (hm : MtR X id r) (ho : PE X o (LE C W evo)) (ha : PA X (e :: es) (LA C W av))
    (hbase : attributeBase o name X.env (eval o X.env) = eval o X.env := by rfl)
    (hfew : ((backTo cpos (starEach (e :: es) X.env)).all (fun x => !x.1) && (backToKw cpos (keywordEach [] X.env)).all (fun x => x.1.isSome)
      && decide ((e :: es).length + ([] : List Keyword).length + (if ([] : List Keyword).isEmpty then 0 else 1) < 30)) = true := by rfl)
    (hline : (apos.endLine == cpos.line) = true := by rfl) (hs : starEach (e :: es) X.env = (false, eval e X.env) :: starEach es X.env := by rfl) (hplain : (backTo cpos (starEach es X.env)).any (·.1) = false := by rfl) :
    PE X (.Call (.Attribute o name apos) (e :: es) [] cpos) (LE C W (evM ok op evo av)) := by
  refine PEimp (pe_bm pa slot hty hm ho ha hbase hfew hline hs hplain) fun σ H Q ⟨α, σ3, M, m, s, h⟩ => ⟨α, σ3, M, m, s, (Fin.bind h).mono fun x H1 ⟨α1, M1, d, e1, m1, r1, h1⟩ => ?_⟩
  have h1 : Fin C W σ (RD C) α1 H1 (if ok M1 d = true then (av σ3 M1).bind fun xs M2 => op d xs M2 else .no) Q := h1
  by_cases z : ok M1 d = true
  · rw [if_pos z] at h1
    exact ⟨ty α1 M1 H1 d x m1 r1 z, α1, σ3, M1, m1, s.ext e1, (Fin.bind h1).mono fun vs H2 ⟨α2, M2, xs, e2, m2, r2, h2⟩ => lk W σ α2 M2 H2 d xs x vs Q m2 (r1.ext e2) r2 h2⟩
  · rw [if_neg z] at h1; exact h1.elim
theorem l_bm0 (ty : TyOk C X.K T ok) (lk : LinkM C r op) (pa : PlainAttrs T) (slot : Slot T name id) (hty : typeOf (.builtin id) = pure (.type "method_descriptor")) (hm : MtR X id r) (ho : PE X o (LE C W evo))
    (hbase : attributeBase o name X.env (eval o X.env) = eval o X.env := by rfl) (hline : (apos.endLine == cpos.line) = true := by rfl) :
    PE X (.Call (.Attribute o name apos) [] [] cpos) (LE C W (evM ok op evo avNil)) := by
  refine PEimp (pe_bm0 pa slot hty hm ho hbase hline) fun σ H Q ⟨α, σ3, M, m, s, h⟩ => ⟨α, σ3, M, m, s, (Fin.bind h).mono fun x H1 ⟨α1, M1, d, e1, m1, r1, h1⟩ => ?_⟩
  have h1 : Fin C W σ (RD C) α1 H1 (if ok M1 d = true then op d [] M1 else .no) Q := h1
  by_cases z : ok M1 d = true
  · rw [if_pos z] at h1
    exact ⟨ty α1 M1 H1 d x m1 r1 z, lk W σ α1 M1 H1 d [] x [] Q m1 r1 rfl h1⟩
  · rw [if_neg z] at h1; exact h1.elim
/-- a list cell -/
def cellOf (M : Mem) : D → Option (Nat × List D)
  | .ref n => match M[n]? with
    | some (.lst ds) => some (n, ds)
    | _ => none
  | _ => none
theorem cellOf_ok {α : List Addr} {M : Mem} {H : Hp} {x : D} {v : V} {n : Nat} {ds : List D} (m : SMem C α M H) (r : Rl C α H x v) (h : cellOf M x = some (n, ds)) : ∃ a vs, v = .ref a ∧ α[n]? = some a ∧ H a = some (.lst vs) ∧ Rls C α H ds vs ∧ M[n]? = some (.lst ds) := by
  cases x with
  | ref k =>
    have h : (match M[k]? with
      | some (.lst ds) => some (k, ds)
      | _ => none) = some (n, ds) := h
    cases q : M[k]? with
    | none => rw [q] at h; cases h
    | some cl =>
      rw [q] at h
      cases cl with
      | lst es =>
        cases h
        obtain ⟨a, vs, e, ha, hv, rs⟩ := ref_lst m r q
        exact ⟨a, vs, e, ha, hv, rs, q⟩
      | _ => cases h
  | _ => cases h
theorem fin_write {α : List Addr} {M : Mem} {H : Hp} {σ : L2.St} {n : Nat} {a : Addr} {d : D} {v : V} {ds : List D} {vs : List V} {Q : VK} (m : SMem C α M H) (ha : α[n]? = some a) (rs : Rls C α H ds vs) (rd : Rl C α H d v) (h : Fin C W σ (RD C) α H (.ok d (M.set n (.lst ds))) Q) : Q v (upd H a (.lst vs)) :=
  have e : Ext α H α (upd H a (.lst vs)) := Ext.write m ha
  h α _ v e (m.write (c := .lst ds) ha ⟨vs, upd_same, rs.ext e⟩) (rd.ext e)
def dAppend : D → List D → Mem → Res D := fun x xs M => match xs with
  | [y] => (match cellOf M x with
    | some (n, ds) => if ds.length < sizeLine then .ok .non (M.set n (.lst (ds ++ [y]))) else .no
    | none => .no)
  | _ => .no
theorem lk_append : LinkM C rAppend dAppend := by
  intro W σ α M H x xs v vs Q m rx rs h
  match xs, rs, h with
  | [y], rs, h =>
    obtain ⟨u, _, rfl, ru, rfl⟩ := rs
    have h : Fin C W σ (RD C) α H (match cellOf M x with
      | some (n, ds) => if ds.length < sizeLine then .ok .non (M.set n (.lst (ds ++ [y]))) else .no
      | none => .no) Q := h
    cases q : cellOf M x with
    | none => rw [q] at h; exact h.elim
    | some nd =>
      obtain ⟨n, ds⟩ := nd
      rw [q] at h
      have h : Fin C W σ (RD C) α H (if ds.length < sizeLine then .ok .non (M.set n (.lst (ds ++ [y]))) else .no) Q := h
      obtain ⟨a, ws, rfl, ha, hv, rs, _⟩ := cellOf_ok m rx q
      by_cases z : ds.length < sizeLine
      · rw [if_pos z] at h
        exact ⟨a, ws, u, rfl, rfl, hv, by rw [rs.length]; exact z, fin_write (d := .non) m ha (rs.append (Rls.one ru)) rfl h⟩
      · rw [if_neg z] at h; exact h.elim
  | [], _, h => exact h.elim
  | _ :: _ :: _, _, h => exact h.elim
def dPop : D → List D → Mem → Res D := fun x xs M => match xs with
  | [] => (match cellOf M x with
    | some (n, ds) => (match ds[ds.length - 1]? with
      | some d => .ok d (M.set n (.lst ds.dropLast))
      | none => .no)
    | none => .no)
  | _ => .no
theorem Rls.dropLast {α : List Addr} {H : Hp} {ds : List D} {vs : List V} (h : Rls C α H ds vs) : Rls C α H ds.dropLast vs.dropLast := by
  rw [List.dropLast_eq_take, List.dropLast_eq_take, h.length]; exact h.take _
theorem lk_pop : LinkM C rPop dPop := by
  intro W σ α M H x xs v vs Q m rx rs h
  cases xs with
  | cons y ys => exact h.elim
  | nil =>
    cases rs
    have h : Fin C W σ (RD C) α H (match cellOf M x with
      | some (n, ds) => (match ds[ds.length - 1]? with
        | some d => .ok d (M.set n (.lst ds.dropLast))
        | none => .no)
      | none => .no) Q := h
    cases q : cellOf M x with
    | none => rw [q] at h; exact h.elim
    | some nd =>
      obtain ⟨n, ds⟩ := nd
      rw [q] at h
      have h : Fin C W σ (RD C) α H (match ds[ds.length - 1]? with
        | some d => .ok d (M.set n (.lst ds.dropLast))
        | none => .no) Q := h
      obtain ⟨a, ws, rfl, ha, hv, rs, _⟩ := cellOf_ok m rx q
      cases q2 : ds[ds.length - 1]? with
      | none => rw [q2] at h; exact h.elim
      | some d =>
        rw [q2] at h
        obtain ⟨u, hu, ru⟩ := rs.get q2
        exact ⟨a, ws, u, rfl, rfl, hv, by rw [rs.length]; exact hu, fin_write m ha (Rls.dropLast rs) ru h⟩
end
/-! ### xs[i] = v -/
def stL : D → D → D → Mem → Option Mem := fun x y z M => match cellOf M x, y with
  | some (n, ds), .int k => (match ixN ds.length k with
    | some j => some (M.set n (.lst (ds.set j z)))
    | none => none)
  | _, _ => none
theorem lk_stL {C : Ct} : LinkSet C rSetL stL := by
  intro α M M' H x y z v u w Q m rx ry rz h q
  unfold stL at h
  cases q1 : cellOf M x with
  | none => rw [q1] at h; cases h
  | some nd =>
    obtain ⟨n, ds⟩ := nd
    rw [q1] at h
    cases y with
    | int k =>
      cases ry
      have h : (match ixN ds.length k with
        | some j => some (M.set n (.lst (ds.set j z)))
        | none => none) = some M' := h
      obtain ⟨a, ws, rfl, ha, hv, rs, _⟩ := cellOf_ok m rx q1
      cases q2 : ixN ds.length k with
      | none => rw [q2] at h; cases h
      | some j =>
        rw [q2] at h; cases h
        have e : Ext α H α (upd H a (.lst (ws.set j w))) := Ext.write m ha
        exact ⟨a, ws, k, j, rfl, rfl, hv, by rw [rs.length]; exact q2, q α _ e (m.write (c := .lst (ds.set j z)) ha ⟨_, upd_same, (rs.set rz j).ext e⟩)⟩
    | _ => cases h
/-! ### x[lo:hi] -/
abbrev OV := St3 → Mem → Res (Option Int)
def ovN : OV := fun _ M => .ok none M
def ovS (e : EV) : OV := fun σ M => (e σ M).bind fun d M1 => match d with
  | .int i => .ok (some i) M1
  | _ => .no
abbrev RO : List Addr → Hp → Option Int → Option Int → Prop := fun _ _ d v => v = d
def LO (C : Ct) (W : WX) (ov : OV) : TO := fun σ H Q => ∃ α σ3 M, SMem C α M H ∧ SSt C α H σ3 σ ∧ Fin C W σ RO α H (ov σ3 M) Q
def cutD (ds : List D) (lo hi : Option Int) : List D := (ds.drop (HT.sIx ds.length 0 lo)).take (HT.sIx ds.length ds.length hi - HT.sIx ds.length 0 lo)
def dSl (cell : Bool) (x : D) (lo hi : Option Int) (M : Mem) : Res D := match x with
  | .str z => if z.length ≤ sizeLine then .ok (.str (cutS z lo hi)) M else .no
  | .tup ds => if HT.sIx ds.length 0 lo = 0 ∧ HT.sIx ds.length ds.length hi = ds.length then .ok (.tup ds) M else .ok (.tup (cutD ds lo hi)) M
  | x => match listOf M x with
    | some ds => newL cell (cutD ds lo hi) M
    | none => .no
def evSl (cell : Bool) (e : EV) (lo hi : OV) : EV := fun σ M => (e σ M).bind fun x M1 => (lo σ M1).bind fun l M2 => (hi σ M2).bind fun h M3 => dSl cell x l h M3
section
variable {X : Cx} {C : Ct} {W : WX} {e : Expr} {ev : EV} {lo hi : Option Expr} {ol oh : OV} {pos p2 : Pos}
theorem lo_none : PO X none (LO C W ovN) := ⟨fun pins s σ H Q I ⟨α, σ3, M, m, st, h⟩ => po_none.run pins s σ H Q I (h α H none (Ext.refl _ _) m rfl)⟩
theorem lo_some (h : PE X e (LE C W ev)) : PO X (some e) (LO C W (ovS ev)) := ⟨fun pins s σ H Q I ⟨α, σ3, M, m, st, z⟩ => (po_some h).run pins s σ H Q I ⟨α, σ3, M, m, st, (Fin.bind z).mono fun x H1 ⟨α1, M1, d, e1, m1, r1, h1⟩ => by
  cases d with
  | int i => cases r1; exact ⟨i, rfl, h1 α1 H1 (some i) (Ext.refl _ _) m1 rfl⟩
  | _ => exact h1.elim⟩⟩
theorem cut_ok {α : List Addr} {H : Hp} {ds : List D} {vs : List V} (r : Rls C α H ds vs) : Rls C α H (cutD ds lo' hi') (cutV vs lo' hi') := by
  unfold cutD cutV
  rw [r.length]
  exact (r.drop _).take _
theorem l_sl (cell : Bool) (he : PE X e (LE C W ev)) (hl : PO X lo (LO C W ol)) (hh : PO X hi (LO C W oh)) (hK : C.K = X.K := by rfl) : PE X (.Subscript e (.Slice lo hi none p2) pos) (LE C W (evSl cell ev ol oh)) := by
  refine PEimp (pe_slice (sl_list.or (sl_tupA.or sl_str)) he hl hh) fun σ H Q ⟨α, σ3, M, m, s, h⟩ => ⟨α, σ3, M, m, s, (Fin.bind h).mono fun x H1 ⟨α1, M1, d, e1, m1, r1, h1⟩ => ?_⟩
  refine ⟨α1, σ3, M1, m1, s.ext e1, (Fin.bind h1).mono fun l H2 ⟨α2, M2, l', e2, m2, rl, h2⟩ => ?_⟩
  cases rl
  refine ⟨α2, σ3, M2, m2, s.ext (e1.trans e2), (Fin.bind h2).mono fun u H3 ⟨α3, M3, u', e3, m3, ru, h3⟩ => ?_⟩
  cases ru
  have r1 := r1.ext (e2.trans e3)
  have core : ∀ ds, listOf M3 d = some ds → Fin C W σ (RD C) α3 H3 (newL cell (cutD ds l u) M3) Q → rSlL X.K x l u H3 Q := fun ds q h => by
    obtain ⟨a, vs, rfl, hs, rs⟩ := listOf_ok hK m3 r1 q
    exact ⟨a, vs, rfl, hs, (newL_ok m3 (cut_ok rs) h).2⟩
  cases d with
  | str z =>
    cases r1
    have h3 : Fin C W σ (RD C) α3 H3 (if z.length ≤ sizeLine then .ok (.str (cutS z l u)) M3 else .no) Q := h3
    by_cases y : z.length ≤ sizeLine
    · rw [if_pos y] at h3; exact .inr (.inr ⟨z, rfl, y, fin_ok (d := .str (cutS z l u)) m3 rfl h3⟩)
    · rw [if_neg y] at h3; exact h3.elim
  | tup ds =>
    have h3 : Fin C W σ (RD C) α3 H3 (if HT.sIx ds.length 0 l = 0 ∧ HT.sIx ds.length ds.length u = ds.length then .ok (.tup ds) M3 else .ok (.tup (cutD ds l u)) M3) Q := h3
    have r1' := r1
    obtain ⟨a, vs, rfl, hs, rs⟩ := r1
    refine .inr (.inl ⟨a, vs, rfl, SqT_of hK hs, fun z => ?_, fun z => ?_⟩)
    · rw [rs.length] at z
      rw [if_pos z] at h3; exact fin_ok m3 r1' h3
    · rw [rs.length] at z
      rw [if_neg z] at h3; exact fin_new_tup m3 (cut_ok rs) h3
  | lst ds => exact .inl (core ds rfl h3)
  | scr ds => exact .inl (core ds rfl h3)
  | ref n =>
    have h3 : Fin C W σ (RD C) α3 H3 (match listOf M3 (.ref n) with
      | some ds => newL cell (cutD ds l u) M3
      | none => .no) Q := h3
    cases q : listOf M3 (.ref n) with
    | none => rw [q] at h3; exact h3.elim
    | some ds => rw [q] at h3; exact .inl (core ds q h3)
  | _ => exact h3.elim
end
/-! ### repr -/
def rRepr (K : PySem.W.Frag) : List V → Hp → VK → Prop := fun xs H Q => ∃ x p, xs = [x] ∧ Dp K H x p ∧ p.showable = true ∧ p.hasDict = false ∧ p.depth ≤ 16 ∧ p.shown.length ≤ sizeLine ∧ Q (.str p.shown) H
theorem cr_repr {X : Cx} (gd : X.A.guards = some []) (hu : X.A.units + 64 < cLine) : CallR X (.builtin "repr") (rRepr X.K) := by
  intro pins s σ H xs us Q I r h
  obtain ⟨x, p, rfl, hp, hs, hd, hz, hl, q⟩ := h
  obtain ⟨u, rfl, ru⟩ := vals1 r
  obtain ⟨as, rd⟩ := Dp.reads I p x u hp ru
  have go : ∀ a : Addr, u = .ref a → wpAny (model X.prog X.w) X.A (call (.builtin "repr") [u]) (EP X pins σ Q) X.xe s := fun a e => by
    subst e
    exact PySem.repr_of_reads' rd hs (fun z => by rw [hd] at z; cases z) gd (by omega) (fun _ _ e => e) (fun h' t tk hk => ⟨.str p.shown, H, I.kept (t' := tk) hk, ⟨t, rfl⟩, q⟩) hl
  cases rd with
  | none => exact PySem.P.repr_of_none ⟨.str _, H, I.tok _, ⟨_, rfl⟩, q⟩
  | bool b => exact PySem.P.repr_of_bool ⟨.str _, H, I.tok _, ⟨_, rfl⟩, q⟩
  | int i t => exact PySem.P.repr_of_int (of_decide_eq_true hs) ⟨.str _, H, I.tok _, ⟨_, rfl⟩, q⟩
  | str y t => exact PySem.P.repr_of_str ⟨.str _, H, I.tok _, ⟨_, rfl⟩, q⟩ hl
  | list _ _ _ _ => exact go _ rfl
  | tuple _ _ _ _ => exact go _ rfl
  | dict _ _ _ _ _ => exact go _ rfl
def okRepr (p : PyData) : Bool := p.showable && (!p.hasDict && decide (p.shown.length ≤ sizeLine))
def dRepr : D → Mem → Res D := fun x M => match py M 8 x with
  | some p => if okRepr p = true then .ok (.str p.shown) M else .no
  | none => .no
theorem lk_repr {C : Ct} {K : PySem.W.Frag} (hK : C.K = K) : LinkA C (rRepr K) (a1 dRepr) := lk_a1 fun W σ α M H x v Q m r h => by
  unfold dRepr at h
  cases q : py M 8 x with
  | none => rw [q] at h; exact h.elim
  | some p =>
    rw [q] at h
    have h : Fin C W σ (RD C) α H (if okRepr p = true then .ok (.str p.shown) M else .no) Q := h
    by_cases z : okRepr p = true
    · rw [if_pos z] at h
      obtain ⟨z1, z2⟩ := Bool.and_eq_true_iff.mp z
      obtain ⟨z2, z3⟩ := Bool.and_eq_true_iff.mp z2
      obtain ⟨a1, a2, a3⟩ := py_ok hK m 8 x p v r q
      exact ⟨v, p, rfl, a1, z1, by simpa using z2, by omega, of_decide_eq_true z3, fin_ok (d := .str p.shown) m rfl h⟩
    · rw [if_neg z] at h; exact h.elim
/-! ### == of texts and ints, else of data -/
def dEqS : D → D → Mem → Res D := fun x y M => match x, y with
  | .str a, .str b => .ok (.bl (decide (a = b))) M
  | .int a, .int b => .ok (.bl (decide (a = b))) M
  | x, y => dEq x y M
def dNeS : D → D → Mem → Res D := fun x y M => match x, y with
  | .str a, .str b => .ok (.bl (!decide (a = b))) M
  | .int a, .int b => .ok (.bl (!decide (a = b))) M
  | x, y => dNe x y M
def eqPart : D → D → Mem → Res D := fun x y M => match x, y with
  | .str a, .str b => .ok (.bl (decide (a = b))) M
  | .int a, .int b => .ok (.bl (decide (a = b))) M
  | _, _ => .no
def nePart : D → D → Mem → Res D := fun x y M => match x, y with
  | .str a, .str b => .ok (.bl (!decide (a = b))) M
  | .int a, .int b => .ok (.bl (!decide (a = b))) M
  | _, _ => .no
theorem decV {α : Type} [DecidableEq α] (f : α → V) (hf : ∀ a b, f a = f b → a = b) (a b : α) : decide (f a = f b) = decide (a = b) := by
  by_cases h : a = b
  · subst h; simp
  · rw [decide_eq_false h, decide_eq_false fun e => h (hf a b e)]
theorem lk_eqPart {C : Ct} : LinkR C rEq eqPart := by
  intro W σ α M H x y v u Q m rx ry h
  cases x with
  | str a =>
    cases y with
    | str b => cases rx; cases ry; exact ⟨rfl, by rw [decV V.str (fun a b e => by cases e; rfl)]; exact fin_ok (d := .bl (decide (a = b))) m rfl h⟩
    | _ => exact h.elim
  | int a =>
    cases y with
    | int b => cases rx; cases ry; exact ⟨rfl, by rw [decV V.int (fun a b e => by cases e; rfl)]; exact fin_ok (d := .bl (decide (a = b))) m rfl h⟩
    | _ => exact h.elim
  | _ => exact h.elim
theorem lk_nePart {C : Ct} : LinkR C rNe nePart := by
  intro W σ α M H x y v u Q m rx ry h
  cases x with
  | str a =>
    cases y with
    | str b => cases rx; cases ry; exact ⟨rfl, by rw [decV V.str (fun a b e => by cases e; rfl)]; exact fin_ok (d := .bl (!decide (a = b))) m rfl h⟩
    | _ => exact h.elim
  | int a =>
    cases y with
    | int b => cases rx; cases ry; exact ⟨rfl, by rw [decV V.int (fun a b e => by cases e; rfl)]; exact fin_ok (d := .bl (!decide (a = b))) m rfl h⟩
    | _ => exact h.elim
  | _ => exact h.elim
theorem lk_eqS {C : Ct} {K : PySem.W.Frag} (hK : C.K = K) : LinkR C (fun x y H Q => rEq x y H Q ∨ rEqD K x y H Q) dEqS := lk_or lk_eqPart (lk_eq hK) fun x y M => by
  cases x <;> cases y <;> first | exact .inl rfl | exact .inr rfl
theorem lk_neS {C : Ct} {K : PySem.W.Frag} (hK : C.K = K) : LinkR C (fun x y H Q => rNe x y H Q ∨ rNeD K x y H Q) dNeS := lk_or lk_nePart (lk_ne hK) fun x y M => by
  cases x <;> cases y <;> first | exact .inl rfl | exact .inr rfl
theorem op_eqS {X : Cx} (hu : X.A.units + 64 < cLine) : OpR X (compareOp .Eq) (fun x y H Q => rEq x y H Q ∨ rEqD X.K x y H Q) := op_eq.or (op_eqD hu)
theorem op_neS {X : Cx} (hu : X.A.units + 64 < cLine) : OpR X (compareOp .NotEq) (fun x y H Q => rNe x y H Q ∨ rNeD X.K x y H Q) := op_ne.or (op_neD hu)
end L3

set_option Elab.async false
set_option linter.all false
set_option maxRecDepth 100000
set_option maxHeartbeats 4000000
namespace L3
open PySem PySem.Spec PyProof.Rows L2

/-! ### what stands at a name -/
structure Has (b : Bool) (P : Program) (w : World) (C : Ct) (mg : Str → Option Value) (base : Heap) (k : Nat) (x : Str) (g : Fn3) (ar : Nat) (dd : List D) : Prop where
  ex : ∃ (f : Addr) (fd : FuncData) (ps : List Str) (ds : List Value) (dvs : List V), FnG b P w C.K mg base k f fd ps (spF C g ar) ∧ mg x = some (.ref f) ∧ PySem.W.keepIn C.K (.ref f) = true ∧ Binds C.K fd ps ds ∧ Vals dvs ds ∧ ∀ α H, Rls C α H dd dvs
theorem Has.of {b : Bool} {P : Program} {w : World} {C : Ct} {mg : Str → Option Value} {base : Heap} {k : Nat} {x : Str} {g : Fn3} {ar : Nat} {f : Addr} {fd : FuncData} {ps : List Str} (h : FnG b P w C.K mg base k f fd ps (spF C g ar)) (hm : mg x = some (.ref f)) (hk : PySem.W.keepIn C.K (.ref f) = true) (hb : Binds C.K fd ps []) : Has b P w C mg base k x g ar [] :=
  ⟨f, fd, ps, [], [], h, hm, hk, hb, .nil, fun _ _ => rfl⟩
section
variable {b : Bool} {X : Cx} {C : Ct} {W : WX} {k j : Nat} {g : Fn3} {ar : Nat} {dd : List D} {x : Str} {p pos : Pos} {e : Expr} {es : List Expr} {av : AV}
theorem l_callH (h : Has b X.prog X.w C X.mg X.base k x g ar dd) (hr : Room j X.A) (gd : b = true → X.A.guards = some []) (hx : ∀ σ, PassesAt (L2.CX X.prog X.w) X σ (WE W σ)) (hg : Gl X x) (ha : PA X (e :: es) (LA C W av)) (hkj : k ≤ j := by decide) (hdb : (x == ("__debug__" : Str)) = false := by decide)
    (he : starEach (e :: es) X.env = (false, eval e X.env) :: starEach es X.env := by rfl) (hpl : (backTo pos (starEach es X.env)).any (·.1) = false := by rfl) (hK : C.K = X.K := by rfl) : PE X (.Call (.Name x p) (e :: es) [] pos) (LE C W (evCall g ar dd av)) := by
  obtain ⟨f, fd, ps, ds, dvs, F, hm, hk, hb, hv, hdd⟩ := h.ex
  rw [hK] at F hk hb
  exact l_call F (Room.mono hr hkj) gd hg hm hk hb hv hx hdd ha hdb he hpl
end
/-! ### classes: the written arguments, picked in the parameters' order -/
def pick {α : Type} (d : α) (perm : List Nat) (l : List α) : List α := perm.map fun i => l.getD i d
def gB (perm : List Nat) : List Value → List Value → List Value
  | u :: us, ws => u :: pick .none perm (us ++ ws)
  | [], _ => []
def gV (perm : List Nat) : List V → List V → List V
  | v :: vs, zs => v :: pick .non perm (vs ++ zs)
  | [], _ => []
theorem pick_vals {perm : List Nat} {vs : List V} {us : List Value} (r : Vals vs us) : Vals (pick .non perm vs) (pick .none perm us) := by
  induction perm with
  | nil => exact .nil
  | cons i perm ih =>
    refine .cons ?_ ih
    show L2.RelV (vs.getD i V.non) (us.getD i Value.none)
    rw [List.getD_eq_getElem?_getD, List.getD_eq_getElem?_getD]
    cases q : vs[i]? with
    | none =>
      have : us[i]? = none := by rw [List.getElem?_eq_none_iff] at q ⊢; rw [← r.length]; exact q
      rw [this]; rfl
    | some v => obtain ⟨u, h1, h2⟩ := r.get q; rw [h1]; exact h2
theorem pick_rls {C : Ct} {α : List Addr} {H : Hp} {perm : List Nat} {ds : List D} {vs : List V} (r : Rls C α H ds vs) : Rls C α H (pick .non perm ds) (pick .non perm vs) := by
  induction perm with
  | nil => exact rfl
  | cons i perm ih =>
    refine Rls.cons ?_ ih
    show Rl C α H (ds.getD i D.non) (vs.getD i V.non)
    rw [List.getD_eq_getElem?_getD, List.getD_eq_getElem?_getD]
    cases q : ds[i]? with
    | none =>
      have : vs[i]? = none := by rw [List.getElem?_eq_none_iff] at q ⊢; rw [r.length]; exact q
      rw [this]; exact rfl
    | some v => obtain ⟨u, h1, h2⟩ := r.get q; rw [h1]; exact h2
structure HasC (b : Bool) (P : Program) (w : World) (C : Ct) (mg : Str → Option Value) (base : Heap) (k : Nat) (x : Str) (c : Nat) (g : Fn3) (ar : Nat) (n : Nat) (ks : List Str) (perm : List Nat) : Prop where
  ex : ∃ (f : Addr) (fd : FuncData) (ps : List Str), Mk C.K (C.cls c) f ∧ FnG b P w C.K mg base k f fd ps (spF C g ar) ∧ mg x = some (.ref (C.cls c)) ∧ KBn C.K fd ps (n + 1) ks (gB perm) (gV perm)
theorem kbnP {K : PySem.W.Frag} {x qual : Str} {params : Arguments} {body : List Stmt} {scope : Scope} {f : Addr} {fd : FuncData} {ps ks : List Str} {n : Nat} {perm : List Nat} (F : FunD K x qual params body scope [] [] f fd)
    (h : ∀ (kV doc pm : Value) (an : Option Addr) (cdv ct : Value) (us ws : List Value), us.length = n + 1 → ws.length = ks.length → bindArgs (PySem.W.fnOf x qual params body scope .none kV doc pm an cdv ct) ⟨us, ks.zip ws⟩ = pure (ps.zip (gB perm us ws))) : KBn K fd ps (n + 1) ks (gB perm) (gV perm) := by
  obtain ⟨oc, od, dV, kV, doc, pm, an, cdv, ct, osl, rfl, lk, hcd, hD, hK⟩ := F.ex
  rcases hD with ⟨_, rfl⟩ | ⟨e, _⟩
  · refine ⟨fun s us ws _ l1 l2 => .of_eq (h kV doc pm an cdv ct us ws l1 l2), fun {vs us zs ws} r rz => ?_⟩
    cases r with
    | nil => exact .nil
    | cons r1 r2 => exact .cons r1 (pick_vals (Vals.append r2 rz))
  · exact absurd rfl e
theorem goes_pick {C : Ct} {n m : Nat} {perm : List Nat} : Goes C n m (fun xs ys => pick .non perm (xs ++ ys)) (gV perm) := fun α H xs ys vs zs x _ _ r1 r2 => ⟨_, rfl, pick_rls (r1.append r2)⟩
def evNewP (c : Nat) (g : Fn3) (ar : Nat) (perm : List Nat) (n m : Nat) (av ak : AV) : EV := evNew c g ar (fun xs ys => pick .non perm (xs ++ ys)) n m av ak
section
variable {b : Bool} {X : Cx} {C : Ct} {W : WX} {k j n c : Nat} {g : Fn3} {ar : Nat} {ks : List Str} {perm : List Nat} {x : Str} {p pos : Pos} {e : Expr} {es : List Expr} {kws : List Keyword} {av ak : AV}
theorem l_newH (h : HasC b X.prog X.w C X.mg X.base k x c g ar n [] perm) (hr : Room j X.A) (gd : b = true → X.A.guards = some []) (hx : ∀ σ, PassesAt (L2.CX X.prog X.w) X σ (WE W σ)) (hg : Gl X x) (ha : PA X (e :: es) (LA C W av)) (hkj : k + 1 ≤ j := by decide) (hdb : (x == ("__debug__" : Str)) = false := by decide)
    (he : starEach (e :: es) X.env = (false, eval e X.env) :: starEach es X.env := by rfl) (hpl : (backTo pos (starEach es X.env)).any (·.1) = false := by rfl) (hK : C.K = X.K := by rfl) : PE X (.Call (.Name x p) (e :: es) [] pos) (LE C W (evNewP c g ar perm n 0 av avNil)) := by
  obtain ⟨f, fd, ps, M, F, hm, hb⟩ := h.ex
  rw [hK] at F M hb
  exact l_newP rfl M F (Room.mono hr hkj) gd hg hm hb goes_pick hx ha hdb he hpl
theorem l_newH0 (m : Nat) (h : HasC b X.prog X.w C X.mg X.base k x c g ar 0 ks perm) (hr : Room j X.A) (gd : b = true → X.A.guards = some []) (hx : ∀ σ, PassesAt (L2.CX X.prog X.w) X σ (WE W σ)) (hg : Gl X x) (hkw : LK C W X kws ak) (hks : (backToKw pos (keywordEach kws X.env)).filterMap (·.1) = ks := by rfl) (hm : ks.length = m := by rfl) (hkj : k + 1 ≤ j := by decide)
    (hall : (backToKw pos (keywordEach kws X.env)).all (·.1.isSome) = true := by rfl) (hdb : (x == ("__debug__" : Str)) = false := by decide)
    (hpl : ((backTo pos (starEach [] X.env)).any (·.1) || (backToKw pos (keywordEach kws X.env)).any (·.1.isNone)) = false := by rfl) (hK : C.K = X.K := by rfl) : PE X (.Call (.Name x p) [] kws pos) (LE C W (evNewP c g ar perm 0 m avNil ak)) := by
  subst hm
  obtain ⟨f, fd, ps, M, F, hm, hb⟩ := h.ex
  rw [hK] at F M hb
  exact l_newK0 rfl M F (Room.mono hr hkj) gd hg hm hb goes_pick hx hkw hall hks hdb hpl
end
/-! ### the classes of a head -/
def ctOf (K : PySem.W.Frag) (T : List (List Nat)) (nm : List Str) (cl : List Str) (XT : List (List Nat)) (xl : List Str) : Ct := ⟨K, fun c => He.ga K (cl.getD c Str.empty), fun c => (T.getD c []).map (nm.getD · Str.empty), fun _ => 0, fun c => He.ga K (xl.getD c Str.empty), fun c => (XT.getD c []).map (nm.getD · Str.empty), fun _ _ _ => True, fun _ _ => trivial⟩
/-- one by one: the class at c -/
def ClsAll (K : PySem.W.Frag) (nm : List Str) : List Str → List (List Nat) → Prop
  | x :: cl, l :: T => (Cls K (He.ga K x) ∧ ∀ j ∈ l, NoAttr K (He.ga K x) (nm.getD j Str.empty)) ∧ ClsAll K nm cl T
  | _, [] => True
  | [], _ => False
theorem clsAll_get {K : PySem.W.Frag} {nm : List Str} : ∀ {cl : List Str} {T : List (List Nat)} (c : Nat), ClsAll K nm cl T → ∀ j ∈ T.getD c [], Cls K (He.ga K (cl.getD c Str.empty)) ∧ NoAttr K (He.ga K (cl.getD c Str.empty)) (nm.getD j Str.empty)
  | _, [], c, _, j, hj => by simp at hj
  | [], _ :: _, _, h, _, _ => h.elim
  | x :: cl, l :: T, 0, ⟨h, _⟩, j, hj => ⟨h.1, h.2 j hj⟩
  | x :: cl, l :: T, c + 1, ⟨_, h⟩, j, hj => clsAll_get c h j hj
theorem ctOk_of {K : PySem.W.Frag} {T XT : List (List Nat)} {nm cl xl : List Str} (nd : nm.Nodup) (low : ∀ l ∈ T, (∀ j ∈ l, j < nm.length) ∧ l.length < 1000) (h : ClsAll K nm cl T) : CtOk (ctOf K T nm cl XT xl) T nm where
  fl := fun _ => rfl
  nd := nd
  low := low
  cls := fun c f hf => by
    obtain ⟨j, hj, rfl⟩ := List.mem_map.mp hf
    exact clsAll_get c h j hj
/-! ### names of built-in types as values -/
theorem l_ty {X : Cx} {C : Ct} {W : WX} {x : Str} {pos : Pos} (t : Ty) (hg : Gl X x) (hm : X.mg x = none) (hv : bootBuiltins x = some (.type t.name)) (hn : x ≠ "__name__" := by decide) (hd : (x == ("__debug__" : Str)) = false := by decide) : PE X (.Name x pos) (LE C W (evC (.ty t))) :=
  l_c (pe_bltn hg hm hv (v := .ty t.name) rfl hn hd) fun _ _ => rfl
end L3

set_option Elab.async false
set_option linter.all false
set_option maxRecDepth 100000
set_option maxHeartbeats 4000000
namespace L3
open PySem PySem.Spec PyProof.Rows L2

/-! ### running the terms -/
section
variable {σ : St3} {M : Mem}
@[simp] theorem x_c {d : D} : evC d σ M = .ok d M := rfl
@[simp] theorem x_var {i : Nat} : evVar i σ M = match σ[i]? with
  | some (some d) => .ok d M
  | _ => .no := rfl
@[simp] theorem x_1 {op : D → Mem → Res D} {a : EV} : ev1 op a σ M = (a σ M).bind op := rfl
@[simp] theorem x_2 {op : D → D → Mem → Res D} {a b : EV} : ev2 op a b σ M = (a σ M).bind fun x M1 => (b σ M1).bind fun y M2 => op x y M2 := rfl
@[simp] theorem x_nil : avNil σ M = .ok [] M := rfl
@[simp] theorem x_cons {a : EV} {r : AV} : avCons a r σ M = (a σ M).bind fun x M1 => (r σ M1).bind fun xs M2 => .ok (x :: xs) M2 := rfl
@[simp] theorem x_A {k : List D → Mem → Res D} {t : AV} : evA k t σ M = (t σ M).bind k := rfl
@[simp] theorem x_if {c : BV} {a b : EV} : evIf c a b σ M = (c σ M).bind fun k M1 => if k = true then a σ M1 else b σ M1 := rfl
@[simp] theorem x_bE {e : EV} : bvE e σ M = (e σ M).bind fun d M1 => match d with
  | .bl k => .ok k M1
  | _ => .no := rfl
@[simp] theorem x_bT {e : EV} : bvT e σ M = (e σ M).bind fun d M1 => match truD M1 d with
  | some k => .ok k M1
  | none => .no := rfl
@[simp] theorem x_bNot {c : BV} : bvNot c σ M = (c σ M).bind fun k M1 => .ok (!k) M1 := rfl
@[simp] theorem x_bAnd {a b : BV} : bvAnd a b σ M = (a σ M).bind fun k M1 => if k = true then b σ M1 else .ok false M1 := rfl
@[simp] theorem x_bOr {a b : BV} : bvOr a b σ M = (a σ M).bind fun k M1 => if k = true then .ok true M1 else b σ M1 := rfl
@[simp] theorem x_yes : bvYes σ M = .ok true M := rfl
@[simp] theorem x_not {a : EV} : evNot a σ M = (a σ M).bind fun d M1 => match d with
  | .bl k => .ok (.bl (!k)) M1
  | _ => .no := rfl
@[simp] theorem x_and {a b : EV} : evAnd a b σ M = (a σ M).bind fun d M1 => match d with
  | .bl k => if k = true then b σ M1 else .ok (.bl false) M1
  | _ => .no := rfl
@[simp] theorem x_or {a b : EV} : evOr a b σ M = (a σ M).bind fun d M1 => match d with
  | .bl k => if k = true then .ok (.bl true) M1 else b σ M1
  | _ => .no := rfl
@[simp] theorem x_trim {nf : Nat → Nat} {e : EV} : evTrim nf e σ M = trimR nf M (e σ M) := rfl
@[simp] theorem x_call {g : Fn3} {ar : Nat} {dd : List D} {av : AV} : evCall g ar dd av σ M = (av σ M).bind fun ds M => if (ds ++ dd).length = ar then g (ds ++ dd) M else .no := rfl
@[simp] theorem x_M {ok : Mem → D → Bool} {op : D → List D → Mem → Res D} {o : EV} {t : AV} : evM ok op o t σ M = (o σ M).bind fun x M1 => if ok M1 x = true then (t σ M1).bind fun xs M2 => op x xs M2 else .no := rfl
@[simp] theorem x_sl {cell : Bool} {e : EV} {lo hi : OV} : evSl cell e lo hi σ M = (e σ M).bind fun x M1 => (lo σ M1).bind fun l M2 => (hi σ M2).bind fun h M3 => dSl cell x l h M3 := rfl
@[simp] theorem x_ovN : ovN σ M = .ok none M := rfl
@[simp] theorem x_ovS {e : EV} : ovS e σ M = (e σ M).bind fun d M1 => match d with
  | .int i => .ok (some i) M1
  | _ => .no := rfl
@[simp] theorem x_new {c : Nat} {g : Fn3} {ar : Nat} {perm : List Nat} {n m : Nat} {av ak : AV} : evNewP c g ar perm n m av ak σ M = (av σ M).bind fun xs M1 => (ak σ M1).bind fun ys M2 => if xs.length = n ∧ ys.length = m then newR c g ar (pick .non perm (xs ++ ys)) M2 else .no := rfl
/-! statements -/
def Out.seq (o : Out) (b : SV) : Out := match o with
  | .nx σ' M' => b σ' M'
  | o => o
@[simp] theorem seq_nx {b : SV} : (Out.nx σ M).seq b = b σ M := rfl
@[simp] theorem seq_rt {b : SV} {d : D} : (Out.rt d M).seq b = .rt d M := rfl
@[simp] theorem seq_bk {b : SV} : (Out.bk σ M).seq b = .bk σ M := rfl
@[simp] theorem seq_ct {b : SV} : (Out.ct σ M).seq b = .ct σ M := rfl
@[simp] theorem seq_exc {b : SV} {c ds} : (Out.exc c ds σ M).seq b = .exc c ds σ M := rfl
@[simp] theorem seq_no {b : SV} : (Out.no).seq b = .no := rfl
theorem seq_ite {c : Prop} [Decidable c] {a a' : Out} {b : SV} : (if c then a else a').seq b = if c then a.seq b else a'.seq b := by split <;> rfl
@[simp] theorem y_seq {a b : SV} : svSeq a b σ M = (a σ M).seq b := rfl
@[simp] theorem y_next : svNext σ M = .nx σ M := rfl
@[simp] theorem y_break : svBreak σ M = .bk σ M := rfl
@[simp] theorem y_cont : svCont σ M = .ct σ M := rfl
@[simp] theorem y_E {e : EV} : svE e σ M = (e σ M).out σ fun _ M1 => .nx σ M1 := rfl
@[simp] theorem y_ret {e : EV} : svRet e σ M = (e σ M).out σ fun d M1 => .rt d M1 := rfl
@[simp] theorem y_retN : svRetN σ M = .rt .non M := rfl
@[simp] theorem y_if {c : BV} {a b : SV} : svIf c a b σ M = (c σ M).out σ fun k M1 => if k = true then a σ M1 else b σ M1 := rfl
@[simp] theorem y_set {i : Nat} {e : EV} : svSet i e σ M = (e σ M).out σ fun d M1 => .nx (σ.set i (some d)) M1 := rfl
@[simp] theorem y_asg {e : EV} {g : GV} : svAsg e g σ M = (e σ M).out σ fun d M1 => (g d σ M1).only := rfl
@[simp] theorem y_sub {o i : EV} {st : D → D → D → Mem → Option Mem} {d : D} : gvSub o i st d σ M = (o σ M).out σ fun x M1 => (i σ M1).out σ fun y M2 => match st x y d M2 with
  | some M3 => .nx σ M3
  | none => .no := rfl
@[simp] theorem y_name {i : Nat} {d : D} : gvName i d σ M = .nx (σ.set i (some d)) M := rfl
@[simp] theorem y_for {it : IV} {g : GV} {b : SV} : svFor it g b σ M = (it σ M).out σ fun s M1 => svLoop s.watch g b s.items σ M1 := rfl
theorem i_R1 {t : AV} : ivR1 t σ M = (t σ M).bind fun ds M1 => match oneInt ds with
  | some j => if inR j = true then .ok ⟨rangeD 0 j.toNat, []⟩ M1 else .no
  | none => .no := rfl
@[simp] theorem i_S {e : EV} : ivSeq e σ M = (e σ M).bind fun d M1 => match srcOf M1 d with
  | some (_, s) => .ok s M1
  | none => .no := rfl
@[simp] theorem end_rt {d : D} : endB (.rt d M) = .ok d M := rfl
@[simp] theorem end_nx : endB (.nx σ M) = .ok .non M := rfl
@[simp] theorem a1_x {op : D → Mem → Res D} {x : D} : a1 op [x] M = op x M := rfl
@[simp] theorem a2_x {op : D → D → Mem → Res D} {x y : D} : a2 op [x, y] M = op x y M := rfl
/-! operations -/
variable {i j : Int}
@[simp] theorem d_int : dInt (.int i) M = .ok (.int i) M := rfl
@[simp] theorem d_abs : dAbs (.int i) M = .ok (.int (if i < 0 then -i else i)) M := rfl
@[simp] theorem d_add {c : Bool} : dAdd c (.int i) (.int j) M = .ok (.int (i + j)) M := rfl
@[simp] theorem d_sub : dSub (.int i) (.int j) M = .ok (.int (i - j)) M := rfl
theorem d_mul {c : Bool} (h : mulOk i j = true) : dMul c (.int i) (.int j) M = .ok (.int (i * j)) M := if_pos h
theorem d_mod (h : j ≠ 0) : dMod (.int i) (.int j) M = .ok (.int (i.fmod j)) M := if_pos (decide_eq_true h)
theorem d_div (h : divOk j = true) : dDiv (.int i) (.int j) M = .ok (.int (i.fdiv j)) M := if_pos h
theorem d_pow (h : powOk i j = true) : dPow (.int i) (.int j) M = .ok (.int (i ^ j.toNat)) M := if_pos h
@[simp] theorem d_lt : dLt (.int i) (.int j) M = .ok (.bl (decide (i < j))) M := rfl
@[simp] theorem d_le : dLe (.int i) (.int j) M = .ok (.bl (decide (i ≤ j))) M := rfl
@[simp] theorem d_gt : dGt (.int i) (.int j) M = .ok (.bl (decide (j < i))) M := rfl
@[simp] theorem d_ge : dGe (.int i) (.int j) M = .ok (.bl (decide (j ≤ i))) M := rfl
@[simp] theorem d_eqI : dEqS (.int i) (.int j) M = .ok (.bl (decide (i = j))) M := rfl
@[simp] theorem d_neI : dNeS (.int i) (.int j) M = .ok (.bl (!decide (i = j))) M := rfl
@[simp] theorem d_neg : dNeg (.int i) M = .ok (.int (-i)) M := rfl
theorem d_ixR {n : Nat} {ds : List D} {d : D} (h : M[n]? = some (.lst ds)) (hk : atI ds i = some d) : dIx (.ref n) (.int i) M = .ok d M := by
  show (match seqOf M (.ref n) with
    | some ds => (match atI ds i with
      | some d => Res.ok d M
      | none => .no)
    | none => .no) = _
  have e : seqOf M (.ref n) = some ds := by
    show (match M[n]? with
      | some (.lst ds) => some ds
      | _ => none) = some ds
    rw [h]
  rw [e]
  show (match atI ds i with
    | some d => Res.ok d M
    | none => .no) = _
  rw [hk]
theorem d_lenR {n : Nat} {ds : List D} (h : M[n]? = some (.lst ds)) : dLen (.ref n) M = .ok (.int (ds.length : Nat)) M := by
  show (match seqOf M (.ref n) with
    | some ds => Res.ok (D.int (ds.length : Nat)) M
    | none => Res.no) = _
  have e : seqOf M (.ref n) = some ds := by
    show (match M[n]? with
      | some (.lst ds) => some ds
      | _ => none) = some ds
    rw [h]
  rw [e]
theorem st_R {n k : Nat} {ds : List D} {z : D} (h : M[n]? = some (.lst ds)) (hk : ixN ds.length i = some k) : stL (.ref n) (.int i) z M = some (M.set n (.lst (ds.set k z))) := by
  have e : cellOf M (.ref n) = some (n, ds) := by
    show (match M[n]? with
      | some (.lst ds) => some (n, ds)
      | _ => none) = _
    rw [h]
  unfold stL
  rw [e]
  show (match ixN ds.length i with
    | some j => some (M.set n (.lst (ds.set j z)))
    | none => none) = _
  rw [hk]
end
theorem mulOk_l {i j : Int} (h : i.natAbs < 2 ^ 64) : mulOk i j = true := by unfold mulOk; rw [decide_eq_true h]; rfl
theorem mulOk_r {i j : Int} (h : j.natAbs < 2 ^ 64) : mulOk i j = true := by unfold mulOk; rw [decide_eq_true h]; simp
theorem divOk_s {j : Int} (h : 0 < j) (h2 : j < 2 ^ 64) : divOk j = true := by
  unfold divOk
  have e : j.natAbs.log2 < 9000 := by
    have : j.natAbs < 2 ^ 9000 := Nat.lt_of_lt_of_le (show j.natAbs < 2 ^ 64 by omega) (Nat.pow_le_pow_right (by decide) (by decide))
    rcases Nat.eq_zero_or_pos j.natAbs with z | z
    · rw [z]; decide
    · exact (Nat.log2_lt (by omega)).mpr this
  rw [decide_eq_true (show j ≠ 0 by omega), decide_eq_true e]; rfl
theorem fmod_r (i : Int) {j : Int} (h : 0 < j) : 0 ≤ i.fmod j ∧ i.fmod j < j := ⟨Int.fmod_nonneg_of_pos i h, Int.fmod_lt_of_pos i h⟩

/-! ### the drawing hand: alike in every law but for its numbers -/
structure Nums where
  (a1 a2 a3 q1 b1 e1 q2 c1 e2 q3 e3 : Int)
structure Nums.Ok (p : Nums) : Prop where
  a1 : p.a1.natAbs < 2 ^ 64 := by decide
  a2 : p.a2.natAbs < 2 ^ 64 := by decide
  q1 : 0 < p.q1 ∧ p.q1 < 2 ^ 32 := by decide
  b1 : p.b1.natAbs < 2 ^ 64 := by decide
  e1 : 0 < p.e1 ∧ p.e1 < 2 ^ 64 := by decide
  q2 : 0 < p.q2 ∧ p.q2 < 2 ^ 64 := by decide
  c1 : p.c1.natAbs < 2 ^ 64 := by decide
  e2 : 0 < p.e2 ∧ p.e2 < 2 ^ 64 := by decide
  q3 : 0 < p.q3 ∧ p.q3 < 2 ^ 64 := by decide
  e3 : 0 < p.e3 ∧ p.e3 < 2 ^ 64 := by decide
def mixS (p : Nums) : SV := (svSeq (svSet 2 (ev2 dMod (evA (a1 dInt) (avCons (ev2 (dAdd false) (ev2 (dAdd false) (ev2 (dMul false) (evVar 0) (evC (.int p.a1))) (ev2 (dMul false) (evVar 1) (evC (.int p.a2)))) (evC (.int p.a3))) avNil)) (evC (.int p.q1))))
    (svSeq (svSet 3 (ev2 dMod (evA (a1 dInt) (avCons (ev2 (dAdd false) (ev2 (dAdd false) (ev2 (dMul false) (evVar 2) (evVar 2)) (ev2 (dMul false) (evVar 1) (evC (.int p.b1)))) (ev2 dDiv (evVar 2) (evC (.int p.e1)))) avNil)) (evC (.int p.q2))))
    (svRet (ev2 dDiv (evA (a1 dInt) (avCons (ev2 dMod (evA (a1 dInt) (avCons (ev2 (dAdd false) (ev2 (dMul false) (evVar 3) (evC (.int p.c1))) (ev2 dDiv (evVar 2) (evC (.int p.e2)))) avNil)) (evC (.int p.q3))) avNil)) (evC (.int p.e3))))))
theorem mix_ok {p : Nums} (h : p.Ok) (n t : Int) (M : Mem) : ∃ r, fnB 4 (mixS p) [.int n, .int t] M = .ok (.int r) M := by
  have s : start3 4 [.int n, .int t] = [some (.int n), some (.int t), none, none] := rfl
  have m1 : ∀ x, mulOk x p.a1 = true := fun x => mulOk_r h.a1
  have m2 : ∀ x, mulOk x p.a2 = true := fun x => mulOk_r h.a2
  have m3 : ∀ x, mulOk x p.b1 = true := fun x => mulOk_r h.b1
  have m4 : ∀ x, mulOk x p.c1 = true := fun x => mulOk_r h.c1
  have o : ∀ x : Int, mulOk (x.fmod p.q1) (x.fmod p.q1) = true := fun x => mulOk_l (by have := fmod_r x h.q1.1; have := h.q1.2; omega)
  have d1 := divOk_s h.e1.1 h.e1.2
  have d2 := divOk_s h.e2.1 h.e2.2
  have d3 := divOk_s h.e3.1 h.e3.2
  have z1 : p.q1 ≠ 0 := by have := h.q1.1; omega
  have z2 : p.q2 ≠ 0 := by have := h.q2.1; omega
  have z3 : p.q3 ≠ 0 := by have := h.q3.1; omega
  unfold fnB mixS
  rw [s]
  simp [d_mul, d_mod, d_div, m1, m2, m3, m4, o, d1, d2, d3, z1, z2, z3]
def handB (a q : Int) : SV := (svSeq (svSet 1 (ev2 dMod (evA (a1 dInt) (avCons (ev2 (dAdd false) (ev2 (dMul false) (evVar 1) (evC (.int a))) (evA (a1 dInt) (avCons (evVar 3) avNil))) avNil)) (evC (.int q))))
    (svE (evM isL dAppend (evVar 2) (avCons (evA (a1 dAbs) (avCons (evA (a1 dInt) (avCons (evVar 3) avNil)) avNil)) avNil))))
def handS (t a q : Int) : SV := (svSeq (svSet 1 (ev2 (dAdd false) (evA (a1 dLen) (avCons (evVar 0) avNil)) (evC (.int t))))
    (svSeq (svSet 2 (evA mkCell avNil))
    (svSeq (svFor (ivSeq (evVar 0)) (gvName 3) (handB a q))
    (svRet (evA mkCell (avCons (evVar 2) (avCons (evC (.int 0)) (avCons (evC (.int 0)) (avCons (evVar 1) avNil)))))))))
theorem append_at {M : Mem} {n : Nat} {ds : List D} {y : D} (h : M[n]? = some (.lst ds)) (hz : ds.length < sizeLine) : dAppend (.ref n) [y] M = .ok .non (M.set n (.lst (ds ++ [y]))) := by
  have e : cellOf M (.ref n) = some (n, ds) := by
    show (match M[n]? with
      | some (.lst ds) => some (n, ds)
      | _ => none) = _
    rw [h]
  show (match cellOf M (.ref n) with
    | some (n, ds) => if ds.length < sizeLine then Res.ok D.non (M.set n (.lst (ds ++ [y]))) else Res.no
    | none => Res.no) = _
  rw [e]
  exact if_pos hz
theorem isL_ref {M : Mem} {n : Nat} {ds : List D} (h : M[n]? = some (.lst ds)) : isL M (.ref n) = true := by
  show (match M[n]? with
    | some (.lst ds) => some ds
    | _ => none).isSome = true
  rw [h]; rfl
theorem hand_loop {a q : Int} (ha : a.natAbs < 2 ^ 64) (hq : 0 < q) (s0 : D) : ∀ (ns : List Int) (t : Int) (done : List Int) (x : Option D) (M : Mem), done.length + ns.length ≤ 1000 →
    ∃ t' x', svLoop [] (gvName 3) (handB a q) (ns.map D.int) [some s0, some (.int t), some (.ref M.length), x] (M ++ [.lst (done.map D.int)]) = .nx [some s0, some (.int t'), some (.ref M.length), x'] (M ++ [.lst ((done ++ ns.map fun i => if i < 0 then -i else i).map D.int)])
  | [], t, done, x, M, _ => ⟨t, x, by simp [svLoop, watched]⟩
  | n :: ns, t, done, x, M, hl => by
    simp only [List.length_cons] at hl
    have hz : (done.map D.int).length < sizeLine := by rw [List.length_map]; have : (1000 : Nat) < sizeLine := by decide
                                                       omega
    have g : (M ++ [Cell.lst (done.map D.int)])[M.length]? = some (.lst (done.map D.int)) := by simp
    have m1 : ∀ x, mulOk x a = true := fun x => mulOk_r ha
    have z : q ≠ 0 := by omega
    obtain ⟨t', x', ih⟩ := hand_loop ha hq s0 ns ((t * a + n).fmod q) (done ++ [if n < 0 then -n else n]) (some (.int n)) M (by simp; omega)
    refine ⟨t', x', ?_⟩
    show svLoop [] (gvName 3) (handB a q) (.int n :: ns.map D.int) _ _ = _
    unfold svLoop
    have e : handB a q [some s0, some (.int t), some (.ref M.length), some (.int n)] (M ++ [.lst (done.map D.int)]) = .nx [some s0, some (.int ((t * a + n).fmod q)), some (.ref M.length), some (.int n)] (M ++ [.lst ((done ++ [if n < 0 then -n else n]).map D.int)]) := by
      unfold handB
      simp [d_mul, d_mod, m1, z, append_at g hz, isL_ref g]
    simp only [watched, List.all_nil, if_true, y_name, List.set_cons_succ, List.set_cons_zero]
    rw [e]
    simp only []
    rw [ih]
    simp
/-- the hand lies in these two cells -/
structure HandOk (M : Mem) (h c : Nat) : Prop where
  ne : c ≠ h
  ex : ∃ (cells : List Int) (pos rest tot : Int), M[h]? = some (.lst [.ref c, .int pos, .int rest, .int tot]) ∧ M[c]? = some (.lst (cells.map D.int)) ∧ 0 ≤ pos ∧ 0 ≤ rest
theorem mkCell_at {xs : List D} {M : Mem} (h : xs.length ≤ 1000) : mkCell xs M = .ok (.ref M.length) (M ++ [.lst xs]) := if_pos (Nat.le_trans h (by decide))
theorem mkLst_at {xs : List D} {M : Mem} (h : xs.length ≤ 1000) : mkLst xs M = .ok (.lst xs) M := if_pos (Nat.le_trans h (by decide))
theorem mkTup_at {xs : List D} {M : Mem} (h : xs.length ≤ 1000) : mkTup xs M = .ok (.tup xs) M := if_pos (Nat.le_trans h (by decide))
theorem hand_ok {t a q : Int} (ha : a.natAbs < 2 ^ 64) (hq : 0 < q) (ns : List Int) (hl : ns.length ≤ 63) (M : Mem) :
    ∃ t', fnB 4 (handS t a q) [.scr (ns.map D.int)] M = .ok (.ref (M.length + 1)) (M ++ [.lst ((ns.map fun i => if i < 0 then -i else i).map D.int), .lst [.ref M.length, .int 0, .int 0, .int t']]) := by
  obtain ⟨t', x', e⟩ := hand_loop ha hq (.scr (ns.map D.int)) ns (ns.length + t) [] none M (by simp; omega)
  have s : start3 4 [.scr (ns.map D.int)] = [some (.scr (ns.map D.int)), none, none, none] := rfl
  have len : dLen (.scr (ns.map D.int)) M = .ok (.int (ns.length : Nat)) M := by
    show Res.ok (D.int ((ns.map D.int).length : Nat)) M = _
    rw [List.length_map]
  refine ⟨t', ?_⟩
  unfold fnB handS
  rw [s]
  have src : ∀ M, srcOf M (.scr (ns.map D.int)) = some (false, ⟨ns.map D.int, []⟩) := fun _ => rfl
  simp only [List.map_nil, List.nil_append] at e
  simp [mkCell_at, len, src]
  rw [e]
  simp [mkCell_at]
theorem handOk_new {M : Mem} {cells : List Int} {t : Int} : HandOk (M ++ [.lst (cells.map D.int), .lst [.ref M.length, .int 0, .int 0, .int t]]) (M.length + 1) M.length :=
  ⟨by omega, cells, 0, 0, t, by simp [List.getElem?_append_right], by simp [List.getElem?_append_right], by decide, by decide⟩
/-! drawing -/
def takeS (TT : List (List Nat)) (mix : Fn3) (ten ex qm q : Int) : SV := (svSeq (svIf (bvAnd (bvE (ev2 dEqS (ev2 dIx (evVar 0) (evC (.int 2))) (evC (.int 0)))) (bvE (ev2 dLt (ev2 dIx (evVar 0) (evC (.int 1))) (evA (a1 dLen) (avCons (ev2 dIx (evVar 0) (evC (.int 0))) avNil))))) (svSeq (svSet 2 (ev2 dIx (ev2 dIx (evVar 0) (evC (.int 0))) (ev2 dIx (evVar 0) (evC (.int 1)))))
    (svSeq (svAsg (ev2 (dAdd false) (ev2 dIx (evVar 0) (evC (.int 1))) (evC (.int 1))) (gvSub (evVar 0) (evC (.int 1)) stL))
    (svSeq (svIf (bvE (ev2 dLt (evVar 2) (ev2 dPow (evC (.int ten)) (evC (.int ex))))) (svRet (ev2 dMod (evA (a1 dInt) (avCons (evTrim (nfT TT) (evCall mix 2 [] (avCons (ev2 dMod (evA (a1 dInt) (avCons (evVar 2) avNil)) (evC (.int qm))) (avCons (ev2 dIx (evVar 0) (evC (.int 1))) avNil)))) avNil)) (evVar 1))) svNext)
    (svAsg (evVar 2) (gvSub (evVar 0) (evC (.int 2)) stL))))) svNext)
    (svSeq (svIf (bvE (ev2 dGt (ev2 dIx (evVar 0) (evC (.int 2))) (evC (.int 0)))) (svSeq (svSet 3 (ev2 dIx (evVar 0) (evC (.int 2))))
    (svSeq (svAsg (ev2 dDiv (evA (a1 dInt) (avCons (evVar 3) avNil)) (evVar 1)) (gvSub (evVar 0) (evC (.int 2)) stL))
    (svRet (ev2 dMod (evA (a1 dInt) (avCons (evVar 3) avNil)) (evVar 1))))) svNext)
    (svSeq (svAsg (ev2 dMod (evA (a1 dInt) (avCons (ev2 (dAdd false) (ev2 dIx (evVar 0) (evC (.int 3))) (evC (.int 1))) avNil)) (evC (.int q))) (gvSub (evVar 0) (evC (.int 3)) stL))
    (svRet (ev2 dMod (evA (a1 dInt) (avCons (evTrim (nfT TT) (evCall mix 2 [] (avCons (ev2 dIx (evVar 0) (evC (.int 3))) (avCons (ev2 dIx (evVar 0) (evC (.int 1))) avNil)))) avNil)) (evVar 1))))))
theorem trim_int {nf : Nat → Nat} {M : Mem} {i : Int} : trimR nf M (.ok (.int i) M) = .ok (.int i) M := by
  show (if M.take M.length = M then (match frzD (frzR nf M.length M 6) (.int i) with
    | some d' => Res.ok d' M
    | none => .ok (.int i) M) else .ok (.int i) M) = _
  rw [if_pos List.take_length]
  rfl
theorem set_set' {M : Mem} {h : Nat} {x y : Cell} : (M.set h x).set h y = M.set h y := by simp
theorem take_ok {TT : List (List Nat)} {mix : Fn3} {ten ex qm q : Int} (hm : ∀ n t M, ∃ r, mix [.int n, .int t] M = .ok (.int r) M) (hp : powOk ten ex = true) (ht : 0 ≤ ten) (hqm : 0 < qm) (hq : 0 < q)
    {M : Mem} {h c : Nat} (H : HandOk M h c) {many : Int} (h0 : 0 < many) (h1 : many < 2 ^ 64) :
    ∃ d x, 0 ≤ d ∧ d < many ∧ fnB 4 (takeS TT mix ten ex qm q) [.ref h, .int many] M = .ok (.int d) (M.set h x) ∧ HandOk (M.set h x) h c := by
  obtain ⟨ne, cells, pos, rest, tot, g, gc, p0, r0⟩ := H
  have hl : h < M.length := (List.getElem?_eq_some_iff.mp g).1
  have g' : ∀ ds, (M.set h (.lst ds))[h]? = some (.lst ds) := fun ds => List.getElem?_set_self hl
  have gc' : ∀ x, (M.set h x)[c]? = some (.lst (cells.map D.int)) := fun x => by rw [List.getElem?_set_ne (Ne.symm ne)]; exact gc
  have s : start3 4 [.ref h, .int many] = [some (.ref h), some (.int many), none, none] := rfl
  have dv := divOk_s h0 h1
  have zm : many ≠ 0 := by omega
  have zq : q ≠ 0 := by omega
  have zqm : qm ≠ 0 := by omega
  have len : dLen (.ref c) M = .ok (.int (cells.length : Nat)) M := by rw [d_lenR gc, List.length_map]
  have i0 : ∀ p r t, atI [D.ref c, .int p, .int r, .int t] 0 = some (.ref c) := fun _ _ _ => rfl
  have i1 : ∀ p r t, atI [D.ref c, .int p, .int r, .int t] 1 = some (.int p) := fun _ _ _ => rfl
  have i2 : ∀ p r t, atI [D.ref c, .int p, .int r, .int t] 2 = some (.int r) := fun _ _ _ => rfl
  have i3 : ∀ p r t, atI [D.ref c, .int p, .int r, .int t] 3 = some (.int t) := fun _ _ _ => rfl
  have j1 : ∀ a b c d : D, ixN [a, b, c, d].length 1 = some 1 := fun _ _ _ _ => rfl
  have j2 : ∀ a b c d : D, ixN [a, b, c, d].length 2 = some 2 := fun _ _ _ _ => rfl
  have j3 : ∀ a b c d : D, ixN [a, b, c, d].length 3 = some 3 := fun _ _ _ _ => rfl
  have mk : ∀ p r t, 0 ≤ p → 0 ≤ r → HandOk (M.set h (.lst [.ref c, .int p, .int r, .int t])) h c := fun p r t hp hr => ⟨ne, cells, p, r, t, g' _, gc' _, hp, hr⟩
  -- the two last rows
  have tail : ∀ p r t (x : Option D), 0 ≤ p → 0 ≤ r → ∃ d y, 0 ≤ d ∧ d < many ∧ endB ((svIf (bvE (ev2 dGt (ev2 dIx (evVar 0) (evC (.int 2))) (evC (.int 0)))) (svSeq (svSet 3 (ev2 dIx (evVar 0) (evC (.int 2))))
    (svSeq (svAsg (ev2 dDiv (evA (a1 dInt) (avCons (evVar 3) avNil)) (evVar 1)) (gvSub (evVar 0) (evC (.int 2)) stL))
    (svRet (ev2 dMod (evA (a1 dInt) (avCons (evVar 3) avNil)) (evVar 1))))) svNext [some (.ref h), some (.int many), x, none] (M.set h (.lst [.ref c, .int p, .int r, .int t]))).seq (svSeq (svAsg (ev2 dMod (evA (a1 dInt) (avCons (ev2 (dAdd false) (ev2 dIx (evVar 0) (evC (.int 3))) (evC (.int 1))) avNil)) (evC (.int q))) (gvSub (evVar 0) (evC (.int 3)) stL))
    (svRet (ev2 dMod (evA (a1 dInt) (avCons (evTrim (nfT TT) (evCall mix 2 [] (avCons (ev2 dIx (evVar 0) (evC (.int 3))) (avCons (ev2 dIx (evVar 0) (evC (.int 1))) avNil)))) avNil)) (evVar 1))))) = .ok (.int d) (M.set h y) ∧ HandOk (M.set h y) h c := by
    intro p r t x hp hr
    by_cases z : 0 < r
    · refine ⟨r.fmod many, _, (fmod_r r h0).1, (fmod_r r h0).2, ?_, mk p (r.fdiv many) t hp (Int.fdiv_nonneg hr (Int.le_of_lt h0))⟩
      simp [d_ixR (g' _) (i2 _ _ _), z, d_div dv, st_R (g' _) (j2 _ _ _ _), d_mod zm]
    · obtain ⟨e, he⟩ := hm ((t + 1).fmod q) p (M.set h (.lst [.ref c, .int p, .int r, .int ((t + 1).fmod q)]))
      refine ⟨e.fmod many, _, (fmod_r e h0).1, (fmod_r e h0).2, ?_, mk p r ((t + 1).fmod q) hp hr⟩
      simp [d_ixR (g' _) (i2 _ _ _), d_ixR (g' _) (i3 _ _ _), d_ixR (g' _) (i1 _ _ _), z, d_mod zq, st_R (g' _) (j3 _ _ _ _), d_mod zm, he, trim_int]
  unfold fnB takeS
  rw [s]
  by_cases z : rest = 0 ∧ pos < (cells.length : Int)
  · obtain ⟨z1, z2⟩ := z
    subst z1
    obtain ⟨k, rfl⟩ := Int.eq_ofNat_of_zero_le p0
    have kl : k < cells.length := by omega
    have at_ : atI (cells.map D.int) (k : Int) = some (.int cells[k]) := by
      unfold atI
      have e : ixN (cells.map D.int).length (k : Int) = some k := by
        unfold ixN
        rw [List.length_map]
        simp [kl]
      rw [e]
      simp [kl]
    by_cases big : cells[k] < ten ^ ex.toNat
    · obtain ⟨e, he⟩ := hm (cells[k].fmod qm) (k + 1) (M.set h (.lst [.ref c, .int (k + 1), .int 0, .int tot]))
      refine ⟨e.fmod many, _, (fmod_r e h0).1, (fmod_r e h0).2, ?_, mk (k + 1) 0 tot (by omega) (by decide)⟩
      simp [d_ixR g (i2 _ _ _), d_ixR g (i1 _ _ _), d_ixR g (i0 _ _ _), len, z2, d_ixR gc at_, st_R g (j1 _ _ _ _), d_pow hp, big, d_mod zqm, d_ixR (g' _) (i1 _ _ _), he, trim_int, d_mod zm, kl]
    · have rn : 0 ≤ cells[k] := Int.le_trans (Int.pow_nonneg ht) (Int.not_lt.mp big)
      obtain ⟨d, y, d0, d1, e, hk⟩ := tail (k + 1) cells[k] tot (some (.int cells[k])) (by omega) rn
      refine ⟨d, y, d0, d1, ?_, hk⟩
      rw [← e]
      simp [d_ixR g (i2 _ _ _), d_ixR g (i1 _ _ _), d_ixR g (i0 _ _ _), len, z2, d_ixR gc at_, st_R g (j1 _ _ _ _), d_pow hp, big, st_R (g' _) (j2 _ _ _ _), kl]
  · have eM : M.set h (.lst [.ref c, .int pos, .int rest, .int tot]) = M := by
      apply List.ext_getElem?
      intro j
      by_cases hj : h = j
      · subst hj; rw [g' _, g]
      · rw [List.getElem?_set_ne hj]
    obtain ⟨d, y, d0, d1, e, hk⟩ := tail pos rest tot none p0 r0
    rw [eM] at e
    refine ⟨d, y, d0, d1, ?_, hk⟩
    rw [← e]
    by_cases z1 : rest = 0
    · have z2 : ¬ pos < (cells.length : Int) := fun q => z ⟨z1, q⟩
      simp [d_ixR g (i2 _ _ _), d_ixR g (i1 _ _ _), d_ixR g (i0 _ _ _), len, z1, z2]
    · simp [d_ixR g (i2 _ _ _), z1]
end L3

set_option Elab.async false
set_option linter.all false
set_option maxRecDepth 100000
set_option maxHeartbeats 4000000
namespace L3
open PySem PySem.Spec PyProof.Rows L2

/-! ### values that need no cell from n on -/
def Low (n : Nat) (d : D) : Prop := ∀ rf : Nat → Option D, (∀ k < n, rf k = some (.ref k)) → frzD rf d = some d
theorem low_int {n : Nat} {i : Int} : Low n (.int i) := fun _ _ => rfl
theorem low_bl {n : Nat} {b : Bool} : Low n (.bl b) := fun _ _ => rfl
theorem low_non {n : Nat} : Low n .non := fun _ _ => rfl
theorem low_str {n : Nat} {s : Str} : Low n (.str s) := fun _ _ => rfl
theorem low_ref {n k : Nat} (h : k < n) : Low n (.ref k) := fun rf hr => hr k h
theorem low_all {rf : Nat → Option D} {n : Nat} (hr : ∀ k < n, rf k = some (.ref k)) : ∀ {ds : List D}, (∀ d ∈ ds, Low n d) → frzDs rf ds = some ds
  | [], _ => rfl
  | d :: ds, h => by
    show (match frzD rf d, frzDs rf ds with
      | some a, some b => some (a :: b)
      | _, _ => none) = _
    rw [h d List.mem_cons_self rf hr, low_all hr fun e he => h e (List.mem_cons_of_mem _ he)]
theorem low_tup {n : Nat} {ds : List D} (h : ∀ d ∈ ds, Low n d) : Low n (.tup ds) := fun rf hr => by
  show (frzDs rf ds).map D.tup = _
  rw [low_all hr h]; rfl
theorem low_lst {n : Nat} {ds : List D} (h : ∀ d ∈ ds, Low n d) : Low n (.lst ds) := fun rf hr => by
  show (frzDs rf ds).map D.lst = _
  rw [low_all hr h]; rfl
theorem low_obj {n c : Nat} {ds : List D} (h : ∀ d ∈ ds, Low n d) : Low n (.obj c ds) := fun rf hr => by
  show (frzDs rf ds).map (D.obj c) = _
  rw [low_all hr h]; rfl
theorem Low.mono {n m : Nat} {d : D} (h : Low n d) (k : n ≤ m) : Low m d := fun rf hr => h rf fun j hj => hr j (Nat.lt_of_lt_of_le hj k)
theorem frzR_low {nf : Nat → Nat} {b : Nat} {M : Mem} : ∀ (n k : Nat), k < b → frzR nf b M n k = some (.ref k)
  | 0, k, h => if_pos h
  | n + 1, k, h => if_pos h
theorem trim_low {nf : Nat → Nat} {M t : Mem} {d : D} (h : Low M.length d) : trimR nf M (.ok d (M ++ t)) = .ok d M := by
  show (if (M ++ t).take M.length = M then (match frzD (frzR nf M.length (M ++ t) 6) d with
    | some d' => Res.ok d' M
    | none => .ok d (M ++ t)) else .ok d (M ++ t)) = _
  rw [if_pos (by simp), h _ fun k hk => frzR_low _ k hk]
theorem trim_same {nf : Nat → Nat} {M : Mem} {d : D} (h : Low M.length d) : trimR nf M (.ok d M) = .ok d M := by
  have := trim_low (nf := nf) (t := []) h
  rwa [List.append_nil] at this
theorem trim_cell {nf : Nat → Nat} {M t : Mem} {c : Cell} {d : D} (h : frzR nf M.length (M ++ c :: t) 6 M.length = some d) : trimR nf M (.ok (.ref M.length) (M ++ c :: t)) = .ok d M := by
  show (if (M ++ c :: t).take M.length = M then (match frzD (frzR nf M.length (M ++ c :: t) 6) (.ref M.length) with
    | some d' => Res.ok d' M
    | none => .ok (.ref M.length) (M ++ c :: t)) else .ok (.ref M.length) (M ++ c :: t)) = _
  rw [if_pos (by simp)]
  show (match frzR nf M.length (M ++ c :: t) 6 M.length with
    | some d' => Res.ok d' M
    | none => .ok (.ref M.length) (M ++ c :: t)) = _
  rw [h]
theorem trim_lst {nf : Nat → Nat} {M t : Mem} {ds : List D} (h : ∀ d ∈ ds, Low M.length d) : trimR nf M (.ok (.ref M.length) (M ++ .lst ds :: t)) = .ok (.lst ds) M := by
  refine trim_cell ?_
  rw [show (6 : Nat) = 5 + 1 from rfl, frzR, if_neg (Nat.lt_irrefl _)]
  have e : (M ++ Cell.lst ds :: t)[M.length]? = some (.lst ds) := by simp
  rw [e]
  show (frzDs (frzR nf M.length (M ++ .lst ds :: t) 5) ds).map D.lst = _
  rw [low_all (fun k hk => frzR_low _ k hk) h]; rfl
theorem trim_ins {nf : Nat → Nat} {M t : Mem} {c : Nat} {ds : List D} (hl : ds.length = nf c) (h : ∀ d ∈ ds, Low M.length d) : trimR nf M (.ok (.ref M.length) (M ++ .ins c ds :: t)) = .ok (.obj c ds) M := by
  refine trim_cell ?_
  rw [show (6 : Nat) = 5 + 1 from rfl, frzR, if_neg (Nat.lt_irrefl _)]
  have e : (M ++ Cell.ins c ds :: t)[M.length]? = some (.ins c ds) := by simp
  rw [e]
  show (if ds.length = nf c then (frzDs (frzR nf M.length (M ++ .ins c ds :: t) 5) ds).map (D.obj c) else none) = _
  rw [if_pos hl, low_all (fun k hk => frzR_low _ k hk) h]; rfl

/-! ### __init__s that lay their arguments down, one by one -/
def initS (T : List (List Nat)) : List Nat → Nat → SV
  | [], _ => svNext
  | [j], k => svFld T j (evVar 0) (evVar k)
  | j :: r, k => svSeq (svFld T j (evVar 0) (evVar k)) (initS T r (k + 1))
theorem putN_next {y : D} {j : Nat} : ∀ (pre suf : List Nat) (ds : List D), pre.length = ds.length → j ∉ pre → putN (pre ++ j :: suf) j y ds = some (ds ++ [y])
  | [], suf, ds, h, _ => by
    have : ds = [] := List.length_eq_zero_iff.mp h.symm
    subst this
    show (if j = j then some [y] else none) = _
    rw [if_pos rfl]; rfl
  | g :: pre, suf, [], h, _ => by simp at h
  | g :: pre, suf, d :: ds, h, n => by
    have hg : g ≠ j := fun e => n (by rw [e]; exact List.mem_cons_self)
    show (if g = j then some (y :: ds) else (putN (pre ++ j :: suf) j y ds).map (d :: ·)) = _
    rw [if_neg hg, putN_next pre suf ds (by simpa using h) fun m => n (List.mem_cons_of_mem _ m)]; rfl
theorem fld_step {T : List (List Nat)} {c j k : Nat} {pre suf : List Nat} {σ : St3} {M : Mem} {ds : List D} {y : D} (hT : T.getD c [] = pre ++ j :: suf) (hl : pre.length = ds.length) (hn : j ∉ pre) (h0 : σ[0]? = some (some (.ref M.length))) (hk : σ[k]? = some (some y)) :
    svFld T j (evVar 0) (evVar k) σ (M ++ [.ins c ds]) = .nx σ (M ++ [.ins c (ds ++ [y])]) := by
  have e : (M ++ [Cell.ins c ds])[M.length]? = some (.ins c ds) := by simp
  unfold svFld
  have hT2 : T[c]?.getD [] = pre ++ j :: suf := by rw [← List.getD_eq_getElem?_getD]; exact hT
  simp [hk, h0, hT2, putN_next pre suf ds hl hn]
theorem init_run {T : List (List Nat)} {c : Nat} {σ : St3} {M : Mem} (h0 : σ[0]? = some (some (.ref M.length))) : ∀ (js pre : List Nat) (ds ys : List D) (k : Nat), T.getD c [] = pre ++ js → (pre ++ js).Nodup → pre.length = ds.length → js.length = ys.length → (∀ i, (h : i < ys.length) → σ[k + i]? = some (some ys[i])) →
    initS T js k σ (M ++ [.ins c ds]) = .nx σ (M ++ [.ins c (ds ++ ys)])
  | [], pre, ds, ys, k, hT, nd, hl, hj, hv => by
    have : ys = [] := List.length_eq_zero_iff.mp hj.symm
    subst this
    rw [List.append_nil]; rfl
  | [j], pre, ds, [y], k, hT, nd, hl, hj, hv => by
    have hn : j ∉ pre := fun m => by
      rw [List.nodup_append] at nd
      exact nd.2.2 j m j (by simp) rfl
    exact fld_step hT hl hn h0 (hv 0 (by simp))
  | j :: j2 :: r, pre, ds, y :: ys, k, hT, nd, hl, hj, hv => by
    have hn : j ∉ pre := fun m => by
      rw [List.nodup_append] at nd
      exact nd.2.2 j m j (by simp) rfl
    show (svFld T j (evVar 0) (evVar k) σ (M ++ [.ins c ds])).seq (initS T (j2 :: r) (k + 1)) = _
    rw [fld_step (k := k) hT hl hn h0 (hv 0 (by simp))]
    show initS T (j2 :: r) (k + 1) σ (M ++ [.ins c (ds ++ [y])]) = _
    rw [init_run h0 (j2 :: r) (pre ++ [j]) (ds ++ [y]) ys (k + 1) (by rw [hT]; simp) (by simpa using nd) (by simp [hl]) (by simpa using hj) fun i hi => by
      have := hv (i + 1) (by simpa using hi)
      simpa [Nat.add_assoc, Nat.add_comm 1 i] using this]
    simp
  | [j], pre, ds, [], k, hT, nd, hl, hj, hv => by simp at hj
  | [j], pre, ds, _ :: _ :: _, k, hT, nd, hl, hj, hv => by simp at hj
  | _ :: _ :: _, pre, ds, [], k, hT, nd, hl, hj, hv => by simp at hj
theorem new_run {T : List (List Nat)} {c ar : Nat} {M : Mem} {js : List Nat} {ys : List D} (hT : T.getD c [] = js) (nd : js.Nodup) (hy : js.length = ys.length) (ha : ys.length + 1 = ar) (low : ∀ d ∈ ys, Low M.length d) : trimR (nfT T) M (newR c (fnB ar (initS T js 1)) ar ys M) = .ok (.obj c ys) M := by
  have e : fnB ar (initS T js 1) (.ref M.length :: ys) (M ++ [.ins c []]) = .ok .non (M ++ [.ins c ys]) := by
    unfold fnB
    have s : start3 ar (.ref M.length :: ys) = some (.ref M.length) :: ys.map some := by
      unfold start3
      rw [← ha, List.length_cons, Nat.sub_self]
      simp
    rw [s]
    have q := init_run (T := T) (c := c) (σ := some (.ref M.length) :: ys.map some) (M := M) rfl js [] [] ys 1 (by simpa using hT) (by simpa using nd) rfl hy fun i hi => by
      rw [Nat.add_comm 1 i]
      simp [hi]
    rw [q]
    simp
  unfold newR
  rw [if_pos ha, e]
  exact trim_ins (t := []) (by unfold nfT; rw [hT, hy]) low
theorem d_fldO {T : List (List Nat)} {j c : Nat} {ds : List D} {M : Mem} : dFld T j (.obj c ds) M = match lkN (T.getD c []) ds j with
  | some d => .ok d M
  | none => .no := rfl

/-! ### comprehensions that leave the cells alone -/
theorem lc_run {w : List (Nat × List D)} {g : CGV} {tt : BV} {te : EV} {σ : St3} {M : Mem} {p : D → Bool} {f : D → D} (hw : ∀ c, watched w (M ++ [c]) = true) : ∀ (items acc : List D), acc.length + items.length ≤ 1000 →
    (∀ d ∈ items, ∀ c, ∃ σ1, g d σ = some σ1 ∧ tt σ1 (M ++ [c]) = .ok (p d) (M ++ [c]) ∧ (p d = true → te σ1 (M ++ [c]) = .ok (f d) (M ++ [c]))) → lcLoop w M.length g tt te σ items (M ++ [.lst acc]) = some (M ++ [.lst (acc ++ (items.filter p).map f)])
  | [], acc, _, _ => by simp [lcLoop, hw]
  | d :: r, acc, hl, hb => by
    obtain ⟨σ1, e1, e2, e3⟩ := hb d List.mem_cons_self (.lst acc)
    simp only [List.length_cons] at hl
    have hz : acc.length < sizeLine := Nat.lt_of_lt_of_le (show acc.length < 1001 by omega) (by decide)
    unfold lcLoop
    rw [if_pos (hw _)]
    simp only [e1, e2]
    cases q : p d with
    | false =>
      rw [if_neg Bool.false_ne_true, lc_run hw r acc (by omega) fun d hd => hb d (List.mem_cons_of_mem _ hd)]
      simp [q]
    | true =>
      rw [if_pos rfl, e3 q]
      have g1 : (M ++ [Cell.lst acc])[M.length]? = some (.lst acc) := by simp
      simp only [g1, if_pos hz]
      have s1 : (M ++ [Cell.lst acc]).set M.length (.lst (acc ++ [f d])) = M ++ [.lst (acc ++ [f d])] := by simp
      rw [s1, lc_run hw r (acc ++ [f d]) (by simp; omega) fun d hd => hb d (List.mem_cons_of_mem _ hd)]
      simp [q]
theorem lcT_run {nf : Nat → Nat} {iv : IV} {vs : List Nat} {g : CGV} {tt : BV} {te : EV} {σ : St3} {M : Mem} {p : D → Bool} {f : D → D} {items : List D} {w : List (Nat × List D)} (hi : iv σ M = .ok ⟨items, w⟩ M) (hw : ∀ c, watched w (M ++ [c]) = true) (hl : items.length ≤ 1000)
    (hb : ∀ d ∈ items, ∀ c, ∃ σ1, g d (wipe3 σ vs) = some σ1 ∧ tt σ1 (M ++ [c]) = .ok (p d) (M ++ [c]) ∧ (p d = true → te σ1 (M ++ [c]) = .ok (f d) (M ++ [c]))) (low : ∀ d ∈ items, p d = true → Low M.length (f d)) :
    trimR nf M (evLc iv vs g tt te σ M) = .ok (.lst ((items.filter p).map f)) M := by
  unfold evLc
  rw [hi]
  show trimR nf M (match lcLoop w M.length g tt te (wipe3 σ vs) items (M ++ [.lst []]) with
    | some M2 => Res.ok (.ref M.length) M2
    | none => .no) = _
  rw [lc_run hw items [] (by simpa using hl) hb]
  refine trim_lst (t := []) fun d hd => ?_
  rw [List.nil_append] at hd
  obtain ⟨e, he, rfl⟩ := List.mem_map.mp hd
  exact low e (List.mem_filter.mp he).1 (List.mem_filter.mp he).2

/-! ### how wide repr's texts are -/
mutual
def wid : PyData → Nat
  | .none => 4
  | .bool _ => 5
  | .int i => i.natAbs.log2 + 2
  | .str x => (reprText x).length
  | .list xs => wids xs + 3
  | .tuple xs => wids xs + 4
  | .dict _ => 0
def wids : List PyData → Nat
  | [] => 0
  | x :: xs => wid x + 2 + wids xs
end
theorem textFrom_le : ∀ (ts : List Str) (k : Nat) (acc : Str), (textFrom k acc ts).length ≤ acc.length + piled ts
  | [], k, acc => by show acc.length ≤ _; simp [piled]
  | t :: ts, k, acc => by
    have h := textFrom_le ts (k + 1) (acc ++ (if k > 0 then ", " else "" : String) ++ t)
    have e : (acc ++ (if k > 0 then ", " else "" : String) ++ t).length ≤ acc.length + 2 + t.length := by
      rw [strLen_append, strLen_append]
      have e2 : ((", " : String) : Str).length = 2 := rfl
      have e3 : (("" : String) : Str).length = 0 := rfl
      split <;> omega
    rw [piled_cons]
    exact Nat.le_trans h (by omega)
theorem listText_le (ts : List Str) : (listText ts).length ≤ piled ts + 2 := by
  unfold listText
  rw [strLen_append]
  have h := textFrom_le ts 0 "["
  have e1 : (("[" : String) : Str).length = 1 := rfl
  have e2 : (("]" : String) : Str).length = 1 := rfl
  omega
theorem tupleText_le (ts : List Str) : (tupleText ts).length ≤ piled ts + 3 := by
  unfold tupleText
  rw [strLen_append, strLen_append]
  have e1 : (("(" : String) : Str).length = 1 := rfl
  have e2 : ((",)" : String) : Str).length = 2 := rfl
  have e3 : ((")" : String) : Str).length = 1 := rfl
  have e4 : (Str.join ", " ts).length ≤ piled ts := by
    cases ts with
    | nil => exact Nat.le_refl _
    | cons t r => have := join_length_add (t :: r) (by simp); omega
  split <;> omega
theorem int_le (i : Int) : (Str.ofString (toString i)).length ≤ i.natAbs.log2 + 2 := by
  have h : i.natAbs < 10 ^ (i.natAbs.log2 + 1) := by
    rcases Nat.eq_zero_or_pos i.natAbs with z | z
    · rw [z]; decide
    · exact Nat.lt_of_lt_of_le (Nat.lt_log2_self) (Nat.pow_le_pow_left (by decide) _)
  rw [PySem.ofString_length]
  exact int_text_length_le10 (by omega) h
mutual
theorem shown_le : ∀ d : PyData, d.hasDict = false → d.shown.length ≤ wid d
  | .none, _ => Nat.le_refl _
  | .bool b, _ => by cases b <;> decide
  | .int i, _ => by simp only [PyData.shown, wid]; exact int_le i
  | .str x, _ => by simp only [PyData.shown, wid]; exact Nat.le_refl _
  | .list xs, h => by
    simp only [PyData.shown, wid]
    have := listText_le (PyData.shownAll xs)
    have := shownAll_le xs (by simpa only [PyData.hasDict] using h)
    omega
  | .tuple xs, h => by
    simp only [PyData.shown, wid]
    have := tupleText_le (PyData.shownAll xs)
    have := shownAll_le xs (by simpa only [PyData.hasDict] using h)
    omega
  | .dict kvs, h => by simp [PyData.hasDict] at h
theorem shownAll_le : ∀ ds : List PyData, PyData.hasDictAll ds = false → piled (PyData.shownAll ds) ≤ wids ds
  | [], _ => Nat.le_refl _
  | d :: ds, h => by
    simp only [PyData.hasDictAll, Bool.or_eq_false_iff] at h
    simp only [PyData.shownAll, wids]
    rw [piled_cons]
    have := shown_le d h.1
    have := shownAll_le ds h.2
    omega
end
theorem okRepr_of {p : PyData} (h1 : p.showable = true) (h2 : p.hasDict = false) (h3 : wid p ≤ 1000000) : okRepr p = true := by
  unfold okRepr
  rw [h1, h2, decide_eq_true (Nat.le_trans (shown_le p h2) (Nat.le_trans h3 (by decide)))]; rfl
end L3

set_option Elab.async false
set_option linter.all false
set_option maxRecDepth 100000
set_option maxHeartbeats 4000000
namespace L3
open PySem PySem.Spec PyProof.Rows L2

/-! ### __init__ of an own exception class: self.f = x, .. -/
def spX (C : Addr) (names : List Str) : Sp := fun vs H Q _ => ∃ a ys, vs = .ref a :: ys ∧ ys.length = names.length ∧ H a = some (exo a C none) ∧
  ∀ d, H d = none → d ≠ a → Q .non (upd (upd H d (exd d (names.zip ys).reverse)) a (exo a C (some d)))
def tSts (K : PySem.W.Frag) : List Str → Nat → TS
  | [], _ => fun D σ H => D.nx σ H
  | [f], k => tOst K f (tVar 0) (tVar k)
  | f :: g :: r, k => tSeq (tOst K f (tVar 0) (tVar k)) (tSts K (g :: r) (k + 1))
theorem upd_upd {H : Hp} {a : Addr} {o u : HO} : upd (upd H a o) a u = upd H a u := by
  funext b
  by_cases h : b = a
  · subst h; rw [upd_same, upd_same]
  · rw [upd_ne h, upd_ne h, upd_ne h]
theorem sts_old {K : PySem.W.Frag} {C : Addr} {σ : L2.St} {a dx : Addr} (T : OexC K C) (h0 : σ[0]? = some (some (.ref a))) (hne : dx ≠ a) : ∀ (f : Str) (names : List Str) (ys : List V) (k : Nat) (H : Hp) (fs : List (Str × V)) (D : Ends),
    ys.length = names.length + 1 → (∀ g ∈ f :: names, PySem.W.findIn K (.ref C) g = some none) → (∀ i, (h : i < ys.length) → σ[k + i]? = some (some ys[i])) → H a = some (exo a C (some dx)) → H dx = some (exd dx fs) → fs.length + names.length ≤ 800 →
    D.nx σ (upd H dx (exd dx (((f :: names).zip ys).reverse ++ fs))) → tSts K (f :: names) k D σ H
  | f, [], [y], k, H, fs, D, hl, hn, hv, ha, hd, hz, q => by
    refine ⟨y, hv 0 (by simp), .ref a, h0, a, C, rfl, T, hn f List.mem_cons_self, .inr ⟨dx, fs, ha, hd, by simp at hz; omega, ?_⟩⟩
    exact q
  | f, g :: r, y :: ys, k, H, fs, D, hl, hn, hv, ha, hd, hz, q => by
    refine ⟨y, hv 0 (by simp), .ref a, h0, a, C, rfl, T, hn f List.mem_cons_self, .inr ⟨dx, fs, ha, hd, by simp at hz; omega, ?_⟩⟩
    refine sts_old T h0 hne g r ys (k + 1) _ ((f, y) :: fs) D (by simpa using hl) (fun z hz => hn z (List.mem_cons_of_mem _ hz)) (fun i hi => ?_) (by rw [upd_ne hne.symm]; exact ha) upd_same (by simp at hz ⊢; omega) ?_
    · have := hv (i + 1) (by simpa using hi)
      simpa [Nat.add_assoc, Nat.add_comm 1 i] using this
    · rw [upd_upd]
      simpa using q
  | _, [], [], _, _, _, _, hl, _, _, _, _, _, _ => by simp at hl
  | _, [], _ :: _ :: _, _, _, _, _, hl, _, _, _, _, _, _ => by simp at hl
  | _, _ :: _, [], _, _, _, _, hl, _, _, _, _, _, _ => by simp at hl
theorem sts_new {K : PySem.W.Frag} {C : Addr} {σ : L2.St} {a : Addr} (T : OexC K C) (h0 : σ[0]? = some (some (.ref a))) {f : Str} {names : List Str} {ys : List V} {H : Hp} {D : Ends} (hl : ys.length = names.length + 1) (hm : names.length ≤ 700) (hn : ∀ g ∈ f :: names, PySem.W.findIn K (.ref C) g = some none)
    (hv : ∀ i, (h : i < ys.length) → σ[1 + i]? = some (some ys[i])) (ha : H a = some (exo a C none)) (q : ∀ d, H d = none → d ≠ a → D.nx σ (upd (upd H d (exd d ((f :: names).zip ys).reverse)) a (exo a C (some d)))) : tSts K (f :: names) 1 D σ H := by
  match names, ys, hl with
  | [], [y], _ =>
    exact ⟨y, hv 0 (by simp), .ref a, h0, a, C, rfl, T, hn f List.mem_cons_self, .inl ⟨ha, fun dx h1 h2 => q dx h1 h2⟩⟩
  | g :: r, y :: ys, hl =>
    refine ⟨y, hv 0 (by simp), .ref a, h0, a, C, rfl, T, hn f List.mem_cons_self, .inl ⟨ha, fun dx h1 h2 => ?_⟩⟩
    refine sts_old T h0 h2 g r ys 2 _ [(f, y)] D (by simpa using hl) (fun z hz => hn z (List.mem_cons_of_mem _ hz)) (fun i hi => ?_) upd_same (by rw [upd_ne h2]; exact upd_same) (by simp at hm ⊢; omega) ?_
    · have := hv (i + 1) (by simpa using hi)
      rw [show 2 + i = 1 + (i + 1) by omega, this]; simp
    · have e : upd (upd (upd H dx (exd dx [(f, y)])) a (exo a C (some dx))) dx (exd dx (((g :: r).zip ys).reverse ++ [(f, y)])) = upd (upd H dx (exd dx ((f :: g :: r).zip (y :: ys)).reverse)) a (exo a C (some dx)) := by
        funext b
        by_cases hb : b = dx
        · subst hb; rw [upd_same, upd_ne h2, upd_same]; simp
        · rw [upd_ne hb]
          by_cases ha' : b = a
          · subst ha'; rw [upd_same, upd_same]
          · rw [upd_ne ha', upd_ne ha', upd_ne hb, upd_ne hb]
      rw [e]
      exact q dx h1 h2
section
variable {P : Program} {w : World} {K : PySem.W.Frag} {mg : Str → Option Value} {base : Heap} {x qual : Str} {params : Arguments} {body : List Stmt} {scope : Scope} {f : Addr} {fd : FuncData} {C : Addr}
theorem xinit_ok {nm : Str} {names N : List Str} {n : Nat} (F : FunD K x qual params body scope [] [] f fd) (S : FnScope N N scope) (T : OexC K C) (hN : N.length = names.length + 2) (hm : names.length ≤ 700) (hn : ∀ g ∈ nm :: names, PySem.W.findIn K (.ref C) g = some none)
    (hb : ∀ (cdv : Value) (A : Around) (st : List Env) (s : Shared) (H : Hp) (E : XK), PSs (cxOf (L2.CX P w) P w K mg base N qual scope f cdv A st s H E) body (tSts K (nm :: names) 1)) : FnOk P w K mg base (L2.CX P w) 1 f fd N (spX C (nm :: names)) := by
  refine F.ok S (fun vs H Q E ⟨a, ys, e, l, _⟩ => by rw [e, List.length_cons, l, hN]; rfl) fun cdv A st s H vs Q E hr ⟨a, ys, e, l, ha, q⟩ => ⟨_, hb cdv A st s H E, ?_⟩
  subst e
  have hs : L2.start N (.ref a :: ys) = some (.ref a) :: ys.map some := by
    unfold L2.start
    rw [hN]
    simp [l]
  rw [hs]
  refine sts_new T (a := a) (ys := ys) rfl (by simpa using l) hm hn (fun i hi => ?_) ha q
  rw [Nat.add_comm 1 i]
  simp [hi]
end
/-! ### raise C(..) -/
/-- what stands at an exception class's name -/
structure HasX (P : Program) (w : World) (C : Ct) (mg : Str → Option Value) (base : Heap) (x : Str) (c : Nat) (n : Nat) : Prop where
  ex : ∃ (f : Addr) (fd : FuncData) (ps : List Str), OexC C.K (C.xcls c) ∧ PySem.W.findIn C.K (.ref (C.xcls c)) "__init__" = some (some (.ref f)) ∧ PySem.W.typeIn C.K (.ref f) = some (.type "function") ∧ FnOk P w C.K mg base (L2.CX P w) 1 f fd ps (spX (C.xcls c) (C.xfl c)) ∧ mg x = some (.ref (C.xcls c)) ∧
    Binds C.K fd ps [] ∧ (C.xfl c).length = n ∧ (C.xfl c).Nodup ∧ PySem.W.keepIn C.K (.ref (C.xcls c)) = true
def svRaise (c n : Nat) (av : AV) : SV := fun σ M => (av σ M).out σ fun ds M1 => if ds.length = n ∧ n ≤ 900 then .exc c ds σ M1 else .no
theorem zip_rev_get {names : List Str} : ∀ {ys : List V} {k : Nat} {f : Str} {y : V}, names.Nodup → names.length = ys.length → names[k]? = some f → ys[k]? = some y → (names.zip ys).reverse.lookup f = some y := by
  intro ys k f y nd hl h1 h2
  have hm : (f, y) ∈ (names.zip ys).reverse := by
    rw [List.mem_reverse]
    refine List.mem_of_getElem? (i := k) ?_
    rw [List.getElem?_zip_eq_some]
    exact ⟨h1, h2⟩
  have key : ∀ l : List (Str × V), (l.map (·.1)).Nodup → (f, y) ∈ l → l.lookup f = some y := by
    intro l
    induction l with
    | nil => intro _ h; simp at h
    | cons p r ih =>
      intro nd h
      obtain ⟨g, z⟩ := p
      rw [List.map_cons, List.nodup_cons] at nd
      rcases List.mem_cons.mp h with e | h
      · cases e; simp [List.lookup]
      · have hg : f ≠ g := fun e => nd.1 (by rw [← e]; exact List.mem_map.mpr ⟨(f, y), h, rfl⟩)
        have hb : (f == g) = false := beq_eq_false_iff_ne.mpr hg
        rw [List.lookup_cons, hb]
        exact ih nd.2 h
  refine key _ ?_ hm
  rw [List.map_reverse, List.map_fst_zip (by omega)]
  exact (List.reverse_perm names).nodup_iff.mpr nd
section
variable {X : Cx} {C : Ct} {W : WX} {c n j : Nat} {x : Str} {p pos pos2 : Pos} {e : Expr} {es : List Expr} {av : AV}
theorem s_raise (h : HasX X.prog X.w C X.mg X.base x c n) (hr : Room j X.A) (hc : X.calm = true) (tk : Takes X W) (hg : Gl X x) (ha : PA X (e :: es) (LA C W av)) (hj : 2 ≤ j := by decide) (hdb : (x == ("__debug__" : Str)) = false := by decide)
    (he : starEach (e :: es) X.env = (false, eval e X.env) :: starEach es X.env := by rfl) (hpl : (backTo pos (starEach es X.env)).any (·.1) = false := by rfl) (hK : C.K = X.K := by rfl) : PS X (.Raise (some (.Call (.Name x p) (e :: es) [] pos)) none pos2) (LS C W (svRaise c n av)) := by
  obtain ⟨f, fd, ps, T, iC, tI, F, hm, hb, hn, nd, hk⟩ := h.ex
  rw [hK] at T iC tI F hb hk
  refine PSimp (ps_raise hc tk (pmk_oex T iC tI F (Room.mono hr hj) hb .nil (fun _ _ _ _ _ _ _ q => by obtain ⟨_, _, _, _, _, _, _, _, _, _, _, _, z⟩ := q; exact z.elim) hg hm ha hdb he hpl)) fun D σ H ⟨α, σ3, M, m, s, q⟩ => ?_
  refine ⟨α, σ3, M, m, s, (FinS.out s q).mono fun vs H1 ⟨α1, M1, ds, e1, m1, r1, h1⟩ => ?_⟩
  have h1 : FinS C W D α1 H1 (if ds.length = n ∧ n ≤ 900 then .exc c ds σ3 M1 else .no) := h1
  by_cases z : ds.length = n ∧ n ≤ 900
  · rw [if_pos z] at h1
    refine ⟨by rw [r1.length]; omega, fun a ha => ⟨a, vs ++ [], rfl, by rw [List.append_nil, r1.length, hn]; exact z.1, upd_same, fun d hd hda => ⟨rfl, d, ((C.xfl c).zip (vs ++ [])).reverse, upd_same, ?_, ?_, ?_⟩⟩⟩
    · rw [upd_ne hda, upd_same]
    · have := hd
      rw [upd_ne hda] at this; exact this
    · have hd1 : H1 d = none := by rw [upd_ne hda] at hd; exact hd
      have eH : upd (del (upd (upd (upd H1 a (exo a (C.xcls c) none)) d (exd d ((C.xfl c).zip (vs ++ [])).reverse)) a (exo a (C.xcls c) (some d))) a) d (.xd ((C.xfl c).zip (vs ++ [])).reverse) = upd H1 d (.xd ((C.xfl c).zip vs).reverse) := by
        funext b
        rw [List.append_nil]
        by_cases hb : b = d
        · subst hb; rw [upd_same, upd_same]
        · rw [upd_ne hb, upd_ne hb]
          by_cases hba : b = a
          · subst hba; rw [del_same, ha]
          · rw [del_ne hba, upd_ne hba, upd_ne hb, upd_ne hba]
      rw [eH]
      have ex : Ext α1 H1 α1 (upd H1 d (.xd ((C.xfl c).zip vs).reverse)) := Ext.laid (C := C) (M := M1) hd1
      refine h1 α1 _ σ (some d) ex (m1.laid hd1) (s.ext (e1.trans ex)) (.inr ⟨d, _, rfl, m1.new hd1, upd_same, fun k f d' h2 h3 => ?_⟩)
      obtain ⟨v, h4, h5⟩ := r1.get h3
      exact ⟨v, zip_rev_get nd (by rw [hn, r1.length]; exact z.1.symm) h2 h4, h5.ext ex⟩
  · rw [if_neg z] at h1; exact h1.elim
end
end L3

set_option Elab.async false
set_option linter.all false
set_option maxRecDepth 100000
set_option maxHeartbeats 4000000
namespace L3
open PySem PySem.Spec PyProof.Rows L2

/-! ### try: body; except A as n: ..; except B: .. -/
structure Cl where
  c : Value
  slot : Option Nat
  ts : Addr → Value → Option Addr → TS
def endsCl : Option Nat → Ends → Ends
  | none, D => D
  | some i, D => { nx := fun σ H => D.nx (σ.set i none) H, rt := D.rt, bk := fun σ H => D.bk (σ.set i none) H, ct := fun σ H => D.ct (σ.set i none) H }
def stCl : Option Nat → Addr → L2.St → L2.St
  | none, _, σ => σ
  | some i, a, σ => σ.set i (some (.ref a))
def wCl (K : PySem.W.Frag) (Wout : WX) (D : Ends) : List Cl → WX
  | [] => Wout
  | q :: r => fun cls d σ H => ∃ b, PySem.W.exmOne K cls q.c = some b ∧ (b = true → ∀ a, H a = none → q.ts a cls d (endsCl q.slot D) (stCl q.slot a σ) H) ∧ (b = false → wCl K Wout D r cls d σ H)
def SuiteOk (X : Cx) (ss : List Stmt) (ts : Addr → Value → Option Addr → TS) : Prop := ∀ (a : Addr) (oe : Obj) (cls : Value) (d : Option Addr) (pn : List (Addr × Obj)), Zc cls d oe → (∃ vs, oe.data = .fields vs) → PSs (X.suite a ((a, oe) :: pn)) ss (ts a cls d)
inductive ClOk (X : Cx) : List ExceptHandler → List Cl → Prop
  | nil : ClOk X [] []
  | plain {x : Str} {c : Value} {ts : Addr → Value → Option Addr → TS} {s0 : Stmt} {ss : List Stmt} {p p' : Pos} {hs : List ExceptHandler} {l : List Cl} (hc : Names X x c) (hsu : SuiteOk X (s0 :: ss) ts) (r : ClOk X hs l) :
      ClOk X (.ExceptHandler (some (.Name x p)) none (s0 :: ss) p' :: hs) (⟨c, none, ts⟩ :: l)
  | named {x n : Str} {i : Nat} {c : Value} {ts : Addr → Value → Option Addr → TS} {s0 : Stmt} {ss : List Stmt} {p p' : Pos} {hs : List ExceptHandler} {l : List Cl} (hi : X.N[i]? = some n) (hk : X.env.kindOf n = some .local) (hc : Names X x c) (hsu : SuiteOk X (s0 :: ss) ts) (r : ClOk X hs l) :
      ClOk X (.ExceptHandler (some (.Name x p)) (some n) (s0 :: ss) p' :: hs) (⟨c, some i, ts⟩ :: l)
section
variable {X : Cx} {body : List Stmt} {h0 : ExceptHandler} {hs : List ExceptHandler} {l : List Cl} {pos : Pos} {tb : WX → TS} {Wout : WX}
theorem ps_try_cl (hst : X.stack = X.env :: X.outer) (hfr : X.env.frame = some X.env.locals) (hN : X.N.Nodup) (tk : Takes X Wout)
    (hb : ∀ (W : WX) (pn : List (Addr × Obj)) (xe : Value → Shared → Prop), Takes (X.tr pn xe) W → PassesOwn (model X.prog X.w) X.A X.env xe → PSs (X.tr pn xe) body (tb W))
    (hh : ClOk X (h0 :: hs) l) : PS X (.Try body (h0 :: hs) [] [] pos) (fun D σ H => tb (wCl X.K Wout D l) D σ H) := by
  refine ⟨fun pins s σ H D I q0 => ?_⟩
  have ok := I.ok
  have frames : X.A.frames = some (X.env :: X.outer) := by rw [ok.frames, hst]
  refine wpAny_Try_except (wpAny_mono ((hb (wCl X.K Wout D l) (X.pn ++ pins) (fun e s₁ => wpAny (model X.prog X.w) X.A (noteFrame e X.env) (fun _ s₂ => wpAny (model X.prog X.w) X.A (setFlight e none) (fun _ s₃ =>
    wpAny (model X.prog X.w) X.A (handleBy e X.env (h0 :: hs)) (SP X pins D) X.xe s₃) X.xe s₂) X.xe s₁) (fun u s' air => ?_) PassesOwn.looking).run [] s σ H D (I.toTry _) q0) (fun fl s1 sp => ?_) fun _ _ z => z)
  · obtain ⟨a, B, sG, pins1, σ1, H1, cls, d, rfl, JT, nb, up, sky, na, os, bare, w⟩ := air
    have J : Inv X pins σ1 H1 sG := JT.ofTry ok
    rw [show (X.tr (X.pn ++ pins) _).stack = X.env :: X.outer from hst] at sky
    show wpAny (model X.prog X.w) X.A (noteFrame (.ref a) X.env) _ _ _
    refine Sky.land Zc.steady frames hfr sky fun h3 fly up3 => ?_
    have J3 : Inv X pins σ1 H1 { s' with heap := h3 } := J.landed nb fly.1 (up.trans up3) os bare
    obtain ⟨oe3, vs3, at3, z3, f3⟩ := fly.there
    have nofr : a ∉ frs (X.env :: X.outer) := fun hm => by
      obtain ⟨_, o', e', hnf⟩ := fly.2.2.1.mem hm
      rw [at3] at e'; cases e'
      exact hnf _ f3
    have nl : a ≠ X.env.locals := fun z => nofr (List.mem_filterMap.mpr ⟨X.env, List.mem_cons_self, hfr.trans (congrArg some z.symm)⟩)
    have no : a ∉ X.fs := fun hm => let ⟨e, he, q⟩ := List.mem_filterMap.mp hm; nofr (List.mem_filterMap.mpr ⟨e, List.mem_cons_of_mem _ he, q⟩)
    have S3 := J3.suite at3 f3 na nl no
    -- an expression in the clauses' context
    have named : ∀ {x : Str} {c : Value} {p : Pos} {Q : Value → Shared → Prop} {E : Value → Shared → Prop}, Names X x c → Q c { s' with heap := h3 } → wpAny (model X.prog X.w) (X.A.mark (some (.ref a))) (eval (.Name x p) X.env) Q E { s' with heap := h3 } := fun {x c p Q E} hc q => by
      obtain ⟨g1, g2, ⟨g3⟩ | ⟨g3, g4, g5⟩⟩ := hc
      · exact ld_glob (X := X.suite a ((a, oe3) :: (X.pn ++ pins))) S3 g1 g3 q g2
      · exact ld_blt (X := X.suite a ((a, oe3) :: (X.pn ++ pins))) S3 g1 g3 g4 q g5 g2
    have LT : PySem.W.Looks (model X.prog X.w) h3 (typeOf (.ref a)) cls := fun A Q E s k q => wpAny_typeOf_ref (k _ _ at3) (by rw [z3.1]; exact q)
    have each : ∀ {hs1 : List ExceptHandler} {l1 : List Cl}, ClOk X hs1 l1 → wCl X.K Wout D l1 cls d σ1 H1 → wpAny (model X.prog X.w) X.A (handleBy (.ref a) X.env hs1) (SP X pins D) X.xe { s' with heap := h3 } := by
      intro hs1 l1 ok1
      induction ok1 with
      | nil =>
        intro w
        refine wpAny_handleBy_nil ?_
        obtain ⟨_, _, _, ob, vs, T, _, _, at_, _, dt, one, _⟩ := id fly
        unfold PySem.passOn
        refine wpAny_bind (wpAny_field at_ dt one ?_)
        rw [if_neg (show ¬ ((Value.ref T == Value.none) = true) from by simp)]
        have up4 : wpAny (model X.prog X.w) X.A (setFlight (.ref a) X.env.frame) (fun _ s4 => wpAny (model X.prog X.w) X.A (throw (.ref a) : Sem Flow) (SP X pins D) X.xe s4) X.xe { s' with heap := h3 } := by
          rw [hfr]
          exact HandSPX.setFlight_upZ fly fun h4 held u4 => wpAny_throw (tk _ _ ⟨a, B, sG, pins, σ1, H1, cls, d, rfl, J, nb, (up.trans up3).trans u4, .inr (.inr (by rw [hst]; exact held)), na, os, bare, w⟩)
        first
          | exact wpAny_bind (wpAny_pure (wpAny_bind up4))
          | exact wpAny_bind up4
      | plain hc hsu r ih =>
        intro w
        obtain ⟨b, e1, yes, nope⟩ := w
        refine wpAny_handleBy_cons (codeAny_handlers_test ?_) (by intro q; cases q)
        refine named hc ((PySem.W.exm_one (M := model X.prog X.w) J3.kIn LT e1).here ?_)
        cases b with
        | false => exact ih (nope rfl)
        | true =>
          refine codeAny_handlers_suite (HandSPX.lands_againZ fly fun h4 fly4 up4 => ?_)
          have J4 : Inv X pins σ1 H1 { s' with heap := h4 } := J.landed nb fly4.1 ((up.trans up3).trans up4) os bare
          obtain ⟨oe4, vs4, at4, z4, f4⟩ := fly4.there
          refine wpAny_mono ((hsu a oe4 cls d (X.pn ++ pins) z4 ⟨_, f4⟩).run [] _ _ H1 _ (J4.suite at4 f4 na nl no) (yes rfl a na)) (fun fl s6 sp => ?_) (fun _ _ z => z.elim)
          cases fl with
          | next => obtain ⟨σ6, H6, S6, q6⟩ := sp; exact ⟨_, _, S6.unsuite ok, q6⟩
          | brk => obtain ⟨σ6, H6, S6, q6⟩ := sp; exact ⟨_, _, S6.unsuite ok, q6⟩
          | cont => obtain ⟨σ6, H6, S6, q6⟩ := sp; exact ⟨_, _, S6.unsuite ok, q6⟩
          | ret u => obtain ⟨v6, σ6, H6, S6, r6, q6⟩ := sp; exact ⟨_, _, _, S6.unsuite ok, r6, q6⟩
      | @named x n i c ts s0 ss p p' hs2 l2 hi hk hc hsu r ih =>
        intro w
        obtain ⟨b, e1, yes, nope⟩ := w
        refine wpAny_handleBy_cons (codeAny_handlers_test ?_) (by intro q; cases q)
        refine named hc ((PySem.W.exm_one (M := model X.prog X.w) J3.kIn LT e1).here ?_)
        cases b with
        | false => exact ih (nope rfl)
        | true =>
          refine codeAny_handlers_suite_as (HandSPX.lands_againZ fly fun h4 fly4 up4 => ?_)
          have J4 : Inv X pins σ1 H1 { s' with heap := h4 } := J.landed nb fly4.1 ((up.trans up3).trans up4) os bare
          obtain ⟨oe4, vs4, at4, z4, f4⟩ := fly4.there
          refine store_ok (X := X.suite a ((a, oe4) :: (X.pn ++ pins))) (v := .ref a) (J4.suite at4 f4 na nl no) hN hi (.inl hk) rfl (fun s5 S5 => ?_) (.inr hk)
          refine wpAny_mono ((hsu a oe4 cls d (X.pn ++ pins) z4 ⟨_, f4⟩).run [] s5 _ H1 _ S5 (yes rfl a na)) (fun fl s6 sp => ?_) (fun _ _ z => z.elim)
          have off : ∀ {σ6 : L2.St} {H6 : Hp} {Q : Shared → Prop}, Inv (X.suite a ((a, oe4) :: (X.pn ++ pins))) [] σ6 H6 s6 → (∀ s7, Inv X pins (σ6.set i none) H6 s7 → Q s7) → wpAny (model X.prog X.w) X.A (do bindName X.env n .none; unbindBehindTheSuite X.env n p') (fun _ s7 => Q s7) X.xe s6 := fun {σ6 H6 Q} S6 q => gone_ok (S6.unsuite ok) hN hi hk q
          cases fl with
          | next => obtain ⟨σ6, H6, S6, q6⟩ := sp; exact off S6 fun s7 J7 => ⟨_, _, J7, q6⟩
          | brk => obtain ⟨σ6, H6, S6, q6⟩ := sp; exact off S6 fun s7 J7 => ⟨_, _, J7, q6⟩
          | cont => obtain ⟨σ6, H6, S6, q6⟩ := sp; exact off S6 fun s7 J7 => ⟨_, _, J7, q6⟩
          | ret u => obtain ⟨v6, σ6, H6, S6, r6, q6⟩ := sp; exact off S6 fun s7 J7 => ⟨_, _, _, J7, r6, q6⟩
    exact each hh w
  · cases fl with
    | next => obtain ⟨σ2, H2, J2, q⟩ := sp; exact wpAny_execs_nil ⟨σ2, H2, J2.ofTry ok, q⟩
    | brk => obtain ⟨σ2, H2, J2, q⟩ := sp; exact ⟨σ2, H2, J2.ofTry ok, q⟩
    | cont => obtain ⟨σ2, H2, J2, q⟩ := sp; exact ⟨σ2, H2, J2.ofTry ok, q⟩
    | ret u => obtain ⟨v, σ2, H2, J2, r, q⟩ := sp; exact ⟨v, σ2, H2, J2.ofTry ok, r, q⟩
end
end L3

set_option Elab.async false
set_option linter.all false
set_option maxRecDepth 100000
set_option maxHeartbeats 4000000
namespace L3
open PySem PySem.Spec PyProof.Rows L2

/-- the same, but what every state bears -/
def Ct.with (C : Ct) (p : L2.St → List Addr → Hp → Prop) (m : ∀ {σ : L2.St} {α α' : List Addr} {H H' : Hp}, Ext α H α' H' → p σ α H → p σ α' H') : Ct := { C with ps := p, mono := m }
section
variable {C : Ct} {p : L2.St → List Addr → Hp → Prop} {m : ∀ {σ : L2.St} {α α' : List Addr} {H H' : Hp}, Ext α H α' H' → p σ α H → p σ α' H'} {α : List Addr} {H : Hp}
mutual
theorem Rl.to : ∀ {d : D} {v : V}, Rl C α H d v → Rl (C.with p m) α H d v
  | .non, _, h => h
  | .bl _, _, h => h
  | .int _, _, h => h
  | .str _, _, h => h
  | .glo _, _, h => h
  | .ty _, _, h => h
  | .ref n, _, h => h
  | .tup ds, _, ⟨a, vs, q, h, rs⟩ => ⟨a, vs, q, h, Rls.to rs⟩
  | .lst ds, _, ⟨a, vs, q, n, r, rs⟩ => ⟨a, vs, q, n, r, Rls.to rs⟩
  | .scr ds, _, ⟨a, vs, q, h, rs⟩ => ⟨a, vs, q, h, Rls.to rs⟩
  | .obj c ds, _, ⟨a, dx, vs, q, n, r, l, rs⟩ => ⟨a, dx, vs, q, n, r, l, Rls.to rs⟩
  | .dct ks vs, _, ⟨a, kws, q, n, r, r1, r2⟩ => ⟨a, kws, q, n, r, Rls.to r1, Rls.to r2⟩
  | .xv c ds, _, ⟨a, dx, vs, q, n, r, x, rs⟩ => ⟨a, dx, vs, q, n, r, x, Rls.to rs⟩
theorem Rls.to : ∀ {ds : List D} {vs : List V}, Rls C α H ds vs → Rls (C.with p m) α H ds vs
  | [], _, h => h
  | _ :: _, _, ⟨v, r, q, h, hs⟩ => ⟨v, r, q, Rl.to h, Rls.to hs⟩
end
mutual
theorem Rl.of : ∀ {d : D} {v : V}, Rl (C.with p m) α H d v → Rl C α H d v
  | .non, _, h => h
  | .bl _, _, h => h
  | .int _, _, h => h
  | .str _, _, h => h
  | .glo _, _, h => h
  | .ty _, _, h => h
  | .ref n, _, h => h
  | .tup ds, _, ⟨a, vs, q, h, rs⟩ => ⟨a, vs, q, h, Rls.of rs⟩
  | .lst ds, _, ⟨a, vs, q, n, r, rs⟩ => ⟨a, vs, q, n, r, Rls.of rs⟩
  | .scr ds, _, ⟨a, vs, q, h, rs⟩ => ⟨a, vs, q, h, Rls.of rs⟩
  | .obj c ds, _, ⟨a, dx, vs, q, n, r, l, rs⟩ => ⟨a, dx, vs, q, n, r, l, Rls.of rs⟩
  | .dct ks vs, _, ⟨a, kws, q, n, r, r1, r2⟩ => ⟨a, kws, q, n, r, Rls.of r1, Rls.of r2⟩
  | .xv c ds, _, ⟨a, dx, vs, q, n, r, x, rs⟩ => ⟨a, dx, vs, q, n, r, x, Rls.of rs⟩
theorem Rls.of : ∀ {ds : List D} {vs : List V}, Rls (C.with p m) α H ds vs → Rls C α H ds vs
  | [], _, h => h
  | _ :: _, _, ⟨v, r, q, h, hs⟩ => ⟨v, r, q, Rl.of h, Rls.of hs⟩
end
theorem RlC.to {c : Cell} {a : Addr} (h : RlC C α H c a) : RlC (C.with p m) α H c a := by
  cases c with
  | lst ds => obtain ⟨vs, e, r⟩ := h; exact ⟨vs, e, r.to⟩
  | ins c ds => obtain ⟨dx, vs, e, l, r⟩ := h; exact ⟨dx, vs, e, l, r.to⟩
  | dic kvs => obtain ⟨kws, e, l, r, r'⟩ := h; exact ⟨kws, e, l, r.to, r'.to⟩
theorem RlC.of {c : Cell} {a : Addr} (h : RlC (C.with p m) α H c a) : RlC C α H c a := by
  cases c with
  | lst ds => obtain ⟨vs, e, r⟩ := h; exact ⟨vs, e, r.of⟩
  | ins c ds => obtain ⟨dx, vs, e, l, r⟩ := h; exact ⟨dx, vs, e, l, r.of⟩
  | dic kvs => obtain ⟨kws, e, l, r, r'⟩ := h; exact ⟨kws, e, l, r.of, r'.of⟩
theorem SMem.to {M : Mem} (h : SMem C α M H) : SMem (C.with p m) α M H := ⟨h.len, h.nd, fun n c a h1 h2 => (h.cell n c a h1 h2).to⟩
theorem SMem.of {M : Mem} (h : SMem (C.with p m) α M H) : SMem C α M H := ⟨h.len, h.nd, fun n c a h1 h2 => (h.cell n c a h1 h2).of⟩
theorem SSt.of {σ3 : St3} {σ : L2.St} (h : SSt (C.with p m) α H σ3 σ) (hp : C.ps σ α H) : SSt C α H σ3 σ := ⟨h.len, fun i d q => let ⟨v, a, b⟩ := h.at_ i d q; ⟨v, a, b.of⟩, hp⟩
end
/-- an except suite: slot i holds the exception a, its dict at d -/
def Ct.inS (C : Ct) (i : Nat) (a : Addr) (d : Option Addr) (c : Nat) (ds : List D) : Ct := C.with (fun σ α H => σ[i]? = some (some (.ref a)) ∧ XD C α H c ds d) fun e h => ⟨h.1, h.2.ext e⟩
section
variable {C : Ct} {i c : Nat} {a : Addr} {d : Option Addr} {ds : List D} {α : List Addr} {H : Hp}
theorem inS_rl {e : D} {v : V} (h : Rl C α H e v) : Rl (C.inS i a d c ds) α H e v := Rl.to (m := fun e h => ⟨h.1, h.2.ext e⟩) h
theorem of_rl {e : D} {v : V} (h : Rl (C.inS i a d c ds) α H e v) : Rl C α H e v := Rl.of (m := fun e h => ⟨h.1, h.2.ext e⟩) h
theorem inS_mem {M : Mem} (h : SMem C α M H) : SMem (C.inS i a d c ds) α M H := SMem.to (m := fun e h => ⟨h.1, h.2.ext e⟩) h
theorem of_mem {M : Mem} (h : SMem (C.inS i a d c ds) α M H) : SMem C α M H := SMem.of (m := fun e h => ⟨h.1, h.2.ext e⟩) h
theorem of_st {σ3 : St3} {σ : L2.St} (h : SSt (C.inS i a d c ds) α H σ3 σ) (hp : C.ps σ α H) : SSt C α H σ3 σ := SSt.of (m := fun e h => ⟨h.1, h.2.ext e⟩) h hp
end
theorem kn {C : Ct} {i j : Nat} {a : Addr} {d : Option Addr} {c : Nat} {ds : List D} (h : j ≠ i) : Keeps (C.inS i a d c ds) j := fun σ v α H q => ⟨by rw [List.getElem?_set_ne h]; exact q.1, q.2⟩
/-! terms -/
structure ClS where
  slot : Option Nat
  sub : Nat → Option Bool
  sv : Nat → List D → SV
def inSlot : Option Nat → St3 → St3
  | none, σ => σ
  | some i, σ => σ.set i none
def offSlot : Option Nat → Out → Out
  | none, .nx σ M => .nx σ M
  | none, .rt d M => .rt d M
  | none, .bk σ M => .bk σ M
  | none, .ct σ M => .ct σ M
  | some i, .nx σ M => .nx (σ.set i none) M
  | some _, .rt d M => .rt d M
  | some i, .bk σ M => .bk (σ.set i none) M
  | some i, .ct σ M => .ct (σ.set i none) M
  | _, _ => .no
def slotOk : Option Nat → St3 → Bool
  | none, _ => true
  | some i, σ => decide (i < σ.length)
def handle : List ClS → Nat → List D → SV
  | [], c, ds => fun σ M => .exc c ds σ M
  | q :: r, c, ds => fun σ M => match q.sub c with
    | some true => if slotOk q.slot σ = true then offSlot q.slot (q.sv c ds (inSlot q.slot σ) M) else .no
    | some false => handle r c ds σ M
    | none => .no
def svTry (b : SV) (cl : List ClS) : SV := fun σ M => match b σ M with
  | .exc c ds σ' M' => handle cl c ds σ' M'
  | o => o
/-! rules -/
inductive Cl3 (X : Cx) (C : Ct) : List ExceptHandler → List ClS → List Cl → Prop
  | nil : Cl3 X C [] [] []
  | plain {x : Str} {c : Value} {q : ClS} {s0 : Stmt} {ss : List Stmt} {p p' : Pos} {hs : List ExceptHandler} {l : List ClS} {l' : List Cl} (hq : q.slot = none) (hc : Names X x c) (hm : ∀ k b, q.sub k = some b → PySem.W.exmOne C.K (.ref (C.xcls k)) c = some b)
      (hsu : ∀ (a : Addr) (oe : Obj) (pn : List (Addr × Obj)) (k : Nat) (ds : List D), PSs (X.suite a ((a, oe) :: pn)) (s0 :: ss) (LS C WF (q.sv k ds))) (r : Cl3 X C hs l l') :
      Cl3 X C (.ExceptHandler (some (.Name x p)) none (s0 :: ss) p' :: hs) (q :: l) (⟨c, none, fun a cls d D σ H => ∃ k ds, LS C WF (q.sv k ds) D σ H⟩ :: l')
  | named {x n : Str} {i : Nat} {c : Value} {q : ClS} {s0 : Stmt} {ss : List Stmt} {p p' : Pos} {hs : List ExceptHandler} {l : List ClS} {l' : List Cl} (hq : q.slot = some i) (hi : X.N[i]? = some n) (hk : X.env.kindOf n = some .local) (hc : Names X x c) (hm : ∀ k b, q.sub k = some b → PySem.W.exmOne C.K (.ref (C.xcls k)) c = some b)
      (hsu : ∀ (a : Addr) (oe : Obj) (d : Option Addr) (pn : List (Addr × Obj)) (k : Nat) (ds : List D), Zc (.ref (C.xcls k)) d oe → (∃ vs, oe.data = .fields vs) → PSs (X.suite a ((a, oe) :: pn)) (s0 :: ss) (LS (C.inS i a d k ds) WF (q.sv k ds))) (r : Cl3 X C hs l l') :
      Cl3 X C (.ExceptHandler (some (.Name x p)) (some n) (s0 :: ss) p' :: hs) (q :: l) (⟨c, some i, fun a cls d D σ H => ∃ k ds, cls = .ref (C.xcls k) ∧ LS (C.inS i a d k ds) WF (q.sv k ds) D σ H⟩ :: l')
theorem PSs_ex {X : Cx} {ss : List Stmt} {ι : Type} {t : ι → TS} (h : ∀ i, PSs X ss (t i)) : PSs X ss (fun D σ H => ∃ i, t i D σ H) := ⟨fun pins s σ H D I ⟨i, q⟩ => (h i).run pins s σ H D I q⟩
section
variable {X : Cx} {C : Ct} {W : WX}
theorem Cl3.ok {hs : List ExceptHandler} {l : List ClS} {l' : List Cl} (h : Cl3 X C hs l l') : ClOk X hs l' := by
  induction h with
  | nil => exact .nil
  | plain hq hc hm hsu r ih => exact .plain hc (fun a oe cls d pn _ _ => ⟨fun pins s σ H D I ⟨k, ds, q⟩ => (hsu a oe pn k ds).run pins s σ H D I q⟩) ih
  | named hq hi hk hc hm hsu r ih => exact .named hi hk hc (fun a oe cls d pn hz hf => ⟨fun pins s σ H D I ⟨k, ds, e, q⟩ => by subst e; exact (hsu a oe d pn k ds hz hf).run pins s σ H D I q⟩) ih
theorem handle_ok (hP : ∀ σ α H, C.ps σ α H) (hK : C.K = X.K) {D : Ends} {k : Nat} {ds : List L3.D} : ∀ {hs : List ExceptHandler} {l : List ClS} {l' : List Cl}, Cl3 X C hs l l' → ∀ {α : List Addr} {H : Hp} {σ3 : St3} {σ : L2.St} {M : Mem} {dx : Option Addr},
    SMem C α M H → SSt C α H σ3 σ → XD C α H k ds dx → FinS C W D α H (handle l k ds σ3 M) → wCl X.K W D l' (.ref (C.xcls k)) dx σ H := by
  intro hs l l' h
  induction h with
  | nil => intro α H σ3 σ M dx m s x q; exact q α H σ dx (Ext.refl _ _) m s x
  | @plain x c q s0 ss p p' hs l l' hq hc hm hsu r ih =>
    intro α H σ3 σ M dx m s x f
    have f : FinS C W D α H (match q.sub k with
      | some true => if slotOk q.slot σ3 = true then offSlot q.slot (q.sv k ds (inSlot q.slot σ3) M) else .no
      | some false => handle l k ds σ3 M
      | none => .no) := f
    cases z : q.sub k with
    | none => rw [z] at f; exact f.elim
    | some b =>
      rw [z] at f
      refine ⟨b, by rw [← hK]; exact hm k b z, fun hb a ha => ?_, fun hb => ?_⟩
      · subst hb
        rw [hq] at f
        refine ⟨k, ds, α, σ3, M, m, s, ?_⟩
        have f : FinS C W D α H (if true = true then offSlot none (q.sv k ds σ3 M) else .no) := f
        rw [if_pos rfl] at f
        cases o : q.sv k ds σ3 M with
        | nx σ M => rw [o] at f; exact f
        | rt d M => rw [o] at f; exact f
        | bk σ M => rw [o] at f; exact f
        | ct σ M => rw [o] at f; exact f
        | exc c ds σ M => rw [o] at f; exact f.elim
        | no => rw [o] at f; exact f.elim
      · subst hb; exact ih m s x f
  | @named x n i c q s0 ss p p' hs l l' hq hi hk hc hm hsu r ih =>
    intro α H σ3 σ M dx m s x f
    have f : FinS C W D α H (match q.sub k with
      | some true => if slotOk q.slot σ3 = true then offSlot q.slot (q.sv k ds (inSlot q.slot σ3) M) else .no
      | some false => handle l k ds σ3 M
      | none => .no) := f
    cases z : q.sub k with
    | none => rw [z] at f; exact f.elim
    | some b =>
      rw [z] at f
      refine ⟨b, by rw [← hK]; exact hm k b z, fun hb a ha => ?_, fun hb => ?_⟩
      · subst hb
        rw [hq] at f
        have f : FinS C W D α H (if decide (i < σ3.length) = true then offSlot (some i) (q.sv k ds (σ3.set i none) M) else .no) := f
        by_cases hl : i < σ.length
        · rw [if_pos (decide_eq_true (by rw [← s.len]; exact hl))] at f
          have s1 : SSt (C.inS i a dx k ds) α H (σ3.set i none) (σ.set i (some (.ref a))) := by
            refine ⟨by simp [s.len], fun j d e => ?_, ⟨List.getElem?_set_self hl, x⟩⟩
            by_cases hij : i = j
            · subst hij
              rw [List.getElem?_set_self (by rw [← s.len]; exact hl)] at e; cases e
            · rw [List.getElem?_set_ne hij] at e ⊢
              obtain ⟨v, h1, h2⟩ := s.at_ j d e
              exact ⟨v, h1, inS_rl h2⟩
          refine ⟨k, ds, rfl, α, σ3.set i none, M, inS_mem m, s1, ?_⟩
          have back : ∀ {α' : List Addr} {H' : Hp} {σ3' : St3} {σ' : L2.St}, SSt (C.inS i a dx k ds) α' H' σ3' σ' → SSt C α' H' (σ3'.set i none) (σ'.set i none) := fun s' => (of_st s' (hP _ _ _)).unset i (kp hP)
          cases o : q.sv k ds (σ3.set i none) M with
          | nx σ M => rw [o] at f; exact fun α' H' σ' e' m' s' => f α' H' _ e' (of_mem m') (back s')
          | rt d M => rw [o] at f; exact fun α' H' v e' m' r' => f α' H' v e' (of_mem m') (of_rl r')
          | bk σ M => rw [o] at f; exact fun α' H' σ' e' m' s' => f α' H' _ e' (of_mem m') (back s')
          | ct σ M => rw [o] at f; exact fun α' H' σ' e' m' s' => f α' H' _ e' (of_mem m') (back s')
          | exc c ds σ M => rw [o] at f; exact f.elim
          | no => rw [o] at f; exact f.elim
        · rw [if_neg (by rw [← s.len]; simpa using hl)] at f; exact f.elim
      · subst hb; exact ih m s x f
theorem s_try {body : List Stmt} {h0 : ExceptHandler} {hs : List ExceptHandler} {l : List ClS} {l' : List Cl} {pos : Pos} {sb : SV} (hP : ∀ σ α H, C.ps σ α H) (hst : X.stack = X.env :: X.outer) (hfr : X.env.frame = some X.env.locals) (hN : X.N.Nodup) (tk : Takes X W)
    (hb : ∀ (W : WX) (pn : List (Addr × Obj)) (xe : Value → Shared → Prop), Takes (X.tr pn xe) W → PassesOwn (model X.prog X.w) X.A X.env xe → PSs (X.tr pn xe) body (LS C W sb)) (hh : Cl3 X C (h0 :: hs) l l') (hK : C.K = X.K := by rfl) :
    PS X (.Try body (h0 :: hs) [] [] pos) (LS C W (svTry sb l)) := by
  refine PSimp (ps_try_cl hst hfr hN tk hb hh.ok) fun D σ H ⟨α, σ3, M, m, s, f⟩ => ⟨α, σ3, M, m, s, ?_⟩
  unfold svTry at f
  cases o : sb σ3 M with
  | nx σ M => rw [o] at f; exact f
  | rt d M => rw [o] at f; exact f
  | bk σ M => rw [o] at f; exact f
  | ct σ M => rw [o] at f; exact f
  | no => rw [o] at f; exact f
  | exc c ds σ' M' =>
    rw [o] at f
    exact fun α' H' σ1 dx e' m' s' x' => handle_ok hP hK hh m' s' x' (FinS.ext f e')
end
/-! ### the caught exception's fields -/
structure XOk (C : Ct) (T : List (List Nat)) (nm : List Str) : Prop where
  fl : ∀ c, C.xfl c = (T.getD c []).map (nm.getD · Str.empty)
  rd : ∀ c f, f ∈ C.xfl c → XfC C.K (C.xcls c) ∧ PySem.W.findIn C.K (.ref (C.xcls c)) f = some none
def evXf (T : List (List Nat)) (j c : Nat) (ds : List D) : EV := fun _ M => match lkN (T.getD c []) ds j with
  | some d => .ok d M
  | none => .no
theorem lkN_ix {j : Nat} {d : D} : ∀ {fs : List Nat} {ds : List D}, lkN fs ds j = some d → ∃ k : Nat, fs[k]? = some j ∧ ds[k]? = some d
  | [], _, h => by simp [lkN] at h
  | _ :: _, [], h => by simp [lkN] at h
  | g :: fs, e :: ds, h => by
    have h : (if g = j then some e else lkN fs ds j) = some d := h
    by_cases z : g = j
    · rw [if_pos z] at h; cases h; subst z; exact ⟨0, rfl, rfl⟩
    · rw [if_neg z] at h
      obtain ⟨k, h1, h2⟩ := lkN_ix h
      exact ⟨k + 1, by simpa using h1, by simpa using h2⟩
theorem l_xf {X : Cx} {C : Ct} {a : Addr} {oe : Obj} {d : Option Addr} {pn : List (Addr × Obj)} {T : List (List Nat)} {nm : List Str} {i k : Nat} {ds : List D} {f n : Str} {p pos : Pos} (j : Nat) (xo : XOk C T nm) (hj : nm[j]? = some f) (hz : Zc (.ref (C.xcls k)) d oe) (hf : ∃ vs, oe.data = .fields vs)
    (hN : X.N[i]? = some n := by rfl) (hv : Vis X.env.scope n := by first | exact Or.inl rfl | exact Or.inr (Or.inl rfl) | exact Or.inr (Or.inr rfl)) (hd : (n == ("__debug__" : Str)) = false := by decide) (hcd : (n == ("__classdict__" : Str)) = false := by decide) (hK : C.K = X.K := by rfl) :
    PE (X.suite a ((a, oe) :: pn)) (.Attribute (.Name n p) f pos) (LE (C.inS i a d k ds) WF (evXf T j k ds)) := by
  cases q : lkN (T.getD k []) ds j with
  | none => exact ⟨fun pins s σ H Q I ⟨α, σ3, M, m, st, h⟩ => by
      unfold evXf at h
      rw [q] at h; exact h.elim⟩
  | some e =>
    obtain ⟨z, h1, h2⟩ := lkN_ix q
    have hx : (C.xfl k)[z]? = some f := by
      rw [xo.fl, List.getElem?_map, h1]
      show some (nm.getD j Str.empty) = _
      rw [List.getD_eq_getElem?_getD, hj]; rfl
    obtain ⟨r1, r2⟩ := xo.rd k f (List.mem_of_getElem? hx)
    rw [hK] at r1 r2
    refine PEimp (pe_xf r1 r2 hz hf (pe_var (i := i) hN hv hd hcd) rfl) fun σ H Q ⟨α, σ3, M, m, st, h⟩ => ?_
    have h : Fin (C.inS i a d k ds) WF σ (RD (C.inS i a d k ds)) α H (match lkN (T.getD k []) ds j with
      | some d => .ok d M
      | none => .no) Q := h
    rw [q] at h
    obtain ⟨sv, x⟩ := st.ok
    refine ⟨.ref a, sv, rfl, rfl, ?_⟩
    rcases x with x | ⟨dd, fs, rfl, nx, hx2, x⟩
    · subst x; simp at h2
    · obtain ⟨v, h3, h4⟩ := x z f e hx h2
      exact ⟨dd, fs, v, rfl, hx2, h3, h α H v (Ext.refl _ _) m (inS_rl h4)⟩
end L3

set_option Elab.async false
set_option linter.all false
set_option maxRecDepth 100000
set_option maxHeartbeats 4000000
namespace L3
open PySem PySem.Spec PyProof.Rows L2

/-! ### f(e, .., k = v, ..) with defaults: what is bound is picked from the written values, the keywords' values and the defaults -/
def pk {α : Type} (perm : List Nat) (l : List α) : List α := perm.filterMap fun i => l[i]?
theorem pk_vals {vs : List V} {us : List Value} (r : Vals vs us) : ∀ perm : List Nat, Vals (pk perm vs) (pk perm us)
  | [] => .nil
  | i :: perm => by
    unfold pk
    cases q : vs[i]? with
    | none =>
      have : us[i]? = none := by rw [List.getElem?_eq_none_iff] at q ⊢; rw [← r.length]; exact q
      rw [List.filterMap_cons, List.filterMap_cons, q, this]
      exact pk_vals r perm
    | some v =>
      obtain ⟨u, h1, h2⟩ := r.get q
      rw [List.filterMap_cons, List.filterMap_cons, q, h1]
      exact .cons h2 (pk_vals r perm)
theorem pk_rls {C : Ct} {α : List Addr} {H : Hp} {ds : List D} {vs : List V} (r : Rls C α H ds vs) : ∀ perm : List Nat, Rls C α H (pk perm ds) (pk perm vs)
  | [] => rfl
  | i :: perm => by
    unfold pk
    cases q : ds[i]? with
    | none =>
      have : vs[i]? = none := by rw [List.getElem?_eq_none_iff] at q ⊢; rw [r.length]; exact q
      rw [List.filterMap_cons, List.filterMap_cons, q, this]
      exact pk_rls r perm
    | some v =>
      obtain ⟨u, h1, h2⟩ := r.get q
      rw [List.filterMap_cons, List.filterMap_cons, q, h1]
      exact Rls.cons h2 (pk_rls r perm)
structure HasF (b : Bool) (P : Program) (w : World) (C : Ct) (mg : Str → Option Value) (base : Heap) (k : Nat) (x : Str) (g : Fn3) (ar n : Nat) (ks : List Str) (perm : List Nat) (dd : List D) : Prop where
  ex : ∃ (f : Addr) (fd : FuncData) (ps : List Str) (its : List Value) (dvs : List V), FnG b P w C.K mg base k f fd ps (spF C g ar) ∧ mg x = some (.ref f) ∧ PySem.W.keepIn C.K (.ref f) = true ∧
    KBn C.K fd ps n ks (fun us ws => pk perm (us ++ ws ++ its)) (fun vs zs => pk perm (vs ++ zs ++ dvs)) ∧ ∀ α H, Rls C α H dd dvs
section
variable {K : PySem.W.Frag} {x qual : Str} {params : Arguments} {body : List Stmt} {scope : Scope} {dvs : List V} {f : Addr} {fd : FuncData} {ps ks : List Str} {n : Nat} {perm : List Nat}
theorem kbnD (F : FunD K x qual params body scope dvs [] f fd) (hd : dvs ≠ [])
    (h : ∀ (T : Addr) (kV doc pm : Value) (an : Option Addr) (cdv ct : Value) (us its ws : List Value), us.length = n → its.length = dvs.length → ws.length = ks.length →
      ∃ k, bindArgs (PySem.W.fnOf x qual params body scope (.ref T) kV doc pm an cdv ct) ⟨us, ks.zip ws⟩ = seqItems? (.ref T) >>= k ∧ k (some its.toArray) = pure (ps.zip (pk perm (us ++ ws ++ its)))) : ∃ its, KBn K fd ps n ks (fun us ws => pk perm (us ++ ws ++ its)) (fun vs zs => pk perm (vs ++ zs ++ dvs)) :=
  F.kbindsD n ks (fun {α} us its ws => pk perm (us ++ ws ++ its)) hd (fun r1 r2 r3 => pk_vals ((r1.append r3).append r2) perm) h
theorem kbn0 (F : FunD K x qual params body scope [] [] f fd)
    (h : ∀ (kV doc pm : Value) (an : Option Addr) (cdv ct : Value) (us ws : List Value), us.length = n → ws.length = ks.length → bindArgs (PySem.W.fnOf x qual params body scope .none kV doc pm an cdv ct) ⟨us, ks.zip ws⟩ = pure (ps.zip (pk perm (us ++ ws ++ [])))) : KBn K fd ps n ks (fun us ws => pk perm (us ++ ws ++ [])) (fun vs zs => pk perm (vs ++ zs ++ [])) := by
  obtain ⟨oc, od, dV, kV, doc, pm, an, cdv, ct, osl, rfl, lk, hcd, hD, hK⟩ := F.ex
  rcases hD with ⟨_, rfl⟩ | ⟨e, _⟩
  · exact ⟨fun s us ws _ l1 l2 => .of_eq (h kV doc pm an cdv ct us ws l1 l2), fun r rz => pk_vals ((r.append rz).append .nil) perm⟩
  · exact absurd rfl e
theorem HasF.of {b : Bool} {P : Program} {w : World} {C : Ct} {mg : Str → Option Value} {base : Heap} {k : Nat} {y : Str} {g : Fn3} {ar : Nat} {dd : List D} (F : FnG b P w C.K mg base k f fd ps (spF C g ar)) (hm : mg y = some (.ref f)) (hk : PySem.W.keepIn C.K (.ref f) = true)
    (hb : ∃ its, KBn C.K fd ps n ks (fun us ws => pk perm (us ++ ws ++ its)) (fun vs zs => pk perm (vs ++ zs ++ dvs))) (hd : ∀ α H, Rls C α H dd dvs) : HasF b P w C mg base k y g ar n ks perm dd := let ⟨its, b⟩ := hb; ⟨f, fd, ps, its, dvs, F, hm, hk, b, hd⟩
end
def tFn (sp : Sp) (gV : List V → List V → List V) (n m : Nat) (E : L2.St → XK) (t tk : TA) : TE := fun σ H Q => t σ H fun vs H1 => tk σ H1 fun zs H2 => vs.length = n ∧ zs.length = m ∧ sp (gV vs zs) H2 Q (E σ)
section
variable {b : Bool} {X : Cx} {W : WX} {k n : Nat} {f : Addr} {fd : FuncData} {ps ks : List Str} {sp : Sp} {x : Str} {p pos : Pos} {e : Expr} {es : List Expr} {kws : List Keyword} {t tk : TA} {g : List Value → List Value → List Value} {gV : List V → List V → List V}
theorem run_fk {pins : List (Addr × Obj)} {σ : L2.St} {H : Hp} {s : Shared} {Q : VK} {E : XK} {us ws : List Value} {vs zs : List V} (F : FnG b X.prog X.w X.K X.mg X.base k f fd ps sp) (hr : Room k X.A) (gd : b = true → X.A.guards = some []) (hb : KBn X.K fd ps n ks g gV)
    (hx : PassesAt (L2.CX X.prog X.w) X σ E) (I : Inv X pins σ H s) (r : Vals vs us) (rz : Vals zs ws) (l1 : vs.length = n) (l2 : zs.length = ks.length) (h : sp (gV vs zs) H Q E) : wpAny (model X.prog X.w) X.A (call (.ref f) us (ks.zip ws)) (EP X pins σ Q) X.xe s := by
  refine wpAny_call (codeAny_mono (run_g F hr gd hx I (hb.to s us ws I.kIn (r.length.symm.trans l1) (rz.length.symm.trans l2)) (hb.rel r rz) h) fun R s' z => ?_)
  cases R with
  | error e => exact z
  | ok fl => cases fl <;> first | exact z | exact False.elim z
theorem pe_fP (F : FnG b X.prog X.w X.K X.mg X.base k f fd ps sp) (hr : Room k X.A) (gd : b = true → X.A.guards = some []) (hg : Gl X x) (hm : X.mg x = some (.ref f)) (hk : PySem.W.keepIn X.K (.ref f) = true) (hb : KBn X.K fd ps n [] g gV) (hx : ∀ σ, PassesAt (L2.CX X.prog X.w) X σ (WE W σ))
    (ha : PA X (e :: es) t) (hdb : (x == ("__debug__" : Str)) = false := by decide) (he : starEach (e :: es) X.env = (false, eval e X.env) :: starEach es X.env := by rfl) (hpl : (backTo pos (starEach es X.env)).any (·.1) = false := by rfl) :
    PE X (.Call (.Name x p) (e :: es) [] pos) (tFn sp gV n 0 (WE W) t (fun _ H Q => Q [] H)) :=
  ⟨fun pins s σ H Q I h => wpAny_Call_Name_kw (ld_glob I hg hm (PySem.W.callWith_K (h₀ := X.base) I.ok.mod.kin hk (thn (ha.run pos pins s σ H _ I h) fun us s1 ⟨vs, H1, I1, r, l1, l2, q⟩ => ⟨I1.kIn, run_fk (ks := []) (ws := []) F hr gd hb (hx σ) I1 r .nil l1 rfl q⟩) he hpl) hdb)⟩
theorem pe_fK0 (F : FnG b X.prog X.w X.K X.mg X.base k f fd ps sp) (hr : Room k X.A) (gd : b = true → X.A.guards = some []) (hg : Gl X x) (hm : X.mg x = some (.ref f)) (hk : PySem.W.keepIn X.K (.ref f) = true) (hb : KBn X.K fd ps 0 ks g gV) (hx : ∀ σ, PassesAt (L2.CX X.prog X.w) X σ (WE W σ)) (hkw : PK X kws tk)
    (hall : (backToKw pos (keywordEach kws X.env)).all (·.1.isSome) = true := by rfl) (hks : (backToKw pos (keywordEach kws X.env)).filterMap (·.1) = ks := by rfl) (hdb : (x == ("__debug__" : Str)) = false := by decide)
    (hpl : ((backTo pos (starEach [] X.env)).any (·.1) || (backToKw pos (keywordEach kws X.env)).any (·.1.isNone)) = false := by rfl) :
    PE X (.Call (.Name x p) [] kws pos) (tFn sp gV 0 ks.length (WE W) (fun _ H Q => Q [] H) tk) := by
  refine ⟨fun pins s σ H Q I h => wpAny_Call_Name_kw (ld_glob I hg hm (PySem.W.callWith_KW0 (h₀ := X.base) I.ok.mod.kin hk hall ?_ hpl) hdb)⟩
  refine thn (hkw.run pos pins s σ H _ I h) fun ws s2 ⟨zs, H2, I2, rz, l1, l2, q2⟩ => ⟨I2.kIn, ?_⟩
  rw [hks]
  exact run_fk (us := []) (vs := []) F hr gd hb (hx σ) I2 .nil rz rfl l2 q2
theorem pe_fKW (F : FnG b X.prog X.w X.K X.mg X.base k f fd ps sp) (hr : Room k X.A) (gd : b = true → X.A.guards = some []) (hg : Gl X x) (hm : X.mg x = some (.ref f)) (hk : PySem.W.keepIn X.K (.ref f) = true) (hb : KBn X.K fd ps n ks g gV) (hx : ∀ σ, PassesAt (L2.CX X.prog X.w) X σ (WE W σ)) (ha : PA X (e :: es) t) (hkw : PK X kws tk)
    (hall : (backToKw pos (keywordEach kws X.env)).all (·.1.isSome) = true := by rfl) (hks : (backToKw pos (keywordEach kws X.env)).filterMap (·.1) = ks := by rfl) (hdb : (x == ("__debug__" : Str)) = false := by decide)
    (he : starEach (e :: es) X.env = (false, eval e X.env) :: starEach es X.env := by rfl) (hpl : ((backTo pos (starEach (e :: es) X.env)).any (·.1) || (backToKw pos (keywordEach kws X.env)).any (·.1.isNone)) = false := by rfl) :
    PE X (.Call (.Name x p) (e :: es) kws pos) (tFn sp gV n ks.length (WE W) t tk) := by
  refine ⟨fun pins s σ H Q I h => wpAny_Call_Name_kw (ld_glob I hg hm (PySem.W.callWith_KW (h₀ := X.base) I.ok.mod.kin hk hall (thn (ha.run pos pins s σ H _ I h) fun us s1 ⟨vs, H1, I1, r, q⟩ => ?_) hpl he) hdb)⟩
  refine thn (hkw.run pos pins s1 σ H1 _ I1 q) fun ws s2 ⟨zs, H2, I2, rz, l1, l2, q2⟩ => ⟨I2.kIn, ?_⟩
  rw [hks]
  exact run_fk F hr gd hb (hx σ) I2 r rz l1 l2 q2
end
def evF (g : Fn3) (ar : Nat) (perm : List Nat) (dd : List D) (n m : Nat) (av ak : AV) : EV := fun σ M => (av σ M).bind fun xs M1 => (ak σ M1).bind fun ys M2 => if xs.length = n ∧ ys.length = m ∧ (pk perm (xs ++ ys ++ dd)).length = ar then g (pk perm (xs ++ ys ++ dd)) M2 else .no
theorem fn_imp {C : Ct} {W : WX} {g : Fn3} {ar n m : Nat} {perm : List Nat} {dd : List D} {dvs : List V} {av ak : AV} (hd : ∀ α H, Rls C α H dd dvs) {σ : L2.St} {H : Hp} {Q : VK} {t tk : TA} (h : LE C W (evF g ar perm dd n m av ak) σ H Q) (ht : ∀ σ H Q, LA C W av σ H Q → t σ H Q) (htk : ∀ σ H Q, LA C W ak σ H Q → tk σ H Q) :
    tFn (spF C g ar) (fun vs zs => pk perm (vs ++ zs ++ dvs)) n m (WE W) t tk σ H Q := by
  obtain ⟨α, σ3, M, mm, s, h⟩ := h
  refine ht _ _ _ ⟨α, σ3, M, mm, s, (Fin.bind h).mono fun vs H1 ⟨α1, M1, xs, e1, m1, r1, h1⟩ => ?_⟩
  refine htk _ _ _ ⟨α1, σ3, M1, m1, s.ext e1, (Fin.bind h1).mono fun zs H2 ⟨α2, M2, ys, e2, m2, r2, h2⟩ => ?_⟩
  have h2 : Fin C W σ (RD C) α2 H2 (if xs.length = n ∧ ys.length = m ∧ (pk perm (xs ++ ys ++ dd)).length = ar then g (pk perm (xs ++ ys ++ dd)) M2 else .no) Q := h2
  by_cases z : xs.length = n ∧ ys.length = m ∧ (pk perm (xs ++ ys ++ dd)).length = ar
  · rw [if_pos z] at h2
    have r1 := Rls.ext e2 r1
    have rr := pk_rls ((r1.append r2).append (hd α2 H2)) perm
    refine ⟨by rw [r1.length]; exact z.1, by rw [r2.length]; exact z.2.1, by rw [rr.length]; exact z.2.2, α2, M2, _, m2, rr, ?_⟩
    cases q : g (pk perm (xs ++ ys ++ dd)) M2 with
    | ok d M => rw [q] at h2; exact h2
    | exc c es M => rw [q] at h2; exact h2
    | no => rw [q] at h2; exact h2.elim
  · rw [if_neg z] at h2; exact h2.elim
section
variable {b : Bool} {X : Cx} {C : Ct} {W : WX} {k j n : Nat} {g : Fn3} {ar : Nat} {ks : List Str} {perm : List Nat} {dd : List D} {x : Str} {p pos : Pos} {e : Expr} {es : List Expr} {kws : List Keyword} {av ak : AV}
theorem l_fP (h : HasF b X.prog X.w C X.mg X.base k x g ar n [] perm dd) (hr : Room j X.A) (gd : b = true → X.A.guards = some []) (hx : ∀ σ, PassesAt (L2.CX X.prog X.w) X σ (WE W σ)) (hg : Gl X x) (ha : PA X (e :: es) (LA C W av)) (hkj : k ≤ j := by decide) (hdb : (x == ("__debug__" : Str)) = false := by decide)
    (he : starEach (e :: es) X.env = (false, eval e X.env) :: starEach es X.env := by rfl) (hpl : (backTo pos (starEach es X.env)).any (·.1) = false := by rfl) (hK : C.K = X.K := by rfl) : PE X (.Call (.Name x p) (e :: es) [] pos) (LE C W (evF g ar perm dd n 0 av avNil)) := by
  obtain ⟨f, fd, ps, its, dvs, F, hm, hk, hb, hd⟩ := h.ex
  rw [hK] at F hk hb
  exact PEimp (pe_fP F (Room.mono hr hkj) gd hg hm hk hb hx ha hdb he hpl) fun σ H Q q => fn_imp hd q (fun _ _ _ z => z) fun σ H Q ⟨α, σ3, M, m, s, z⟩ => z α H [] (Ext.refl _ _) m rfl
theorem l_fK0 (m : Nat) (h : HasF b X.prog X.w C X.mg X.base k x g ar 0 ks perm dd) (hr : Room j X.A) (gd : b = true → X.A.guards = some []) (hx : ∀ σ, PassesAt (L2.CX X.prog X.w) X σ (WE W σ)) (hg : Gl X x) (hkw : LK C W X kws ak) (hks : (backToKw pos (keywordEach kws X.env)).filterMap (·.1) = ks := by rfl) (hm : ks.length = m := by rfl) (hkj : k ≤ j := by decide)
    (hall : (backToKw pos (keywordEach kws X.env)).all (·.1.isSome) = true := by rfl) (hdb : (x == ("__debug__" : Str)) = false := by decide)
    (hpl : ((backTo pos (starEach [] X.env)).any (·.1) || (backToKw pos (keywordEach kws X.env)).any (·.1.isNone)) = false := by rfl) (hK : C.K = X.K := by rfl) : PE X (.Call (.Name x p) [] kws pos) (LE C W (evF g ar perm dd 0 m avNil ak)) := by
  subst hm
  obtain ⟨f, fd, ps, its, dvs, F, hm, hk, hb, hd⟩ := h.ex
  rw [hK] at F hk hb
  exact PEimp (pe_fK0 F (Room.mono hr hkj) gd hg hm hk hb hx hkw hall hks hdb hpl) fun σ H Q q => fn_imp hd q (fun σ H Q ⟨α, σ3, M, m, s, z⟩ => z α H [] (Ext.refl _ _) m rfl) fun _ _ _ z => z
theorem l_fKW (m : Nat) (h : HasF b X.prog X.w C X.mg X.base k x g ar n ks perm dd) (hr : Room j X.A) (gd : b = true → X.A.guards = some []) (hx : ∀ σ, PassesAt (L2.CX X.prog X.w) X σ (WE W σ)) (hg : Gl X x) (ha : PA X (e :: es) (LA C W av)) (hkw : LK C W X kws ak) (hks : (backToKw pos (keywordEach kws X.env)).filterMap (·.1) = ks := by rfl) (hm : ks.length = m := by rfl) (hkj : k ≤ j := by decide)
    (hall : (backToKw pos (keywordEach kws X.env)).all (·.1.isSome) = true := by rfl) (hdb : (x == ("__debug__" : Str)) = false := by decide)
    (he : starEach (e :: es) X.env = (false, eval e X.env) :: starEach es X.env := by rfl) (hpl : ((backTo pos (starEach (e :: es) X.env)).any (·.1) || (backToKw pos (keywordEach kws X.env)).any (·.1.isNone)) = false := by rfl) (hK : C.K = X.K := by rfl) : PE X (.Call (.Name x p) (e :: es) kws pos) (LE C W (evF g ar perm dd n m av ak)) := by
  subst hm
  obtain ⟨f, fd, ps, its, dvs, F, hm, hk, hb, hd⟩ := h.ex
  rw [hK] at F hk hb
  exact PEimp (pe_fKW F (Room.mono hr hkj) gd hg hm hk hb hx ha hkw hall hks hdb he hpl) fun σ H Q q => fn_imp hd q (fun _ _ _ z => z) fun _ _ _ z => z
end
end L3

set_option Elab.async false
set_option linter.all false
set_option maxRecDepth 100000
set_option maxHeartbeats 4000000
namespace L3
open PySem PySem.Spec PyProof.Rows L2

/-! ### the head's facts about own exception classes -/
def oexB (K : PySem.W.Frag) (C : Addr) : Bool := (match K.lookup C with
  | some ⟨.type "type", _, .cls cd, sl⟩ => (match cd.mro, sl.toList with
    | .ref C' :: bm, [_, _, _, _, some (.builtin n), _] => C' == C && (n == "ValueError.__new__" && (!cd.hasDel && (cd.hasDict && PySem.HandSPX.refsVE bm)))
    | _, _ => false)
  | _ => false) && (He.eqO (PySem.W.findIn K (.ref C) "__setattr__") (some (some (.builtin "object.__setattr__"))) && (decide (PySem.W.subIn K (.ref C) (.type "BaseException") = some true) && (decide (PySem.W.typeIn K (.ref C) = some (.type "type")) && PySem.W.keepIn K (.ref C))))
theorem oexB_ok {K : PySem.W.Frag} {C : Addr} (h : oexB K C = true) : OexC K C := by
  obtain ⟨q, h⟩ := He.ba h
  obtain ⟨h1, h⟩ := He.ba h
  obtain ⟨h2, h⟩ := He.ba h
  obtain ⟨h3, h4⟩ := He.ba h
  refine ⟨?_, He.eqO_ok h1, of_decide_eq_true h2, of_decide_eq_true h3, h4⟩
  split at q
  · rename_i dd cd sl ho
    split at q
    · rename_i C' bm k0 k1 k2 k3 n k5 hm hs
      simp only [Bool.and_eq_true, beq_iff_eq, Bool.not_eq_true'] at q
      obtain ⟨rfl, rfl, hdel, hdi, hv⟩ := q
      obtain ⟨nm, bs, mro, ns, qn, hd, sn, sub, ab, col, del⟩ := cd
      dsimp only at hm hdel hdi
      subst hm hdel hdi
      have hsl : sl = #[k0, k1, k2, k3, some (.builtin "ValueError.__new__"), k5] := by
        obtain ⟨l⟩ := sl
        simp only at hs
        rw [hs]
      subst hsl
      exact ⟨nm, qn, ns, bs, bm, sn, sub, ab, col, dd, k0, k1, k2, k3, k5, ho, hv⟩
    · cases q
  · cases q
def xclB (K : PySem.W.Frag) (x : Str) (fs : List Str) : Bool :=
  oexB K (He.ga K x) && (L2.xfB K (He.ga K x) && ((fs.all fun f => He.eqO (PySem.W.findIn K (.ref (He.ga K x)) f) (some none)) && (PySem.W.keepIn K (.ref (He.ga K x)) && (fs.isEmpty ||
    (He.eqO (PySem.W.findIn K (.ref (He.ga K x)) "__init__") (some (some (.ref (He.ma K (He.ga K x) "__init__")))) && decide (PySem.W.typeIn K (.ref (He.ma K (He.ga K x) "__init__")) = some (.type "function")))))))
structure XCl (K : PySem.W.Frag) (x : Str) (fs : List Str) : Prop where
  oe : OexC K (He.ga K x)
  xf : XfC K (He.ga K x)
  no : ∀ f ∈ fs, PySem.W.findIn K (.ref (He.ga K x)) f = some none
  kp : PySem.W.keepIn K (.ref (He.ga K x)) = true
  ini : fs ≠ [] → PySem.W.findIn K (.ref (He.ga K x)) "__init__" = some (some (.ref (He.ma K (He.ga K x) "__init__"))) ∧ PySem.W.typeIn K (.ref (He.ma K (He.ga K x) "__init__")) = some (.type "function")
theorem xclB_ok {K : PySem.W.Frag} {x : Str} {fs : List Str} (h : xclB K x fs = true) : XCl K x fs := by
  obtain ⟨h1, h⟩ := He.ba h
  obtain ⟨h2, h⟩ := He.ba h
  obtain ⟨h3, h⟩ := He.ba h
  obtain ⟨h4, h5⟩ := He.ba h
  refine ⟨oexB_ok h1, xfB_ok h2, fun f hf => He.eqO_ok (List.all_eq_true.mp h3 f hf), h4, fun hne => ?_⟩
  rcases Bool.or_eq_true_iff.mp h5 with z | z
  · exact absurd (List.isEmpty_iff.mp z) hne
  · obtain ⟨z1, z2⟩ := He.ba z
    exact ⟨He.eqO_ok z1, of_decide_eq_true z2⟩
abbrev AlX : Type := Bool × He.AlD
def xObs (n : Nat) (fa : List He.Fa) (fn : List He.DefD) (xs : List (Str × List Str)) (g : Addr → Option Obj) : AlX :=
  (xs.all fun p => xclB (He.frG g (He.asD g n)) p.1 p.2, He.obsDG n fa fn g)
def hookX (n : Nat) (fa : List He.Fa) (fn : List He.DefD) (xs : List (Str × List Str)) : PySem.W.Hook where
  α := AlX
  obs := fun s => xObs n fa fn xs s.heap.get?
  val := fun _ => (true, He.valD fn)
  says := fun _ h => ∃ K : PySem.W.Frag, K.In h ∧ He.SaysD fa fn K ∧ ∀ p ∈ xs, XCl K p.1 p.2
  of := fun w s e => by
    obtain ⟨e1, e2⟩ := Prod.mk.inj (show (xs.all (fun p => xclB (He.frG s.heap.get? (He.asD s.heap.get? n)) p.1 p.2), He.obsDG n fa fn s.heap.get?) = (true, He.valD fn) from e)
    exact ⟨_, He.frG_in, e2, fun p hp => xclB_ok (List.all_eq_true.mp e1 p hp)⟩
  keeps := fun _ _ _ ⟨K, hK, c, x⟩ k => ⟨K, PySem.W.Frag.In.keeps hK k, c, x⟩
theorem xObs_eq {n : Nat} {fa : List He.Fa} {fn : List He.DefD} {xs : List (Str × List Str)} {g : Addr → Option Obj} {s : Shared} (h : ∀ a, g a = s.heap.get? a) : xObs n fa fn xs g = (hookX n fa fn xs).obs s := by
  have e : g = s.heap.get? := funext h
  rw [e] <;> rfl
/-! ### an exception class of a head -/
theorem hasX_of {P : Program} {w : World} {K : PySem.W.Frag} {mg : Str → Option Value} {base : Heap} {T XT : List (List Nat)} {nm cl xl : List Str} {x : Str} {fs : List Str} {c n : Nat} {fd : FuncData} {ps : List Str} (xc : XCl K x fs) (hc : xl.getD c Str.empty = x) (hf : (XT.getD c []).map (nm.getD · Str.empty) = fs) (hn : fs.length = n) (hne : fs ≠ []) (nd : fs.Nodup)
    (F : FnOk P w K mg base (L2.CX P w) 1 (He.ma K (He.ga K x) "__init__") fd ps (spX (He.ga K x) fs)) (hm : mg x = some (.ref (He.ga K x))) (hb : Binds K fd ps []) : HasX P w (ctOf K T nm cl XT xl) mg base x c n := by
  subst hc hf
  exact ⟨_, fd, ps, xc.oe, (xc.ini hne).1, (xc.ini hne).2, F, hm, hb, hn, nd, xc.kp⟩
end L3

set_option Elab.async false
set_option linter.all false
set_option maxRecDepth 100000
set_option maxHeartbeats 4000000
namespace L3
open PySem PySem.Spec PyProof.Rows L2

/-! ### a < b <= c -/
def ev3 (op op' : D → D → Mem → Res D) (a b c : EV) : EV := fun σ M => (a σ M).bind fun x M1 => (b σ M1).bind fun y M2 => (op x y M2).bind fun z M3 => match z with
  | .bl true => (c σ M3).bind fun w M4 => op' y w M4
  | .bl false => .ok (.bl false) M3
  | _ => .no
section
variable {X : Cx} {C : Ct} {W : WX} {a b c : Expr} {eva evb evc : EV} {pos : Pos} {o o' : CmpOp} {r r' : R2} {op op' : D → D → Mem → Res D}
theorem chain_imp (lk : LinkR C r op) (lk' : LinkR C r' op') {σ : L2.St} {H : Hp} {Q : VK} (h : LE C W (ev3 op op' eva evb evc) σ H Q) : tChain r r' (LE C W eva) (LE C W evb) (LE C W evc) σ H Q := by
  obtain ⟨α, σ3, M, m, s, h⟩ := h
  refine ⟨α, σ3, M, m, s, (Fin.bind h).mono fun x H1 ⟨α1, M1, d1, e1, m1, r1, h1⟩ => ?_⟩
  refine ⟨α1, σ3, M1, m1, s.ext e1, (Fin.bind h1).mono fun y H2 ⟨α2, M2, d2, e2, m2, r2, h2⟩ => ?_⟩
  refine lk W σ α2 M2 H2 d1 d2 x y _ m2 (r1.ext e2) r2 ((Fin.bind h2).mono fun z H3 ⟨α3, M3, d3, e3, m3, r3, h3⟩ => ?_)
  cases d3 with
  | bl k =>
    cases r3
    refine ⟨k, rfl, ?_⟩
    cases k with
    | false => rw [if_neg Bool.false_ne_true]; exact fin_ok (d := .bl false) m3 rfl h3
    | true =>
      rw [if_pos rfl]
      exact ⟨α3, σ3, M3, m3, s.ext (e1.trans (e2.trans e3)), (Fin.bind h3).mono fun w H4 ⟨α4, M4, d4, e4, m4, r4, h4⟩ => lk' W σ α4 M4 H4 d2 d4 y w Q m4 (r2.ext (e3.trans e4)) r4 h4⟩
  | _ => exact h3.elim
theorem l_chain (ho : OpR X (compareOp o) r) (lk : LinkR C r op) (ho' : OpR X (compareOp o') r') (lk' : LinkR C r' op') (ha : PE X a (LE C W eva)) (hb : PE X b (LE C W evb)) (hc : PE X c (LE C W evc)) (hm : lastMarks [o, o'] [b, c] = false := by with_unfolding_all rfl) : PE X (.Compare a [o, o'] [b, c] pos) (LE C W (ev3 op op' eva evb evc)) :=
  PEimp (pe_chain ho ho' ha hb hc hm) fun _ _ _ h => chain_imp lk lk' h
theorem lt_chain (ho : OpR X (compareOp o) r) (lk : LinkR C r op) (ho' : OpR X (compareOp o') r') (lk' : LinkR C r' op') (ha : PE X a (LE C W eva)) (hb : PE X b (LE C W evb)) (hc : PE X c (LE C W evc)) (hm : lastMarks [o, o'] [b, c] = false := by with_unfolding_all rfl) : PT X (.Compare a [o, o'] [b, c] pos) (LB C W (bvE (ev3 op op' eva evb evc))) := by
  refine PTimp (pt_chain ho ho' ha hb hc hm) fun σ H Q ⟨α, σ3, M, m, s, h⟩ => ?_
  show tChain r r' _ _ _ σ H fun x H' => ∃ k, x = .bl k ∧ Q k H'
  refine chain_imp (eva := eva) (evb := evb) (evc := evc) (W := W) lk lk' ⟨α, σ3, M, m, s, ?_⟩
  refine (Fin.bind h).mono fun x H1 ⟨α1, M1, d, e1, m1, r1, h1⟩ => ?_
  cases d with
  | bl k => cases r1; exact ⟨k, rfl, h1 α1 H1 k (Ext.refl _ _) m1 rfl⟩
  | _ => exact h1.elim
end
/-! ### lists of ints, of True and False -/
def intsOf : List D → Option (List Int)
  | [] => some []
  | .int i :: r => (intsOf r).map (i :: ·)
  | _ => none
def boolsOf : List D → Option (List Bool)
  | [] => some []
  | .bl i :: r => (boolsOf r).map (i :: ·)
  | _ => none
theorem intsOf_ok {C : Ct} {α : List Addr} {H : Hp} : ∀ {ds : List D} {ns : List Int} {vs : List V}, intsOf ds = some ns → Rls C α H ds vs → vs = ns.map V.int
  | [], ns, vs, h, r => by cases h; cases r; rfl
  | .int i :: ds, ns, vs, h, r => by
    have h : (intsOf ds).map (i :: ·) = some ns := h
    cases q : intsOf ds with
    | none => rw [q] at h; cases h
    | some ms =>
      rw [q] at h; cases h
      obtain ⟨v, vr, rfl, rv, rr⟩ := r
      cases rv
      rw [intsOf_ok q rr]; rfl
  | .non :: _, _, _, h, _ => by cases h
  | .bl _ :: _, _, _, h, _ => by cases h
  | .str _ :: _, _, _, h, _ => by cases h
  | .tup _ :: _, _, _, h, _ => by cases h
  | .lst _ :: _, _, _, h, _ => by cases h
  | .scr _ :: _, _, _, h, _ => by cases h
  | .ref _ :: _, _, _, h, _ => by cases h
  | .obj _ _ :: _, _, _, h, _ => by cases h
  | .glo _ :: _, _, _, h, _ => by cases h
  | .ty _ :: _, _, _, h, _ => by cases h
  | .dct _ _ :: _, _, _, h, _ => by cases h
  | .xv _ _ :: _, _, _, h, _ => by cases h
theorem boolsOf_ok {C : Ct} {α : List Addr} {H : Hp} : ∀ {ds : List D} {ns : List Bool} {vs : List V}, boolsOf ds = some ns → Rls C α H ds vs → vs = ns.map V.bl
  | [], ns, vs, h, r => by cases h; cases r; rfl
  | .bl i :: ds, ns, vs, h, r => by
    have h : (boolsOf ds).map (i :: ·) = some ns := h
    cases q : boolsOf ds with
    | none => rw [q] at h; cases h
    | some ms =>
      rw [q] at h; cases h
      obtain ⟨v, vr, rfl, rv, rr⟩ := r
      cases rv
      rw [boolsOf_ok q rr]; rfl
  | .non :: _, _, _, h, _ => by cases h
  | .int _ :: _, _, _, h, _ => by cases h
  | .str _ :: _, _, _, h, _ => by cases h
  | .tup _ :: _, _, _, h, _ => by cases h
  | .lst _ :: _, _, _, h, _ => by cases h
  | .scr _ :: _, _, _, h, _ => by cases h
  | .ref _ :: _, _, _, h, _ => by cases h
  | .obj _ _ :: _, _, _, h, _ => by cases h
  | .glo _ :: _, _, _, h, _ => by cases h
  | .ty _ :: _, _, _, h, _ => by cases h
  | .dct _ _ :: _, _, _, h, _ => by cases h
  | .xv _ _ :: _, _, _, h, _ => by cases h
def onInts (f : List Int → Option D) : D → Mem → Res D := fun x M => match (listOf M x).bind intsOf with
  | some ns => (match f ns with
    | some d => .ok d M
    | none => .no)
  | none => .no
def onBools (f : List Bool → D) : D → Mem → Res D := fun x M => match (listOf M x).bind boolsOf with
  | some ns => .ok (f ns) M
  | none => .no
def maxI : List Int → Int
  | [] => 0
  | [n] => n
  | n :: r => max n (maxI r)
def minI : List Int → Int
  | [] => 0
  | [n] => n
  | n :: r => min n (minI r)
theorem maxI_ok : ∀ {ns : List Int}, ns ≠ [] → maxI ns ∈ ns ∧ ∀ y ∈ ns, y ≤ maxI ns
  | [], h => absurd rfl h
  | [n], _ => ⟨by simp [maxI], by simp [maxI]⟩
  | n :: m :: r, _ => by
    obtain ⟨h1, h2⟩ := maxI_ok (ns := m :: r) (by simp)
    have e : maxI (n :: m :: r) = max n (maxI (m :: r)) := rfl
    rw [e]
    refine ⟨?_, fun y hy => ?_⟩
    · by_cases z : n ≤ maxI (m :: r)
      · rw [Int.max_eq_right z]; exact List.mem_cons_of_mem _ h1
      · rw [Int.max_eq_left (by omega)]; exact List.mem_cons_self
    · rcases List.mem_cons.mp hy with rfl | hy
      · exact Int.le_max_left ..
      · exact Int.le_trans (h2 y hy) (Int.le_max_right ..)
theorem minI_ok : ∀ {ns : List Int}, ns ≠ [] → minI ns ∈ ns ∧ ∀ y ∈ ns, minI ns ≤ y
  | [], h => absurd rfl h
  | [n], _ => ⟨by simp [minI], by simp [minI]⟩
  | n :: m :: r, _ => by
    obtain ⟨h1, h2⟩ := minI_ok (ns := m :: r) (by simp)
    have e : minI (n :: m :: r) = min n (minI (m :: r)) := rfl
    rw [e]
    refine ⟨?_, fun y hy => ?_⟩
    · by_cases z : n ≤ minI (m :: r)
      · rw [Int.min_eq_left z]; exact List.mem_cons_self
      · rw [Int.min_eq_right (by omega)]; exact List.mem_cons_of_mem _ h1
    · rcases List.mem_cons.mp hy with rfl | hy
      · exact Int.min_le_left ..
      · exact Int.le_trans (Int.min_le_right ..) (h2 y hy)
def dSum : D → Mem → Res D := onInts fun ns => some (.int ns.sum)
def dMaxL : D → Mem → Res D := onInts fun ns => if ns = [] then none else some (.int (maxI ns))
def dMinL : D → Mem → Res D := onInts fun ns => if ns = [] then none else some (.int (minI ns))
def dAll : D → Mem → Res D := onBools fun bs => .bl (bs.all id)
def dAny : D → Mem → Res D := onBools fun bs => .bl (bs.any id)
section
variable {C : Ct} {K : PySem.W.Frag}
theorem onInts_ok {f : List Int → Option D} {W : WX} {σ : L2.St} {α : List Addr} {M : Mem} {H : Hp} {x : D} {v : V} {Q : VK} (hK : C.K = K) (m : SMem C α M H) (r : Rl C α H x v) (h : Fin C W σ (RD C) α H (onInts f x M) Q) :
    ∃ a ns d, v = .ref a ∧ SqL K H a (ns.map V.int) ∧ f ns = some d ∧ Fin C W σ (RD C) α H (.ok d M) Q := by
  unfold onInts at h
  cases q : listOf M x with
  | none => rw [q] at h; exact h.elim
  | some ds =>
    rw [q] at h
    have h : Fin C W σ (RD C) α H (match intsOf ds with
      | some ns => (match f ns with
        | some d => .ok d M
        | none => .no)
      | none => .no) Q := h
    cases q2 : intsOf ds with
    | none => rw [q2] at h; exact h.elim
    | some ns =>
      rw [q2] at h
      have h : Fin C W σ (RD C) α H (match f ns with
        | some d => .ok d M
        | none => .no) Q := h
      cases q3 : f ns with
      | none => rw [q3] at h; exact h.elim
      | some d =>
        rw [q3] at h
        obtain ⟨a, vs, rfl, hs, rs⟩ := listOf_ok hK m r q
        rw [intsOf_ok q2 rs] at hs
        exact ⟨a, ns, d, rfl, hs, q3, h⟩
theorem onBools_ok {f : List Bool → D} {W : WX} {σ : L2.St} {α : List Addr} {M : Mem} {H : Hp} {x : D} {v : V} {Q : VK} (hK : C.K = K) (m : SMem C α M H) (r : Rl C α H x v) (h : Fin C W σ (RD C) α H (onBools f x M) Q) :
    ∃ a ns, v = .ref a ∧ SqL K H a (ns.map V.bl) ∧ Fin C W σ (RD C) α H (.ok (f ns) M) Q := by
  unfold onBools at h
  cases q : listOf M x with
  | none => rw [q] at h; exact h.elim
  | some ds =>
    rw [q] at h
    have h : Fin C W σ (RD C) α H (match boolsOf ds with
      | some ns => .ok (f ns) M
      | none => .no) Q := h
    cases q2 : boolsOf ds with
    | none => rw [q2] at h; exact h.elim
    | some ns =>
      rw [q2] at h
      obtain ⟨a, vs, rfl, hs, rs⟩ := listOf_ok hK m r q
      rw [boolsOf_ok q2 rs] at hs
      exact ⟨a, ns, rfl, hs, h⟩
theorem lk_sum (hK : C.K = K) : LinkA C (rSum K) (a1 dSum) := lk_a1 fun W σ α M H x v Q m r h => by
  obtain ⟨a, ns, d, rfl, hs, e, h⟩ := onInts_ok hK m r h
  cases e
  exact ⟨a, ns, rfl, hs, fin_ok (d := .int ns.sum) m rfl h⟩
theorem lk_maxL (hK : C.K = K) : LinkA C (rMax K) (a1 dMaxL) := lk_a1 fun W σ α M H x v Q m r h => by
  obtain ⟨a, ns, d, rfl, hs, e, h⟩ := onInts_ok hK m r h
  by_cases z : ns = []
  · rw [if_pos z] at e; cases e
  · rw [if_neg z] at e; cases e
    refine ⟨a, ns, rfl, hs, List.length_pos_iff.mpr z, fun k h1 h2 => ?_⟩
    obtain ⟨q1, q2⟩ := maxI_ok z
    have : k = maxI ns := Int.le_antisymm (q2 k h1) (h2 _ q1)
    subst this
    exact fin_ok (d := .int (maxI ns)) m rfl h
theorem lk_minL (hK : C.K = K) : LinkA C (rMin K) (a1 dMinL) := lk_a1 fun W σ α M H x v Q m r h => by
  obtain ⟨a, ns, d, rfl, hs, e, h⟩ := onInts_ok hK m r h
  by_cases z : ns = []
  · rw [if_pos z] at e; cases e
  · rw [if_neg z] at e; cases e
    refine ⟨a, ns, rfl, hs, List.length_pos_iff.mpr z, fun k h1 h2 => ?_⟩
    obtain ⟨q1, q2⟩ := minI_ok z
    have : k = minI ns := Int.le_antisymm (h2 _ q1) (q2 k h1)
    subst this
    exact fin_ok (d := .int (minI ns)) m rfl h
theorem lk_all (hK : C.K = K) : LinkA C (rAll K) (a1 dAll) := lk_a1 fun W σ α M H x v Q m r h => by
  obtain ⟨a, ns, rfl, hs, h⟩ := onBools_ok hK m r h
  exact ⟨a, ns, rfl, hs, fin_ok (d := .bl (ns.all id)) m rfl h⟩
theorem lk_any (hK : C.K = K) : LinkA C (rAny K) (a1 dAny) := lk_a1 fun W σ α M H x v Q m r h => by
  obtain ⟨a, ns, rfl, hs, h⟩ := onBools_ok hK m r h
  exact ⟨a, ns, rfl, hs, fin_ok (d := .bl (ns.any id)) m rfl h⟩
/-! xs.count(i), xs.insert(i, y) -/
def dCount : D → List D → Mem → Res D := fun x xs M => match xs with
  | [.int k] => onInts (fun ns => some (.int (ns.count k : Nat))) x M
  | _ => .no
theorem lk_count (hK : C.K = K) : LinkM C (rCntI K) dCount := by
  intro W σ α M H x xs v vs Q m rx rs h
  match xs, rs, h with
  | [.int k], rs, h =>
    obtain ⟨u, _, rfl, ru, rfl⟩ := rs
    cases ru
    have h : Fin C W σ (RD C) α H (onInts (fun ns => some (.int (ns.count k : Nat))) x M) Q := h
    obtain ⟨a, ns, d, rfl, hs, e, h⟩ := onInts_ok hK m rx h
    cases e
    exact ⟨a, ns, k, rfl, rfl, hs, fin_ok (d := .int (ns.count k : Nat)) m rfl h⟩
  | [], _, h => exact h.elim
  | .non :: _, _, h => exact h.elim
  | .bl _ :: _, _, h => exact h.elim
  | .str _ :: _, _, h => exact h.elim
  | .tup _ :: _, _, h => exact h.elim
  | .lst _ :: _, _, h => exact h.elim
  | .scr _ :: _, _, h => exact h.elim
  | .ref _ :: _, _, h => exact h.elim
  | .obj _ _ :: _, _, h => exact h.elim
  | .glo _ :: _, _, h => exact h.elim
  | .ty _ :: _, _, h => exact h.elim
  | .dct _ _ :: _, _, h => exact h.elim
  | .xv _ _ :: _, _, h => exact h.elim
  | .int _ :: _ :: _, _, h => exact h.elim
def dInsert : D → List D → Mem → Res D := fun x xs M => match cellOf M x, twoD xs with
  | some (n, ds), some (.int i, y) => if ds.length < sizeLine ∧ 0 ≤ i ∧ i < 2 ^ 63 then .ok .non (M.set n (.lst (ds.take i.toNat ++ [y] ++ ds.drop i.toNat))) else .no
  | _, _ => .no
theorem lk_insert : LinkM C (fun x vs H Q => ∃ (l : Addr) (xs : List V) (i : Int) (y : V), x = .ref l ∧ vs = [.int i, y] ∧ H l = some (.lst xs) ∧ xs.length < sizeLine ∧ 0 ≤ i ∧ i < 2 ^ 63 ∧ Q .non (upd H l (.lst (xs.take i.toNat ++ [y] ++ xs.drop i.toNat)))) dInsert := by
  intro W σ α M H x xs v vs Q m rx rs h
  unfold dInsert at h
  cases q : cellOf M x with
  | none => rw [q] at h; exact h.elim
  | some nd =>
    obtain ⟨n, ds⟩ := nd
    rw [q] at h
    match xs, rs, h with
    | [.int i, y], rs, h =>
      obtain ⟨u, _, rfl, ru, y', _, rfl, ry, rfl⟩ := rs
      cases ru
      have h : Fin C W σ (RD C) α H (if ds.length < sizeLine ∧ 0 ≤ i ∧ i < 2 ^ 63 then .ok .non (M.set n (.lst (ds.take i.toNat ++ [y] ++ ds.drop i.toNat))) else .no) Q := h
      obtain ⟨a, ws, rfl, ha, hv, rs, _⟩ := cellOf_ok m rx q
      by_cases z : ds.length < sizeLine ∧ 0 ≤ i ∧ i < 2 ^ 63
      · rw [if_pos z] at h
        exact ⟨a, ws, i, y', rfl, rfl, hv, by rw [rs.length]; exact z.1, z.2.1, z.2.2, fin_write (d := .non) m ha (((rs.take _).append (Rls.one ry)).append (rs.drop _)) rfl h⟩
      · rw [if_neg z] at h; exact h.elim
    | [], _, h => exact h.elim
    | [_], _, h => exact h.elim
    | _ :: _ :: _ :: _, _, h => exact h.elim
    | [.non, _], _, h => exact h.elim
    | [.bl _, _], _, h => exact h.elim
    | [.str _, _], _, h => exact h.elim
    | [.tup _, _], _, h => exact h.elim
    | [.lst _, _], _, h => exact h.elim
    | [.scr _, _], _, h => exact h.elim
    | [.ref _, _], _, h => exact h.elim
    | [.obj _ _, _], _, h => exact h.elim
    | [.glo _, _], _, h => exact h.elim
    | [.ty _, _], _, h => exact h.elim
    | [.dct _ _, _], _, h => exact h.elim
    | [.xv _ _, _], _, h => exact h.elim
end
end L3

set_option Elab.async false
set_option linter.all false
set_option maxRecDepth 100000
set_option maxHeartbeats 4000000
namespace L3
open PySem PySem.Spec PyProof.Rows L2

/-! ### isinstance(x, (int, str, ..)) -/
def dIsT (ts : List Ty) : D → Mem → Res D := fun x M => match tyOf M x with
  | some u => .ok (.bl (ts.any (isTy u))) M
  | none => .no
theorem tyX_of {C : Ct} {K : PySem.W.Frag} {α : List Addr} {M : Mem} {H : Hp} {x : D} {v : V} {t : Ty} (hK : C.K = K) (m : SMem C α M H) (rx : Rl C α H x v) (h : tyOf M x = some t) : TyX K H v (.type t.name) := by
  have lst : ∀ a vs, SqL K H a vs → TyX K H (.ref a) (.type "list") := fun a vs hs => by
    rcases hs with (hs | ⟨o, hs⟩) | ⟨o, its, n, e, c, _⟩
    · exact .base (.lst hs)
    · exact .base (.frz hs)
    · exact .kList e c
  have tup : ∀ a vs, SqT K H a vs → TyX K H (.ref a) (.type "tuple") := fun a vs hs => by
    rcases hs with (hs | ⟨o, hs⟩) | ⟨o, its, n, e, c, _⟩
    · exact .base (.tup hs)
    · exact .fTuple hs
    · exact .kTuple e c
  cases x with
  | non => cases rx; cases h; exact .base .non
  | bl b => cases rx; cases h; exact .base (.bl b)
  | int b => cases rx; cases h; exact .base (.int b)
  | str b => cases rx; cases h; exact .base (.str b)
  | dct ks vs => obtain ⟨a, kws, rfl, _, hv, _⟩ := rx; cases h; exact .base (.dK hv)
  | tup ds => obtain ⟨a, vs, rfl, hs, rs⟩ := tupOf_ok (C := C) hK rx rfl; cases h; exact tup a vs hs
  | lst ds => obtain ⟨a, vs, rfl, hs, rs⟩ := listOf_ok (M := M) hK m rx rfl; cases h; exact lst a vs hs
  | scr ds => obtain ⟨a, vs, rfl, hs, rs⟩ := listOf_ok (M := M) hK m rx rfl; cases h; exact lst a vs hs
  | ref n =>
    obtain ⟨a, ha, rfl⟩ := rx
    cases q : M[n]? with
    | none => simp [tyOf, q] at h
    | some cl =>
      have rc := m.cell n cl a q ha
      cases cl with
      | lst ds => obtain ⟨vs, hv, rs⟩ := rc; simp [tyOf, q] at h; subst h; exact .base (.lst hv)
      | dic kvs => obtain ⟨kws, hv, _⟩ := rc; simp [tyOf, q] at h; subst h; exact .base (.dK hv)
      | ins c ds => simp [tyOf, q] at h
  | _ => cases h
theorem kitAny_ty {K : PySem.W.Frag} (u : Ty) : ∀ ts : List Ty, PySem.W.kitAny K (.type u.name) (ts.map fun t => .type t.name) = some (ts.any (isTy u))
  | [] => rfl
  | t :: ts => by
    rw [List.map_cons, List.any_cons]
    refine kitAny_cons (kitTy u t) (fun h => ?_) (fun h => ?_)
    · rw [h, Bool.false_or]; exact kitAny_ty u ts
    · rw [h, Bool.true_or]
inductive TyArgs (X : Cx) : List Expr → List Ty → Prop
  | nil : TyArgs X [] []
  | cons {x : Str} {p : Pos} {t : Ty} {es : List Expr} {ts : List Ty} (h : PE X (.Name x p) (tC (.ty t.name))) (hs : starEach (.Name x p :: es) X.env = (false, eval (.Name x p) X.env) :: starEach es X.env) (r : TyArgs X es ts) : TyArgs X (.Name x p :: es) (t :: ts)
theorem TyArgs.pa {X : Cx} {es : List Expr} {ts : List Ty} (h : TyArgs X es ts) : PA X es (fun _ H Q => Q (ts.map fun t => .ty t.name) H) := by
  induction h with
  | nil => exact pa_nil
  | cons h hs r ih => exact pa_cons h ih hs
theorem clsV_tys : ∀ ts : List Ty, Paired ClsV (ts.map fun t => V.ty t.name) (ts.map fun t => Value.type t.name)
  | [] => .nil
  | t :: ts => .cons (.ty _) (clsV_tys ts)
theorem l_isiT {X : Cx} {C : Ct} {W : WX} {e : Expr} {ev : EV} {es : List Expr} {ts : List Ty} {k : Nat} {p p2 pos : Pos} (hg : Gl X "isinstance") (hm : X.mg "isinstance" = none) (he : PE X e (LE C W ev)) (ht : TyArgs X es ts) (hz : ts.length ≤ 100 := by decide)
    (hs : starEach [e, .Tuple es k p2] X.env = (false, eval e X.env) :: starEach [.Tuple es k p2] X.env := by rfl) (hs2 : starEach [.Tuple es k p2] X.env = (false, eval (.Tuple es k p2) X.env) :: starEach [] X.env := by rfl) (hpl : (backTo pos (starEach [.Tuple es k p2] X.env)).any (·.1) = false := by rfl) (hK : C.K = X.K := by rfl) :
    PE X (.Call (.Name "isinstance" p) [e, .Tuple es k p2] [] pos) (LE C W (ev1 (dIsT ts) ev)) := by
  refine PEimp (pe_callB call_isiT hg hm boot_isinstance (pa_cons he (pa_cons (pe_tup ht.pa) pa_nil hs2) hs) (by decide) (by decide) hs hpl) fun σ H Q ⟨α, σ3, M, m, s, h⟩ => ⟨α, σ3, M, m, s, (Fin.bind h).mono fun x H1 ⟨α1, M1, d, e1, m1, r1, h1⟩ => ?_⟩
  refine ⟨by rw [List.length_map]; exact Nat.le_trans hz (by decide), fun q hq => ?_⟩
  have h1 : Fin C W σ (RD C) α1 H1 (match tyOf M1 d with
    | some u => .ok (.bl (ts.any (isTy u))) M1
    | none => .no) Q := h1
  cases z : tyOf M1 d with
  | none => rw [z] at h1; exact h1.elim
  | some u =>
    rw [z] at h1
    have ex : Ext α1 H1 α1 (upd H1 q (.tup (ts.map fun t => .ty t.name))) := Ext.laid (C := C) (M := M1) hq
    exact ⟨x, q, _, .type u.name, _, _, rfl, upd_same, clsV_tys ts, tyX_of hK (m1.laid hq) (r1.ext ex) z, kitAny_ty u ts, h1 α1 _ (.bl _) ex (m1.laid hq) rfl⟩
/-- a module's name for a built-in function -/
theorem l_bfun {X : Cx} {C : Ct} {W : WX} {x : Str} {id : String} {r : List V → Hp → VK → Prop} {op : List D → Mem → Res D} {p pos : Pos} {e : Expr} {es : List Expr} {av : AV} (hc : CallR X (.builtin id) r) (lk : LinkA C r op) (hg : Gl X x) (hm : X.mg x = some (.builtin id)) (ha : PA X (e :: es) (LA C W av)) (hdb : (x == ("__debug__" : Str)) = false := by decide)
    (he : starEach (e :: es) X.env = (false, eval e X.env) :: starEach es X.env := by rfl) (hpl : (backTo pos (starEach es X.env)).any (·.1) = false := by rfl) : PE X (.Call (.Name x p) (e :: es) [] pos) (LE C W (evA op av)) := PEimp (pe_callBfun hc hg hm ha hdb he hpl) fun _ _ _ h => opA lk h
end L3

set_option Elab.async false
set_option linter.all false
set_option maxRecDepth 100000
set_option maxHeartbeats 4000000
namespace L3
open PySem PySem.Spec PyProof.Rows L2

/-! ### {k: v}, written -/
section
variable {X : Cx} {C : Ct} {W : WX}
inductive LitV : D → V → Prop
  | non : LitV .non .non
  | bl (b : Bool) : LitV (.bl b) (.bl b)
  | int (i : Int) : LitV (.int i) (.int i)
  | str (s : Str) : LitV (.str s) (.str s)
theorem LitV.rl {d : D} {v : V} (h : LitV d v) (C : Ct) (α : List Addr) (H : Hp) : Rl C α H d v := by cases h <;> rfl
theorem l_dct1 {ke ve : Expr} {pos : Pos} {kd vd : D} {k : Key} {v : V} (hk : PE X ke (tC (kV k))) (hv : PE X ve (tC v)) (lk : LitV kd (kV k)) (lv : LitV vd v) :
    PE X (.Dict [some ke] [ve] pos) (LE C W (evC (.dct [kd] [vd]))) := by
  refine PEimp (pe_disp (pps_cons hk hv pps_nil) rfl rfl (by simp) (by simp)) fun σ H Q ⟨α, σ3, M, m, s, q⟩ p hp => ?_
  refine ⟨upd_same, [(k, v)], rfl, by simp, ?_⟩
  have e : upd (upd H p (.dK [])) p (.dK (mergeK [] [(k, v)])) = upd H p (.dK [(k, v)]) := by
    funext b
    by_cases h : b = p
    · subst h; rw [upd_same, upd_same] <;> rfl
    · rw [upd_ne h, upd_ne h, upd_ne h]
  rw [e]
  exact q α _ _ (Ext.laid (C := C) (M := M) hp) (m.laid hp) ⟨p, [(k, v)], rfl, m.new hp, upd_same, Rls.one (lk.rl _ _ _), Rls.one (lv.rl _ _ _)⟩
theorem l_dct0 {pos : Pos} : PE X (.Dict [] [] pos) (LE C W (evC (.dct [] []))) := by
  refine PEimp pe_dnewK fun σ H Q ⟨α, σ3, M, m, s, q⟩ p hp => ?_
  exact q α _ _ (Ext.laid (C := C) (M := M) hp) (m.laid hp) ⟨p, [], rfl, m.new hp, upd_same, rfl, rfl⟩
end
/-! ### repr of a dict of plain values -/
inductive Pl : V → PyData → Prop
  | non : Pl .non .none
  | bl (b : Bool) : Pl (.bl b) (.bool b)
  | int (i : Int) : Pl (.int i) (.int i)
  | str (s : Str) : Pl (.str s) (.str s)
inductive Pls : List V → List PyData → Prop
  | nil : Pls [] []
  | cons {v : V} {p : PyData} {vs : List V} {ps : List PyData} : Pl v p → Pls vs ps → Pls (v :: vs) (p :: ps)
theorem Pl.reads {h : Heap} {v : V} {p : PyData} {u : Value} (a : Pl v p) (r : RelV v u) : Reads h u p [] := by
  cases a with
  | non => cases r; exact .none
  | bl b => cases r; exact .bool b
  | int i => obtain ⟨t, rfl⟩ := r; exact .int i t
  | str x => obtain ⟨t, rfl⟩ := r; exact .str x t
def keyP : Key → PyData
  | .inl i => .int i
  | .inr x => .str x
theorem keys_read {P : Program} {w : World} {h : Heap} : ∀ {es : List DictEntry} {vs : List (Key × Value)}, Pairs (mixKind P w) es vs → ReadsAll h (es.map (·.key)) (vs.map fun p => keyP p.1) []
  | _, _, .nil => .nil
  | e :: es, kv :: kvs, .cons a b r => by
    have hk : Reads h e.key (keyP kv.1) [] := by
      rcases keyIs_shape a with ⟨i, t, h1, h2⟩ | ⟨x, t, h1, h2⟩
      · rw [h1, h2]; exact .int i t
      · rw [h1, h2]; exact .str x t
    exact .cons (as := []) (bs := []) hk (keys_read r)
theorem vals_read {P : Program} {w : World} {h : Heap} : ∀ {es : List DictEntry} {vs : List (Key × Value)} {kws : List (Key × V)} {ps : List PyData}, Pairs (mixKind P w) es vs → KV kws vs → Pls (kws.map (·.2)) ps → ReadsAll h (es.map (·.val)) ps []
  | _, _, _, _, .nil, r, q => by
    unfold KV at r
    cases r
    cases q
    exact .nil
  | e :: es, kv :: kvs, _, _, .cons a b rr, r, q => by
    unfold KV at r
    cases r with
    | cons h t =>
      cases q with
      | cons p1 p2 => exact .cons (as := []) (bs := []) (by show Reads _ e.val _ []; rw [b]; exact Pl.reads p1 h.2) (vals_read rr t p2)
theorem kv_keys : ∀ {kws : List (Key × V)} {vs : List (Key × Value)}, KV kws vs → vs.map (fun p => keyP p.1) = kws.map fun p => keyP p.1 := by
  intro kws vs r
  unfold KV at r
  induction r with
  | nil => rfl
  | cons h t ih => rw [List.map_cons, List.map_cons, ih, h.1]
def rReprX (K : PySem.W.Frag) : List V → Hp → VK → Prop := fun xs H Q => rRepr K xs H Q ∨ ∃ a kws ps, xs = [.ref a] ∧ H a = some (.dK kws) ∧ Pls (kws.map (·.2)) ps ∧ (PyData.dict ((kws.map fun p => keyP p.1).zip ps)).showable = true ∧
  (PyData.dict ((kws.map fun p => keyP p.1).zip ps)).depth ≤ 16 ∧ (PyData.dict ((kws.map fun p => keyP p.1).zip ps)).shown.length ≤ sizeLine ∧ Q (.str (PyData.dict ((kws.map fun p => keyP p.1).zip ps)).shown) H
theorem Pls.length {vs : List V} {ps : List PyData} (h : Pls vs ps) : vs.length = ps.length := by
  induction h with
  | nil => rfl
  | cons a b ih => simp [ih]
theorem cr_reprX {X : Cx} (gd : X.A.guards = some []) (hu : X.A.units + 64 < cLine) : CallR X (.builtin "repr") (rReprX X.K) := by
  intro pins s σ H xs us Q I r h
  rcases h with h | ⟨a, kws, ps, rfl, hd, hp, hs, hz, hl, q⟩
  · exact cr_repr gd hu pins s σ H xs us Q I r h
  · obtain ⟨u, rfl, ru⟩ := vals1 r
    cases ru
    obtain ⟨z, ns, vs, rk, o, es, ep, ho, hx, hdt, _, pr, _⟩ := dk_of I.hok hd
    have nsm : a ≠ sysModules := by simpa using ns
    have lp : (kws.map fun p => keyP p.1).length = ps.length := by have := hp.length; simpa using this
    have e1 : ((kws.map fun p => keyP p.1).zip ps).map (·.1) = kws.map fun p => keyP p.1 := List.map_fst_zip (by omega)
    have e2 : ((kws.map fun p => keyP p.1).zip ps).map (·.2) = ps := List.map_snd_zip (by omega)
    have rd : Reads s.heap (.ref a) (.dict ((kws.map fun p => keyP p.1).zip ps)) (a :: [] ++ []) := by
      refine .dict ho hx.1 hdt ?_ ?_
      · rw [e1, ← kv_keys rk]; exact keys_read pr
      · rw [e2]; exact vals_read pr rk hp
    exact PySem.repr_of_reads' rd hs (fun _ hm => by rcases List.mem_cons.mp hm with e | e; exact nsm e.symm; cases e) gd (by omega) (fun _ _ e => e) (fun h' t tk hk => ⟨.str _, H, I.kept (t' := tk) hk, ⟨t, rfl⟩, q⟩) hl
def pyKV : List D → List D → Option (List (PyData × PyData))
  | [], [] => some []
  | k :: ks, v :: vs => match leaf k, leaf v, pyKV ks vs with
    | some a, some b, some r => some ((a, b) :: r)
    | _, _, _ => none
  | _, _ => none
theorem leaf_key {C : Ct} {α : List Addr} {H : Hp} {d : D} {p : PyData} {k : Key} (r : Rl C α H d (kV k)) (h : leaf d = some p) : p = keyP k := by
  cases d with
  | non => cases k <;> cases r
  | bl b => cases k <;> cases r
  | int i =>
    cases h
    cases k with
    | inl j => cases r; rfl
    | inr x => cases r
  | str x =>
    have h : (if PySem.PyData.strOk x = true then some (PyData.str x) else none) = some p := h
    by_cases z : PySem.PyData.strOk x = true
    · rw [if_pos z] at h; cases h
      cases k with
      | inl j => cases r
      | inr x => cases r; rfl
    · rw [if_neg z] at h; cases h
  | _ => cases h
theorem leaf_pl {C : Ct} {α : List Addr} {H : Hp} {d : D} {p : PyData} {v : V} (r : Rl C α H d v) (h : leaf d = some p) : Pl v p := by
  cases d with
  | non => cases r; cases h; exact .non
  | bl b => cases r; cases h; exact .bl b
  | int i => cases r; cases h; exact .int i
  | str x =>
    cases r
    have h : (if PySem.PyData.strOk x = true then some (PyData.str x) else none) = some p := h
    by_cases z : PySem.PyData.strOk x = true
    · rw [if_pos z] at h; cases h; exact .str x
    · rw [if_neg z] at h; cases h
  | _ => cases h
theorem pyKV_ok {C : Ct} {α : List Addr} {H : Hp} : ∀ {ks vs : List D} {kws : List (Key × V)} {r : List (PyData × PyData)}, Rls C α H ks (kws.map fun p => kV p.1) → Rls C α H vs (kws.map (·.2)) → pyKV ks vs = some r → ∃ ps, Pls (kws.map (·.2)) ps ∧ r = (kws.map fun p => keyP p.1).zip ps
  | [], [], kws, r, h1, h2, e => by
    cases e
    cases kws with
    | nil => exact ⟨[], .nil, rfl⟩
    | cons a b => cases h1
  | k :: ks, v :: vs, kws, r, h1, h2, e => by
    cases kws with
    | nil => obtain ⟨_, _, z, _⟩ := h1; cases z
    | cons a b =>
      obtain ⟨k', ks', z1, r1, r2⟩ := h1
      obtain ⟨v', vs', z2, r3, r4⟩ := h2
      cases z1; cases z2
      have e : (match leaf k, leaf v, pyKV ks vs with
        | some a, some b, some r => some ((a, b) :: r)
        | _, _, _ => none) = some r := e
      cases q1 : leaf k with
      | none => rw [q1] at e; cases e
      | some p1 =>
        cases q2 : leaf v with
        | none => rw [q1, q2] at e; cases e
        | some p2 =>
          cases q3 : pyKV ks vs with
          | none => rw [q1, q2, q3] at e; cases e
          | some rest =>
            rw [q1, q2, q3] at e
            cases e
            obtain ⟨ps, h5, h6⟩ := pyKV_ok r2 r4 q3
            subst h6
            exact ⟨p2 :: ps, .cons (leaf_pl r3 q2) h5, by rw [leaf_key r1 q1]; rfl⟩
  | [], _ :: _, _, _, _, _, e => by cases e
  | _ :: _, [], _, _, _, _, e => by cases e
def dReprX : D → Mem → Res D := fun x M => match x with
  | .dct ks vs => (match pyKV ks vs with
    | some r => if (PyData.dict r).showable = true ∧ (PyData.dict r).depth ≤ 16 ∧ (PyData.dict r).shown.length ≤ sizeLine then .ok (.str (PyData.dict r).shown) M else .no
    | none => .no)
  | x => dRepr x M
theorem lk_reprX {C : Ct} {K : PySem.W.Frag} (hK : C.K = K) : LinkA C (rReprX K) (a1 dReprX) := lk_a1 fun W σ α M H x v Q m r h => by
  have old : Fin C W σ (RD C) α H (dRepr x M) Q → rReprX K [v] H Q := fun h => .inl (lk_repr hK W σ α M H [x] [v] Q m (Rls.one r) h)
  cases x with
  | dct ks vs =>
    obtain ⟨a, kws, rfl, na, hd, r1, r2⟩ := r
    have h : Fin C W σ (RD C) α H (match pyKV ks vs with
      | some r => if (PyData.dict r).showable = true ∧ (PyData.dict r).depth ≤ 16 ∧ (PyData.dict r).shown.length ≤ sizeLine then .ok (.str (PyData.dict r).shown) M else .no
      | none => .no) Q := h
    cases q : pyKV ks vs with
    | none => rw [q] at h; exact h.elim
    | some rr =>
      rw [q] at h
      have h : Fin C W σ (RD C) α H (if (PyData.dict rr).showable = true ∧ (PyData.dict rr).depth ≤ 16 ∧ (PyData.dict rr).shown.length ≤ sizeLine then .ok (.str (PyData.dict rr).shown) M else .no) Q := h
      by_cases z : (PyData.dict rr).showable = true ∧ (PyData.dict rr).depth ≤ 16 ∧ (PyData.dict rr).shown.length ≤ sizeLine
      · rw [if_pos z] at h
        obtain ⟨ps, h1, h2⟩ := pyKV_ok r1 r2 q
        subst h2
        exact .inr ⟨a, kws, ps, rfl, hd, h1, z.1, z.2.1, z.2.2, fin_ok (d := .str _) m rfl h⟩
      · rw [if_neg z] at h; exact h.elim
  | _ => exact old h
/-! ### len(set(xs)), xs of ints -/
def firsts (ns : List Int) : List Int := PyProof.Rows.firstMet (fun i => ns.getD i 0) ns.length
def tLenSetF (K : PySem.W.Frag) (ta : TE) : TE := fun σ H Q => ta σ H fun x H1 => ∃ (l : Addr) (ns : List Int), x = V.ref l ∧ SqL K H1 l (ns.map V.int) ∧ ns.length < 60 ∧ Q (.int (firsts ns).length) H1
section
variable {X : Cx}
theorem pe_lenSetF {a : Expr} {ta : TE} {p p2 q pos : Pos} (hc : X.calm = true) (hg : Gl X "len") (hm : X.mg "len" = none) (hg2 : Gl X "set") (hm2 : X.mg "set" = none) (ha : PE X a ta)
    (na : starEach [a] X.env = (false, eval a X.env) :: starEach [] X.env := by rfl) : PE X (.Call (.Name "len" p) [.Call (.Name "set" p2) [a] [] q] [] pos) (tLenSetF X.K ta) := by
  refine ⟨fun pins s σ H Q I h => ?_⟩
  refine Call_ (ld_blt I hg hm PySem.boot_len ?_)
  refine PyProof.Rows.callWith_builtin1 (PyProof.Rows.args_cons ?_ rfl) rfl rfl
  refine Call_ (ld_blt I hg2 hm2 PyProof.Rows.boot_set ?_)
  refine PyProof.Rows.callWith_type1 (PyProof.Rows.args_cons (thn (ha.run pins s σ H _ I h) fun v s1 ⟨x, H1, I1, r1, q1⟩ => PyProof.Rows.args_nil ?_) na) na rfl
  obtain ⟨l, ns, rfl, hq, h1, q1⟩ := q1
  cases r1
  obtain ⟨its, r, pl, hz⟩ := I1.list hq
  have hl : its.toArray.size = ns.length := by rw [List.size_toArray, ← r.length, List.length_map]
  refine call_set_list (I1.ok.hd hc) pl.isList (ns := ns) (by simpa using r.ints) (by unfold scanBound; omega) fun h' tk hS hk => ?_
  rw [hl] at hS
  have hle : (firsts ns).length ≤ ns.length := firstMet_length_le _ _
  have hS : h'.SetOf (intKind X.prog X.w) s1.heap.objs.size (fun k' => (firsts ns).any (· == k')) (firsts ns).length := hS
  refine PyProof.Rows.args_nil ?_
  obtain ⟨o, es, ep, t, ho, hex, hd, _, _, _, hf, hn⟩ := hS
  have I2 : Inv X pins σ H1 { s1 with heap := h', toks := tk } := I1.kept fun b o e => hk b o (Heap.lt_size e) e
  refine call_len_set ho hex hd hf (by rw [hn] <;> omega) ⟨.int (firsts ns).length, H1, I2.tok _, ⟨_, by rw [hn]⟩, q1⟩
end
def dLenSet : D → Mem → Res D := onInts fun ns => if ns.length < 60 then some (.int (firsts ns).length) else none
theorem l_lenSet {X : Cx} {C : Ct} {W : WX} {a : Expr} {ev : EV} {p p2 q pos : Pos} (hg : Gl X "len") (hm : X.mg "len" = none) (hg2 : Gl X "set") (hm2 : X.mg "set" = none) (ha : PE X a (LE C W ev)) (hc : X.calm = true := by rfl)
    (na : starEach [a] X.env = (false, eval a X.env) :: starEach [] X.env := by rfl) (hK : C.K = X.K := by rfl) : PE X (.Call (.Name "len" p) [.Call (.Name "set" p2) [a] [] q] [] pos) (LE C W (ev1 dLenSet ev)) := by
  refine PEimp (pe_lenSetF hc hg hm hg2 hm2 ha na) fun σ H Q ⟨α, σ3, M, m, s, h⟩ => ⟨α, σ3, M, m, s, (Fin.bind h).mono fun x H1 ⟨α1, M1, d, e1, m1, r1, h1⟩ => ?_⟩
  obtain ⟨l, ns, d', rfl, hs, e, h2⟩ := onInts_ok hK m1 r1 h1
  have e : (if ns.length < 60 then some (D.int (firsts ns).length) else none) = some d' := e
  by_cases z : ns.length < 60
  · rw [if_pos z] at e
    cases e
    exact ⟨l, ns, rfl, hs, z, fin_ok (d := .int (firsts ns).length) m1 rfl h2⟩
  · rw [if_neg z] at e; cases e
end L3

set_option Elab.async false
set_option linter.all false
set_option maxRecDepth 100000
set_option maxHeartbeats 4000000
namespace L3
open PySem PySem.Spec PyProof.Rows L2

/-! ### [e for a in x for b in y] -/
section
variable {C : Ct}
theorem lc_in (hP : ∀ σ α H, C.ps σ α H) {vs : List Nat} {g : TG} {gv : CGV} {tt : BV} {te : EV} (hg : LCG C vs g gv) {src : Src} {J : It} {α : List Addr} {M : Mem} {H : Hp} (j1 : JOk C J src α H) {σ3 : St3} {σ : L2.St} (s : SSt C α H σ3 σ) (m : SMem C α M H)
    {n0 : Nat} {L : Addr} (gL : α[n0]? = some L) {Mf : Mem} (z0 : lcLoop src.watch n0 gv tt te (wipe3 σ3 vs) src.items M = some Mf) {Nx : Hp → Prop} (hNx : ∀ α' H', Ext α H α' H' → SMem C α' Mf H' → Nx H') :
    ∃ W1 : Nat → Nat → Hp → Prop, (∃ k, W1 0 k H) ∧ ∀ j k H, W1 j k H → (J.stop j H ∧ Nx H) ∨ (J.go j H ∧ ∃ Nx1 : Hp → Prop, (∀ H', Nx1 H' → ∃ k', k' < k ∧ W1 (j + 1) k' H') ∧ ∀ x H', J.yld j H x H' →
      g x (L2.wipe σ vs) H' fun σ5 H5 => L2.wipe σ5 vs = L2.wipe σ vs ∧ LB C WF tt σ5 H5 fun b H6 => if b = true then LE C WF te σ5 H6 fun y H7 => ∃ acc, H7 L = some (.lst acc) ∧ acc.length < sizeLine ∧ Nx1 (upd H7 L (.lst (acc ++ [y]))) else Nx1 H6) := by
  refine ⟨fun i k H' => i + k = src.items.length ∧ ∃ α' M', Ext α H α' H' ∧ SMem C α' M' H' ∧ lcLoop src.watch n0 gv tt te (wipe3 σ3 vs) (src.items.drop i) M' = some Mf,
    ⟨src.items.length, by omega, α, M, Ext.refl _ _, m, by rw [List.drop_zero]; exact z0⟩, ?_⟩
  rintro i k H' ⟨hk, α', M', e2, m2, h2⟩
  have gL' : α'[n0]? = some L := e2.get gL
  cases z : src.items[i]? with
  | none =>
    have hl : src.items.length ≤ i := List.getElem?_eq_none_iff.mp z
    rw [List.drop_eq_nil_of_le hl] at h2
    have h2 : (if watched src.watch M' = true then some M' else none) = some Mf := h2
    by_cases hw : watched src.watch M' = true
    · rw [if_pos hw] at h2
      have h2 := Option.some.inj h2
      subst h2
      exact .inl ⟨(j1 α' M' H' e2 m2 hw i).2 (by omega), hNx α' H' e2 m2⟩
    · rw [if_neg hw] at h2; cases h2
  | some d =>
    have hl : i < src.items.length := (List.getElem?_eq_some_iff.mp z).1
    have hd : src.items.drop i = d :: src.items.drop (i + 1) := by
      rw [List.drop_eq_getElem_cons hl]
      congr 1
      exact (List.getElem?_eq_some_iff.mp z).2
    rw [hd] at h2
    unfold lcLoop at h2
    by_cases hw : watched src.watch M' = true
    · rw [if_pos hw] at h2
      obtain ⟨go, yld⟩ := (j1 α' M' H' e2 m2 hw i).1 d z
      refine .inr ⟨go, fun H => (i + 1) + (k - 1) = src.items.length ∧ ∃ α' M', Ext α _ α' H ∧ SMem C α' M' H ∧ lcLoop src.watch n0 gv tt te (wipe3 σ3 vs) (src.items.drop (i + 1)) M' = some Mf, fun H' q => ⟨k - 1, by omega, q⟩, fun x H2 y => ?_⟩
      obtain ⟨e3, m3, r3⟩ := yld x H2 y
      cases q1 : gv d (wipe3 σ3 vs) with
      | none => rw [q1] at h2; cases h2
      | some σ1 =>
        rw [q1] at h2
        refine hg α' M' H2 d x (wipe3 σ3 vs) (L2.wipe σ vs) σ1 _ m3 (SSt.wipe hP (s.ext (e2.trans e3)) vs) r3 q1 fun σ' s' w' => ⟨by rw [w', wipe_wipe], ?_⟩
        refine ⟨α', σ1, M', m3, s', ?_⟩
        have h2 : (match tt σ1 M' with
          | .ok b M1' => if b = true then (match te σ1 M1' with
            | .ok y M2 => (match M2[n0]? with
              | some (.lst acc) => if acc.length < sizeLine then lcLoop src.watch n0 gv tt te (wipe3 σ3 vs) (src.items.drop (i + 1)) (M2.set n0 (.lst (acc ++ [y]))) else none
              | _ => none)
            | _ => none) else lcLoop src.watch n0 gv tt te (wipe3 σ3 vs) (src.items.drop (i + 1)) M1'
          | _ => none) = some Mf := h2
        cases q2 : tt σ1 M' with
        | no => rw [q2] at h2; cases h2
        | exc c ds M5 => rw [q2] at h2; cases h2
        | ok b M5 =>
          rw [q2] at h2
          intro α5 H5 b' e5 m5 rb
          have rb : b' = b := rb
          subst rb
          have h2 : (if b' = true then (match te σ1 M5 with
            | .ok y M2 => (match M2[n0]? with
              | some (.lst acc) => if acc.length < sizeLine then lcLoop src.watch n0 gv tt te (wipe3 σ3 vs) (src.items.drop (i + 1)) (M2.set n0 (.lst (acc ++ [y]))) else none
              | _ => none)
            | _ => none) else lcLoop src.watch n0 gv tt te (wipe3 σ3 vs) (src.items.drop (i + 1)) M5) = some Mf := h2
          cases b' with
          | false =>
            rw [if_neg Bool.false_ne_true] at h2 ⊢
            exact ⟨by omega, α5, M5, e2.trans (e3.trans e5), m5, h2⟩
          | true =>
            rw [if_pos rfl] at h2 ⊢
            refine ⟨α5, σ1, M5, m5, s'.ext e5, ?_⟩
            cases q3 : te σ1 M5 with
            | no => rw [q3] at h2; cases h2
            | exc c ds M5 => rw [q3] at h2; cases h2
            | ok y M6 =>
              rw [q3] at h2
              intro α6 H6 yv e6 m6 ry
              have h2 : (match M6[n0]? with
                | some (.lst acc) => if acc.length < sizeLine then lcLoop src.watch n0 gv tt te (wipe3 σ3 vs) (src.items.drop (i + 1)) (M6.set n0 (.lst (acc ++ [y]))) else none
                | _ => none) = some Mf := h2
              have gL6 : α6[n0]? = some L := e6.get (e5.get (e3.get gL'))
              cases q4 : M6[n0]? with
              | none => rw [q4] at h2; cases h2
              | some cl =>
                rw [q4] at h2
                cases cl with
                | lst acc =>
                  have h2 : (if acc.length < sizeLine then lcLoop src.watch n0 gv tt te (wipe3 σ3 vs) (src.items.drop (i + 1)) (M6.set n0 (.lst (acc ++ [y]))) else none) = some Mf := h2
                  obtain ⟨as, ha, ra⟩ := m6.cell _ _ L q4 gL6
                  by_cases hz : acc.length < sizeLine
                  · rw [if_pos hz] at h2
                    have ew : Ext α6 H6 α6 (upd H6 L (.lst (as ++ [yv]))) := Ext.write m6 gL6
                    exact ⟨as, ha, by rw [ra.length]; exact hz, by omega, α6, _, e2.trans (e3.trans (e5.trans (e6.trans ew))), m6.write (c := .lst (acc ++ [y])) gL6 ⟨_, upd_same, (ra.append (Rls.one ry)).ext ew⟩, h2⟩
                  · rw [if_neg hz] at h2; cases h2
                | _ => cases h2
    · rw [if_neg hw] at h2; cases h2
end
def lcLoop2 (w : List (Nat × List D)) (n0 : Nat) (g : CGV) (tt : BV) (iv1 : IV) (vs1 : List Nat) (g1 : CGV) (tt1 : BV) (te : EV) (σ : St3) : List D → Mem → Option Mem
  | [], M => if watched w M = true then some M else none
  | d :: r, M => if watched w M = true then (match g d σ with
    | some σ1 => (match tt σ1 M with
      | .ok b M1 => if b = true then (match iv1 σ1 M1 with
        | .ok s1 M2 => (match lcLoop s1.watch n0 g1 tt1 te (wipe3 σ1 vs1) s1.items M2 with
          | some M3 => lcLoop2 w n0 g tt iv1 vs1 g1 tt1 te σ r M3
          | none => none)
        | _ => none) else lcLoop2 w n0 g tt iv1 vs1 g1 tt1 te σ r M1
      | _ => none)
    | none => none) else none
def evLc2 (iv : IV) (vs : List Nat) (g : CGV) (tt : BV) (iv1 : IV) (vs1 : List Nat) (g1 : CGV) (tt1 : BV) (te : EV) : EV := fun σ M => (iv σ M).bind fun s M1 => match lcLoop2 s.watch M1.length g tt iv1 vs1 g1 tt1 te (wipe3 σ vs) s.items (M1 ++ [.lst []]) with
  | some M2 => .ok (.ref M1.length) M2
  | none => .no
section
variable {X : Cx} {C : Ct} {W : WX}
theorem lc2_imp (hP : ∀ σ α H, C.ps σ α H) {iv iv1 : IV} {vs vs1 : List Nat} {g g1 : TG} {gv gv1 : CGV} {tt tt1 : BV} {te : EV} (hg : LCG C vs g gv) (hg1 : LCG C vs1 g1 gv1) {σ : L2.St} {H : Hp} {Q : VK} (h : LE C W (evLc2 iv vs gv tt iv1 vs1 gv1 tt1 te) σ H Q) :
    tLc2 (LI C W iv) g (LB C WF tt) (LI C WF iv1) g1 (LB C WF tt1) (LE C WF te) vs vs1 σ H Q := by
  obtain ⟨α, σ3, M, m, s, h⟩ := h
  refine ⟨α, σ3, M, m, s, (Fin.bind h).mono fun J H1 ⟨α1, M1, src, e1, m1, j1, h1⟩ => fun L hL => ?_⟩
  have h1 : Fin C W σ (RD C) α1 H1 (match lcLoop2 src.watch M1.length gv tt iv1 vs1 gv1 tt1 te (wipe3 σ3 vs) src.items (M1 ++ [.lst []]) with
    | some M2 => .ok (.ref M1.length) M2
    | none => .no) Q := h1
  cases z0 : lcLoop2 src.watch M1.length gv tt iv1 vs1 gv1 tt1 te (wipe3 σ3 vs) src.items (M1 ++ [.lst []]) with
  | none => rw [z0] at h1; exact h1.elim
  | some Mf =>
    rw [z0] at h1
    have x1 : Ext α1 H1 (α1 ++ [L]) (upd H1 L (.lst [])) := Ext.cell m1 hL
    have nL : α1.length = M1.length := m1.len
    refine ⟨fun i k H => i + k = src.items.length ∧ ∃ α' M', Ext (α1 ++ [L]) (upd H1 L (.lst [])) α' H ∧ SMem C α' M' H ∧ lcLoop2 src.watch M1.length gv tt iv1 vs1 gv1 tt1 te (wipe3 σ3 vs) (src.items.drop i) M' = some Mf,
      ⟨src.items.length, by omega, α1 ++ [L], M1 ++ [.lst []], Ext.refl _ _, m1.push (c := .lst []) hL ⟨[], upd_same, rfl⟩, by rw [List.drop_zero]; exact z0⟩, ?_⟩
    rintro i k H ⟨hk, α', M', e2, m2, h2⟩
    have gL : α'[M1.length]? = some L := e2.get (by rw [← nL]; simp)
    cases z : src.items[i]? with
    | none =>
      have hl : src.items.length ≤ i := List.getElem?_eq_none_iff.mp z
      rw [List.drop_eq_nil_of_le hl] at h2
      have h2 : (if watched src.watch M' = true then some M' else none) = some Mf := h2
      by_cases hw : watched src.watch M' = true
      · rw [if_pos hw] at h2
        have h2 := Option.some.inj h2
        subst h2
        exact .inl ⟨(j1 α' M' H (x1.trans e2) m2 hw i).2 (by omega), h1 α' H (.ref L) (x1.trans e2) m2 ⟨L, gL, rfl⟩⟩
      · rw [if_neg hw] at h2; cases h2
    | some d =>
      have hl : i < src.items.length := (List.getElem?_eq_some_iff.mp z).1
      have hd : src.items.drop i = d :: src.items.drop (i + 1) := by
        rw [List.drop_eq_getElem_cons hl]
        congr 1
        exact (List.getElem?_eq_some_iff.mp z).2
      rw [hd] at h2
      unfold lcLoop2 at h2
      by_cases hw : watched src.watch M' = true
      · rw [if_pos hw] at h2
        obtain ⟨go, yld⟩ := (j1 α' M' H (x1.trans e2) m2 hw i).1 d z
        refine .inr ⟨go, fun H => (i + 1) + (k - 1) = src.items.length ∧ ∃ α' M', Ext (α1 ++ [L]) (upd H1 L (.lst [])) α' H ∧ SMem C α' M' H ∧ lcLoop2 src.watch M1.length gv tt iv1 vs1 gv1 tt1 te (wipe3 σ3 vs) (src.items.drop (i + 1)) M' = some Mf, fun H' q => ⟨k - 1, by omega, q⟩, fun x H2 y => ?_⟩
        obtain ⟨e3, m3, r3⟩ := yld x H2 y
        cases q1 : gv d (wipe3 σ3 vs) with
        | none => rw [q1] at h2; cases h2
        | some σ1 =>
          rw [q1] at h2
          refine hg α' M' H2 d x (wipe3 σ3 vs) (L2.wipe σ vs) σ1 _ m3 (SSt.wipe hP (s.ext (e1.trans (x1.trans (e2.trans e3)))) vs) r3 q1 fun σ' s' w' => ⟨by rw [w', wipe_wipe], ?_⟩
          refine ⟨α', σ1, M', m3, s', ?_⟩
          have h2 : (match tt σ1 M' with
            | .ok b M1' => if b = true then (match iv1 σ1 M1' with
              | .ok s1 M2 => (match lcLoop s1.watch M1.length gv1 tt1 te (wipe3 σ1 vs1) s1.items M2 with
                | some M3 => lcLoop2 src.watch M1.length gv tt iv1 vs1 gv1 tt1 te (wipe3 σ3 vs) (src.items.drop (i + 1)) M3
                | none => none)
              | _ => none) else lcLoop2 src.watch M1.length gv tt iv1 vs1 gv1 tt1 te (wipe3 σ3 vs) (src.items.drop (i + 1)) M1'
            | _ => none) = some Mf := h2
          cases q2 : tt σ1 M' with
          | no => rw [q2] at h2; cases h2
          | exc c ds M5 => rw [q2] at h2; cases h2
          | ok b M5 =>
            rw [q2] at h2
            intro α5 H5 b' e5 m5 rb
            have rb : b' = b := rb
            subst rb
            have h2 : (if b' = true then (match iv1 σ1 M5 with
              | .ok s1 M2 => (match lcLoop s1.watch M1.length gv1 tt1 te (wipe3 σ1 vs1) s1.items M2 with
                | some M3 => lcLoop2 src.watch M1.length gv tt iv1 vs1 gv1 tt1 te (wipe3 σ3 vs) (src.items.drop (i + 1)) M3
                | none => none)
              | _ => none) else lcLoop2 src.watch M1.length gv tt iv1 vs1 gv1 tt1 te (wipe3 σ3 vs) (src.items.drop (i + 1)) M5) = some Mf := h2
            cases b' with
            | false =>
              rw [if_neg Bool.false_ne_true] at h2 ⊢
              exact ⟨by omega, α5, M5, e2.trans (e3.trans e5), m5, h2⟩
            | true =>
              rw [if_pos rfl] at h2 ⊢
              refine ⟨α5, σ1, M5, m5, s'.ext e5, ?_⟩
              cases q3 : iv1 σ1 M5 with
              | no => rw [q3] at h2; cases h2
              | exc c ds M5 => rw [q3] at h2; cases h2
              | ok s1 M6 =>
                rw [q3] at h2
                intro α6 H6 J1 e6 m6 jj
                have h2 : (match lcLoop s1.watch M1.length gv1 tt1 te (wipe3 σ1 vs1) s1.items M6 with
                  | some M3 => lcLoop2 src.watch M1.length gv tt iv1 vs1 gv1 tt1 te (wipe3 σ3 vs) (src.items.drop (i + 1)) M3
                  | none => none) = some Mf := h2
                cases q4 : lcLoop s1.watch M1.length gv1 tt1 te (wipe3 σ1 vs1) s1.items M6 with
                | none => rw [q4] at h2; cases h2
                | some M7 =>
                  rw [q4] at h2
                  exact lc_in hP hg1 jj (s'.ext (e5.trans e6)) m6 (e6.get (e5.get (e3.get gL))) q4 fun α8 H8 e8 m8 => ⟨by omega, α8, M7, e2.trans (e3.trans (e5.trans (e6.trans e8))), m8, h2⟩
      · rw [if_neg hw] at h2; cases h2
variable {elt tg iter tg1 iter1 : Expr} {ifs ifs1 : List Expr} {scope : Scope} {own : List (Str × Nat)} {pos spos py : Pos} {iv iv1 : IV} {g g1 : TG} {gv gv1 : CGV} {tt tt1 : BV} {te ev : EV} {vs1 : List Nat}
theorem l_lc2 (hP : ∀ σ α H, C.ps σ α H) (hT : ∀ σ H Q, LE C W ev σ H Q → LE C W (evLc2 iv (own.map (·.2)) gv tt iv1 vs1 gv1 tt1 te) σ H Q) (hc : X.calm = true) (hN : X.N.Nodup) (hi : PI X tg iter (LI C W iv)) (ok : BlkOk X.N X.env.scope scope own) (hv : ∀ i ∈ vs1, i ∈ own.map (·.2)) (hgv : LCG C (own.map (·.2)) g gv) (hgv1 : LCG C vs1 g1 gv1)
    (hg : ∀ (s : Shared) (H : Hp) (C : Addr) (cl : List (Str × Addr)) (fp : List Addr), PG (X.blk s H scope (compEnvC scope cl C X.env) fp) tg g) (ht : ∀ (s : Shared) (H : Hp) (C' : Addr) (cl : List (Str × Addr)) (fp : List Addr), PTs (X.blk s H scope (compEnvC scope cl C' X.env) fp) ifs (LB C WF tt))
    (hi1 : ∀ (s : Shared) (H : Hp) (C' : Addr) (cl : List (Str × Addr)) (fp : List Addr), PI (X.blk s H scope (compEnvC scope cl C' X.env) fp) tg1 iter1 (LI C WF iv1)) (hg1 : ∀ (s : Shared) (H : Hp) (C : Addr) (cl : List (Str × Addr)) (fp : List Addr), PG (X.blk s H scope (compEnvC scope cl C X.env) fp) tg1 g1)
    (ht1 : ∀ (s : Shared) (H : Hp) (C' : Addr) (cl : List (Str × Addr)) (fp : List Addr), PTs (X.blk s H scope (compEnvC scope cl C' X.env) fp) ifs1 (LB C WF tt1)) (he : ∀ (s : Shared) (H : Hp) (C' : Addr) (cl : List (Str × Addr)) (fp : List Addr), PE (X.blk s H scope (compEnvC scope cl C' X.env) fp) elt (LE C WF te))
    (hs : ∀ x, foldedSetIterable iter X.env x = pure x := by intro _; rfl) (hs1 : ∀ env x, foldedSetIterable iter1 env x = pure x := by intro _ _; rfl) :
    PE X (.ListComp elt [⟨tg, iter, ifs, 0⟩, ⟨tg1, iter1, ifs1, 0⟩] scope pos) (LE C W ev) := PEimp (pe_lc2 hc hN hi ok hv hg ht hi1 hg1 ht1 he hs hs1) fun σ H Q h => lc2_imp hP hgv hgv1 (hT σ H Q h)
theorem s_setLc2 (i : Nat) {y : Str} (hP : ∀ σ α H, C.ps σ α H) (hT : ∀ σ H Q, LE C W ev σ H Q → LE C W (evLc2 iv (own.map (·.2)) gv tt iv1 vs1 gv1 tt1 te) σ H Q) (hc : X.calm = true) (hN : X.N.Nodup) (hy : X.N[i]? = some y) (hyl : X.env.scope.names.lookup y = some .local)
    (hsw : swapsWith (.ListComp elt [⟨tg, iter, ifs, 0⟩, ⟨tg1, iter1, ifs1, 0⟩] scope pos) (some (.Name y py)) spos.line X.env = pure true) (hi : PI X tg iter (LI C W iv)) (ok : BlkOk X.N X.env.scope scope own) (hv : ∀ i ∈ vs1, i ∈ own.map (·.2)) (hgv : LCG C (own.map (·.2)) g gv) (hgv1 : LCG C vs1 g1 gv1)
    (hg : ∀ (s : Shared) (H : Hp) (C : Addr) (cl : List (Str × Addr)) (fp : List Addr), PG (X.blk s H scope (compEnvC scope cl C X.env) fp) tg g) (ht : ∀ (s : Shared) (H : Hp) (C' : Addr) (cl : List (Str × Addr)) (fp : List Addr), PTs (X.blk s H scope (compEnvC scope cl C' X.env) fp) ifs (LB C WF tt))
    (hi1 : ∀ (s : Shared) (H : Hp) (C' : Addr) (cl : List (Str × Addr)) (fp : List Addr), PI (X.blk s H scope (compEnvC scope cl C' X.env) fp) tg1 iter1 (LI C WF iv1)) (hg1 : ∀ (s : Shared) (H : Hp) (C : Addr) (cl : List (Str × Addr)) (fp : List Addr), PG (X.blk s H scope (compEnvC scope cl C X.env) fp) tg1 g1)
    (ht1 : ∀ (s : Shared) (H : Hp) (C' : Addr) (cl : List (Str × Addr)) (fp : List Addr), PTs (X.blk s H scope (compEnvC scope cl C' X.env) fp) ifs1 (LB C WF tt1)) (he : ∀ (s : Shared) (H : Hp) (C' : Addr) (cl : List (Str × Addr)) (fp : List Addr), PE (X.blk s H scope (compEnvC scope cl C' X.env) fp) elt (LE C WF te))
    (hs : ∀ x, foldedSetIterable iter X.env x = pure x := by intro _; rfl) (hs1 : ∀ env x, foldedSetIterable iter1 env x = pure x := by intro _ _; rfl) :
    PS X (.Assign [.Name y py] (.ListComp elt [⟨tg, iter, ifs, 0⟩, ⟨tg1, iter1, ifs1, 0⟩] scope pos) spos) (LS C W (svSet i ev)) := by
  refine PSimp (ps_setLc2 hc hN hy hyl hsw hi ok hv hg ht hi1 hg1 ht1 he hs hs1) fun D σ H ⟨α, σ3, M, m, s, h⟩ => ?_
  show tLc2 _ _ _ _ _ _ _ _ _ σ H fun v H1 => L2.gName i v σ H1 D.nx
  refine lc2_imp (W := W) hP hgv hgv1 (hT σ H _ ⟨α, σ3, M, m, s, ?_⟩)
  exact (FinS.out s h).mono fun v H1 ⟨α1, M1, d, e1, m1, r1, h2⟩ => h2 α1 H1 _ (Ext.refl _ _) m1 ((s.ext e1).set r1 i (kp hP))
end
end L3

set_option Elab.async false
set_option linter.all false
set_option maxRecDepth 100000
set_option maxHeartbeats 4000000
namespace L3
open PySem PySem.Spec PyProof.Rows L2

/-! ### a module's whole number -/
theorem l_mint {X : Cx} {C : Ct} {W : WX} {x : Str} {i : Int} {pos : Pos} (hm : ∃ t, X.mg x = some (.int i t)) (hg : Gl X x) (hdb : (x == ("__debug__" : Str)) = false := by decide) : PE X (.Name x pos) (LE C W (evC (.int i))) := by
  obtain ⟨t, hm⟩ := hm
  exact ⟨fun pins s σ H Q I ⟨α, σ3, M, m, st, k⟩ => ld_glob I hg hm ⟨.int i, H, I, ⟨t, rfl⟩, k α H _ (Ext.refl _ _) m rfl⟩ hdb⟩
/-! ### the head's exception classes, one by one -/
def XAll (K : PySem.W.Frag) (nm : List Str) : List Str → List (List Nat) → Prop
  | x :: xl, l :: T => (∀ j ∈ l, XfC K (He.ga K x) ∧ PySem.W.findIn K (.ref (He.ga K x)) (nm.getD j Str.empty) = some none) ∧ XAll K nm xl T
  | _, [] => True
  | [], _ :: _ => False
theorem xrow {K : PySem.W.Frag} {nm : List Str} {x : Str} {fs : List Str} {l : List Nat} (c : XCl K x fs) (h : l.map (nm.getD · Str.empty) = fs) : ∀ j ∈ l, XfC K (He.ga K x) ∧ PySem.W.findIn K (.ref (He.ga K x)) (nm.getD j Str.empty) = some none := fun j hj =>
  ⟨c.xf, c.no _ (by rw [← h]; exact List.mem_map.mpr ⟨j, hj, rfl⟩)⟩
theorem xrow0 {K : PySem.W.Frag} {nm : List Str} {x : Str} : ∀ j ∈ ([] : List Nat), XfC K (He.ga K x) ∧ PySem.W.findIn K (.ref (He.ga K x)) (nm.getD j Str.empty) = some none := fun j hj => absurd hj List.not_mem_nil
theorem xall_get {K : PySem.W.Frag} {nm : List Str} : ∀ {xl : List Str} {T : List (List Nat)} (c : Nat), XAll K nm xl T → ∀ j ∈ T.getD c [], XfC K (He.ga K (xl.getD c Str.empty)) ∧ PySem.W.findIn K (.ref (He.ga K (xl.getD c Str.empty))) (nm.getD j Str.empty) = some none
  | _, [], c, _, j, hj => by simp at hj
  | [], _ :: _, _, h, _, _ => h.elim
  | x :: xl, l :: T, 0, ⟨h, _⟩, j, hj => h j hj
  | x :: xl, l :: T, c + 1, ⟨_, h⟩, j, hj => xall_get c h j hj
theorem xok_of {K : PySem.W.Frag} {T XT : List (List Nat)} {nm cl xl : List Str} (h : XAll K nm xl XT) : XOk (ctOf K T nm cl XT xl) XT nm where
  fl := fun _ => rfl
  rd := fun c f hf => by
    obtain ⟨j, hj, rfl⟩ := List.mem_map.mp hf
    exact xall_get c h j hj
def ExAll (K : PySem.W.Frag) (y : Addr) : List Str → List (Option Bool) → Prop
  | x :: xl, o :: l => (∀ b, o = some b → PySem.W.exmOne K (.ref (He.ga K x)) (.ref y) = some b) ∧ ExAll K y xl l
  | _, [] => True
  | [], _ :: _ => False
theorem ex_some {K : PySem.W.Frag} {x y : Str} {b : Bool} (h : (He.Fa.exm x y b).ok K = true) : ∀ b', some b = some b' → PySem.W.exmOne K (.ref (He.ga K x)) (.ref (He.ga K y)) = some b' := fun b' e => by
  cases e
  exact of_decide_eq_true h
theorem sub_of {K : PySem.W.Frag} {y : Addr} : ∀ {xl : List Str} {l : List (Option Bool)}, ExAll K y xl l → ∀ k b, l.getD k none = some b → PySem.W.exmOne K (.ref (He.ga K (xl.getD k Str.empty))) (.ref y) = some b
  | _, [], _, k, b, e => by simp at e
  | [], _ :: _, h, _, _, _ => h.elim
  | x :: xl, o :: l, ⟨h, _⟩, 0, b, e => h b e
  | x :: xl, o :: l, ⟨_, h⟩, k + 1, b, e => sub_of h k b e
end L3

set_option Elab.async false
set_option linter.all false
set_option maxRecDepth 100000
set_option maxHeartbeats 4000000
namespace L3
open PySem PySem.Spec PyProof.Rows L2

/-! ### for in a generator's body -/
section
variable {M : Model} {A : Around} {R : GenEnd} {Y : Protocol} {n : Nat} {s₀ : Shared} {c : Code} {fs : List Frame} {s : Shared} {env : Env}
  {K : Flow → Sem PySem.Fin} {H : Value → Sem PySem.Fin} {gd : Bool → Bool} {lv : List Value → List Value}
theorem for_split (target iter : Expr) (body orelse : List Stmt) (pos : Pos) : exec (.For target iter body orelse pos) env = ((do
    standAt pos
    let x ← foldedSetIterable iter env (← eval iter env)
    standAt iter.pos
    holding [x] (pyIter x) : Sem Value) >>= fun it => runOwn (.forLoop target it body orelse env) env) := by
  rw [exec_For]
  simp only [bind_assoc]
theorem seg_For {target iter : Expr} {body orelse : List Stmt} {pos : Pos} (hs : ∀ x, foldedSetIterable iter env x = pure x)
    (h : wpAny M (A.over c fs) (eval iter env) (fun v s1 => wpAny M (A.over c fs) (pyIter v) (fun it s2 => ∀ p, Seg M A R Y n s₀ (.forLoop target it body orelse env) (M.den (.forLoop target it body orelse env))
      (.ret (fun r => ((match r with | .ok f => (.pure f : Sem Flow) | .error e => .raise e).onRaise (cameBack env)).wrap K H gd lv) none (gd false) (lv []) c p [] :: fs) s2)
      (fun x s' => Seg M A R Y n s₀ c (H x) fs s') s1) (fun x s' => Seg M A R Y n s₀ c (H x) fs s') s) :
    Seg M A R Y n s₀ c ((exec (.For target iter body orelse pos) env).wrap K H gd lv) fs s := by
  rw [for_split, Sem.bind_eq_wrap', Sem.wrap_wrap]
  refine seg_wrap ?_
  refine wpAny_bind (wpAny_standAt (wpAny_bind (wpAny_mono h (fun x s₁ h₁ => wpAny_bind (wpAny_of_eq (hs x) (wpAny_bind (wpAny_standAt (wpAny_holding (wpAny_mono h₁ (fun it s₂ h₂ => ?_) fun _ _ z => z)))))) fun _ _ z => z)))
  exact seg_call h₂
end
section
variable {prog : Program} {w : World} {A : Around} {R : GenEnd} {Y : Protocol} {n : Nat} {s₀ : Shared} {fs : List Frame} {s : Shared} {env : Env}
theorem seg_forLoop {target : Expr} {it : Value} {body : List Stmt}
    (h : wpAny (model prog w) (A.over (.forLoop target it body [] env) fs) (pyNext it) (fun r s1 => match r with
        | none => Seg (model prog w) A R Y n s₀ (.block [] env) ((model prog w).den (.block [] env)) fs s1
        | some v => wpAny (model prog w) (A.over (.forLoop target it body [] env) fs) (letOwnedTupleGo target it v) (fun _ s2 => wpAny (model prog w) (A.over (.forLoop target it body [] env) fs) (assign target env v) (fun _ s3 =>
          Seg (model prog w) A R Y n s₀ (.forLoop target it body [] env) ((execs body env).wrap (fun f => match f with
            | .next | .cont => .pure (.again (.forLoop target it body [] env))
            | .brk => .pure (.done .next)
            | .ret v => .pure (.done (.ret v))) (fun e => (do noteFrame e env; theTreesLotGoes e : Sem Unit).wrap (fun _ => .raise e) .raise id id) id id) fs s3)
          (fun x s' => Seg (model prog w) A R Y n s₀ (.forLoop target it body [] env) ((do noteFrame x env; theTreesLotGoes x : Sem Unit).wrap (fun _ => .raise x) .raise id id) fs s') s2)
          (fun x s' => Seg (model prog w) A R Y n s₀ (.forLoop target it body [] env) ((do noteFrame x env; theTreesLotGoes x : Sem Unit).wrap (fun _ => .raise x) .raise id id) fs s') s1)
      (fun x s' => Seg (model prog w) A R Y n s₀ (.forLoop target it body [] env) ((do noteFrame x env; theTreesLotGoes x : Sem Unit).wrap (fun _ => .raise x) .raise id id) fs s') s) :
    Seg (model prog w) A R Y n s₀ (.forLoop target it body [] env) ((model prog w).den (.forLoop target it body [] env)) fs s := by
  show Seg _ A R Y n s₀ _ ((forTurn target it body [] env).onRaise (fun x => do noteFrame x env; theTreesLotGoes x)) fs s
  have e : forTurn target it body [] env = (do
      standAt target.pos
      (pyNext it).onRaise (fun _ => standAt { target.pos with line := 0 }) : Sem (Option Value)) >>= fun r => match r with
        | none => again (.block [] env)
        | some v => (do
          letOwnedTupleGo target it v
          assign target env v : Sem Unit) >>= fun _ => (execs body env) >>= fun f => match f with
            | .next | .cont => again (.forLoop target it body [] env)
            | .brk => pure (.done .next)
            | .ret v => pure (.done (.ret v)) := by
    unfold forTurn
    simp only [bind_assoc]
    refine congrArg _ (funext fun _ => congrArg _ (funext fun r => ?_))
    cases r with
    | none => rfl
    | some v => exact congrArg _ (funext fun _ => congrArg _ (funext fun _ => congrArg _ (funext fun f => by cases f <;> rfl)))
  rw [e, Sem.onRaise_eq_wrap, Sem.bind_eq_wrap', Sem.wrap_wrap]
  refine seg_wrap (wpAny_bind (wpAny_standAt (wpAny_onRaise (wpAny_mono h (fun r s1 h1 => ?_) fun x s' hx => wpAny_standAt ?_))))
  · cases r with
    | none => exact seg_again rfl h1
    | some v =>
      show Seg _ A R Y n s₀ _ (Sem.wrap _ _ _ _ (_ >>= _)) fs s1
      rw [Sem.bind_eq_wrap', Sem.wrap_wrap]
      refine seg_wrap (wpAny_bind (wpAny_mono h1 (fun _ s2 h2 => wpAny_mono h2 (fun _ s3 h3 => ?_) fun x s' hx => ?_) fun x s' hx => ?_))
      · rw [Sem.bind_eq_wrap', Sem.wrap_wrap]
        rw [Sem.wrap_congr (execs body env) _ _ (K' := fun f => match f with
            | .next | .cont => .pure (.again (.forLoop target it body [] env))
            | .brk => .pure (.done .next)
            | .ret v => .pure (.done (.ret v))) (H' := (fun e => (do noteFrame e env; theTreesLotGoes e : Sem Unit).wrap (fun _ => .raise e) .raise id id))
          (fun f => by cases f <;> rfl)
          (fun e => by first | exact Sem.bind_eq_wrap _ _ | (show (do noteFrame e env; theTreesLotGoes e : Sem Unit).bind (fun _ => .raise e) = _; rw [Sem.bind_eq_wrap]))]
        exact h3
      · first | exact hx | (rw [← Sem.bind_eq_wrap] at hx; exact hx)
      · first | exact hx | (rw [← Sem.bind_eq_wrap] at hx; exact hx)
  · first | exact hx | (rw [← Sem.bind_eq_wrap] at hx; exact hx)
end

def tGFor (wi : TI) (g : TG) (tb : TGn) : TGn := fun D ys σ H => wi σ H fun J H1 => ∃ W : Nat → Nat → List V → L2.St → Hp → Prop, (∃ m, W 0 m ys σ H1) ∧ ∀ i m ys σ H, W i m ys σ H →
  (J.stop i H ∧ D.nx ys σ H) ∨ (J.go i H ∧ ∃ N : List V → L2.St → Hp → Prop, (∀ ys' σ' H', N ys' σ' H' → ∃ m', m' < m ∧ W (i + 1) m' ys' σ' H') ∧ ∀ x H', J.yld i H x H' → g x σ H' fun σ2 H2 => tb { D with nx := N, ct := N, bk := D.nx } ys σ2 H2)
theorem gs_for {X : Cx} {tg iter : Expr} {body : List Stmt} {wi : TI} {g : TG} {tb : TGn} {pos : Pos} (hp : PassesOwn (model X.prog X.w) X.A X.env X.xe) (hc : X.calm = true) (hi : PI X tg iter wi) (hg : PG X tg g) (hb : GSs X body tb)
    (hs : ∀ x, foldedSetIterable iter X.env x = pure x := by intro _; rfl) : GS X (.For tg iter body [] pos) (tGFor wi g tb) := by
  refine ⟨fun A S ip R n ys s₀ c fs K J gd lv s σ H D gc hn k hI ht => ?_⟩
  obtain ⟨acc, cc, r, I⟩ := hI
  refine seg_For hs ?_
  rw [gc.over]
  refine wpAny_mono (hi.run _ s σ H _ I ht) (fun v s1 h1 => wpAny_mono h1 (fun itv s2 h2 => ?_) fun x s' hx => k.exc n s₀ x s' hx) fun x s' hx => k.exc n s₀ x s' hx
  obtain ⟨it, fp, tn, Jt, H2, e, I2, T, st2, f2, W, ⟨m0, w0⟩, turn⟩ := h2
  subst e
  intro p
  have stat : ∀ {acc' : Array Value} {c' : Nat} {H' : Hp}, (∀ b ∈ fp, H' b = none) → ∀ b ∈ fp, FpOk X ((S, lstObj acc' c') :: ip) H' b := fun hn b hb => by
    obtain ⟨_, q1, q2, q3, q4, q5⟩ := f2 b hb
    refine ⟨hn b hb, q1, q2, q3, q4, fun p hp => ?_⟩
    rcases List.mem_append.mp hp with hp | hp
    · exact q5 p (List.mem_append_left _ hp)
    · rcases List.mem_cons.mp hp with hp | hp
      · subst hp; exact q5 (S, lstObj acc cc) (List.mem_append_right _ List.mem_cons_self)
      · exact q5 p (List.mem_append_right _ (List.mem_cons_of_mem _ hp))
  have nS : ∀ b ∈ fp, b ≠ S := fun b hb z => (f2 b hb).2.2.2.2.2 (S, lstObj acc cc) (List.mem_append_right _ List.mem_cons_self) z.symm
  have gl := fun (kk : Result → Sem PySem.Fin) => gc_loop (k := kk) (c' := .forLoop tg (.ref it) body [] X.env) (l := lv []) (kp := []) (p := p) gc rfl rfl
  have loop : ∀ (m i n : Nat) (ys : List V) (s₀ s : Shared) (σ : L2.St) (H : Hp), n + ys.length = sizeLine → W i m ys σ H → GI X S ip ys σ H s → tn i s.heap → (∀ b ∈ fp, H b = none) →
      Seg (model X.prog X.w) A R (GY X S) n s₀ (.forLoop tg (.ref it) body [] X.env) ((model X.prog X.w).den (.forLoop tg (.ref it) body [] X.env))
        (.ret (fun r => ((match r with | .ok f => (.pure f : Sem Flow) | .error e => .raise e).onRaise (cameBack X.env)).wrap K J gd lv) none (gd false) (lv []) c p [] :: fs) s := by
    intro m
    induction m using Nat.strongRecOn with
    | ind m ih =>
      intro i n ys s₀ s σ H hn w hI st fr
      have ee : ∀ (n : Nat) (s₀ : Shared) (x : Value) (s' : Shared), X.xe x s' → Seg (model X.prog X.w) A R (GY X S) n s₀ (.forLoop tg (.ref it) body [] X.env)
          ((do noteFrame x X.env; theTreesLotGoes x : Sem Unit).wrap (fun _ => .raise x) .raise id id)
          (.ret (fun r => ((match r with | .ok f => (.pure f : Sem Flow) | .error e => .raise e).onRaise (cameBack X.env)).wrap K J gd lv) none (gd false) (lv []) c p [] :: fs) s' := fun n s₀ x s' hx => by
        refine seg_wrap ?_
        rw [(gl _).over]
        refine wpAny_bind (wpAny_mono (hp x s' hx) (fun _ s'' hcb => wpAny_theTreesLotGoes ?_) fun y s'' hcb => ?_)
        · exact seg_leaf (.error x) (seg_cameBack gc k hcb)
        · exact seg_leaf (.error y) (seg_cameBack gc k hcb)
      obtain ⟨acc, cc, r, I⟩ := hI
      refine seg_forLoop ?_
      rw [(gl _).over]
      rcases turn i m ys σ H w with ⟨stop, qn⟩ | ⟨go, N, hN, step⟩
      · refine wpAny_mono (T.done X rfl rfl rfl hc i _ s σ H X.xe I (stat fr) st stop) (fun r s4 ⟨hr, I4⟩ => ?_) fun x s' hx => ee n s₀ x s' hx
        subst hr
        exact seg_leaf (.ok .next) (k.ok n ys s₀ s4 .next hn ⟨σ, H, ⟨acc, cc, by assumption, I4⟩, qn⟩)
      · refine wpAny_mono (T.item X rfl rfl rfl hc i _ s σ H X.xe I (stat fr) st go) (fun r s4 ⟨u, hr, h4⟩ => ?_) fun x s' hx => ee n s₀ x s' hx
        subst hr
        refine wpAny_mono h4 (fun _ s5 ⟨x, H5, I5, r5, y5, st5, fr5⟩ => ?_) fun x s' hx => ee n s₀ x s' hx
        have I5' := I5.pinned (stat fr5) (T.obj _ _ st5)
        refine wpAny_mono (hg.run _ s5 σ H5 x u _ I5' r5 (step x H5 y5)) (fun _ s6 ⟨σ6, H6, I6, q6⟩ => ?_) fun x s' hx => ee n s₀ x s' hx
        have gc' : GC X S (ip ++ pinsAt fp s5.heap) A c fs gd := ⟨gc.pn, fun p hp => by
          rcases List.mem_append.mp hp with hp | hp
          · exact gc.ip p hp
          · exact nS _ (of_pinsAt hp).1, gc.apart, gc.over, gc.split, gc.guard, gc.gd⟩
        have again : ∀ {n' : Nat} {ys' : List V} {s₀' s7 : Shared} {σ7 : L2.St} {H7 : Hp}, n' + ys'.length = sizeLine → GI X S (ip ++ pinsAt fp s5.heap) ys' σ7 H7 s7 → N ys' σ7 H7 → Seg (model X.prog X.w) A R (GY X S) n' s₀' (.forLoop tg (.ref it) body [] X.env) ((model X.prog X.w).den (.forLoop tg (.ref it) body [] X.env))
            (.ret (fun r => ((match r with | .ok f => (.pure f : Sem Flow) | .error e => .raise e).onRaise (cameBack X.env)).wrap K J gd lv) none (gd false) (lv []) c p [] :: fs) s7 := fun {n' ys' s₀' s7 σ7 H7} hn' hI7 n7 => by
          obtain ⟨m', hm, w7⟩ := hN ys' σ7 H7 n7
          obtain ⟨acc7, c7, r7, I7⟩ := hI7
          have I7 : Inv X (((S, lstObj acc7 c7) :: ip) ++ pinsAt fp s5.heap) σ7 H7 s7 := I7
          refine ih m' hm (i + 1) n' ys' s₀' s7 σ7 H7 hn' w7 ⟨acc7, c7, r7, I7.unpinned⟩ (T.keep _ _ _ st5 fun b hb o e => (I7.pin (b, o) (List.mem_append_right _ (List.mem_append_right _ (mem_pinsAt hb e)))).1) fun b hb => ?_
          obtain ⟨o, e, d⟩ := T.obj _ _ st5 b hb
          exact (I7.pin (b, o) (List.mem_append_right _ (List.mem_append_right _ (mem_pinsAt hb e)))).2.1
        have back : ∀ {ys' : List V} {σ7 : L2.St} {H7 : Hp} {s7 : Shared}, GI X S (ip ++ pinsAt fp s5.heap) ys' σ7 H7 s7 → GI X S ip ys' σ7 H7 s7 := fun {ys' σ7 H7 s7} ⟨acc7, c7, r7, I7⟩ => by
          have I7 : Inv X (((S, lstObj acc7 c7) :: ip) ++ pinsAt fp s5.heap) σ7 H7 s7 := I7
          exact ⟨acc7, c7, r7, I7.unpinned⟩
        refine hb.run A S (ip ++ pinsAt fp s5.heap) R n ys s₀ _ _ _ _ id id s6 σ6 H6 { D with nx := N, ct := N, bk := D.nx } (gc_loop (c' := .forLoop tg (.ref it) body [] X.env) (l := lv []) (kp := []) (p := p) gc' rfl rfl) hn ⟨fun n' ys' s₀' s7 f hn' hs => ?_, fun n' s₀' x s3 hx => ee n' s₀' x s3 hx⟩ ⟨acc, cc, by assumption, I6⟩ q6
        cases f with
        | next => obtain ⟨σ7, H7, I7, n7⟩ := hs; exact seg_again rfl (again hn' I7 n7)
        | cont => obtain ⟨σ7, H7, I7, n7⟩ := hs; exact seg_again rfl (again hn' I7 n7)
        | brk => obtain ⟨σ7, H7, I7, q7⟩ := hs; exact seg_leaf (.ok .next) (k.ok n' ys' s₀' s7 .next hn' ⟨σ7, H7, back I7, q7⟩)
        | ret v => obtain ⟨x7, σ7, H7, I7, r7, q7⟩ := hs; exact seg_leaf (.ok (.ret v)) (k.ok n' ys' s₀' s7 (.ret v) hn' ⟨x7, σ7, H7, back I7, r7, q7⟩)
  exact loop m0 0 n ys s₀ s2 σ H2 hn w0 ⟨acc, cc, r, I2⟩ st2 fun b hb => (f2 b hb).1
end L3

set_option Elab.async false
set_option linter.all false
set_option maxRecDepth 100000
set_option maxHeartbeats 4000000
namespace L3
open PySem PySem.Spec PyProof.Rows L2

/-! ### a generator's body as terms: what is out so far -/
inductive GOut where
  | nx (yd : List D) (σ : St3) (M : Mem) | rt (yd : List D) (d : D) (M : Mem) | bk (yd : List D) (σ : St3) (M : Mem) | ct (yd : List D) (σ : St3) (M : Mem) | exc (c : Nat) (ds : List D) (σ : St3) (M : Mem) | no
abbrev GSV := List D → St3 → Mem → GOut
def FinN (C : Ct) (W : WX) (D : GEnds) (α : List Addr) (H : Hp) : GOut → Prop
  | .nx yd σ3 M => ∀ α' H' ys σ, Ext α H α' H' → SMem C α' M H' → Rls C α' H' yd ys → SSt C α' H' σ3 σ → D.nx ys σ H'
  | .rt yd d M => ∀ α' H' ys v, Ext α H α' H' → SMem C α' M H' → Rls C α' H' yd ys → Rl C α' H' d v → D.rt ys v H'
  | .bk yd σ3 M => ∀ α' H' ys σ, Ext α H α' H' → SMem C α' M H' → Rls C α' H' yd ys → SSt C α' H' σ3 σ → D.bk ys σ H'
  | .ct yd σ3 M => ∀ α' H' ys σ, Ext α H α' H' → SMem C α' M H' → Rls C α' H' yd ys → SSt C α' H' σ3 σ → D.ct ys σ H'
  | .exc c ds σ3 M => ∀ α' H' σ dx, Ext α H α' H' → SMem C α' M H' → SSt C α' H' σ3 σ → XD C α' H' c ds dx → W (.ref (C.xcls c)) dx σ H'
  | .no => False
section
variable {C : Ct} {W : WX} {D : GEnds} {α α' : List Addr} {H H' : Hp}
theorem FinN.ext {o : GOut} (h : FinN C W D α H o) (e : Ext α H α' H') : FinN C W D α' H' o := by
  cases o with
  | nx yd σ M => exact fun a b ys s e' m r q => h a b ys s (e.trans e') m r q
  | rt yd d M => exact fun a b ys s e' m r q => h a b ys s (e.trans e') m r q
  | bk yd σ M => exact fun a b ys s e' m r q => h a b ys s (e.trans e') m r q
  | ct yd σ M => exact fun a b ys s e' m r q => h a b ys s (e.trans e') m r q
  | exc c ds σ M => exact fun a b s dx e' m q x => h a b s dx (e.trans e') m q x
  | no => exact h
end
def LN (C : Ct) (W : WX) (gv : GSV) : TGn := fun D ys σ H => ∃ α σ3 M yd, SMem C α M H ∧ SSt C α H σ3 σ ∧ Rls C α H yd ys ∧ FinN C W D α H (gv yd σ3 M)
theorem GSimp {X : Cx} {st : Stmt} {t t' : TGn} (h : GS X st t) (k : ∀ D ys σ H, t' D ys σ H → t D ys σ H) : GS X st t' := ⟨fun A S ip R n ys s₀ c fs K J gd lv s σ H D g hn kk hI q => h.run A S ip R n ys s₀ c fs K J gd lv s σ H D g hn kk hI (k _ _ _ _ q)⟩
theorem GSsimp {X : Cx} {st : List Stmt} {t t' : TGn} (h : GSs X st t) (k : ∀ D ys σ H, t' D ys σ H → t D ys σ H) : GSs X st t' := ⟨fun A S ip R n ys s₀ c fs K J gd lv s σ H D g hn kk hI q => h.run A S ip R n ys s₀ c fs K J gd lv s σ H D g hn kk hI (k _ _ _ _ q)⟩
def gvP (sv : SV) : GSV := fun yd σ M => match sv σ M with
  | .nx σ M => .nx yd σ M
  | .rt d M => .rt yd d M
  | .bk σ M => .bk yd σ M
  | .ct σ M => .ct yd σ M
  | .exc c ds σ M => .exc c ds σ M
  | .no => .no
def gvNext : GSV := fun yd σ M => .nx yd σ M
def gvSeq (a b : GSV) : GSV := fun yd σ M => match a yd σ M with
  | .nx yd σ M => b yd σ M
  | o => o
def gvY (e : EV) : GSV := fun yd σ M => if yd.length < sizeLine then (match e σ M with
  | .ok d M1 => .nx (yd ++ [d]) σ M1
  | .exc c ds M1 => .exc c ds σ M1
  | .no => .no) else .no
def gvLoop (w : List (Nat × List D)) (g : GV) (b : GSV) : List D → GSV
  | [], yd, σ, M => if watched w M = true then .nx yd σ M else .no
  | d :: r, yd, σ, M => if watched w M = true then (match g d σ M with
      | .nx σ1 M1 => (match b yd σ1 M1 with
        | .nx yd σ2 M2 => gvLoop w g b r yd σ2 M2
        | .ct yd σ2 M2 => gvLoop w g b r yd σ2 M2
        | .bk yd σ2 M2 => .nx yd σ2 M2
        | o => o)
      | .exc c ds σ1 M1 => .exc c ds σ1 M1
      | _ => .no) else .no
def gvFor (it : IV) (g : GV) (b : GSV) : GSV := fun yd σ M => match it σ M with
  | .ok s M1 => gvLoop s.watch g b s.items yd σ M1
  | .exc c ds M1 => .exc c ds σ M1
  | .no => .no
section
variable {X : Cx} {C : Ct} {W : WX} {st : Stmt} {rest : List Stmt} {sv : SV} {ga gb : GSV} {e : Expr} {ev : EV} {yp pos : Pos}
theorem n_plain (h : PS X st (LS C W sv)) : GS X st (LN C W (gvP sv)) := by
  refine GSimp (gs_ps h) fun D ys σ H ⟨α, σ3, M, yd, m, s, r, q⟩ => ?_
  show LS C W sv (D.at ys) σ H
  refine ⟨α, σ3, M, m, s, ?_⟩
  unfold gvP at q
  cases z : sv σ3 M with
  | nx σ M => rw [z] at q; exact fun a b s e m k => q a b ys s e m (r.ext e) k
  | rt d M => rw [z] at q; exact fun a b s e m k => q a b ys s e m (r.ext e) k
  | bk σ M => rw [z] at q; exact fun a b s e m k => q a b ys s e m (r.ext e) k
  | ct σ M => rw [z] at q; exact fun a b s e m k => q a b ys s e m (r.ext e) k
  | exc c ds σ M => rw [z] at q; exact q
  | no => rw [z] at q; exact q
theorem ns_nil : GSs X [] (LN C W gvNext) := GSsimp gss_nil fun D ys σ H ⟨α, σ3, M, yd, m, s, r, q⟩ => q α H ys σ (Ext.refl _ _) m r s
theorem ns_cons (h1 : GS X st (LN C W ga)) (h2 : GSs X rest (LN C W gb)) : GSs X (st :: rest) (LN C W (gvSeq ga gb)) := by
  refine GSsimp (gss_cons h1 h2) fun D ys σ H ⟨α, σ3, M, yd, m, s, r, q⟩ => ⟨α, σ3, M, yd, m, s, r, ?_⟩
  unfold gvSeq at q
  cases z : ga yd σ3 M with
  | nx yd' σ' M' => rw [z] at q; exact fun α' H' ys' σ1 e1 m1 r1 s1 => ⟨α', σ', M', yd', m1, s1, r1, FinN.ext q e1⟩
  | rt yd d M => rw [z] at q; exact q
  | bk yd σ M => rw [z] at q; exact q
  | ct yd σ M => rw [z] at q; exact q
  | exc c ds σ M => rw [z] at q; exact q
  | no => rw [z] at q; exact q
theorem n_yield (he : PE X e (LE C W ev)) (hco : X.env.scope.isCoroutine = false := by rfl) (hi : interactive X.env = false := by rfl) : GS X (.Expr (.Yield (some e) yp) pos) (LN C W (gvY ev)) := by
  refine GSimp (gs_yield he hco hi) fun D ys σ H ⟨α, σ3, M, yd, m, s, r, q⟩ => ?_
  have q : FinN C W D α H (if yd.length < sizeLine then (match ev σ3 M with
    | .ok d M1 => .nx (yd ++ [d]) σ3 M1
    | .exc c ds M1 => .exc c ds σ3 M1
    | .no => .no) else .no) := q
  by_cases z : yd.length < sizeLine
  · rw [if_pos z] at q
    refine ⟨by rw [r.length]; exact z, α, σ3, M, m, s, ?_⟩
    cases y : ev σ3 M with
    | ok d M1 => rw [y] at q; exact fun α' H' v e' m' rv => q α' H' (ys ++ [v]) σ e' m' ((r.ext e').append (Rls.one rv)) (s.ext e')
    | exc c ds M1 => rw [y] at q; exact fun α' H' dx e' m' x => q α' H' σ dx e' m' (s.ext e') x
    | no => rw [y] at q; exact q
  · rw [if_neg z] at q; exact q.elim
theorem n_for {tg iter : Expr} {body : List Stmt} {iv : IV} {g : GV} (hp : PassesOwn (model X.prog X.w) X.A X.env X.xe) (hc : X.calm = true) (hi : PI X tg iter (LI C W iv)) (hg : PG X tg (LG C W g)) (hb : GSs X body (LN C W gb))
    (hs : ∀ x, foldedSetIterable iter X.env x = pure x := by intro _; rfl) : GS X (.For tg iter body [] pos) (LN C W (gvFor iv g gb)) := by
  refine GSimp (gs_for hp hc hi hg hb hs) fun D ys σ H ⟨α, σ3, M, yd, m, s, r, h⟩ => ⟨α, σ3, M, m, s, ?_⟩
  unfold gvFor at h
  cases y : iv σ3 M with
  | exc c ds M1 => rw [y] at h; exact fun α' H' dx e' m' x => h α' H' σ dx e' m' (s.ext e') x
  | no => rw [y] at h; exact h
  | ok src M1 =>
  rw [y] at h
  have h : FinN C W D α H (gvLoop src.watch g gb src.items yd σ3 M1) := h
  intro α1 H1 J e1 m1 j1
  have h1 := FinN.ext h e1
  refine ⟨fun i k ys σ H => i + k = src.items.length ∧ ∃ α' σ3 M yd, Ext α1 H1 α' H ∧ SMem C α' M H ∧ SSt C α' H σ3 σ ∧ Rls C α' H yd ys ∧ FinN C W D α' H (gvLoop src.watch g gb (src.items.drop i) yd σ3 M), ⟨src.items.length, by omega, α1, σ3, M1, yd, Ext.refl _ _, m1, s.ext e1, r.ext e1, h1⟩, ?_⟩
  rintro i k ys σ H ⟨hk, α', σ3, M, yd, e2, m2, s2, r2, h2⟩
  cases z : src.items[i]? with
  | none =>
    have hl : src.items.length ≤ i := List.getElem?_eq_none_iff.mp z
    rw [List.drop_eq_nil_of_le hl] at h2
    have h2 : FinN C W D α' H (if watched src.watch M = true then .nx yd σ3 M else .no) := h2
    by_cases hw : watched src.watch M = true
    · rw [if_pos hw] at h2
      exact .inl ⟨(j1 α' M H e2 m2 hw i).2 (by omega), h2 α' H ys σ (Ext.refl _ _) m2 r2 s2⟩
    · rw [if_neg hw] at h2; exact h2.elim
  | some d =>
    have hl : i < src.items.length := (List.getElem?_eq_some_iff.mp z).1
    have hd : src.items.drop i = d :: src.items.drop (i + 1) := by
      rw [List.drop_eq_getElem_cons hl]
      congr 1
      exact (List.getElem?_eq_some_iff.mp z).2
    rw [hd] at h2
    have h2 : FinN C W D α' H (if watched src.watch M = true then (match g d σ3 M with
      | .nx σ1 M1 => (match gb yd σ1 M1 with
        | .nx yd σ2 M2 => gvLoop src.watch g gb (src.items.drop (i + 1)) yd σ2 M2
        | .ct yd σ2 M2 => gvLoop src.watch g gb (src.items.drop (i + 1)) yd σ2 M2
        | .bk yd σ2 M2 => .nx yd σ2 M2
        | o => o)
      | .exc c ds σ1 M1 => .exc c ds σ1 M1
      | _ => .no) else .no) := h2
    by_cases hw : watched src.watch M = true
    · rw [if_pos hw] at h2
      obtain ⟨go, yld⟩ := (j1 α' M H e2 m2 hw i).1 d z
      refine .inr ⟨go, fun ys σ H => (i + 1) + (k - 1) = src.items.length ∧ ∃ α' σ3 M yd, Ext α1 H1 α' H ∧ SMem C α' M H ∧ SSt C α' H σ3 σ ∧ Rls C α' H yd ys ∧ FinN C W D α' H (gvLoop src.watch g gb (src.items.drop (i + 1)) yd σ3 M), fun ys' σ' H' q => ⟨k - 1, by omega, q⟩, fun x H2 y => ?_⟩
      obtain ⟨e3, m3, r3⟩ := yld x H2 y
      refine ⟨α', σ3, M, d, m3, s2.ext e3, r3, ?_⟩
      have h2 := FinN.ext h2 e3
      cases q : g d σ3 M with
      | exc c ds σ' M' => rw [q] at h2; exact h2
      | no => rw [q] at h2; exact h2
      | rt d M' => rw [q] at h2; exact h2.elim
      | bk σ' M' => rw [q] at h2; exact h2.elim
      | ct σ' M' => rw [q] at h2; exact h2.elim
      | nx σ1 M1 =>
        rw [q] at h2
        refine fun α4 H4 σ4 e4 m4 s4 => ⟨α4, σ1, M1, yd, m4, s4, r2.ext (e3.trans e4), ?_⟩
        have h2 := FinN.ext h2 e4
        have h2 : FinN C W D α4 H4 (match gb yd σ1 M1 with
          | .nx yd σ2 M2 => gvLoop src.watch g gb (src.items.drop (i + 1)) yd σ2 M2
          | .ct yd σ2 M2 => gvLoop src.watch g gb (src.items.drop (i + 1)) yd σ2 M2
          | .bk yd σ2 M2 => .nx yd σ2 M2
          | o => o) := h2
        cases q : gb yd σ1 M1 with
        | nx yd' σ' M' => rw [q] at h2; exact fun α' H' ys' σ1 e5 m5 r5 s5 => ⟨by omega, α', σ', M', yd', e2.trans (e3.trans (e4.trans e5)), m5, s5, r5, FinN.ext h2 e5⟩
        | ct yd' σ' M' => rw [q] at h2; exact fun α' H' ys' σ1 e5 m5 r5 s5 => ⟨by omega, α', σ', M', yd', e2.trans (e3.trans (e4.trans e5)), m5, s5, r5, FinN.ext h2 e5⟩
        | bk yd' σ' M' => rw [q] at h2; exact h2
        | rt yd' d M' => rw [q] at h2; exact h2
        | exc c ds σ' M' => rw [q] at h2; exact h2
        | no => rw [q] at h2; exact h2
    · rw [if_neg hw] at h2; exact h2.elim
end
end L3

set_option Elab.async false
set_option linter.all false
set_option maxRecDepth 100000
set_option maxHeartbeats 4000000
namespace L3
open PySem PySem.Spec PyProof.Rows L2

/-! ### a generator def's promise -/
abbrev FnL := List D → Mem → Res (List D)
def endN : GOut → Res (List D)
  | .nx yd _ M => .ok yd M
  | .rt yd .non M => .ok yd M
  | .exc c ds _ M => .exc c ds M
  | _ => .no
def fnN (n : Nat) (gv : GSV) : FnL := fun ds M => endN (gv [] (start3 n ds) M)
def spN (C : Ct) (g : FnL) (ar : Nat) : SpG := fun vs H Q E => vs.length = ar ∧ ∃ α M ds, SMem C α M H ∧ Rls C α H ds vs ∧ Fin C (fun cls d _ H => E cls d H) [] (Rls C) α H (g ds M) Q
section
variable {P : Program} {w : World} {K : PySem.W.Frag} {mg : Str → Option Value} {base : Heap} {x qual : Str} {params : Arguments} {body : List Stmt} {scope : Scope} {dvs : List V} {kws : List (Str × V)} {f : Addr} {fd : FuncData}
theorem gn_ok {C : Ct} {N ps : List Str} {k n ar : Nat} {gv : GSV} (hP : ∀ σ α H, C.ps σ α H) (F : FunD K x qual params body scope dvs kws f fd) (S : GScope N ps scope) (hn : N.length = n) (hp : ps.length = ar)
    (hb : ∀ (cdv : Value) (A : Around) (st : List Env) (s : Shared) (H : Hp) (E : XK) (pn : List (Addr × Obj)), Room k (A.deeper (envOfC qual scope s.heap.objs.size f cdv)) →
      GSs (gcxOf P w K mg base N qual scope f cdv A st s H E pn) body (LN C (fun cls d _ H => E cls d H) gv)) : GFn P w K mg base (k + 1) f fd ps (spN C (fnN n gv) ar) := by
  subst hn hp
  obtain ⟨oc, od, dV, kV, doc, pm, an, cdv, ct, osl, rfl, lk, cd, _, _⟩ := F.ex
  refine gfn_of lk cd S (fun vs H Q E h => h.1) fun A st s H vs Q E pn room ⟨l, α, M, ds, m, r, h⟩ => ?_
  refine ⟨_, hb cdv A st s H E pn room, α, start3 N.length ds, M, [], m, start_ok hP r, rfl, ?_⟩
  have h : Fin C (fun cls d _ H => E cls d H) [] (Rls C) α H (endN (gv [] (start3 N.length ds) M)) Q := h
  cases q : gv [] (start3 N.length ds) M with
  | nx yd σ M => rw [q] at h; exact fun a b ys s e m r _ => h a b ys e m r
  | rt yd d M =>
    rw [q] at h
    cases d with
    | non => exact fun a b ys v e m r rv => ⟨rv, h a b ys e m r⟩
    | _ => exact h.elim
  | exc c ds σ M => rw [q] at h; exact fun a b s dx e m _ x => h a b dx e m x
  | bk yd σ M => rw [q] at h; exact h.elim
  | ct yd σ M => rw [q] at h; exact h.elim
  | no => rw [q] at h; exact h.elim
end
theorem oex_stop {K : PySem.W.Frag} {C : Addr} (T : OexC K C) : PySem.W.subIn K (.ref C) (.type "StopIteration") = some false := by
  obtain ⟨nm, q, N, bs, bm, sn, sub, ab, col, dd, k0, k1, k2, k3, k5, hC, hbm⟩ := T.cls
  have hcl : PySem.W.clsIn K C = some { name := nm, bases := bs, mro := .ref C :: bm, ns := N, qualname := q, hasDict := true, slotNames := sn, subclasses := sub, abstract := ab, collection := col, hasDel := false } := by unfold PySem.W.clsIn; rw [hC] <;> rfl
  show PySem.W.mroIn K C (.type "StopIteration") = some false
  unfold PySem.W.mroIn
  rw [hcl]
  show some ((Value.ref C :: bm).contains (.type "StopIteration")) = some false
  rw [List.contains_cons, PySem.HandSPX.refsVE_contains "StopIteration" bm hbm]
  rfl
/-- what stands at a generator def's name -/
structure HasN (P : Program) (w : World) (C : Ct) (mg : Str → Option Value) (base : Heap) (k : Nat) (x : Str) (g : FnL) (ar : Nat) : Prop where
  ex : ∃ (f : Addr) (fd : FuncData) (ps : List Str), GFn P w C.K mg base k f fd ps (spN C g ar) ∧ mg x = some (.ref f) ∧ PySem.W.keepIn C.K (.ref f) = true ∧ Binds C.K fd ps []
/-- list(g(e, ..)) -/
def evListG (cell : Bool) (g : FnL) (ar : Nat) (ok : Nat → Bool) (av : AV) : EV := fun σ M => (av σ M).bind fun ds M1 => if ds.length = ar then (match g ds M1 with
  | .ok yd M2 => newL cell yd M2
  | .exc c es M2 => if ok c = true then .exc c es M2 else .no
  | .no => .no) else .no
section
variable {X : Cx} {C : Ct} {W : WX} {k j ar : Nat} {g : FnL} {x : Str} {p pos pos' p2 : Pos} {e : Expr} {es : List Expr} {av : AV} {ok : Nat → Bool} {cell : Bool}
theorem l_listG (h : HasN X.prog X.w C X.mg X.base k x g ar) (hok : ∀ c, ok c = true → OexC C.K (C.xcls c)) (hr : Room j X.A) (hx : ∀ σ, PassesAt (L2.CX X.prog X.w) X σ (WE W σ)) (hg : Gl X x) (hgl : Gl X "list") (hml : X.mg "list" = none) (ha : PA X (e :: es) (LA C W av)) (hkj : k + 3 ≤ j := by decide) (hdb : (x == ("__debug__" : Str)) = false := by decide)
    (he : starEach (e :: es) X.env = (false, eval e X.env) :: starEach es X.env := by rfl) (hpl : (backTo pos' (starEach es X.env)).any (·.1) = false := by rfl)
    (he2 : starEach [.Call (.Name x p) (e :: es) [] pos'] X.env = (false, eval (.Call (.Name x p) (e :: es) [] pos') X.env) :: starEach [] X.env := by rfl) (hK : C.K = X.K := by rfl) :
    PE X (.Call (.Name "list" p2) [.Call (.Name x p) (e :: es) [] pos'] [] pos) (LE C W (evListG cell g ar ok av)) := by
  obtain ⟨f, fd, ps, F, hm, hk, hb⟩ := h.ex
  rw [hK] at F hk hb
  refine ⟨fun pins s σ H Q I hq => ?_⟩
  have PG := pgen_call (p := p) (pos' := pos') (E := fun cls d H => W cls d σ H ∧ PySem.W.subIn X.K cls (.type "StopIteration") = some false) F (Room.mono hr (Nat.le_trans (Nat.le_add_right k 3) hkj)) hg hm hk hb .nil ha hdb he hpl
  refine wpAny_Call_Name_kw (ld_blt I hgl hml PyProof.Rows.boot_list ?_ (by decide) (by decide))
  refine PyProof.Rows.callWith_type1 ?_ he2 rfl
  rw [he2]
  show wpAny _ _ (spliced ((false, eval (.Call (.Name x p) (e :: es) [] pos') X.env) :: backTo pos (starEach [] X.env))) _ _ s
  refine Calls.spliced_cons (thn (PG.run pins s σ H (fun out H2 => ∀ p, H2 p = none → Q (.ref p) (upd H2 p (.lst out))) I ?_) fun u s1 ⟨H1, sc, ex, I1, hex, hG⟩ => ?_)
  · obtain ⟨α, σ3, M, m, st, hq⟩ := hq
    refine ⟨α, σ3, M, m, st, (Fin.bind hq).mono fun vs H1 ⟨α1, M1, ds, e1, m1, r1, h1⟩ => ?_⟩
    have h1 : Fin C W σ (RD C) α1 H1 (if ds.length = ar then (match g ds M1 with
      | .ok yd M2 => newL cell yd M2
      | .exc c es M2 => if ok c = true then .exc c es M2 else .no
      | .no => .no) else .no) Q := h1
    by_cases z : ds.length = ar
    · rw [if_pos z] at h1
      rw [List.append_nil]
      refine ⟨by rw [r1.length]; exact z, α1, M1, ds, m1, r1, ?_⟩
      cases y : g ds M1 with
      | ok yd M2 =>
        rw [y] at h1
        exact fun α' H' ys e' m' r' => (newL_ok m' r' (Fin.ext h1 e')).2
      | exc c es M2 =>
        rw [y] at h1
        have h1 : Fin C W σ (RD C) α1 H1 (if ok c = true then .exc c es M2 else .no) Q := h1
        by_cases zz : ok c = true
        · rw [if_pos zz] at h1
          exact fun α' H' dx e' m' x' => ⟨h1 α' H' dx e' m' x', by rw [← hK]; exact oex_stop (hok c zz)⟩
        · rw [if_neg zz] at h1; exact h1.elim
      | no => rw [y] at h1; exact h1.elim
    · rw [if_neg z] at h1; exact h1.elim
  refine Calls.spliced_nil ?_
  have hsz : sc.heap.objs.size ≤ s1.heap.objs.size := by
    obtain ⟨a, g, c, _, h1, h2, _⟩ := hG
    exact Nat.le_trans h1 (Nat.le_of_lt h2)
  refine call_list_new (Room.mono hr hkj) I1.ok.frames hG (fun S s' acc c H' ys q0 q1 q2 hl q3 q4 q5 q6 q7 q8 => ?_) fun e s' g hc => ?_
  · exact ⟨.ref S, upd H' S (.lst ys), I1.drained (Nat.le_trans hsz q0) hl q1 q2 hex q3 q4 q5 q6 q7, rfl, q8 S q7⟩
  · have kin : X.K.In s'.heap := by
      obtain ⟨a, B, H', cls, d, _, fl, _, ub, _⟩ := id hc
      refine I1.ok.mod.kin.keeps fun b o eb => fl.1 b o (ub.keep b o (I1.bs b o eb).1 (I1.bs b o eb).2 fun hm => ?_)
      rcases List.mem_cons.mp (I1.stkSub b hm) with z | z
      · have h1 := Heap.lt_size eb
        have h2 := Nat.le_trans I1.ok.bsz I1.ok.above
        rw [z] at h1
        exact absurd (Nat.lt_of_lt_of_le h1 h2) (Nat.lt_irrefl _)
      · exact I1.ok.nofr eb z
    refine ⟨notStop_of (fun cls d H z => z.2) kin hc, hx σ pins H1 sc e _ I1 ?_⟩
    obtain ⟨a, B, H', cls, d, z1, fl, z2, ub, z3, z4, z5, z6⟩ := hc
    exact ⟨a, B, H', cls, d, z1, fl, z2, ub, z3, z4, allBare_setGen z5 rfl, z6.1⟩
end
end L3

set_option Elab.async false
set_option linter.all false
set_option maxRecDepth 100000
set_option maxHeartbeats 4000000
namespace L3
open PySem PySem.Spec PyProof.Rows L2

/-! ### is True, is False -/
def isB (b : Bool) : D → Bool
  | .bl c => c == b
  | _ => false
def rIsB (neg : Bool) : R2 := fun x y H Q => ∃ b, y = .bl b ∧ Q (.bl (if neg then !decide (x = .bl b) else decide (x = .bl b))) H
section
variable {X : Cx}
theorem same_b {M : Model} {A : Around} {E : Value → Shared → Prop} {s : Shared} {x : V} {u : Value} {b : Bool} {R : Bool → Shared → Prop} (r : RelV x u) (q : R (decide (x = .bl b)) s) : wpAny M A (isSame u (.bool b)) R E s := by
  have off : ∀ {u : Value}, plainIs u (.bool b) = true → (u == Value.bool b) = false → decide (x = V.bl b) = false → wpAny M A (isSame u (.bool b)) R E s := fun h1 h2 h3 => wpAny_isSame_plain h1 (by rw [h2, ← h3]; exact q)
  cases x with
  | bl c =>
    cases r
    refine wpAny_isSame_plain rfl ?_
    have e : (Value.bool c == Value.bool b) = decide (V.bl c = V.bl b) := by
      cases c <;> cases b <;> rfl
    rw [e]; exact q
  | ref a => cases r; exact off rfl rfl rfl
  | non => cases r; exact off rfl rfl rfl
  | int i => obtain ⟨t, rfl⟩ := r; exact off rfl rfl rfl
  | str x => obtain ⟨t, rfl⟩ := r; exact off rfl rfl rfl
  | byt x => obtain ⟨t, rfl⟩ := r; exact off rfl rfl rfl
  | flt x => obtain ⟨t, rfl⟩ := r; exact off rfl rfl rfl
  | ty n => cases r; exact off rfl rfl rfl
theorem op_isB : OpR X (compareOp .Is) (rIsB false) := by
  intro pins s σ H x y v u Q I rx ry h
  obtain ⟨b, rfl, q⟩ := h
  cases ry
  show wpAny _ _ ((isSame v (Value.bool b)) >>= fun z => pure (Value.bool z)) _ _ s
  exact wpAny_bind (same_b rx (wpAny_pure (fin_bl I q rfl)))
theorem op_notB : OpR X (compareOp .IsNot) (rIsB true) := by
  intro pins s σ H x y v u Q I rx ry h
  obtain ⟨b, rfl, q⟩ := h
  cases ry
  show wpAny _ _ ((isSame v (Value.bool b)) >>= fun z => pure (Value.bool (!z))) _ _ s
  exact wpAny_bind (same_b rx (wpAny_pure (fin_bl I q rfl)))
end
theorem isB_rel {b : Bool} {C : Ct} {α : List Addr} {H : Hp} {x : D} {v : V} (r : Rl C α H x v) : decide (v = .bl b) = isB b x := by
  cases x with
  | non => cases r; rfl
  | bl c => cases r; cases c <;> cases b <;> rfl
  | int b => cases r; rfl
  | str b => cases r; rfl
  | tup ds => obtain ⟨a, vs, rfl, _⟩ := r; rfl
  | lst ds => obtain ⟨a, vs, rfl, _⟩ := r; rfl
  | scr ds => obtain ⟨a, vs, rfl, _⟩ := r; rfl
  | ref n => obtain ⟨a, _, rfl⟩ := r; rfl
  | obj c ds => obtain ⟨a, dx, vs, rfl, _⟩ := r; rfl
  | dct ks vs => obtain ⟨a, kws, rfl, _⟩ := r; rfl
  | xv c ds => obtain ⟨a, dx, vs, rfl, _⟩ := r; rfl
  | glo g => cases r; rfl
  | ty n => cases r; rfl
def dIsB (neg : Bool) : D → D → Mem → Res D := fun x y M => match y with
  | .bl b => .ok (.bl (if neg then !isB b x else isB b x)) M
  | _ => .no
theorem lk_isB {C : Ct} {neg : Bool} : LinkR C (rIsB neg) (dIsB neg) := by
  intro W σ α M H x y v u Q m rx ry h
  cases y with
  | bl b =>
    cases ry
    refine ⟨b, rfl, ?_⟩
    rw [isB_rel rx]
    exact fin_ok (d := .bl _) m rfl h
  | _ => exact h.elim

/-! ### sum, max, min of a tuple of ints, too -/
def toL : D → D
  | .tup ds => .lst ds
  | d => d
def dSumS : D → Mem → Res D := fun x M => dSum (toL x) M
def dMaxS : D → Mem → Res D := fun x M => dMaxL (toL x) M
def dMinS : D → Mem → Res D := fun x M => dMinL (toL x) M
def rTup (K : PySem.W.Frag) (f : List Int → Option Int) : List V → Hp → VK → Prop := fun vs H Q => ∃ (a : Addr) (ns : List Int) (i : Int), vs = [V.ref a] ∧ SqT K H a (ns.map V.int) ∧ f ns = some i ∧ Q (.int i) H
def rSumS (K : PySem.W.Frag) : List V → Hp → VK → Prop := fun vs H Q => rSum K vs H Q ∨ rTup K (fun ns => some ns.sum) vs H Q
def rMaxS (K : PySem.W.Frag) : List V → Hp → VK → Prop := fun vs H Q => rMax K vs H Q ∨ rTup K (fun ns => if ns = [] then none else some (maxI ns)) vs H Q
def rMinS (K : PySem.W.Frag) : List V → Hp → VK → Prop := fun vs H Q => rMin K vs H Q ∨ rTup K (fun ns => if ns = [] then none else some (minI ns)) vs H Q
theorem onTup_ok {f : List Int → Option Int} {C : Ct} {K : PySem.W.Frag} {W : WX} {σ : L2.St} {α : List Addr} {M : Mem} {H : Hp} {ds : List D} {v : V} {Q : VK} (hK : C.K = K) (m : SMem C α M H) (r : Rl C α H (.tup ds) v) (h : Fin C W σ (RD C) α H (onInts (fun ns => (f ns).map D.int) (.lst ds) M) Q) : rTup K f [v] H Q := by
  obtain ⟨a, vs, rfl, hs, rs⟩ := tupOf_ok (C := C) hK r rfl
  have h : Fin C W σ (RD C) α H (match intsOf ds with
    | some ns => (match (f ns).map D.int with
      | some d => .ok d M
      | none => .no)
    | none => .no) Q := h
  cases q2 : intsOf ds with
  | none => rw [q2] at h; exact h.elim
  | some ns =>
    rw [q2] at h
    have h : Fin C W σ (RD C) α H (match (f ns).map D.int with
      | some d => .ok d M
      | none => .no) Q := h
    cases q3 : f ns with
    | none => rw [q3] at h; exact h.elim
    | some d =>
      rw [q3] at h
      rw [intsOf_ok q2 rs] at hs
      exact ⟨a, ns, d, rfl, hs, q3, fin_ok (d := .int d) m rfl h⟩
theorem onI_congr {f g : List Int → Option D} (h : ∀ ns, f ns = g ns) (x : D) (M : Mem) : onInts f x M = onInts g x M := by rw [funext h]
section
variable {C : Ct} {K : PySem.W.Frag}
theorem lk_sumS (hK : C.K = K) : LinkA C (rSumS K) (a1 dSumS) := lk_a1 fun W σ α M H x v Q m r h => by
  cases x with
  | tup ds => exact .inr (onTup_ok (W := W) (σ := σ) (f := fun ns => some ns.sum) hK m r h)
  | _ => exact .inl (lk_sum hK W σ α M H _ _ Q m (Rls.one r) h)
theorem lk_maxS (hK : C.K = K) : LinkA C (rMaxS K) (a1 dMaxS) := lk_a1 fun W σ α M H x v Q m r h => by
  cases x with
  | tup ds =>
    refine .inr (onTup_ok (W := W) (σ := σ) (f := fun ns => if ns = [] then none else some (maxI ns)) hK m r ?_)
    rw [onI_congr (g := fun ns => if ns = [] then none else some (.int (maxI ns))) fun ns => by by_cases z : ns = [] <;> simp [z]]
    exact h
  | _ => exact .inl (lk_maxL hK W σ α M H _ _ Q m (Rls.one r) h)
theorem lk_minS (hK : C.K = K) : LinkA C (rMinS K) (a1 dMinS) := lk_a1 fun W σ α M H x v Q m r h => by
  cases x with
  | tup ds =>
    refine .inr (onTup_ok (W := W) (σ := σ) (f := fun ns => if ns = [] then none else some (minI ns)) hK m r ?_)
    rw [onI_congr (g := fun ns => if ns = [] then none else some (.int (minI ns))) fun ns => by by_cases z : ns = [] <;> simp [z]]
    exact h
  | _ => exact .inl (lk_minL hK W σ α M H _ _ Q m (Rls.one r) h)
end
theorem foldmax (n : Int) : ∀ ns : List Int, ns.foldl max n = maxI (n :: ns)
  | [] => rfl
  | m :: r => by
    show r.foldl max (max n m) = max n (maxI (m :: r))
    rw [foldmax]
    cases r with
    | nil => rfl
    | cons k r =>
      show max (max n m) (maxI (k :: r)) = max n (max m (maxI (k :: r)))
      exact Int.max_assoc ..
theorem foldmin (n : Int) : ∀ ns : List Int, ns.foldl min n = minI (n :: ns)
  | [] => rfl
  | m :: r => by
    show r.foldl min (min n m) = min n (minI (m :: r))
    rw [foldmin]
    cases r with
    | nil => rfl
    | cons k r =>
      show min (min n m) (minI (k :: r)) = min n (min m (minI (k :: r)))
      exact Int.min_assoc ..
theorem reads_ints {h : Heap} : ∀ {ns : List Int} {us : List Value}, Vals (ns.map V.int) us → ReadsAll h us (ns.map .int) []
  | [], us, r => by
    cases r
    exact .nil
  | n :: ns, us, r => by
    cases r with
    | cons r t =>
      obtain ⟨t', rfl⟩ := r
      exact .cons (as := []) (bs := []) (.int n t') (reads_ints t)
theorem alike_all_ints (ns : List Int) : PySem.W.AlikeAll (ns.map .int) := by
  refine ⟨fun x hx y hy => ?_, fun x hx => ?_⟩
  · obtain ⟨i, _, rfl⟩ := List.mem_map.mp hx
    obtain ⟨j, _, rfl⟩ := List.mem_map.mp hy
    rfl
  · obtain ⟨i, _, rfl⟩ := List.mem_map.mp hx
    exact fun e => PyData.noConfusion e
theorem depth_ints : ∀ ns : List Int, PyData.depthAll (ns.map .int) ≤ 1
  | [] => by decide
  | n :: ns => by
    have := depth_ints ns
    show max (PyData.depth (.int n)) (PyData.depthAll (ns.map .int)) ≤ 1
    have e : PyData.depth (.int n) ≤ 1 := by simp [PyData.depth]
    omega
section
variable {X : Cx}
theorem cr_sumS (hc : X.calm = true) : CallR X (.builtin "sum") (rSumS X.K) := by
  intro pins s σ H vs us Q I r h
  rcases h with h | ⟨a, ns, i, rfl, hs, e, q⟩
  · exact cr_sum hc pins s σ H vs us Q I r h
  cases e
  obtain ⟨its, rv, hl, _⟩ := I.tuple hs
  rw [Vals.ref1 r]
  have hi := rv.ints
  obtain ⟨xs, hx⟩ := hi.allInts.items
  have hn : numsOf its.toArray.toList = ns := by rw [show its.toArray.toList = its from rfl, hi.numsOf]
  have hl : Heap.IsTuple s.heap a its.toArray := hl
  rw [hx] at hl hn
  rw [nums_intItems] at hn
  refine PySem.W.ktm_sumG (I.ok.hd hc) hl fun h' tk t' hk => ⟨.int ns.sum, H, I.kept hk, ⟨t', ?_⟩, q⟩
  rw [preSum_eq, List.take_of_length_le (by simp), hn]
theorem cr_maxS (hc : X.calm = true) (hu : X.A.units + 64 < cLine) : CallR X (.builtin "max") (rMaxS X.K) := by
  intro pins s σ H vs us Q I r h
  rcases h with h | ⟨a, ns, i, rfl, hs, e, q⟩
  · exact cr_max hc pins s σ H vs us Q I r h
  cases ns with
  | nil => cases e
  | cons n ns =>
  obtain ⟨its, rv, hl, _⟩ := I.tuple hs
  rw [Vals.ref1 r]
  have hd := depth_ints (n :: ns)
  refine PySem.W.max_tuple_data (x := .int n) (xs := ns.map .int) (as := []) (I.ok.hd hc) hl (reads_ints (ns := n :: ns) rv) (alike_all_ints (n :: ns)) (by show X.A.units + 1 + PyData.depthAll ((n :: ns).map .int) < cLine; omega) fun j v h' tk bs _ rd hk => ?_
  rw [PySem.W.maxD_ints, foldmax] at rd
  have e : some (maxI (n :: ns)) = some i := e
  cases e
  cases rd with
  | int i t => exact ⟨.int _, H, I.kept hk, ⟨t, rfl⟩, q⟩
theorem cr_minS (hc : X.calm = true) (hu : X.A.units + 64 < cLine) : CallR X (.builtin "min") (rMinS X.K) := by
  intro pins s σ H vs us Q I r h
  rcases h with h | ⟨a, ns, i, rfl, hs, e, q⟩
  · exact cr_min hc pins s σ H vs us Q I r h
  cases ns with
  | nil => cases e
  | cons n ns =>
  obtain ⟨its, rv, hl, _⟩ := I.tuple hs
  rw [Vals.ref1 r]
  have hd := depth_ints (n :: ns)
  refine PySem.W.min_tuple_data (x := .int n) (xs := ns.map .int) (as := []) (I.ok.hd hc) hl (reads_ints (ns := n :: ns) rv) (alike_all_ints (n :: ns)) (by show X.A.units + 1 + PyData.depthAll ((n :: ns).map .int) < cLine; omega) fun j v h' tk bs _ rd hk => ?_
  rw [PySem.W.minD_ints, foldmin] at rd
  have e : some (minI (n :: ns)) = some i := e
  cases e
  cases rd with
  | int i t => exact ⟨.int _, H, I.kept hk, ⟨t, rfl⟩, q⟩
end
end L3

set_option Elab.async false
set_option linter.all false
set_option maxRecDepth 100000
set_option maxHeartbeats 4000000
namespace L3
open PySem PySem.Spec PyProof.Rows L2

/-! ### trimming where old cells have changed -/
def frzC (rf : Nat → Option D) : Cell → Option Cell
  | .lst ds => (frzDs rf ds).map .lst
  | .ins c ds => (frzDs rf ds).map (.ins c)
  | .dic kvs => if frzDs rf (kvs.map (·.1)) = some (kvs.map (·.1)) ∧ frzDs rf (kvs.map (·.2)) = some (kvs.map (·.2)) then some (.dic kvs) else none
def frzCs (rf : Nat → Option D) : Mem → Option Mem
  | [] => some []
  | c :: r => match frzC rf c, frzCs rf r with
    | some a, some b => some (a :: b)
    | _, _ => none
def trimW (nf : Nat → Nat) (M : Mem) : Res D → Res D
  | .ok d M' => if M'.take M.length = M then trimR nf M (.ok d M') else (match frzCs (frzR nf M.length M' 6) (M'.take M.length), frzD (frzR nf M.length M' 6) d with
    | some M2, some d' => .ok d' M2
    | _, _ => .ok d M')
  | r => trimR nf M r
def evTrimW (nf : Nat → Nat) (e : EV) : EV := fun σ M => trimW nf M (e σ M)
theorem frzCs_len {rf : Nat → Option D} : ∀ {M M2 : Mem}, frzCs rf M = some M2 → M2.length = M.length
  | [], _, e => by cases e; rfl
  | c :: r, M2, e => by
    have e : (match frzC rf c, frzCs rf r with
      | some a, some b => some (a :: b)
      | _, _ => none) = some M2 := e
    cases z : frzC rf c with
    | none => rw [z] at e; cases e
    | some a =>
      cases z2 : frzCs rf r with
      | none => rw [z, z2] at e; cases e
      | some b => rw [z, z2] at e; cases e; simp [frzCs_len z2]
theorem frzCs_get {rf : Nat → Option D} : ∀ {M M2 : Mem} {k : Nat} {c2 : Cell}, frzCs rf M = some M2 → M2[k]? = some c2 → ∃ c, M[k]? = some c ∧ frzC rf c = some c2
  | [], _, k, c2, e, h => by cases e; simp at h
  | c :: r, M2, k, c2, e, h => by
    have e : (match frzC rf c, frzCs rf r with
      | some a, some b => some (a :: b)
      | _, _ => none) = some M2 := e
    cases z : frzC rf c with
    | none => rw [z] at e; cases e
    | some a =>
      cases z2 : frzCs rf r with
      | none => rw [z, z2] at e; cases e
      | some b =>
        rw [z, z2] at e; cases e
        cases k with
        | zero => simp at h; subst h; exact ⟨c, rfl, z⟩
        | succ k => exact frzCs_get (k := k) z2 (by simpa using h)
section
variable {C : Ct} {α t : List Addr} {H : Hp}
theorem frzC_ok {rf : Nat → Option D} (hr : ∀ k d a, rf k = some d → (α ++ t)[k]? = some a → Rl C α H d (.ref a)) {c c2 : Cell} {a : Addr} (h : RlC C (α ++ t) H c a) (e : frzC rf c = some c2) : RlC C α H c2 a := by
  cases c with
  | lst ds =>
    have e : (frzDs rf ds).map Cell.lst = some c2 := e
    obtain ⟨vs, hv, r⟩ := h
    cases z : frzDs rf ds with
    | none => rw [z] at e; cases e
    | some ds' => rw [z] at e; cases e; exact ⟨vs, hv, frzDs_ok hr r z⟩
  | ins k ds =>
    have e : (frzDs rf ds).map (Cell.ins k) = some c2 := e
    obtain ⟨dx, vs, hv, l, r⟩ := h
    cases z : frzDs rf ds with
    | none => rw [z] at e; cases e
    | some ds' => rw [z] at e; cases e; exact ⟨dx, vs, hv, l, frzDs_ok hr r z⟩
  | dic kvs =>
    have e : (if frzDs rf (kvs.map (·.1)) = some (kvs.map (·.1)) ∧ frzDs rf (kvs.map (·.2)) = some (kvs.map (·.2)) then some (Cell.dic kvs) else none) = some c2 := e
    obtain ⟨kws, hv, l, r1, r2⟩ := h
    by_cases z : frzDs rf (kvs.map (·.1)) = some (kvs.map (·.1)) ∧ frzDs rf (kvs.map (·.2)) = some (kvs.map (·.2))
    · rw [if_pos z] at e; cases e
      exact ⟨kws, hv, l, frzDs_ok hr r1 z.1, frzDs_ok hr r2 z.2⟩
    · rw [if_neg z] at e; cases e
end
section
variable {C : Ct} {W : WX} {σ : L2.St} {α : List Addr} {M : Mem} {H : Hp}
theorem Fin.trimW {nf : Nat → Nat} (hn : ∀ c, nf c = (C.fl c).length) (m : SMem C α M H) {r : Res D} {Q : VK} (h : Fin C W σ (RD C) α H (L3.trimW nf M r) Q) : Fin C W σ (RD C) α H r Q := by
  cases r with
  | no => exact h
  | exc c ds M' => exact Fin.trim hn m h
  | ok d M' =>
    have h : Fin C W σ (RD C) α H (if M'.take M.length = M then trimR nf M (.ok d M') else (match frzCs (frzR nf M.length M' 6) (M'.take M.length), frzD (frzR nf M.length M' 6) d with
      | some M2, some d' => .ok d' M2
      | _, _ => .ok d M')) Q := h
    by_cases z : M'.take M.length = M
    · rw [if_pos z] at h; exact Fin.trim hn m h
    · rw [if_neg z] at h
      cases q1 : frzCs (frzR nf M.length M' 6) (M'.take M.length) with
      | none => rw [q1] at h; exact h
      | some M2 =>
        cases q : frzD (frzR nf M.length M' 6) d with
        | none => rw [q1, q] at h; exact h
        | some d' =>
          rw [q1, q] at h
          have h : Fin C W σ (RD C) α H (.ok d' M2) Q := h
          intro α' H' v e m' r'
          obtain ⟨t, rfl, ht⟩ := e.pre
          rw [← m.len] at q q1
          have hr := fun k d a h1 h2 => frzR_ok (nf := nf) (α := α) (t := t) hn m' 6 k d a h1 h2
          have hl : M'.length = α.length + t.length := by rw [← m'.len, List.length_append]
          refine h α H' v ⟨⟨[], by simp, by simp⟩, e.keep⟩ ⟨?_, m.nd, fun k c2 a h1 h2 => ?_⟩ (frzD_ok hr r' q)
          · rw [frzCs_len q1, List.length_take]; omega
          · obtain ⟨c, h3, h4⟩ := frzCs_get q1 h1
            have hk : k < α.length := (List.getElem?_eq_some_iff.mp h2).1
            rw [List.getElem?_take, if_pos hk] at h3
            exact frzC_ok hr (m'.cell k c a h3 (by rw [List.getElem?_append_left hk]; exact h2)) h4
end
section
variable {X : Cx} {C : Ct} {W : WX} {e : Expr} {ev : EV} {nf : Nat → Nat}
theorem trimW_imp (hn : ∀ c, nf c = (C.fl c).length) : ∀ σ H Q, LE C W (evTrimW nf ev) σ H Q → LE C W ev σ H Q := fun σ H Q ⟨α, σ3, M, m, s, h⟩ => ⟨α, σ3, M, m, s, Fin.trimW hn m h⟩
theorem l_trimW (hn : ∀ c, nf c = (C.fl c).length) (h : PE X e (LE C W ev)) : PE X e (LE C W (evTrimW nf ev)) := PEimp h (trimW_imp hn)
end
end L3

set_option Elab.async false
set_option linter.all false
set_option maxRecDepth 100000
set_option maxHeartbeats 4000000
namespace L3
open PySem PySem.Spec PyProof.Rows L2

/-! ### the pure half: what the laws share -/
theorem trim_intS {nf : Nat → Nat} {M M' : Mem} {i : Int} (h : M'.length = M.length) : trimR nf M (.ok (.int i) M') = .ok (.int i) M' := by
  show (if M'.take M.length = M then (match frzD (frzR nf M.length M' 6) (.int i) with
    | some d' => Res.ok d' M
    | none => .ok (.int i) M') else .ok (.int i) M') = _
  by_cases z : M'.take M.length = M
  · rw [if_pos z]
    have : M' = M := by rw [← h, List.take_length] at z; exact z
    subst this; rfl
  · rw [if_neg z]
theorem trim_bl {nf : Nat → Nat} {M : Mem} {b : Bool} : trimR nf M (.ok (.bl b) M) = .ok (.bl b) M := trim_same low_bl
theorem hok_ext {M t : Mem} {h c : Nat} (H : HandOk M h c) : HandOk (M ++ t) h c := by
  obtain ⟨ne, cells, pos, rest, tot, g, gc, p0, r0⟩ := H
  exact ⟨ne, cells, pos, rest, tot, by rw [List.getElem?_append_left (List.getElem?_eq_some_iff.mp g).1]; exact g, by rw [List.getElem?_append_left (List.getElem?_eq_some_iff.mp gc).1]; exact gc, p0, r0⟩
theorem hok_set {M : Mem} {h c k : Nat} {x : Cell} (H : HandOk M h c) (h1 : k ≠ h) (h2 : k ≠ c) : HandOk (M.set k x) h c := by
  obtain ⟨ne, cells, pos, rest, tot, g, gc, p0, r0⟩ := H
  exact ⟨ne, cells, pos, rest, tot, by rw [List.getElem?_set_ne h1]; exact g, by rw [List.getElem?_set_ne h2]; exact gc, p0, r0⟩
theorem HandOk.lt {M : Mem} {h c : Nat} (H : HandOk M h c) : h < M.length ∧ c < M.length := by
  obtain ⟨ne, cells, pos, rest, tot, g, gc, p0, r0⟩ := H
  exact ⟨(List.getElem?_eq_some_iff.mp g).1, (List.getElem?_eq_some_iff.mp gc).1⟩
/-- a def that draws from the hand -/
def TakeOk (g : Fn3) : Prop := ∀ {M : Mem} {h c : Nat}, HandOk M h c → ∀ {many : Int}, 0 < many → many < 2 ^ 64 → ∃ d x, 0 ≤ d ∧ d < many ∧ g [.ref h, .int many] M = .ok (.int d) (M.set h x) ∧ HandOk (M.set h x) h c
theorem draw {g : Fn3} (T : TakeOk g) {nf : Nat → Nat} {M : Mem} {h c : Nat} (H : HandOk M h c) {many : Int} (h0 : 0 < many) (h1 : many < 2 ^ 64) : ∃ d x, 0 ≤ d ∧ d < many ∧ trimR nf M (g [.ref h, .int many] M) = .ok (.int d) (M.set h x) ∧ HandOk (M.set h x) h c := by
  obtain ⟨d, x, a, b, e, k⟩ := T H h0 h1
  exact ⟨d, x, a, b, by rw [e]; exact trim_intS (by simp), k⟩
theorem append_R {M : Mem} {n : Nat} {ds : List D} {y : D} (h : M[n]? = some (.lst ds)) (hz : ds.length ≤ 1000) : dAppend (.ref n) [y] M = .ok .non (M.set n (.lst (ds ++ [y]))) := append_at h (Nat.lt_of_le_of_lt hz (by decide))
theorem newF {ds : List D} {M : Mem} (h : ds.length ≤ 1000) : newL false ds M = .ok (.lst ds) M := by
  unfold newL
  rw [if_pos (Nat.le_trans h (by decide))]; rfl
theorem newC {ds : List D} {M : Mem} (h : ds.length ≤ 1000) : newL true ds M = .ok (.ref M.length) (M ++ [.lst ds]) := by
  unfold newL
  rw [if_pos (Nat.le_trans h (by decide))]; rfl
theorem d_addL {M : Mem} {x y : List D} (h : x.length + y.length ≤ 1000) : dAdd false (.lst x) (.lst y) M = .ok (.lst (x ++ y)) M := by
  show newL false (x ++ y) M = _
  exact newF (by rw [List.length_append]; exact h)
@[simp] theorem d_isT {t : Ty} {x : D} {M : Mem} : dIsi x (.ty t) M = match tyOf M x with
  | some u => .ok (.bl (isTy u t)) M
  | none => .no := rfl
@[simp] theorem d_neStr {x : Str} {M : Mem} : dNeS (.str x) (.str x) M = .ok (.bl false) M := by simp [dNeS]
@[simp] theorem d_eqStr {x : Str} {M : Mem} : dEqS (.str x) (.str x) M = .ok (.bl true) M := by simp [dEqS]
/-! loops -/
theorem loop_nil {g : GV} {b : SV} {σ : St3} {M : Mem} : svLoop [] g b [] σ M = .nx σ M := rfl
/-- what a loop's turn does with what its body did -/
def Out.nxt (o : Out) (k : SV) : Out := match o with
  | .nx σ M => k σ M
  | .ct σ M => k σ M
  | .bk σ M => .nx σ M
  | o => o
section
variable {k : SV} {σ : St3} {M : Mem}
@[simp] theorem nxt_nx : (Out.nx σ M).nxt k = k σ M := rfl
@[simp] theorem nxt_ct : (Out.ct σ M).nxt k = k σ M := rfl
@[simp] theorem nxt_bk : (Out.bk σ M).nxt k = .nx σ M := rfl
@[simp] theorem nxt_rt {d : D} : (Out.rt d M).nxt k = .rt d M := rfl
@[simp] theorem nxt_exc {c : Nat} {ds : List D} : (Out.exc c ds σ M).nxt k = .exc c ds σ M := rfl
end
theorem loop_cons {i : Nat} {b : SV} {d : D} {r : List D} {σ : St3} {M : Mem} : svLoop [] (gvName i) b (d :: r) σ M = (b (σ.set i (some d)) M).nxt (svLoop [] (gvName i) b r) := rfl
theorem gvCons_x {g : GV} {r : GVs} {d : D} {ds : List D} {σ : St3} {M : Mem} : gvCons g r (d :: ds) σ M = (g d σ M).seq (r ds) := rfl
theorem gvNil_x {σ : St3} {M : Mem} : gvNil [] σ M = .nx σ M := rfl
theorem loop_ind {i : Nat} {b : SV} {I : List D → St3 → Mem → Prop} (hs : ∀ d r σ M, I (d :: r) σ M → ∃ σ' M', (b (σ.set i (some d)) M = .nx σ' M' ∨ b (σ.set i (some d)) M = .ct σ' M') ∧ I r σ' M') : ∀ (items : List D) (σ : St3) (M : Mem), I items σ M → ∃ σ' M', svLoop [] (gvName i) b items σ M = .nx σ' M' ∧ I [] σ' M'
  | [], σ, M, h => ⟨σ, M, rfl, h⟩
  | d :: r, σ, M, h => by
    obtain ⟨σ1, M1, e, h1⟩ := hs d r σ M h
    obtain ⟨σ2, M2, e2, h2⟩ := loop_ind hs r σ1 M1 h1
    refine ⟨σ2, M2, ?_, h2⟩
    rw [loop_cons]
    rcases e with e | e <;> rw [e] <;> exact e2
/-! values without any reference -/
def Clo (d : D) : Prop := ∀ n, Low n d
theorem clo_int {i : Int} : Clo (.int i) := fun _ => low_int
theorem clo_bl {b : Bool} : Clo (.bl b) := fun _ => low_bl
theorem clo_non : Clo .non := fun _ => low_non
theorem clo_str {s : Str} : Clo (.str s) := fun _ => low_str
theorem clo_tup {ds : List D} (h : ∀ d ∈ ds, Clo d) : Clo (.tup ds) := fun n => low_tup fun d hd => h d hd n
theorem clo_lst {ds : List D} (h : ∀ d ∈ ds, Clo d) : Clo (.lst ds) := fun n => low_lst fun d hd => h d hd n
theorem clo_dct {ks vs : List D} (h : ∀ d ∈ ks, Clo d) (h2 : ∀ d ∈ vs, Clo d) : Clo (.dct ks vs) := fun n rf hr => by
  show ((frzDs rf ks).bind fun a => (frzDs rf vs).map fun b => D.dct a b) = _
  rw [low_all hr fun d hd => h d hd n, low_all hr fun d hd => h2 d hd n]; rfl
theorem trim_clo {nf : Nat → Nat} {M t : Mem} {d : D} (h : Clo d) : trimR nf M (.ok d (M ++ t)) = .ok d M := trim_low (h _)
theorem trim_clo0 {nf : Nat → Nat} {M : Mem} {d : D} (h : Clo d) : trimR nf M (.ok d M) = .ok d M := trim_same (h _)
theorem trim_cloL {nf : Nat → Nat} {M t : Mem} {ds : List D} (h : ∀ d ∈ ds, Clo d) : trimR nf M (.ok (.ref M.length) (M ++ .lst ds :: t)) = .ok (.lst ds) M := trim_lst fun d hd => h d hd _
theorem trim_excC {nf : Nat → Nat} {M t : Mem} {c : Nat} {ds : List D} (h : ∀ d ∈ ds, Clo d) : trimR nf M (.exc c ds (M ++ t)) = .exc c ds M := by
  show (if (M ++ t).take M.length = M then (match frzDs (frzR nf M.length (M ++ t) 6) ds with
    | some ds' => Res.exc c ds' M
    | none => .exc c ds (M ++ t)) else .exc c ds (M ++ t)) = _
  rw [if_pos (by simp), low_all (fun k hk => frzR_low _ k hk) fun d hd => h d hd _]
theorem trim_exc0 {nf : Nat → Nat} {M : Mem} {c : Nat} {ds : List D} (h : ∀ d ∈ ds, Clo d) : trimR nf M (.exc c ds M) = .exc c ds M := by
  have := trim_excC (nf := nf) (M := M) (t := []) (c := c) h
  rwa [List.append_nil] at this
/-! showing -/
structure Ok (p : PyData) (k : Nat) : Prop where
  s : p.showable = true
  d : p.hasDict = false
  w : wid p ≤ k
/-- d is shown, n deep, by at most k signs -/
def Sd (n k : Nat) (d : D) : Prop := ∃ p, (∀ M, py M n d = some p) ∧ Ok p k
theorem lg_b {n b : Nat} (h : n < 2 ^ b) : n.log2 < b + 1 := by
  rcases Nat.eq_zero_or_pos n with z | z
  · subst z; exact Nat.succ_pos b
  · exact Nat.lt_succ_of_lt ((Nat.log2_lt (by omega)).mpr h)
theorem sd_int {n b : Nat} {i : Int} (h : i.natAbs < 2 ^ b) (hb : b ≤ 200 := by decide) : Sd n 210 (.int i) := by
  have l := lg_b h
  refine ⟨.int i, fun M => by cases n <;> rfl, decide_eq_true (Nat.lt_of_lt_of_le l (Nat.le_trans (Nat.succ_le_succ hb) (by decide))), rfl, ?_⟩
  simp only [wid]; omega
theorem sd_bl {n : Nat} {b : Bool} : Sd n 210 (.bl b) := ⟨.bool b, fun M => by cases n <;> rfl, rfl, rfl, by simp only [wid]; omega⟩
theorem sd_non {n : Nat} : Sd n 210 .non := ⟨.none, fun M => by cases n <;> rfl, rfl, rfl, by simp only [wid]; omega⟩
theorem sd_str {n : Nat} {x : Str} (h0 : PyData.strOk x = true) (h : (PyData.str x).showable = true) (hw : (reprText x).length ≤ 210) : Sd n 210 (.str x) :=
  ⟨.str x, fun M => by
    have e : leaf (.str x) = some (.str x) := if_pos h0
    cases n <;> exact e, h, rfl, by simp only [wid]; exact hw⟩
theorem Sd.mono {n k j : Nat} {d : D} (h : Sd n k d) (hk : k ≤ j) : Sd n j d := by
  obtain ⟨p, e, o⟩ := h
  exact ⟨p, e, o.s, o.d, Nat.le_trans o.w hk⟩
theorem sds {n k : Nat} : ∀ {ds : List D}, (∀ d ∈ ds, Sd n k d) → ∃ ps, (∀ M, mapO (py M n) ds = some ps) ∧ PyData.showableAll ps = true ∧ PyData.hasDictAll ps = false ∧ wids ps ≤ ds.length * (k + 2)
  | [], _ => ⟨[], fun _ => rfl, rfl, rfl, Nat.zero_le _⟩
  | d :: ds, h => by
    obtain ⟨p, e, o⟩ := h d List.mem_cons_self
    obtain ⟨ps, e2, a, b, c⟩ := sds fun x hx => h x (List.mem_cons_of_mem _ hx)
    refine ⟨p :: ps, fun M => ?_, by simp [PyData.showableAll, o.s, a], by simp [PyData.hasDictAll, o.d, b], ?_⟩
    · simp only [mapO, e, e2]
    · have := o.w
      simp only [wids, List.length_cons, Nat.add_mul]; omega
theorem sd_tup {n k : Nat} {ds : List D} (h : ∀ d ∈ ds, Sd n k d) : Sd (n + 1) (ds.length * (k + 2) + 4) (.tup ds) := by
  obtain ⟨ps, e, a, b, c⟩ := sds h
  refine ⟨.tuple ps, fun M => ?_, by simpa only [PyData.showable] using a, by simpa only [PyData.hasDict] using b, by simp only [wid]; omega⟩
  show (mapO (py M n) ds).map PyData.tuple = _
  rw [e]; rfl
theorem sd_lst {n k : Nat} {ds : List D} (h : ∀ d ∈ ds, Sd n k d) : Sd (n + 1) (ds.length * (k + 2) + 4) (.lst ds) := by
  obtain ⟨ps, e, a, b, c⟩ := sds h
  refine ⟨.list ps, fun M => ?_, by simpa only [PyData.showable] using a, by simpa only [PyData.hasDict] using b, by simp only [wid]; omega⟩
  show (mapO (py M n) ds).map PyData.list = _
  rw [e]; rfl
theorem repr_sd {k : Nat} {d : D} (h : Sd 8 k d) (hk : k ≤ 1000000) : ∃ x, ∀ M, dRepr d M = .ok (.str x) M := by
  obtain ⟨p, e, o⟩ := h
  refine ⟨p.shown, fun M => ?_⟩
  unfold dRepr
  rw [e]
  exact if_pos (okRepr_of o.s o.d (Nat.le_trans o.w hk))
theorem reprX_sd {k : Nat} {d : D} (h : Sd 8 k d) (hk : k ≤ 1000000) : ∃ x, ∀ M, dReprX d M = .ok (.str x) M := by
  obtain ⟨x, hx⟩ := repr_sd h hk
  refine ⟨x, fun M => ?_⟩
  cases d with
  | dct ks vs => obtain ⟨p, e, _⟩ := h; exact absurd (e M) (by simp [py, leaf])
  | _ => exact hx M
/-! comprehensions with one result per item, over values without references -/
theorem lcC {nf : Nat → Nat} {iv : IV} {vs : List Nat} {g : CGV} {tt : BV} {te : EV} {σ : St3} {M : Mem} {p : D → Bool} {f : D → D} {items : List D} (hi : iv σ M = .ok ⟨items, []⟩ M) (hl : items.length ≤ 1000)
    (hb : ∀ d ∈ items, ∀ M', ∃ σ1, g d (wipe3 σ vs) = some σ1 ∧ tt σ1 M' = .ok (p d) M' ∧ (p d = true → te σ1 M' = .ok (f d) M')) (low : ∀ d ∈ items, p d = true → Clo (f d)) :
    trimR nf M (evLc iv vs g tt te σ M) = .ok (.lst ((items.filter p).map f)) M :=
  lcT_run hi (fun _ => rfl) hl (fun d hd c => hb d hd _) fun d hd hp => low d hd hp _
theorem lcA {nf : Nat → Nat} {iv : IV} {i : Nat} {te : EV} {σ : St3} {M : Mem} {f : D → D} {items : List D} (hi : iv σ M = .ok ⟨items, []⟩ M) (hl : items.length ≤ 1000)
    (hb : ∀ d ∈ items, ∀ M', te ((wipe3 σ [i]).set i (some d)) M' = .ok (f d) M') (low : ∀ d ∈ items, Clo (f d)) :
    trimR nf M (evLc iv [i] (cgName i) bvYes te σ M) = .ok (.lst (items.map f)) M := by
  have := lcC (nf := nf) (p := fun _ => true) (f := f) (g := cgName i) (tt := bvYes) (te := te) (vs := [i]) hi hl (fun d hd M' => ⟨_, rfl, rfl, fun _ => hb d hd M'⟩) fun d hd _ => low d hd
  rw [this, List.filter_eq_self.mpr (fun _ _ => rfl)]

/-! lists as they are walked -/
def upD : Nat → Nat → List D
  | _, 0 => []
  | k, n + 1 => .int (k : Nat) :: upD (k + 1) n
theorem upD_len : ∀ (n k : Nat), (upD k n).length = n
  | 0, _ => rfl
  | n + 1, k => congrArg (· + 1) (upD_len n (k + 1))
theorem upD_eq : ∀ (n k : Nat), upD k n = (List.range' k n).map fun i => D.int ((i : Nat) : Int)
  | 0, _ => rfl
  | n + 1, k => by rw [List.range'_succ, List.map_cons, ← upD_eq n (k + 1)]; rfl
theorem rangeD_up (n : Nat) : rangeD 0 n = upD 0 n := by
  rw [upD_eq]
  unfold rangeD
  rw [List.range_eq_range']
  refine List.map_congr_left fun i _ => ?_
  rw [Int.zero_add]
theorem atI_nat {α : Type} {ds : List α} {k : Nat} : atI ds ((k : Nat) : Int) = ds[k]? := by
  unfold atI ixN
  by_cases h : k < ds.length
  · simp [h]
  · rw [List.getElem?_eq_none (by omega)]
    simp [h]
/-! trimming where the hand has moved -/
def LowC (n : Nat) (c : Cell) : Prop := ∀ rf : Nat → Option D, (∀ k < n, rf k = some (.ref k)) → frzC rf c = some c
def LowM (M : Mem) : Prop := ∀ c ∈ M, LowC M.length c
theorem lowC_lst {n : Nat} {ds : List D} (h : ∀ d ∈ ds, Low n d) : LowC n (.lst ds) := fun rf hr => by
  show (frzDs rf ds).map Cell.lst = _
  rw [low_all hr h]; rfl
theorem LowC.mono {n m : Nat} {c : Cell} (h : LowC n c) (k : n ≤ m) : LowC m c := fun rf hr => h rf fun j hj => hr j (Nat.lt_of_lt_of_le hj k)
theorem lowM_nil : LowM [] := fun c h => absurd h List.not_mem_nil
theorem lowM_ext {M t : Mem} (h : LowM M) (ht : ∀ c ∈ t, LowC (M ++ t).length c) : LowM (M ++ t) := fun c hc => by
  rcases List.mem_append.mp hc with hc | hc
  · exact (h c hc).mono (by simp)
  · exact ht c hc
theorem lowM_set {M : Mem} {k : Nat} {x : Cell} (h : LowM M) (hx : LowC M.length x) : LowM (M.set k x) := fun c hc => by
  rw [List.length_set]
  rcases List.mem_or_eq_of_mem_set hc with hc | hc
  · exact h c hc
  · rw [hc]; exact hx
theorem frzCs_low {rf : Nat → Option D} {n : Nat} (hr : ∀ k < n, rf k = some (.ref k)) : ∀ {M : Mem}, (∀ c ∈ M, LowC n c) → frzCs rf M = some M
  | [], _ => rfl
  | c :: M, h => by
    show (match frzC rf c, frzCs rf M with
      | some a, some b => some (a :: b)
      | _, _ => none) = _
    rw [h c List.mem_cons_self rf hr, frzCs_low hr fun e he => h e (List.mem_cons_of_mem _ he)]
theorem trimW_ok {nf : Nat → Nat} {M M1 t : Mem} {d d' : D} (hl : M1.length = M.length) (low : LowM M1) (hd : frzD (frzR nf M1.length (M1 ++ t) 6) d = some d') : trimW nf M (.ok d (M1 ++ t)) = .ok d' M1 := by
  have tk : (M1 ++ t).take M.length = M1 := by rw [← hl]; simp
  show (if (M1 ++ t).take M.length = M then trimR nf M (.ok d (M1 ++ t)) else (match frzCs (frzR nf M.length (M1 ++ t) 6) ((M1 ++ t).take M.length), frzD (frzR nf M.length (M1 ++ t) 6) d with
    | some M2, some d' => .ok d' M2
    | _, _ => .ok d (M1 ++ t))) = _
  rw [tk, ← hl]
  by_cases z : M1 = M
  · subst z
    rw [if_pos rfl]
    show (if (M1 ++ t).take M1.length = M1 then (match frzD (frzR nf M1.length (M1 ++ t) 6) d with
      | some d' => Res.ok d' M1
      | none => .ok d (M1 ++ t)) else .ok d (M1 ++ t)) = _
    rw [if_pos (by simp), hd]
  · rw [if_neg z, hd, frzCs_low (fun k hk => frzR_low _ k hk) low]
theorem trimW_lst {nf : Nat → Nat} {M M1 t : Mem} {ds : List D} (hl : M1.length = M.length) (low : LowM M1) (h : ∀ d ∈ ds, Low M1.length d) : trimW nf M (.ok (.ref M1.length) (M1 ++ .lst ds :: t)) = .ok (.lst ds) M1 := by
  refine trimW_ok hl low ?_
  show frzR nf M1.length (M1 ++ .lst ds :: t) 6 M1.length = some (.lst ds)
  rw [show (6 : Nat) = 5 + 1 from rfl, frzR, if_neg (Nat.lt_irrefl _)]
  have e : (M1 ++ Cell.lst ds :: t)[M1.length]? = some (.lst ds) := by simp
  rw [e]
  show (frzDs (frzR nf M1.length (M1 ++ .lst ds :: t) 5) ds).map D.lst = _
  rw [low_all (fun k hk => frzR_low _ k hk) h]; rfl
theorem trimW_low {nf : Nat → Nat} {M M1 t : Mem} {d : D} (hl : M1.length = M.length) (low : LowM M1) (h : Low M1.length d) : trimW nf M (.ok d (M1 ++ t)) = .ok d M1 :=
  trimW_ok hl low (h _ fun k hk => frzR_low _ k hk)
theorem trimW_low0 {nf : Nat → Nat} {M M1 : Mem} {d : D} (hl : M1.length = M.length) (low : LowM M1) (h : Low M1.length d) : trimW nf M (.ok d M1) = .ok d M1 := by
  have := trimW_low (nf := nf) (t := []) hl low h
  rwa [List.append_nil] at this
/-- the hand stands, and no cell needs a later one -/
structure HandL (M : Mem) (h c : Nat) : Prop where
  H : HandOk M h c
  L : LowM M
theorem hand_cell {M : Mem} {h c : Nat} {x : Cell} (hl : h < M.length) (H : HandOk (M.set h x) h c) : LowC M.length x := by
  obtain ⟨ne, cells, pos, rest, tot, g, gc, p0, r0⟩ := H
  rw [List.getElem?_set_self hl] at g
  cases g
  have hc : c < M.length := by have := (List.getElem?_eq_some_iff.mp gc).1; simpa using this
  exact lowC_lst (by simp [low_int, low_ref hc])
theorem HandL.set {M : Mem} {h c : Nat} {x : Cell} (H : HandL M h c) (k : HandOk (M.set h x) h c) : HandL (M.set h x) h c := ⟨k, lowM_set H.L (hand_cell H.H.lt.1 k)⟩
theorem HandL.ext {M t : Mem} {h c : Nat} (H : HandL M h c) (ht : ∀ c ∈ t, LowC (M ++ t).length c) : HandL (M ++ t) h c := ⟨hok_ext H.H, lowM_ext H.L ht⟩
theorem HandL.one {M : Mem} {h c : Nat} {ds : List D} (H : HandL M h c) (hd : ∀ d ∈ ds, Clo d) : HandL (M ++ [.lst ds]) h c := H.ext fun c hc => by
  rw [List.mem_singleton.mp hc]
  exact lowC_lst fun d h => hd d h _
theorem HandL.put {M : Mem} {h c k : Nat} {ds : List D} (H : HandL M h c) (h1 : k ≠ h) (h2 : k ≠ c) (hd : ∀ d ∈ ds, Clo d) : HandL (M.set k (.lst ds)) h c := ⟨hok_set H.H h1 h2, lowM_set H.L (lowC_lst fun d h => hd d h _)⟩
/-- drawing -/
theorem drawH {g : Fn3} (T : TakeOk g) {nf : Nat → Nat} {M : Mem} {h c : Nat} (H : HandL M h c) {many : Int} (h0 : 0 < many) (h1 : many < 2 ^ 64) : ∃ d x, 0 ≤ d ∧ d < many ∧ trimR nf M (g [.ref h, .int many] M) = .ok (.int d) (M.set h x) ∧ HandL (M.set h x) h c := by
  obtain ⟨d, x, a, b, e, k⟩ := draw T H.H h0 h1
  exact ⟨d, x, a, b, e, H.set k⟩
theorem handL_new {cells : List Int} {t : Int} : HandL [.lst (cells.map D.int), .lst [.ref 0, .int 0, .int 0, .int t]] 1 0 := by
  have h := handOk_new (M := []) (cells := cells) (t := t)
  refine ⟨h, fun c hc => ?_⟩
  rcases List.mem_cons.mp hc with rfl | hc
  · refine lowC_lst fun d hd => ?_
    obtain ⟨i, _, rfl⟩ := List.mem_map.mp hd
    exact low_int
  · rw [List.mem_singleton.mp hc]
    refine lowC_lst ?_
    simp [low_int, low_ref]
end L3

set_option Elab.async false
set_option linter.all false
set_option maxRecDepth 100000
set_option maxHeartbeats 4000000
namespace L3
open PySem PySem.Spec PyProof.Rows L2

/-! ### running the later terms -/
section
variable {σ : St3} {M : Mem}
@[simp] theorem x_F {g : Fn3} {ar n m : Nat} {perm : List Nat} {dd : List D} {av ak : AV} : evF g ar perm dd n m av ak σ M = (av σ M).bind fun xs M1 => (ak σ M1).bind fun ys M2 => if xs.length = n ∧ ys.length = m ∧ (pk perm (xs ++ ys ++ dd)).length = ar then g (pk perm (xs ++ ys ++ dd)) M2 else .no := rfl
@[simp] theorem x_3 {op op' : D → D → Mem → Res D} {a b c : EV} : ev3 op op' a b c σ M = (a σ M).bind fun x M1 => (b σ M1).bind fun y M2 => (op x y M2).bind fun z M3 => match z with
  | .bl true => (c σ M3).bind fun w M4 => op' y w M4
  | .bl false => .ok (.bl false) M3
  | _ => .no := rfl
@[simp] theorem x_trimW {nf : Nat → Nat} {e : EV} : evTrimW nf e σ M = trimW nf M (e σ M) := rfl
def Res.list (cell : Bool) (ok : Nat → Bool) (r : Res (List D)) : Res D := match r with
  | .ok yd M2 => newL cell yd M2
  | .exc c es M2 => if ok c = true then .exc c es M2 else .no
  | .no => .no
@[simp] theorem list_ok {cell : Bool} {ok : Nat → Bool} {yd : List D} : Res.list cell ok (.ok yd M) = newL cell yd M := rfl
@[simp] theorem list_exc {cell : Bool} {ok : Nat → Bool} {c : Nat} {ds : List D} : Res.list cell ok (.exc c ds M) = if ok c = true then .exc c ds M else .no := rfl
@[simp] theorem x_listG {cell : Bool} {g : FnL} {ar : Nat} {ok : Nat → Bool} {av : AV} : evListG cell g ar ok av σ M = (av σ M).bind fun ds M1 => if ds.length = ar then Res.list cell ok (g ds M1) else .no := rfl
def Out.catch_ (cl : List ClS) (o : Out) : Out := match o with
  | .exc c ds σ' M' => handle cl c ds σ' M'
  | o => o
@[simp] theorem catch_nx {cl : List ClS} : Out.catch_ cl (.nx σ M) = .nx σ M := rfl
@[simp] theorem catch_rt {cl : List ClS} {d : D} : Out.catch_ cl (.rt d M) = .rt d M := rfl
@[simp] theorem catch_bk {cl : List ClS} : Out.catch_ cl (.bk σ M) = .bk σ M := rfl
@[simp] theorem catch_ct {cl : List ClS} : Out.catch_ cl (.ct σ M) = .ct σ M := rfl
@[simp] theorem catch_exc {cl : List ClS} {c : Nat} {ds : List D} : Out.catch_ cl (.exc c ds σ M) = handle cl c ds σ M := rfl
@[simp] theorem y_try {b : SV} {cl : List ClS} : svTry b cl σ M = Out.catch_ cl (b σ M) := rfl
@[simp] theorem y_raise {c n : Nat} {av : AV} : svRaise c n av σ M = (av σ M).out σ fun ds M1 => if ds.length = n ∧ n ≤ 900 then .exc c ds σ M1 else .no := rfl
@[simp] theorem i_Enum {t : AV} : ivEnum t σ M = (t σ M).bind fun ds M1 => match (oneD ds).bind (srcOf M1) with
  | some (_, s) => .ok ⟨enumD 0 s.items, s.watch⟩ M1
  | none => .no := rfl
@[simp] theorem end_exc {c : Nat} {ds : List D} : endB (.exc c ds σ M) = .exc c ds M := rfl
@[simp] theorem d_max2 {i j : Int} : dMax2 (.int i) (.int j) M = .ok (.int (if j > i then j else i)) M := rfl
@[simp] theorem d_min2 {i j : Int} : dMin2 (.int i) (.int j) M = .ok (.int (if j < i then j else i)) M := rfl
@[simp] theorem d_isB {b c : Bool} : dIsB false (.bl c) (.bl b) M = .ok (.bl (c == b)) M := rfl
@[simp] theorem d_isBN {b : Bool} : dIsB false .non (.bl b) M = .ok (.bl false) M := rfl
@[simp] theorem d_isN {x : D} : dIsN x .non M = .ok (.bl (isNon x)) M := rfl
@[simp] theorem d_notN {x : D} : dNotN x .non M = .ok (.bl (!isNon x)) M := rfl
@[simp] theorem d_intB {b : Bool} : dInt (.bl b) M = .ok (.int (if b then 1 else 0)) M := rfl
@[simp] theorem d_lenL {ds : List D} : dLen (.lst ds) M = .ok (.int (ds.length : Nat)) M := rfl
@[simp] theorem d_lenT {ds : List D} : dLen (.tup ds) M = .ok (.int (ds.length : Nat)) M := rfl
theorem tupOf_l {ds : List D} (h : ds.length ≤ 1000) : dTupOf (.lst ds) M = .ok (.tup ds) M := if_pos (Nat.le_trans h (by decide))
@[simp] theorem tupOf_t {ds : List D} : dTupOf (.tup ds) M = .ok (.tup ds) M := rfl
theorem tupOf_r {n : Nat} {ds : List D} (hn : M[n]? = some (.lst ds)) (h : ds.length ≤ 1000) : dTupOf (.ref n) M = .ok (.tup ds) M := by
  show (match (match M[n]? with
    | some (.lst ds) => some ds
    | _ => none) with
    | some ds => if ds.length ≤ sizeLine then Res.ok (D.tup ds) M else .no
    | none => .no) = _
  rw [hn]
  exact if_pos (Nat.le_trans h (by decide))
theorem listOf_lF {ds : List D} (h : ds.length ≤ 1000) : dListOf false (.lst ds) M = .ok (.lst ds) M := newF h
theorem listOf_tF {ds : List D} (h : ds.length ≤ 1000) : dListOf false (.tup ds) M = .ok (.lst ds) M := newF h
theorem listOf_lC {ds : List D} (h : ds.length ≤ 1000) : dListOf true (.lst ds) M = .ok (.ref M.length) (M ++ [.lst ds]) := newC h
theorem listOf_rF {n : Nat} {ds : List D} (hn : M[n]? = some (.lst ds)) (h : ds.length ≤ 1000) : dListOf false (.ref n) M = .ok (.lst ds) M := by
  show (match (match M[n]? with
    | some (.lst ds) => some ds
    | _ => none) with
    | some ds => newL false ds M
    | none => .no) = _
  rw [hn]
  exact newF h
@[simp] theorem srcL {ds : List D} : srcOf M (.lst ds) = some (false, ⟨ds, []⟩) := rfl
@[simp] theorem srcT {ds : List D} : srcOf M (.tup ds) = some (true, ⟨ds, []⟩) := rfl
theorem ixL {ds : List D} {k : Nat} {d : D} (h : ds[k]? = some d) : dIx (.lst ds) (.int (k : Nat)) M = .ok d M := by
  show (match atI ds ((k : Nat) : Int) with
    | some d => Res.ok d M
    | none => .no) = _
  rw [atI_nat, h]
theorem ixT {ds : List D} {k : Nat} {d : D} (h : ds[k]? = some d) : dIx (.tup ds) (.int (k : Nat)) M = .ok d M := by
  show (match atI ds ((k : Nat) : Int) with
    | some d => Res.ok d M
    | none => .no) = _
  rw [atI_nat, h]
end
def Out.into (o : Out) (b k : SV) : Out := match o with
  | .nx σ1 M1 => (b σ1 M1).nxt k
  | .exc c ds σ1 M1 => .exc c ds σ1 M1
  | _ => .no
@[simp] theorem into_nx {b k : SV} {σ : St3} {M : Mem} : (Out.nx σ M).into b k = (b σ M).nxt k := rfl
@[simp] theorem into_exc {b k : SV} {σ : St3} {M : Mem} {c : Nat} {ds : List D} : (Out.exc c ds σ M).into b k = .exc c ds σ M := rfl
theorem loopG_cons {g : GV} {b : SV} {d : D} {r : List D} {σ : St3} {M : Mem} : svLoop [] g b (d :: r) σ M = (g d σ M).into b (svLoop [] g b r) := rfl
theorem loopW_cons {w : List (Nat × List D)} {g : GV} {b : SV} {d : D} {r : List D} {σ : St3} {M : Mem} (h : watched w M = true) : svLoop w g b (d :: r) σ M = (g d σ M).into b (svLoop w g b r) := if_pos h
theorem loopW_nil {w : List (Nat × List D)} {g : GV} {b : SV} {σ : St3} {M : Mem} (h : watched w M = true) : svLoop w g b [] σ M = .nx σ M := if_pos h
theorem tup2_x {g h : GV} {a b : D} {σ : St3} {M : Mem} : gvTup 2 (gvCons g (gvCons h gvNil)) (.tup [a, b]) σ M = (g a σ M).seq (gvCons h gvNil [b]) := rfl
theorem enum_cons {k : Nat} {d : D} {r : List D} : enumD k (d :: r) = .tup [.int (k : Nat), d] :: enumD (k + 1) r := rfl
/-! comprehensions with two fors -/
theorem lc2_run {w : List (Nat × List D)} {g g1 : CGV} {tt tt1 : BV} {iv1 : IV} {vs1 : List Nat} {te : EV} {σ : St3} {M : Mem} {f : D → List D} {h : D → D → D} (hw : ∀ c, watched w (M ++ [c]) = true) : ∀ (items acc : List D), acc.length + (items.flatMap f).length ≤ 1000 →
    (∀ d ∈ items, ∀ c, ∃ σ1, g d σ = some σ1 ∧ tt σ1 (M ++ [c]) = .ok true (M ++ [c]) ∧ iv1 σ1 (M ++ [c]) = .ok ⟨f d, []⟩ (M ++ [c]) ∧ ∀ e ∈ f d, ∀ c, ∃ σ2, g1 e (wipe3 σ1 vs1) = some σ2 ∧ tt1 σ2 (M ++ [c]) = .ok true (M ++ [c]) ∧ te σ2 (M ++ [c]) = .ok (h d e) (M ++ [c])) →
    lcLoop2 w M.length g tt iv1 vs1 g1 tt1 te σ items (M ++ [.lst acc]) = some (M ++ [.lst (acc ++ items.flatMap fun d => (f d).map (h d))])
  | [], acc, _, _ => by simp [lcLoop2, hw]
  | d :: r, acc, hl, hb => by
    obtain ⟨σ1, e1, e2, e3, e4⟩ := hb d List.mem_cons_self (.lst acc)
    rw [List.flatMap_cons, List.length_append] at hl
    have inner := lc_run (w := []) (g := g1) (tt := tt1) (te := te) (σ := wipe3 σ1 vs1) (M := M) (p := fun _ => true) (f := h d) (fun _ => rfl) (f d) acc (by omega) fun e he c => by
      obtain ⟨σ2, a1, a2, a3⟩ := e4 e he c
      exact ⟨σ2, a1, a2, fun _ => a3⟩
    rw [List.filter_eq_self.mpr (fun _ _ => rfl)] at inner
    unfold lcLoop2
    rw [if_pos (hw _)]
    simp only [e1, e2, if_true, e3, inner]
    rw [lc2_run hw r (acc ++ (f d).map (h d)) (by rw [List.length_append, List.length_map]; omega) fun e he => hb e (List.mem_cons_of_mem _ he)]
    simp
theorem lc2T {nf : Nat → Nat} {iv iv1 : IV} {vs vs1 : List Nat} {g g1 : CGV} {tt tt1 : BV} {te : EV} {σ : St3} {M : Mem} {f : D → List D} {h : D → D → D} {items : List D} (hi : iv σ M = .ok ⟨items, []⟩ M) (hl : (items.flatMap f).length ≤ 1000)
    (hb : ∀ d ∈ items, ∀ M', ∃ σ1, g d (wipe3 σ vs) = some σ1 ∧ tt σ1 M' = .ok true M' ∧ iv1 σ1 M' = .ok ⟨f d, []⟩ M' ∧ ∀ e ∈ f d, ∀ M', ∃ σ2, g1 e (wipe3 σ1 vs1) = some σ2 ∧ tt1 σ2 M' = .ok true M' ∧ te σ2 M' = .ok (h d e) M') (low : ∀ d ∈ items, ∀ e ∈ f d, Clo (h d e)) :
    trimR nf M (evLc2 iv vs g tt iv1 vs1 g1 tt1 te σ M) = .ok (.lst (items.flatMap fun d => (f d).map (h d))) M := by
  unfold evLc2
  rw [hi]
  show trimR nf M (match lcLoop2 [] M.length g tt iv1 vs1 g1 tt1 te (wipe3 σ vs) items (M ++ [.lst []]) with
    | some M2 => Res.ok (.ref M.length) M2
    | none => .no) = _
  rw [lc2_run (f := f) (h := h) (fun _ => rfl) items [] (by simpa using hl) fun d hd c => by
    obtain ⟨σ1, a, b, e, k⟩ := hb d hd (M ++ [c])
    exact ⟨σ1, a, b, e, fun e he c => k e he _⟩]
  refine trim_lst (t := []) fun d hd => ?_
  rw [List.nil_append] at hd
  obtain ⟨e, he, hd⟩ := List.mem_flatMap.mp hd
  obtain ⟨y, hy, rfl⟩ := List.mem_map.mp hd
  exact low e he y hy _
/-! ints -/
theorem intsOf_map : ∀ ns : List Int, intsOf (ns.map D.int) = some ns
  | [] => rfl
  | n :: ns => by
    show (intsOf (ns.map D.int)).map (n :: ·) = _
    rw [intsOf_map ns]; rfl
theorem firsts_fold (ns : List Int) : firsts ns = ns.foldl step_dedup [] := by
  unfold firsts firstMet
  congr 1
  refine List.ext_getElem (by simp) fun i h1 h2 => ?_
  simp at h1
  simp [h1]
theorem d_maxS {ns : List Int} {n : Int} {M : Mem} {t : Bool} : dMaxS (if t then .tup ((n :: ns).map D.int) else .lst ((n :: ns).map D.int)) M = .ok (.int (maxI (n :: ns))) M := by
  have e : dMaxL (.lst ((n :: ns).map D.int)) M = .ok (.int (maxI (n :: ns))) M := by
    show (match (intsOf ((n :: ns).map D.int)) with
      | some ns => (match (if ns = [] then none else some (D.int (maxI ns))) with
        | some d => Res.ok d M
        | none => .no)
      | none => .no) = _
    rw [intsOf_map]
    simp
  cases t <;> exact e
theorem inR_s {i : Int} (h0 : 0 ≤ i) (h1 : i < 1000000000) : L3.inR i = true := by
  unfold L3.inR
  rw [decide_eq_true (show -(2 ^ 62) ≤ i by omega), decide_eq_true (show i < 2 ^ 62 by omega)]; rfl
theorem ivR1_j {t : AV} {σ : St3} {M M1 : Mem} {j : Int} (h : t σ M = .ok [.int j] M1) (hj : L3.inR j = true) : ivR1 t σ M = .ok ⟨rangeD 0 j.toNat, []⟩ M1 := by
  rw [i_R1, h]
  exact if_pos hj
theorem ivR1_n {t : AV} {σ : St3} {M M1 : Mem} {n : Nat} (h : t σ M = .ok [.int ((n : Nat) : Int)] M1) (hn : n < 1000000000) : ivR1 t σ M = .ok ⟨upD 0 n, []⟩ M1 := by
  rw [ivR1_j h (inR_s (by omega) (by omega)), Int.toNat_natCast, rangeD_up]
@[simp] theorem isNon_int {i : Int} : L3.isNon (.int i) = false := rfl
@[simp] theorem isNon_bl {i : Bool} : L3.isNon (.bl i) = false := rfl
@[simp] theorem isNon_str {i : Str} : L3.isNon (.str i) = false := rfl
@[simp] theorem isNon_tup {i : List D} : L3.isNon (.tup i) = false := rfl
@[simp] theorem isNon_lst {i : List D} : L3.isNon (.lst i) = false := rfl
@[simp] theorem isNon_non : L3.isNon .non = true := rfl
theorem d_mulL {c : Bool} {a : List D} {j : Int} {M : Mem} (h : -(2 ^ 63) ≤ j ∧ j < 2 ^ 63) : dMul c (.lst a) (.int j) M = newL c (List.replicate j.toNat a).flatten M := if_pos h
/-! generators' bodies -/
def GOut.seq (o : GOut) (b : GSV) : GOut := match o with
  | .nx yd σ M => b yd σ M
  | o => o
def Out.gen (yd : List D) (o : Out) : GOut := match o with
  | .nx σ M => .nx yd σ M
  | .rt d M => .rt yd d M
  | .bk σ M => .bk yd σ M
  | .ct σ M => .ct yd σ M
  | .exc c ds σ M => .exc c ds σ M
  | .no => .no
def GOut.nxt (o : GOut) (k : GSV) : GOut := match o with
  | .nx yd σ M => k yd σ M
  | .ct yd σ M => k yd σ M
  | .bk yd σ M => .nx yd σ M
  | o => o
section
variable {yd : List D} {σ : St3} {M : Mem}
@[simp] theorem gseq_nx {b : GSV} : (GOut.nx yd σ M).seq b = b yd σ M := rfl
@[simp] theorem gseq_exc {b : GSV} {c : Nat} {ds : List D} : (GOut.exc c ds σ M).seq b = .exc c ds σ M := rfl
@[simp] theorem gseq_rt {b : GSV} {d : D} : (GOut.rt yd d M).seq b = .rt yd d M := rfl
@[simp] theorem gen_nx : Out.gen yd (.nx σ M) = .nx yd σ M := rfl
@[simp] theorem gen_exc {c : Nat} {ds : List D} : Out.gen yd (.exc c ds σ M) = .exc c ds σ M := rfl
@[simp] theorem gen_rt {d : D} : Out.gen yd (.rt d M) = .rt yd d M := rfl
@[simp] theorem gnxt_nx {k : GSV} : (GOut.nx yd σ M).nxt k = k yd σ M := rfl
@[simp] theorem gend_nx : endN (.nx yd σ M) = .ok yd M := rfl
@[simp] theorem gend_exc {c : Nat} {ds : List D} : endN (.exc c ds σ M) = .exc c ds M := rfl
theorem g_seq {a b : GSV} : gvSeq a b yd σ M = (a yd σ M).seq b := rfl
theorem g_P {sv : SV} : gvP sv yd σ M = Out.gen yd (sv σ M) := rfl
theorem g_next : gvNext yd σ M = .nx yd σ M := rfl
theorem g_Y {e : EV} {d : D} (h : e σ M = .ok d M) (hl : yd.length ≤ 1000) : gvY e yd σ M = .nx (yd ++ [d]) σ M := by
  unfold gvY
  rw [if_pos (Nat.lt_of_le_of_lt hl (by decide)), h]
theorem g_For {iv : IV} {g : GV} {b : GSV} {s : Src} {M1 : Mem} (h : iv σ M = .ok s M1) : gvFor iv g b yd σ M = gvLoop s.watch g b s.items yd σ M1 := by
  unfold gvFor
  rw [h]
theorem g_loop_nil {g : GV} {b : GSV} : gvLoop [] g b [] yd σ M = .nx yd σ M := rfl
theorem g_loop_cons {i : Nat} {b : GSV} {d : D} {r : List D} : gvLoop [] (gvName i) b (d :: r) yd σ M = (b yd (σ.set i (some d)) M).nxt fun yd σ M => gvLoop [] (gvName i) b r yd σ M := rfl
end
end L3

set_option Elab.async false
set_option linter.all false
set_option maxRecDepth 100000
set_option maxHeartbeats 4000000
namespace L3
open PySem PySem.Spec PyProof.Rows L2

/-! ### drawing while a list is under way -/
theorem set_app {M t : Mem} {k : Nat} {x : Cell} (h : k < M.length) : (M ++ t).set k x = M.set k x ++ t := List.set_append_left k x h
theorem HandL.pre {M t : Mem} {h c : Nat} {x : Cell} (H : HandL M h c) (k : HandOk ((M ++ t).set h x) h c) : HandL (M.set h x) h c := by
  obtain ⟨hl, cl⟩ := H.H.lt
  have ne := H.H.ne
  obtain ⟨_, cells0, _, _, _, _, gc0, _, _⟩ := H.H
  obtain ⟨_, cells, pos, rest, tot, g, gc, p0, r0⟩ := k
  rw [set_app hl] at g gc
  rw [List.getElem?_append_left (by simpa using hl)] at g
  rw [List.getElem?_append_left (by simpa using cl)] at gc
  exact H.set ⟨ne, cells, pos, rest, tot, g, gc, p0, r0⟩
theorem drawTop {g : Fn3} (T : TakeOk g) {nf : Nat → Nat} {M t : Mem} {h c : Nat} (H : HandL M h c) {many : Int} (h0 : 0 < many) (h1 : many < 2 ^ 64) :
    ∃ d x, 0 ≤ d ∧ d < many ∧ trimR nf (M ++ t) (g [.ref h, .int many] (M ++ t)) = .ok (.int d) (M.set h x ++ t) ∧ HandL (M.set h x) h c := by
  obtain ⟨d, x, a, b, e, k⟩ := draw T (nf := nf) (hok_ext (t := t) H.H) h0 h1
  rw [set_app H.H.lt.1] at e
  exact ⟨d, x, a, b, e, H.pre k⟩
theorem top_at {M : Mem} {c : Cell} : (M ++ [c])[M.length]? = some c := by simp
theorem top_set {M : Mem} {c d : Cell} : (M ++ [c]).set M.length d = M ++ [d] := by simp
theorem set_len {M : Mem} {k : Nat} {x : Cell} : (M.set k x).length = M.length := List.length_set
theorem insert_R {M : Mem} {n k : Nat} {ds : List D} {y : D} (h : M[n]? = some (.lst ds)) (hz : ds.length ≤ 1000) (hk : k ≤ 1000) : dInsert (.ref n) [.int ((k : Nat) : Int), y] M = .ok .non (M.set n (.lst (ds.take k ++ [y] ++ ds.drop k))) := by
  have e : cellOf M (.ref n) = some (n, ds) := by
    show (match M[n]? with
      | some (.lst ds) => some (n, ds)
      | _ => none) = _
    rw [h]
  have gen : ∀ j : Int, 0 ≤ j → j < 2 ^ 63 → dInsert (.ref n) [.int j, y] M = .ok .non (M.set n (.lst (ds.take j.toNat ++ [y] ++ ds.drop j.toNat))) := fun j j0 j1 => by
    unfold dInsert
    rw [e]
    exact if_pos ⟨Nat.lt_of_le_of_lt hz (by decide), j0, j1⟩
  have := gen ((k : Nat) : Int) (by omega) (by omega)
  rwa [Int.toNat_natCast] at this
theorem cut_take {ds : List D} {n : Nat} : L3.cutD ds none (some ((n : Nat) : Int)) = ds.take n := by
  unfold L3.cutD
  rw [HT.sIx_nat, HT.sIx_none, List.drop_zero, Nat.sub_zero]
  rw [List.take_eq_take_iff]
  omega
theorem sl_take {M : Mem} {k n : Nat} {ds : List D} (h : M[k]? = some (.lst ds)) (hl : ds.length ≤ 1000) : dSl false (.ref k) none (some ((n : Nat) : Int)) M = .ok (.lst (ds.take n)) M := by
  have e : L3.listOf M (.ref k) = some ds := by
    show (match M[k]? with
      | some (.lst ds) => some ds
      | _ => none) = _
    rw [h]
  show (match L3.listOf M (.ref k) with
    | some ds => newL false (L3.cutD ds none (some ((n : Nat) : Int))) M
    | none => .no) = _
  rw [e, ← cut_take]
  exact newF (by rw [cut_take, List.length_take]; omega)
end L3

set_option Elab.async false
set_option linter.all false
set_option maxRecDepth 100000
set_option maxHeartbeats 4000000
namespace K03
open PySem PySem.Spec PyProof.Rows L2 L3
def TT : List (List Nat) := []
def XT : List (List Nat) := [[], [0], [1]]
def sub_SlopeError (k : Nat) : Option Bool := ([some true, some true, some true] : List (Option Bool)).getD k none
def sub_BadGrouping (k : Nat) : Option Bool := ([some false, some true, some false] : List (Option Bool)).getD k none
def sub_BadCount (k : Nat) : Option Bool := ([some false, some false, some true] : List (Option Bool)).getD k none
def s_is_sequence : SV := (svRet (ev1 (dIsT [.list, .tuple]) (evVar 0)))
def g_is_sequence : Fn3 := fnB 1 s_is_sequence
def s_is_whole : SV := (svSeq (svIf (bvOr (bvNot (bvT (evA (a2 dIsi) (avCons (evVar 0) (avCons (evC (.ty .int)) avNil))))) (bvT (evA (a2 dIsi) (avCons (evVar 0) (avCons (evC (.ty .bool)) avNil))))) (svRet (evC (.bl false))) svNext)
    (svSeq (svIf (bvAnd (bvE (ev2 dNotN (evVar 1) (evC .non))) (bvE (ev2 dLt (evVar 0) (evVar 1)))) (svRet (evC (.bl false))) svNext)
    (svRet (evOr (ev2 dIsN (evVar 2) (evC .non)) (ev2 dLe (evVar 0) (evVar 2))))))
def g_is_whole : Fn3 := fnB 3 s_is_whole
def b_check_grouping_1 : SV := (svSeq (svIf (bvAnd (bvE (ev2 dIsN (evVar 5) (evC .non))) (bvT (evVar 2))) svCont svNext)
    (svSeq (svIf (bvNot (bvT (evTrim (nfT TT) (evF g_is_whole 3 [0, 1, 2] [.non, .non] 3 0 (avCons (evVar 5) (avCons (evC (.int 0)) (avCons (evVar 3) avNil))) avNil)))) (svRaise 1 1 (avCons (evVar 4) avNil)) svNext)
    (svSet 3 (evA (a2 dMax2) (avCons (evVar 3) (avCons (ev2 (dAdd false) (evVar 5) (evC (.int 1))) avNil))))))
def s_check_grouping : SV := (svSeq (svIf (bvNot (bvT (evTrim (nfT TT) (evCall g_is_sequence 1 [] (avCons (evVar 1) avNil))))) (svRaise 1 1 (avCons (evC (.int 0)) avNil)) svNext)
    (svSeq (svSet 3 (evC (.int 0)))
    (svSeq (svFor (ivEnum (avCons (evVar 1) avNil)) (gvTup 2 (gvCons (gvName 4) (gvCons (gvName 5) gvNil))) b_check_grouping_1)
    (svSeq (svIf (bvE (ev2 dNeS (evA (a1 dLen) (avCons (evVar 1) avNil)) (evVar 0))) (svRaise 1 1 (avCons (evA (a2 dMin2) (avCons (evA (a1 dLen) (avCons (evVar 1) avNil)) (avCons (evVar 0) avNil))) avNil)) svNext)
    (svRet (evA (a1 dTupOf) (avCons (evVar 1) avNil)))))))
def g_check_grouping : Fn3 := fnB 6 s_check_grouping
def s_groups_many : SV := (svRet (ev1 dLenSet (evTrim (nfT TT) (evLc (ivSeq (evVar 0)) [1] (cgName 1) (bvE (ev2 dNotN (evVar 1) (evC .non))) (evVar 1)))))
def g_groups_many : Fn3 := fnB 2 s_groups_many
def s_check_count : SV := (svSeq (svIf (bvNot (bvT (evTrim (nfT TT) (evF g_is_whole 3 [0, 1, 2] [.non, .non] 3 0 (avCons (evVar 0) (avCons (evC (.int 1)) (avCons (evC (.int 6)) avNil))) avNil)))) (svRaise 2 1 (avCons (evVar 0) avNil)) svNext)
    (svRet (evVar 0)))
def g_check_count : Fn3 := fnB 1 s_check_count
def b_all_groupings_1 : GSV := (gvSeq (gvY (evVar 3))
    gvNext)
def e_all_groupings_2 : EV := (ev2 (dAdd false) (evVar 3) (evA mkTup (avCons (evVar 4) avNil)))
def i_all_groupings_2 : IV := (ivR1 (avCons (ev2 (dAdd false) (evTrim (nfT TT) (evCall g_groups_many 1 [] (avCons (evVar 3) avNil))) (evC (.int 1))) avNil))
def b_all_groupings_3 : SV := (svSet 1 (evTrim (nfT TT) (evLc2 (ivSeq (evVar 1)) [3, 4] (cgName 3) bvYes i_all_groupings_2 [4] (cgName 4) bvYes e_all_groupings_2)))
def s_all_groupings : GSV := (gvSeq (gvP (svE (evTrim (nfT TT) (evCall g_check_count 1 [] (avCons (evVar 0) avNil)))))
    (gvSeq (gvP (svSet 1 (evA mkLst (avCons (evA mkTup avNil) avNil))))
    (gvSeq (gvP (svFor (ivR1 (avCons (evVar 0) avNil)) (gvName 2) b_all_groupings_3))
    (gvSeq (gvFor (ivSeq (evVar 1)) (gvName 3) b_all_groupings_1)
    gvNext))))
def g_all_groupings : FnL := fnN 5 s_all_groupings
def okx_all_groupings (c : Nat) : Bool := decide (c = 2)
def b_count_groupings_1 : SV := (svSeq (svAsg (ev2 (dAdd false) (ev2 dIx (evVar 3) (evVar 4)) (ev2 (dMul false) (evVar 4) (evVar 5))) (gvSub (evVar 3) (evVar 4) stL))
    (svAsg (ev2 (dAdd false) (ev2 dIx (evVar 3) (ev2 (dAdd false) (evVar 4) (evC (.int 1)))) (evVar 5)) (gvSub (evVar 3) (ev2 (dAdd false) (evVar 4) (evC (.int 1))) stL)))
def b_count_groupings_2 : SV := (svSeq (svSet 3 (ev2 (dMul true) (evA mkLst (avCons (evC (.int 0)) avNil)) (ev2 (dAdd false) (evA (a1 dLen) (avCons (evVar 1) avNil)) (evC (.int 1)))))
    (svSeq (svFor (ivEnum (avCons (evVar 1) avNil)) (gvTup 2 (gvCons (gvName 4) (gvCons (gvName 5) gvNil))) b_count_groupings_1)
    (svSet 1 (evVar 3))))
def s_count_groupings : SV := (svSeq (svE (evTrim (nfT TT) (evCall g_check_count 1 [] (avCons (evVar 0) avNil))))
    (svSeq (svSet 1 (evA mkLst (avCons (evC (.int 1)) avNil)))
    (svSeq (svFor (ivR1 (avCons (evVar 0) avNil)) (gvName 2) b_count_groupings_2)
    (svRet (evA (a1 dSumS) (avCons (evVar 1) avNil))))))
def g_count_groupings : Fn3 := fnB 6 s_count_groupings
def e_book_of_1 : EV := (evIf (bvE (ev2 dEqS (evVar 3) (evVar 2))) (evC (.int 1)) (evC (.int 0)))
def b_book_of_2 : SV := (svE (evM isL dAppend (evVar 1) (avCons (evA mkTup (avCons (evC (.str (PySem.Str.ofString "column"))) (avCons (evA (a1 dTupOf) (avCons (evTrim (nfT TT) (evLc (ivSeq (evVar 0)) [3] (cgName 3) bvYes e_book_of_1)) avNil)) avNil))) avNil)))
def s_book_of : SV := (svSeq (svSet 1 (evA mkCell avNil))
    (svSeq (svFor (ivR1 (avCons (evTrim (nfT TT) (evCall g_groups_many 1 [] (avCons (evVar 0) avNil))) avNil)) (gvName 2) b_book_of_2)
    (svRet (evA (a1 dTupOf) (avCons (evVar 1) avNil)))))
def g_book_of : Fn3 := fnB 4 s_book_of
def b__law_hand_1 : SV := (svSeq (svSet 1 (ev2 dMod (evA (a1 dInt) (avCons (ev2 (dAdd false) (ev2 (dMul false) (evVar 1) (evC (.int 1709))) (evA (a1 dInt) (avCons (evVar 3) avNil))) avNil)) (evC (.int 2147483549))))
    (svE (evM isL dAppend (evVar 2) (avCons (evA (a1 dAbs) (avCons (evA (a1 dInt) (avCons (evVar 3) avNil)) avNil)) avNil))))
def s__law_hand : SV := (svSeq (svSet 1 (ev2 (dAdd false) (evA (a1 dLen) (avCons (evVar 0) avNil)) (evC (.int 37))))
    (svSeq (svSet 2 (evA mkCell avNil))
    (svSeq (svFor (ivSeq (evVar 0)) (gvName 3) b__law_hand_1)
    (svRet (evA mkCell (avCons (evVar 2) (avCons (evC (.int 0)) (avCons (evC (.int 0)) (avCons (evVar 1) avNil)))))))))
def g__law_hand : Fn3 := fnB 4 s__law_hand
def s__law_mixed : SV := (svSeq (svSet 2 (ev2 dMod (evA (a1 dInt) (avCons (ev2 (dAdd false) (ev2 (dAdd false) (ev2 (dMul false) (evVar 0) (evC (.int 48271))) (ev2 (dMul false) (evVar 1) (evC (.int 7919)))) (evC (.int 30011))) avNil)) (evC (.int 2147483399))))
    (svSeq (svSet 3 (ev2 dMod (evA (a1 dInt) (avCons (ev2 (dAdd false) (ev2 (dAdd false) (ev2 (dMul false) (evVar 2) (evVar 2)) (ev2 (dMul false) (evVar 1) (evC (.int 92821)))) (ev2 dDiv (evVar 2) (evC (.int 131)))) avNil)) (evC (.int 2147483629))))
    (svRet (ev2 dDiv (evA (a1 dInt) (avCons (ev2 dMod (evA (a1 dInt) (avCons (ev2 (dAdd false) (ev2 (dMul false) (evVar 3) (evC (.int 69621))) (ev2 dDiv (evVar 2) (evC (.int 13)))) avNil)) (evC (.int 2147483587))) avNil)) (evC (.int 32))))))
def g__law_mixed : Fn3 := fnB 4 s__law_mixed
def s__law_take : SV := (svSeq (svIf (bvAnd (bvE (ev2 dEqS (ev2 dIx (evVar 0) (evC (.int 2))) (evC (.int 0)))) (bvE (ev2 dLt (ev2 dIx (evVar 0) (evC (.int 1))) (evA (a1 dLen) (avCons (ev2 dIx (evVar 0) (evC (.int 0))) avNil))))) (svSeq (svSet 2 (ev2 dIx (ev2 dIx (evVar 0) (evC (.int 0))) (ev2 dIx (evVar 0) (evC (.int 1)))))
    (svSeq (svAsg (ev2 (dAdd false) (ev2 dIx (evVar 0) (evC (.int 1))) (evC (.int 1))) (gvSub (evVar 0) (evC (.int 1)) stL))
    (svSeq (svIf (bvE (ev2 dLt (evVar 2) (ev2 dPow (evC (.int 10)) (evC (.int 18))))) (svRet (ev2 dMod (evA (a1 dInt) (avCons (evTrim (nfT TT) (evCall g__law_mixed 2 [] (avCons (ev2 dMod (evA (a1 dInt) (avCons (evVar 2) avNil)) (evC (.int 2147483399))) (avCons (ev2 dIx (evVar 0) (evC (.int 1))) avNil)))) avNil)) (evVar 1))) svNext)
    (svAsg (evVar 2) (gvSub (evVar 0) (evC (.int 2)) stL))))) svNext)
    (svSeq (svIf (bvE (ev2 dGt (ev2 dIx (evVar 0) (evC (.int 2))) (evC (.int 0)))) (svSeq (svSet 3 (ev2 dIx (evVar 0) (evC (.int 2))))
    (svSeq (svAsg (ev2 dDiv (evA (a1 dInt) (avCons (evVar 3) avNil)) (evVar 1)) (gvSub (evVar 0) (evC (.int 2)) stL))
    (svRet (ev2 dMod (evA (a1 dInt) (avCons (evVar 3) avNil)) (evVar 1))))) svNext)
    (svSeq (svAsg (ev2 dMod (evA (a1 dInt) (avCons (ev2 (dAdd false) (ev2 dIx (evVar 0) (evC (.int 3))) (evC (.int 1))) avNil)) (evC (.int 2147483549))) (gvSub (evVar 0) (evC (.int 3)) stL))
    (svRet (ev2 dMod (evA (a1 dInt) (avCons (evTrim (nfT TT) (evCall g__law_mixed 2 [] (avCons (ev2 dIx (evVar 0) (evC (.int 3))) (avCons (ev2 dIx (evVar 0) (evC (.int 1))) avNil)))) avNil)) (evVar 1))))))
def g__law_take : Fn3 := fnB 4 s__law_take
def s__law_many : SV := (svRet (evIf (bvT (evVar 0)) (ev2 (dAdd false) (evA (a1 dMaxS) (avCons (evVar 0) avNil)) (evC (.int 1))) (evC (.int 0))))
def g__law_many : Fn3 := fnB 1 s__law_many
def b__law_grouping_1 : SV := (svE (evM isL dAppend (evVar 2) (avCons (evTrim (nfT TT) (evCall g__law_take 2 [] (avCons (evVar 0) (avCons (ev2 (dAdd false) (evC (.int 1)) (evTrim (nfT TT) (evCall g__law_many 1 [] (avCons (evVar 2) avNil)))) avNil)))) avNil)))
def s__law_grouping : SV := (svSeq (svSet 2 (evA mkCell avNil))
    (svSeq (svFor (ivR1 (avCons (evVar 1) avNil)) (gvName 3) b__law_grouping_1)
    (svRet (evVar 2))))
def g__law_grouping : Fn3 := fnB 4 s__law_grouping
def s__law_rid : SV := (svRet (ev2 dIx (evA mkTup (avCons (evC .non) (avCons (evC (.str (PySem.Str.ofString "ab"))) (avCons (evC (.bl true)) (avCons (evC (.dct [.int 0] [.int 1])) (avCons (evA mkTup (avCons (evC (.int 1)) avNil)) (avCons (evC (.bl false)) avNil))))))) (evTrim (nfT TT) (evCall g__law_take 2 [] (avCons (evVar 0) (avCons (evC (.int 6)) avNil))))))
def g__law_rid : Fn3 := fnB 1 s__law_rid
def s__law_seq : SV := (svRet (evOr (evA (a2 dIsi) (avCons (evVar 0) (avCons (evC (.ty .list)) avNil))) (evA (a2 dIsi) (avCons (evVar 0) (avCons (evC (.ty .tuple)) avNil)))))
def g__law_seq : Fn3 := fnB 1 s__law_seq
def s__law_int : SV := (svRet (evAnd (evA (a2 dIsi) (avCons (evVar 0) (avCons (evC (.ty .int)) avNil))) (evNot (evA (a2 dIsi) (avCons (evVar 0) (avCons (evC (.ty .bool)) avNil))))))
def g__law_int : Fn3 := fnB 1 s__law_int
def s__law_within : SV := (svRet (evAnd (evTrim (nfT TT) (evCall g__law_int 1 [] (avCons (evVar 0) avNil))) (ev3 dLe dLe (evVar 1) (evVar 0) (evVar 2))))
def g__law_within : Fn3 := fnB 3 s__law_within
def s__law_row : SV := (svRet (evIf (bvT (evTrim (nfT TT) (evCall g__law_take 2 [] (avCons (evVar 0) (avCons (evC (.int 2)) avNil))))) (evA (a1 (dListOf false)) (avCons (evVar 1) avNil)) (evA (a1 dTupOf) (avCons (evVar 1) avNil))))
def g__law_row : Fn3 := fnB 2 s__law_row
def s__law_spoiled : SV := (svSeq (svSet 3 (evTrim (nfT TT) (evCall g__law_take 2 [] (avCons (evVar 0) (avCons (evC (.int 7)) avNil)))))
    (svSeq (svSet 4 (evA (a1 (dListOf true)) (avCons (evVar 1) avNil)))
    (svSeq (svIf (bvE (ev2 dEqS (evVar 3) (evC (.int 0)))) (svRet (evTrimW (nfT TT) (evCall g__law_rid 1 [] (avCons (evVar 0) avNil)))) svNext)
    (svSeq (svIf (bvOr (bvE (ev2 dLt (evVar 3) (evC (.int 3)))) (bvNot (bvT (evVar 4)))) (svSeq (svE (evM isL dInsert (evVar 4) (avCons (evTrim (nfT TT) (evCall g__law_take 2 [] (avCons (evVar 0) (avCons (ev2 (dAdd false) (evA (a1 dLen) (avCons (evVar 4) avNil)) (evC (.int 1))) avNil)))) (avCons (evVar 2) avNil))))
    (svRet (evVar 4))) svNext)
    (svSeq (svSet 5 (evTrim (nfT TT) (evCall g__law_take 2 [] (avCons (evVar 0) (avCons (evA (a1 dLen) (avCons (evVar 4) avNil)) avNil)))))
    (svSeq (svIf (bvE (ev2 dLt (evVar 3) (evC (.int 5)))) (svAsg (evVar 2) (gvSub (evVar 4) (evVar 5) stL)) (svIf (bvE (ev2 dEqS (evVar 3) (evC (.int 5)))) (svE (evM isL dInsert (evVar 4) (avCons (evVar 5) (avCons (ev2 dIx (evVar 4) (evVar 5)) avNil)))) (svSeq (svSet 6 (evTrim (nfT TT) (evCall g__law_take 2 [] (avCons (evVar 0) (avCons (evA (a1 dLen) (avCons (evVar 4) avNil)) avNil)))))
    (svSeq (svSet 7 (ev2 dIx (evVar 4) (evVar 5)))
    (svSeq (svAsg (ev2 dIx (evVar 4) (evVar 6)) (gvSub (evVar 4) (evVar 5) stL))
    (svAsg (evVar 7) (gvSub (evVar 4) (evVar 6) stL)))))))
    (svRet (evVar 4))))))))
def g__law_spoiled : Fn3 := fnB 8 s__law_spoiled
def s__law_all : SV := (svSeq (svTry (svSet 2 (evA mkLst (avCons (evTrim (nfT TT) (evListG false g_all_groupings 1 okx_all_groupings (avCons (evVar 0) avNil))) avNil))) [⟨some 1, sub_BadCount, fun k ds => (svSet 2 (evXf XT 1 k ds))⟩])
    (svRet (evVar 2)))
def g__law_all : Fn3 := fnB 3 s__law_all
def s__law_counted : SV := (svSeq (svTry (svSet 2 (evA mkLst (avCons (evTrim (nfT TT) (evCall g_count_groupings 1 [] (avCons (evVar 0) avNil))) avNil))) [⟨some 1, sub_BadCount, fun k ds => (svSet 2 (evXf XT 1 k ds))⟩])
    (svRet (evVar 2)))
def g__law_counted : Fn3 := fnB 3 s__law_counted
def s__law_count : SV := (svSeq (svTry (svSet 2 (evA mkLst (avCons (evTrim (nfT TT) (evCall g_check_count 1 [] (avCons (evVar 0) avNil))) avNil))) [⟨some 1, sub_BadCount, fun k ds => (svSet 2 (evXf XT 1 k ds))⟩])
    (svRet (evVar 2)))
def g__law_count : Fn3 := fnB 3 s__law_count
def s__law_checked : SV := (svSeq (svTry (svIf (bvE (ev2 dIsN (evVar 2) (evC .non))) (svSet 4 (evTrim (nfT TT) (evF g_check_grouping 3 [0, 1, 2] [.bl false] 2 0 (avCons (evVar 0) (avCons (evVar 1) avNil)) avNil))) (svSet 4 (evTrim (nfT TT) (evF g_check_grouping 3 [0, 2, 1] [.bl false] 1 2 (avCons (evVar 0) avNil) (avCons (evVar 2) (avCons (evVar 1) avNil)))))) [⟨some 3, sub_BadGrouping, fun k ds => (svSet 4 (evA mkLst (avCons (evXf XT 0 k ds) avNil)))⟩])
    (svRet (evVar 4)))
def g__law_checked : Fn3 := fnB 5 s__law_checked
def b__law_checked_due_1 : SV := (svSeq (svIf (bvAnd (bvE (ev2 dIsN (ev2 dIx (evVar 1) (evVar 4)) (evC .non))) (bvT (evVar 2))) svCont svNext)
    (svSeq (svIf (bvNot (bvT (evTrim (nfT TT) (evCall g__law_within 3 [] (avCons (ev2 dIx (evVar 1) (evVar 4)) (avCons (evC (.int 0)) (avCons (evVar 3) avNil))))))) (svRet (evA mkLst (avCons (evVar 4) avNil))) svNext)
    (svSet 3 (evA (a2 dMax2) (avCons (evVar 3) (avCons (ev2 (dAdd false) (ev2 dIx (evVar 1) (evVar 4)) (evC (.int 1))) avNil))))))
def s__law_checked_due : SV := (svSeq (svIf (bvNot (bvT (evTrim (nfT TT) (evCall g__law_seq 1 [] (avCons (evVar 1) avNil))))) (svRet (evA mkLst (avCons (evC (.int 0)) avNil))) svNext)
    (svSeq (svSet 3 (evC (.int 0)))
    (svSeq (svFor (ivR1 (avCons (evA (a1 dLen) (avCons (evVar 1) avNil)) avNil)) (gvName 4) b__law_checked_due_1)
    (svSeq (svIf (bvE (ev2 dNeS (evA (a1 dLen) (avCons (evVar 1) avNil)) (evVar 0))) (svRet (evA mkLst (avCons (evA (a2 dMin2) (avCons (evA (a1 dLen) (avCons (evVar 1) avNil)) (avCons (evVar 0) avNil))) avNil))) svNext)
    (svRet (evA (a1 dTupOf) (avCons (evVar 1) avNil)))))))
def g__law_checked_due : Fn3 := fnB 5 s__law_checked_due
def e__law_book_due_1 : EV := (evA (a1 dInt) (avCons (ev2 dEqS (evVar 3) (evVar 2)) avNil))
def e__law_book_due_2 : EV := (evA mkTup (avCons (evC (.str (PySem.Str.ofString "column"))) (avCons (evA (a1 dTupOf) (avCons (evTrim (nfT TT) (evLc (ivSeq (evVar 0)) [3] (cgName 3) bvYes e__law_book_due_1)) avNil)) avNil)))
def s__law_book_due : SV := (svSeq (svSet 1 (evTrim (nfT TT) (evLc (ivSeq (evVar 0)) [2] (cgName 2) (bvE (ev2 dNotN (evVar 2) (evC .non))) (evVar 2))))
    (svRet (evA (a1 dTupOf) (avCons (evTrim (nfT TT) (evLc (ivR1 (avCons (evTrim (nfT TT) (evCall g__law_many 1 [] (avCons (evVar 1) avNil))) avNil)) [2] (cgName 2) bvYes e__law_book_due_2)) avNil))))
def g__law_book_due : Fn3 := fnB 4 s__law_book_due
def c_law_1 : SV := (svE (evM isL dAppend (evVar 7) (avCons (ev2 (dAdd false) (evVar 8) (evA mkTup (avCons (evVar 15) avNil))) avNil)))
def b_law_1 : SV := c_law_1
def c_law_2 : SV := (svFor (ivR1 (avCons (ev2 (dAdd false) (evTrim (nfT TT) (evCall g__law_many 1 [] (avCons (evVar 8) avNil))) (evC (.int 1))) avNil)) (gvName 15) b_law_1)
def b_law_2 : SV := c_law_2
def b_law_3 : SV := (svSeq (svSet 7 (evA mkCell avNil))
    (svSeq (svFor (ivSeq (evVar 4)) (gvName 8) b_law_2)
    (svSet 4 (evA (a1 (dListOf false)) (avCons (evVar 7) avNil)))))
def c_law_3 : SV := (svIf (bvE (ev2 dNeS (evA (a1 dReprX) (avCons (evA mkTup (avCons (evTrim (nfT TT) (evCall g__law_all 1 [] (avCons (evVar 6) avNil))) (avCons (evTrim (nfT TT) (evCall g__law_counted 1 [] (avCons (evVar 6) avNil))) (avCons (evTrim (nfT TT) (evCall g__law_count 1 [] (avCons (evVar 6) avNil))) avNil)))) avNil)) (evA (a1 dReprX) (avCons (evA mkTup (avCons (evVar 6) (avCons (evVar 6) (avCons (evVar 6) avNil)))) avNil)))) (svRet (evC (.bl false))) svNext)
def b_law_4 : SV := c_law_3
def c_law_4 : SV := (svIf (bvE (ev2 dEqS (evTrim (nfT TT) (evCall g__law_take 2 [] (avCons (evVar 1) (avCons (evC (.int 4)) avNil)))) (evC (.int 0)))) (svE (evM isL dAppend (evVar 16) (avCons (evC .non) avNil))) svNext)
def b_law_5 : SV := (svSeq c_law_4
    (svE (evM isL dAppend (evVar 16) (avCons (evVar 15) avNil))))
def c_law_5 : SV := (svIf (bvOr (bvE (ev2 dNeS (evA (a1 dReprX) (avCons (evTrim (nfT TT) (evCall g__law_checked 3 [] (avCons (evVar 2) (avCons (evVar 11) (avCons (evVar 13) avNil))))) avNil)) (evA (a1 dReprX) (avCons (evTrim (nfT TT) (evCall g__law_checked_due 3 [] (avCons (evVar 2) (avCons (evVar 11) (avCons (ev2 (dIsB false) (evVar 13) (evC (.bl true))) avNil))))) avNil)))) (bvE (ev2 dNeS (evA (a1 dReprX) (avCons (evVar 11) avNil)) (evVar 12)))) (svRet (evC (.bl false))) svNext)
def b_law_6 : SV := c_law_5
def c_law_6 : SV := (svIf (bvOr (bvE (ev2 dNeS (evA (a1 dReprX) (avCons (evTrim (nfT TT) (evCall g_book_of 1 [] (avCons (evVar 11) avNil))) avNil)) (evA (a1 dReprX) (avCons (evTrim (nfT TT) (evCall g__law_book_due 1 [] (avCons (evVar 14) avNil))) avNil)))) (bvE (ev2 dNeS (evA (a1 dReprX) (avCons (evTrim (nfT TT) (evCall g_groups_many 1 [] (avCons (evVar 11) avNil))) avNil)) (evA (a1 dReprX) (avCons (evA (a1 dLen) (avCons (evTrim (nfT TT) (evCall g__law_book_due 1 [] (avCons (evVar 14) avNil))) avNil)) avNil))))) (svRet (evC (.bl false))) svNext)
def c_law_7 : SV := (svSet 9 (evTrimW (nfT TT) (evCall g__law_grouping 2 [] (avCons (evVar 1) (avCons (evVar 2) avNil)))))
def c_law_8 : SV := (svIf (bvT (evTrim (nfT TT) (evCall g__law_take 2 [] (avCons (evVar 1) (avCons (evC (.int 2)) avNil))))) (svSeq (svSet 16 (evA mkCell avNil))
    (svSeq (svFor (ivSeq (evVar 9)) (gvName 15) b_law_5)
    (svSet 9 (evSl false (evVar 16) ovN (ovS (evVar 2)))))) svNext)
def c_law_9 : SV := (svSet 10 (ev2 dIx (evA mkLst (avCons (ev2 (dAdd false) (evTrim (nfT TT) (evCall g__law_many 1 [] (avCons (ev2 (dAdd false) (evA mkLst (avCons (evC (.int 0)) avNil)) (evTrim (nfT TT) (evLc (ivSeq (evVar 9)) [15] (cgName 15) (bvE (ev2 dNotN (evVar 15) (evC .non))) (evVar 15)))) avNil))) (evC (.int 1))) (avCons (ev1 dNeg (evC (.int 1))) (avCons (evC (.bl true)) (avCons (evC .non) (avCons (evC (.str (PySem.Str.ofString "0"))) (avCons (evA mkTup (avCons (evC (.int 0)) avNil)) (avCons (evC (.int 6)) avNil)))))))) (evTrim (nfT TT) (evCall g__law_take 2 [] (avCons (evVar 1) (avCons (evC (.int 7)) avNil))))))
def c_law_10 : SV := (svSet 11 (evIf (bvT (evTrim (nfT TT) (evCall g__law_take 2 [] (avCons (evVar 1) (avCons (evC (.int 2)) avNil))))) (evTrimW (nfT TT) (evCall g__law_spoiled 3 [] (avCons (evVar 1) (avCons (evVar 9) (avCons (evVar 10) avNil))))) (evTrimW (nfT TT) (evCall g__law_row 2 [] (avCons (evVar 1) (avCons (evVar 9) avNil))))))
def c_law_11 : SV := (svFor (ivSeq (evA mkLst (avCons (evC .non) (avCons (evC (.bl false)) (avCons (evC (.bl true)) avNil))))) (gvName 13) b_law_6)
def c_law_12 : SV := (svSet 14 (evTrim (nfT TT) (evCall g__law_checked_due 3 [] (avCons (evVar 2) (avCons (evVar 11) (avCons (evC (.bl true)) avNil))))))
def c_law_13 : SV := (svIf (bvT (evA (a2 dIsi) (avCons (evVar 14) (avCons (evC (.ty .tuple)) avNil)))) c_law_6 svNext)
def b_law_7 : SV := (svSeq c_law_7
    (svSeq c_law_8
    (svSeq c_law_9
    (svSeq c_law_10
    (svSeq (svSet 12 (evA (a1 dReprX) (avCons (evVar 11) avNil)))
    (svSeq c_law_11
    (svSeq c_law_12
    c_law_13)))))))
def c_law_14 : SV := (svSet 2 (ev2 (dAdd false) (evC (.int 1)) (evTrim (nfT TT) (evCall g__law_take 2 [] (avCons (evVar 1) (avCons (evC (.int 6)) avNil))))))
def c_law_15 : SV := (svSet 3 (evTrim (nfT TT) (evCall g__law_all 1 [] (avCons (evVar 2) avNil))))
def c_law_16 : SV := (svIf (bvNot (bvT (evA (a2 dIsi) (avCons (evVar 3) (avCons (evC (.ty .list)) avNil))))) (svRet (evC (.bl false))) svNext)
def c_law_17 : SV := (svIf (bvOr (bvE (ev2 dNeS (evA (a1 dReprX) (avCons (ev2 dIx (evVar 3) (evC (.int 0))) avNil)) (evA (a1 dReprX) (avCons (evVar 4) avNil)))) (bvOr (bvE (ev2 dNeS (evA (a1 dReprX) (avCons (evTrim (nfT TT) (evCall g__law_counted 1 [] (avCons (evVar 2) avNil))) avNil)) (evA (a1 dReprX) (avCons (evA mkLst (avCons (evA (a1 dLen) (avCons (evVar 4) avNil)) avNil)) avNil)))) (bvE (ev2 dNeS (evA (a1 dReprX) (avCons (evTrim (nfT TT) (evCall g__law_count 1 [] (avCons (evVar 2) avNil))) avNil)) (evA (a1 dReprX) (avCons (evA mkLst (avCons (evVar 2) avNil)) avNil)))))) (svRet (evC (.bl false))) svNext)
def c_law_18 : SV := (svFor (ivSeq (evA mkLst (avCons (evC (.int 0)) (avCons (evC (.int 7)) (avCons (ev1 dNeg (evC (.int 1))) (avCons (evC (.bl true)) (avCons (evC .non) (avCons (evC (.str (PySem.Str.ofString "3"))) (avCons (evA mkTup (avCons (evC (.int 3)) avNil)) (avCons (ev2 (dAdd false) (evC (.int 7)) (evTrim (nfT TT) (evCall g__law_take 2 [] (avCons (evVar 1) (avCons (ev2 dPow (evC (.int 10)) (evC (.int 9))) avNil))))) (avCons (ev2 dPow (evC (.int 10)) (evC (.int 30))) avNil))))))))))) (gvName 6) b_law_4)
def s_law : SV := (svSeq (svSet 1 (evCall g__law_hand 1 [] (avCons (evVar 0) avNil)))
    (svSeq c_law_14
    (svSeq c_law_15
    (svSeq c_law_16
    (svSeq (svSet 4 (evA mkLst (avCons (evA mkTup avNil) avNil)))
    (svSeq (svFor (ivR1 (avCons (evVar 2) avNil)) (gvName 5) b_law_3)
    (svSeq c_law_17
    (svSeq c_law_18
    (svSeq (svFor (ivR1 (avCons (evC (.int 6)) avNil)) (gvName 5) b_law_7)
    (svRet (evC (.bl true))))))))))))
def g_law : Fn3 := fnB 17 s_law
end K03

set_option Elab.async false
set_option linter.all false
set_option maxRecDepth 100000
set_option maxHeartbeats 4000000
namespace K03
open PySem PySem.Spec PyProof.Rows L2 L3
def top (i : Nat) : Stmt := PySem.Challenge.pw_thinslopes_k03_whole_groupings_all_and_r.main.body.getD i (.Pass ⟨0, 0, 0, 0⟩)
def clsB : Stmt → List Stmt
  | .ClassDef (body := b) .. => b
  | _ => []
def me (i j : Nat) : Stmt := (clsB (top i)).getD j (.Pass ⟨0, 0, 0, 0⟩)
def nm : List Str := [Str.ofString "index", Str.ofString "count"]
section
variable {P : Program} {w : World} {C : Ct} {mg : Str → Option Value} {base : Heap}
theorem sc_BadGrouping___init__ : FnScope ["self", "index"] ["self", "index"] (defScope (me 2 0)) := ⟨rfl, rfl, rfl, by decide +kernel, rfl, by decide +kernel, by decide +kernel⟩
theorem ok_BadGrouping___init__ {f : Addr} {fd : FuncData} {c : Addr} (T : OexC C.K c) (hn : ∀ g ∈ (["index"] : List Str), PySem.W.findIn C.K (.ref c) g = some none) (F : FunD C.K "__init__" "BadGrouping.__init__" (defArgs (me 2 0)) (defBody (me 2 0)) (defScope (me 2 0)) [] [] f fd) : FnOk P w C.K mg base (L2.CX P w) 1 f fd ["self", "index"] (spX c ["index"]) :=
  xinit_ok (n := 0) F sc_BadGrouping___init__ T rfl (by decide) hn fun cdv A st s H E => (pss_one (ps_ost (pe_var (i := 0) rfl (Or.inl rfl)) (pe_var (i := 1) rfl (Or.inl rfl))))
theorem sc_BadCount___init__ : FnScope ["self", "count"] ["self", "count"] (defScope (me 3 0)) := ⟨rfl, rfl, rfl, by decide +kernel, rfl, by decide +kernel, by decide +kernel⟩
theorem ok_BadCount___init__ {f : Addr} {fd : FuncData} {c : Addr} (T : OexC C.K c) (hn : ∀ g ∈ (["count"] : List Str), PySem.W.findIn C.K (.ref c) g = some none) (F : FunD C.K "__init__" "BadCount.__init__" (defArgs (me 3 0)) (defBody (me 3 0)) (defScope (me 3 0)) [] [] f fd) : FnOk P w C.K mg base (L2.CX P w) 1 f fd ["self", "count"] (spX c ["count"]) :=
  xinit_ok (n := 0) F sc_BadCount___init__ T rfl (by decide) hn fun cdv A st s H E => (pss_one (ps_ost (pe_var (i := 0) rfl (Or.inl rfl)) (pe_var (i := 1) rfl (Or.inl rfl))))
theorem sc_is_sequence : FnScope ["thing"] ["thing"] (defScope (top 5)) := ⟨rfl, rfl, rfl, by decide +kernel, rfl, by decide +kernel, by decide +kernel⟩
theorem ok_is_sequence {b : Bool} {f : Addr} {fd : FuncData} {dvs : List V} (hP : ∀ σ α H, C.ps σ α H) (F : FunD C.K "is_sequence" "is_sequence" (defArgs (top 5)) (defBody (top 5)) (defScope (top 5)) dvs [] f fd) (B_isinstance : mg "isinstance" = none) (B_tuple : mg "tuple" = none) (B_list : mg "list" = none) : FnG b P w C.K mg base 1 f fd ["thing"] (spF C g_is_sequence 1) := by
  refine fn_ok hP F sc_is_sequence rfl rfl fun cdv A st s H E hr gd => ?_
  exact (ss_one (s_ret (l_isiT rfl B_isinstance (l_var 0) (TyArgs.cons (t := .list) (pe_bltn rfl B_list boot_list rfl) rfl (TyArgs.cons (t := .tuple) (pe_bltn rfl B_tuple boot_tuple rfl) rfl TyArgs.nil)))))
theorem sc_is_whole : FnScope ["thing", "low", "high"] ["thing", "low", "high"] (defScope (top 6)) := ⟨rfl, rfl, rfl, by decide +kernel, rfl, by decide +kernel, by decide +kernel⟩
theorem ok_is_whole {b : Bool} {f : Addr} {fd : FuncData} {dvs : List V} (hP : ∀ σ α H, C.ps σ α H) (F : FunD C.K "is_whole" "is_whole" (defArgs (top 6)) (defBody (top 6)) (defScope (top 6)) dvs [] f fd) (B_isinstance : mg "isinstance" = none) (B_int : mg "int" = none) (B_bool : mg "bool" = none) : FnG b P w C.K mg base 1 f fd ["thing", "low", "high"] (spF C g_is_whole 3) := by
  refine fn_ok hP F sc_is_whole rfl rfl fun cdv A st s H E hr gd => ?_
  exact (ss_cons (s_if (PW.pt (lw_or (lt_not (lt_val (l_blt (call_isi) (lk_isi rfl) rfl B_isinstance boot_isinstance (la_cons (l_var 0) (la_cons (l_ty .int rfl B_int boot_int) la_nil))))) (lw_or1 (lt_val (l_blt (call_isi) (lk_isi rfl) rfl B_isinstance boot_isinstance (la_cons (l_var 0) (la_cons (l_ty .bool rfl B_bool boot_bool) la_nil))))))) (ss_one (s_ret l_bl)) ss_nil)
    (ss_cons (s_if (PW.pt (lw_and (lt_cmp op_notN lk_notN (l_var 1) l_non (nomark _)) (lw_and1 (lt_cmp op_lt lk_lt (l_var 0) (l_var 1) (nomark _))))) (ss_one (s_ret l_bl)) ss_nil)
    (ss_one (s_ret (l_or (l_cmp op_isN lk_isN (l_var 2) l_non (nomark _)) (l_one (l_cmp op_le lk_le (l_var 0) (l_var 2) (nomark _))))))))
theorem sc_check_grouping : FnScope ["count", "grouping", "gaps", "fresh", "at", "group"] ["count", "grouping", "gaps"] (defScope (top 8)) := ⟨rfl, rfl, rfl, by decide +kernel, rfl, by decide +kernel, by decide +kernel⟩
theorem ok_check_grouping {b : Bool} {f : Addr} {fd : FuncData} {dvs : List V} (hP : ∀ σ α H, C.ps σ α H) (F : FunD C.K "check_grouping" "check_grouping" (defArgs (top 8)) (defBody (top 8)) (defScope (top 8)) dvs [] f fd) (H_is_sequence : Has b P w C mg base 1 "is_sequence" g_is_sequence 1 []) (ct : CtOk C TT nm) (X_BadGrouping : HasX P w C mg base "BadGrouping" 1 1) (B_enumerate : mg "enumerate" = none) (H_is_whole_3 : HasF b P w C mg base 1 "is_whole" g_is_whole 3 3 [] [0, 1, 2] [.non, .non]) (B_max : mg "max" = none) (B_len : mg "len" = none) (B_min : mg "min" = none) (B_tuple : mg "tuple" = none) : FnG b P w C.K mg base 3 f fd ["count", "grouping", "gaps"] (spF C g_check_grouping 3) := by
  refine fn_ok hP F sc_check_grouping rfl rfl fun cdv A st s H E hr gd => ?_
  exact (ss_cons (s_if (lt_not (lt_val (l_trim ct.nf (l_callH H_is_sequence hr gd (fun σ => passAt (takes_of rfl rfl rfl rfl) σ) rfl (la_cons (l_var 1) la_nil))))) (ss_one (s_raise X_BadGrouping hr rfl (takes_of rfl rfl rfl rfl) rfl (la_cons l_int la_nil))) ss_nil)
    (ss_cons (s_set 3 (kp hP) sc_check_grouping.nd l_int)
    (ss_cons (s_for (passes_of rfl) rfl (i_enum rfl B_enumerate (la_cons (l_var 1) la_nil)) (g_tup rfl (gs_cons (g_name 4 (kp hP) sc_check_grouping.nd) (gs_cons (g_name 5 (kp hP) sc_check_grouping.nd) gs_nil))) (ss_cons (s_if (PW.pt (lw_and (lt_cmp op_isN lk_isN (l_var 5) l_non (nomark _)) (lw_and1 (lt_val (l_var 2))))) (ss_one s_cont) ss_nil)
    (ss_cons (s_if (lt_not (lt_val (l_trim ct.nf (l_fP H_is_whole_3 hr gd (fun σ => passAt (takes_of rfl rfl rfl rfl) σ) rfl (la_cons (l_var 5) (la_cons l_int (la_cons (l_var 3) la_nil))))))) (ss_one (s_raise X_BadGrouping hr rfl (takes_of rfl rfl rfl rfl) rfl (la_cons (l_var 4) la_nil))) ss_nil)
    (ss_one (s_set 3 (kp hP) sc_check_grouping.nd (l_blt (call_max2 rfl) lk_max2 rfl B_max PyProof.Rows.boot_max (la_cons (l_var 3) (la_cons (l_add false (l_var 5) l_int) la_nil))))))))
    (ss_cons (s_if (lt_cmp (op_neS hr.units) (lk_neS rfl) (l_blt (call_len) (lk_len rfl) rfl B_len boot_len (la_cons (l_var 1) la_nil)) (l_var 0) (nomark _)) (ss_one (s_raise X_BadGrouping hr rfl (takes_of rfl rfl rfl rfl) rfl (la_cons (l_blt (call_min2 rfl) lk_min2 rfl B_min PyProof.Rows.boot_min (la_cons (l_blt (call_len) (lk_len rfl) rfl B_len boot_len (la_cons (l_var 1) la_nil)) (la_cons (l_var 0) la_nil))) la_nil))) ss_nil)
    (ss_one (s_ret (l_bltT call_tuple_of (lk_tupOf rfl) rfl B_tuple boot_tuple (la_cons (l_var 1) la_nil))))))))
theorem sc_groups_many : FnScope ["grouping", "group"] ["grouping"] (defScope (top 9)) := ⟨rfl, rfl, rfl, by decide +kernel, rfl, by decide +kernel, by decide +kernel⟩
theorem ok_groups_many {b : Bool} {f : Addr} {fd : FuncData} {dvs : List V} (hP : ∀ σ α H, C.ps σ α H) (F : FunD C.K "groups_many" "groups_many" (defArgs (top 9)) (defBody (top 9)) (defScope (top 9)) dvs [] f fd) (ct : CtOk C TT nm) (B_len : mg "len" = none) (B_set : mg "set" = none) : FnG b P w C.K mg base 1 f fd ["grouping"] (spF C g_groups_many 1) := by
  refine fn_ok hP F sc_groups_many rfl rfl fun cdv A st s H E hr gd => ?_
  exact (ss_one (s_ret (l_lenSet rfl B_len rfl B_set (l_lc hP (own := [("group", 1)]) (trim_imp ct.nf) rfl sc_groups_many.nd  (i_seq (l_var 0)) (blkOk_by (N := ["grouping", "group"]) (sc := defScope (top 9)) (by decide +kernel)) (lcg_name hP (by decide)) (fun _ _ _ _ _ => (pg_name (i := 1) sc_groups_many.nd rfl (by first | exact Or.inl rfl | exact Or.inr rfl))) (fun _ _ _ _ _ => (lts_one (lt_cmp op_notN lk_notN (l_var 1) l_non (nomark _)))) (fun _ _ _ _ _ => (l_var 1))))))
theorem sc_check_count : FnScope ["count"] ["count"] (defScope (top 10)) := ⟨rfl, rfl, rfl, by decide +kernel, rfl, by decide +kernel, by decide +kernel⟩
theorem ok_check_count {b : Bool} {f : Addr} {fd : FuncData} {dvs : List V} (hP : ∀ σ α H, C.ps σ α H) (F : FunD C.K "check_count" "check_count" (defArgs (top 10)) (defBody (top 10)) (defScope (top 10)) dvs [] f fd) (H_is_whole_3 : HasF b P w C mg base 1 "is_whole" g_is_whole 3 3 [] [0, 1, 2] [.non, .non]) (ct : CtOk C TT nm) (X_BadCount : HasX P w C mg base "BadCount" 2 1) : FnG b P w C.K mg base 3 f fd ["count"] (spF C g_check_count 1) := by
  refine fn_ok hP F sc_check_count rfl rfl fun cdv A st s H E hr gd => ?_
  exact (ss_cons (s_if (lt_not (lt_val (l_trim ct.nf (l_fP H_is_whole_3 hr gd (fun σ => passAt (takes_of rfl rfl rfl rfl) σ) rfl (la_cons (l_var 0) (la_cons l_int (la_cons l_int la_nil))))))) (ss_one (s_raise X_BadCount hr rfl (takes_of rfl rfl rfl rfl) rfl (la_cons (l_var 0) la_nil))) ss_nil)
    (ss_one (s_ret (l_var 0))))
theorem sc_all_groupings : GScope ["count", "rows", "_", "row", "group"] ["count"] (defScope (top 11)) := ⟨rfl, rfl, rfl, by decide +kernel, rfl, by decide +kernel, by decide +kernel⟩
theorem ok_all_groupings {f : Addr} {fd : FuncData} {dvs : List V} (hP : ∀ σ α H, C.ps σ α H) (F : FunD C.K "all_groupings" "all_groupings" (defArgs (top 11)) (defBody (top 11)) (defScope (top 11)) dvs [] f fd) (B_range : mg "range" = none) (H_groups_many : Has false P w C mg base 1 "groups_many" g_groups_many 1 []) (ct : CtOk C TT nm) (H_check_count : Has false P w C mg base 3 "check_count" g_check_count 1 []) : GFn P w C.K mg base 4 f fd ["count"] (spN C g_all_groupings 1) := by
  refine gn_ok hP F sc_all_groupings rfl rfl fun cdv A st s H E pn hr => ?_
  exact (ns_cons (n_plain (s_expr (l_trim ct.nf (l_callH H_check_count hr (fun z => nomatch z) (fun σ => passAt takes_gcx σ) rfl (la_cons (l_var 0) la_nil)))))
    (ns_cons (n_plain (s_set 1 (kp hP) sc_all_groupings.nd (l_lst (la_cons (l_tup la_nil) la_nil))))
    (ns_cons (n_plain (s_for owns_gcx rfl (i_range1 rfl B_range (la_cons (l_var 0) la_nil)) (g_name 2 (kp hP) sc_all_groupings.nd) (ss_one (s_setLc2 1 hP (own := [("row", 3), ("group", 4)]) (trim_imp ct.nf) rfl sc_all_groupings.nd rfl rfl (sw_true rfl rfl rfl (by decide +kernel)) (i_seq (l_var 1)) (blkOk_by (N := ["count", "rows", "_", "row", "group"]) (sc := defScope (top 11)) (by decide +kernel)) (by decide) (lcg_name hP (by decide)) (lcg_name hP (by decide)) (fun _ _ _ _ _ => (pg_name (i := 3) sc_all_groupings.nd rfl (by first | exact Or.inl rfl | exact Or.inr rfl))) (fun _ _ _ _ _ => lts_nil) (fun _ _ _ _ _ => (i_range1 rfl B_range (la_cons (l_add false (l_trim ct.nf (l_callH H_groups_many hr (fun z => nomatch z) passF rfl (la_cons (l_var 3) la_nil))) l_int) la_nil))) (fun _ _ _ _ _ => (pg_name (i := 4) sc_all_groupings.nd rfl (by first | exact Or.inl rfl | exact Or.inr rfl))) (fun _ _ _ _ _ => lts_nil) (fun _ _ _ _ _ => (l_add false (l_var 3) (l_tup (la_cons (l_var 4) la_nil))))))))
    (ns_cons (n_for owns_gcx rfl (i_seq (l_var 1)) (g_name 3 (kp hP) sc_all_groupings.nd) (ns_cons (n_yield (l_var 3))
    ns_nil))
    ns_nil))))
theorem sc_count_groupings : FnScope ["count", "by_groups", "_", "longer", "at", "many"] ["count"] (defScope (top 12)) := ⟨rfl, rfl, rfl, by decide +kernel, rfl, by decide +kernel, by decide +kernel⟩
theorem ok_count_groupings {b : Bool} {f : Addr} {fd : FuncData} {dvs : List V} (hP : ∀ σ α H, C.ps σ α H) (F : FunD C.K "count_groupings" "count_groupings" (defArgs (top 12)) (defBody (top 12)) (defScope (top 12)) dvs [] f fd) (H_check_count : Has b P w C mg base 3 "check_count" g_check_count 1 []) (ct : CtOk C TT nm) (B_range : mg "range" = none) (B_len : mg "len" = none) (B_enumerate : mg "enumerate" = none) (B_sum : mg "sum" = none) : FnG b P w C.K mg base 4 f fd ["count"] (spF C g_count_groupings 1) := by
  refine fn_ok hP F sc_count_groupings rfl rfl fun cdv A st s H E hr gd => ?_
  exact (ss_cons (s_expr (l_trim ct.nf (l_callH H_check_count hr gd (fun σ => passAt (takes_of rfl rfl rfl rfl) σ) rfl (la_cons (l_var 0) la_nil))))
    (ss_cons (s_set 1 (kp hP) sc_count_groupings.nd (l_lst (la_cons l_int la_nil)))
    (ss_cons (s_for (passes_of rfl) rfl (i_range1 rfl B_range (la_cons (l_var 0) la_nil)) (g_name 2 (kp hP) sc_count_groupings.nd) (ss_cons (s_set 3 (kp hP) sc_count_groupings.nd (l_mul true (l_lst (la_cons l_int la_nil)) (l_add false (l_blt (call_len) (lk_len rfl) rfl B_len boot_len (la_cons (l_var 1) la_nil)) l_int)))
    (ss_cons (s_for (passes_of rfl) rfl (i_enum rfl B_enumerate (la_cons (l_var 1) la_nil)) (g_tup rfl (gs_cons (g_name 4 (kp hP) sc_count_groupings.nd) (gs_cons (g_name 5 (kp hP) sc_count_groupings.nd) gs_nil))) (ss_cons (s_asg (l_add false (l_ix (l_var 3) (l_var 4)) (l_mul false (l_var 4) (l_var 5))) (g_sub (l_var 3) (l_var 4) set_list lk_stL))
    (ss_one (s_asg (l_add false (l_ix (l_var 3) (l_add false (l_var 4) l_int)) (l_var 5)) (g_sub (l_var 3) (l_add false (l_var 4) l_int) set_list lk_stL)))))
    (ss_one (s_set 1 (kp hP) sc_count_groupings.nd (l_var 3))))))
    (ss_one (s_ret (l_blt (cr_sumS rfl) (lk_sumS rfl) rfl B_sum PyProof.Rows.boot_sum (la_cons (l_var 1) la_nil)))))))
theorem sc_book_of : FnScope ["grouping", "asks", "group", "mark"] ["grouping"] (defScope (top 13)) := ⟨rfl, rfl, rfl, by decide +kernel, rfl, by decide +kernel, by decide +kernel⟩
theorem ok_book_of {b : Bool} {f : Addr} {fd : FuncData} {dvs : List V} (hP : ∀ σ α H, C.ps σ α H) (F : FunD C.K "book_of" "book_of" (defArgs (top 13)) (defBody (top 13)) (defScope (top 13)) dvs [] f fd) (B_range : mg "range" = none) (H_groups_many : Has b P w C mg base 1 "groups_many" g_groups_many 1 []) (ct : CtOk C TT nm) (B_tuple : mg "tuple" = none) : FnG b P w C.K mg base 2 f fd ["grouping"] (spF C g_book_of 1) := by
  refine fn_ok hP F sc_book_of rfl rfl fun cdv A st s H E hr gd => ?_
  exact (ss_cons (s_set 1 (kp hP) sc_book_of.nd (l_cell la_nil))
    (ss_cons (s_for (passes_of rfl) rfl (i_range1 rfl B_range (la_cons (l_trim ct.nf (l_callH H_groups_many hr gd (fun σ => passAt (takes_of rfl rfl rfl rfl) σ) rfl (la_cons (l_var 0) la_nil))) la_nil)) (g_name 2 (kp hP) sc_book_of.nd) (ss_one (s_expr (l_bm (ty_list rfl) lk_append PySem.F.plainAttrs_list PySem.F.slot_list_append PySem.F.type_list_append mt_append (l_var 1) (la_cons (l_tup (la_cons l_str (la_cons (l_bltT call_tuple_of (lk_tupOf rfl) rfl B_tuple boot_tuple (la_cons (l_lc hP (own := [("mark", 3)]) (trim_imp ct.nf) rfl sc_book_of.nd  (i_seq (l_var 0)) (blkOk_by (N := ["grouping", "asks", "group", "mark"]) (sc := defScope (top 13)) (by decide +kernel)) (lcg_name hP (by decide)) (fun _ _ _ _ _ => (pg_name (i := 3) sc_book_of.nd rfl (by first | exact Or.inl rfl | exact Or.inr rfl))) (fun _ _ _ _ _ => lts_nil) (fun _ _ _ _ _ => (l_if (lt_cmp (op_eqS hr.units) (lk_eqS rfl) (l_var 3) (l_var 2) (nomark _)) l_int l_int))) la_nil)) la_nil))) la_nil)))))
    (ss_one (s_ret (l_bltT call_tuple_of (lk_tupOf rfl) rfl B_tuple boot_tuple (la_cons (l_var 1) la_nil))))))
theorem sc__law_hand : FnScope ["_law_script", "_law_total", "_law_cells", "_law_cell"] ["_law_script"] (defScope (top 15)) := ⟨rfl, rfl, rfl, by decide +kernel, rfl, by decide +kernel, by decide +kernel⟩
theorem ok__law_hand {b : Bool} {f : Addr} {fd : FuncData} {dvs : List V} (hP : ∀ σ α H, C.ps σ α H) (F : FunD C.K "_law_hand" "_law_hand" (defArgs (top 15)) (defBody (top 15)) (defScope (top 15)) dvs [] f fd) (B_len : mg "len" = none) (B_int : mg "int" = none) (B_abs : mg "abs" = none) : FnG b P w C.K mg base 1 f fd ["_law_script"] (spF C g__law_hand 1) := by
  refine fn_ok hP F sc__law_hand rfl rfl fun cdv A st s H E hr gd => ?_
  exact (ss_cons (s_set 1 (kp hP) sc__law_hand.nd (l_add false (l_blt (call_len) (lk_len rfl) rfl B_len boot_len (la_cons (l_var 0) la_nil)) l_int))
    (ss_cons (s_set 2 (kp hP) sc__law_hand.nd (l_cell la_nil))
    (ss_cons (s_for (passes_of rfl) rfl (i_seq (l_var 0)) (g_name 3 (kp hP) sc__law_hand.nd) (ss_cons (s_set 1 (kp hP) sc__law_hand.nd (l_mod (l_bltT call_int1 (lk_int) rfl B_int boot_int (la_cons (l_add false (l_mul false (l_var 1) l_int) (l_bltT call_int1 (lk_int) rfl B_int boot_int (la_cons (l_var 3) la_nil))) la_nil)) l_int))
    (ss_one (s_expr (l_bm (ty_list rfl) lk_append PySem.F.plainAttrs_list PySem.F.slot_list_append PySem.F.type_list_append mt_append (l_var 2) (la_cons (l_blt (call_abs) (lk_abs) rfl B_abs boot_abs (la_cons (l_bltT call_int1 (lk_int) rfl B_int boot_int (la_cons (l_var 3) la_nil)) la_nil)) la_nil))))))
    (ss_one (s_ret (l_cell (la_cons (l_var 2) (la_cons l_int (la_cons l_int (la_cons (l_var 1) la_nil))))))))))
theorem sc__law_mixed : FnScope ["_law_number", "_law_turn", "_law_once", "_law_twice"] ["_law_number", "_law_turn"] (defScope (top 16)) := ⟨rfl, rfl, rfl, by decide +kernel, rfl, by decide +kernel, by decide +kernel⟩
theorem ok__law_mixed {b : Bool} {f : Addr} {fd : FuncData} {dvs : List V} (hP : ∀ σ α H, C.ps σ α H) (F : FunD C.K "_law_mixed" "_law_mixed" (defArgs (top 16)) (defBody (top 16)) (defScope (top 16)) dvs [] f fd) (B_int : mg "int" = none) : FnG b P w C.K mg base 1 f fd ["_law_number", "_law_turn"] (spF C g__law_mixed 2) := by
  refine fn_ok hP F sc__law_mixed rfl rfl fun cdv A st s H E hr gd => ?_
  exact (ss_cons (s_set 2 (kp hP) sc__law_mixed.nd (l_mod (l_bltT call_int1 (lk_int) rfl B_int boot_int (la_cons (l_add false (l_add false (l_mul false (l_var 0) l_int) (l_mul false (l_var 1) l_int)) l_int) la_nil)) l_int))
    (ss_cons (s_set 3 (kp hP) sc__law_mixed.nd (l_mod (l_bltT call_int1 (lk_int) rfl B_int boot_int (la_cons (l_add false (l_add false (l_mul false (l_var 2) (l_var 2)) (l_mul false (l_var 1) l_int)) (l_div (l_var 2) l_int)) la_nil)) l_int))
    (ss_one (s_ret (l_div (l_bltT call_int1 (lk_int) rfl B_int boot_int (la_cons (l_mod (l_bltT call_int1 (lk_int) rfl B_int boot_int (la_cons (l_add false (l_mul false (l_var 3) l_int) (l_div (l_var 2) l_int)) la_nil)) l_int) la_nil)) l_int)))))
theorem sc__law_take : FnScope ["_law_hand_here", "_law_many_here", "_law_cell", "_law_rest"] ["_law_hand_here", "_law_many_here"] (defScope (top 17)) := ⟨rfl, rfl, rfl, by decide +kernel, rfl, by decide +kernel, by decide +kernel⟩
theorem ok__law_take {b : Bool} {f : Addr} {fd : FuncData} {dvs : List V} (hP : ∀ σ α H, C.ps σ α H) (F : FunD C.K "_law_take" "_law_take" (defArgs (top 17)) (defBody (top 17)) (defScope (top 17)) dvs [] f fd) (B_len : mg "len" = none) (B_int : mg "int" = none) (H__law_mixed : Has b P w C mg base 1 "_law_mixed" g__law_mixed 2 []) (ct : CtOk C TT nm) : FnG b P w C.K mg base 2 f fd ["_law_hand_here", "_law_many_here"] (spF C g__law_take 2) := by
  refine fn_ok hP F sc__law_take rfl rfl fun cdv A st s H E hr gd => ?_
  exact (ss_cons (s_if (PW.pt (lw_and (lt_cmp (op_eqS hr.units) (lk_eqS rfl) (l_ix (l_var 0) l_int) l_int (nomark _)) (lw_and1 (lt_cmp op_lt lk_lt (l_ix (l_var 0) l_int) (l_blt (call_len) (lk_len rfl) rfl B_len boot_len (la_cons (l_ix (l_var 0) l_int) la_nil)) (nomark _))))) (ss_cons (s_set 2 (kp hP) sc__law_take.nd (l_ix (l_ix (l_var 0) l_int) (l_ix (l_var 0) l_int)))
    (ss_cons (s_asg (l_add false (l_ix (l_var 0) l_int) l_int) (g_sub (l_var 0) l_int set_list lk_stL))
    (ss_cons (s_if (lt_cmp op_lt lk_lt (l_var 2) (l_pow l_int l_int) (nomark _)) (ss_one (s_ret (l_mod (l_bltT call_int1 (lk_int) rfl B_int boot_int (la_cons (l_trim ct.nf (l_callH H__law_mixed hr gd (fun σ => passAt (takes_of rfl rfl rfl rfl) σ) rfl (la_cons (l_mod (l_bltT call_int1 (lk_int) rfl B_int boot_int (la_cons (l_var 2) la_nil)) l_int) (la_cons (l_ix (l_var 0) l_int) la_nil)))) la_nil)) (l_var 1)))) ss_nil)
    (ss_one (s_asg (l_var 2) (g_sub (l_var 0) l_int set_list lk_stL)))))) ss_nil)
    (ss_cons (s_if (lt_cmp op_gt lk_gt (l_ix (l_var 0) l_int) l_int (nomark _)) (ss_cons (s_set 3 (kp hP) sc__law_take.nd (l_ix (l_var 0) l_int))
    (ss_cons (s_asg (l_div (l_bltT call_int1 (lk_int) rfl B_int boot_int (la_cons (l_var 3) la_nil)) (l_var 1)) (g_sub (l_var 0) l_int set_list lk_stL))
    (ss_one (s_ret (l_mod (l_bltT call_int1 (lk_int) rfl B_int boot_int (la_cons (l_var 3) la_nil)) (l_var 1)))))) ss_nil)
    (ss_cons (s_asg (l_mod (l_bltT call_int1 (lk_int) rfl B_int boot_int (la_cons (l_add false (l_ix (l_var 0) l_int) l_int) la_nil)) l_int) (g_sub (l_var 0) l_int set_list lk_stL))
    (ss_one (s_ret (l_mod (l_bltT call_int1 (lk_int) rfl B_int boot_int (la_cons (l_trim ct.nf (l_callH H__law_mixed hr gd (fun σ => passAt (takes_of rfl rfl rfl rfl) σ) rfl (la_cons (l_ix (l_var 0) l_int) (la_cons (l_ix (l_var 0) l_int) la_nil)))) la_nil)) (l_var 1)))))))
theorem sc__law_many : FnScope ["_law_letters"] ["_law_letters"] (defScope (top 18)) := ⟨rfl, rfl, rfl, by decide +kernel, rfl, by decide +kernel, by decide +kernel⟩
theorem ok__law_many {b : Bool} {f : Addr} {fd : FuncData} {dvs : List V} (hP : ∀ σ α H, C.ps σ α H) (F : FunD C.K "_law_many" "_law_many" (defArgs (top 18)) (defBody (top 18)) (defScope (top 18)) dvs [] f fd) (B_max : mg "max" = none) : FnG b P w C.K mg base 1 f fd ["_law_letters"] (spF C g__law_many 1) := by
  refine fn_ok hP F sc__law_many rfl rfl fun cdv A st s H E hr gd => ?_
  exact (ss_one (s_ret (l_if (lt_val (l_var 0)) (l_add false (l_blt (cr_maxS rfl hr.units) (lk_maxS rfl) rfl B_max PyProof.Rows.boot_max (la_cons (l_var 0) la_nil)) l_int) l_int)))
theorem sc__law_grouping : FnScope ["_law_hand_here", "_law_many_here", "_law_groups", "_law_at"] ["_law_hand_here", "_law_many_here"] (defScope (top 19)) := ⟨rfl, rfl, rfl, by decide +kernel, rfl, by decide +kernel, by decide +kernel⟩
theorem ok__law_grouping {b : Bool} {f : Addr} {fd : FuncData} {dvs : List V} (hP : ∀ σ α H, C.ps σ α H) (F : FunD C.K "_law_grouping" "_law_grouping" (defArgs (top 19)) (defBody (top 19)) (defScope (top 19)) dvs [] f fd) (B_range : mg "range" = none) (H__law_take : Has b P w C mg base 2 "_law_take" g__law_take 2 []) (H__law_many : Has b P w C mg base 1 "_law_many" g__law_many 1 []) (ct : CtOk C TT nm) : FnG b P w C.K mg base 3 f fd ["_law_hand_here", "_law_many_here"] (spF C g__law_grouping 2) := by
  refine fn_ok hP F sc__law_grouping rfl rfl fun cdv A st s H E hr gd => ?_
  exact (ss_cons (s_set 2 (kp hP) sc__law_grouping.nd (l_cell la_nil))
    (ss_cons (s_for (passes_of rfl) rfl (i_range1 rfl B_range (la_cons (l_var 1) la_nil)) (g_name 3 (kp hP) sc__law_grouping.nd) (ss_one (s_expr (l_bm (ty_list rfl) lk_append PySem.F.plainAttrs_list PySem.F.slot_list_append PySem.F.type_list_append mt_append (l_var 2) (la_cons (l_trim ct.nf (l_callH H__law_take hr gd (fun σ => passAt (takes_of rfl rfl rfl rfl) σ) rfl (la_cons (l_var 0) (la_cons (l_add false l_int (l_trim ct.nf (l_callH H__law_many hr gd (fun σ => passAt (takes_of rfl rfl rfl rfl) σ) rfl (la_cons (l_var 2) la_nil)))) la_nil)))) la_nil)))))
    (ss_one (s_ret (l_var 2)))))
theorem sc__law_rid : FnScope ["_law_hand_here"] ["_law_hand_here"] (defScope (top 20)) := ⟨rfl, rfl, rfl, by decide +kernel, rfl, by decide +kernel, by decide +kernel⟩
theorem ok__law_rid {b : Bool} {f : Addr} {fd : FuncData} {dvs : List V} (hP : ∀ σ α H, C.ps σ α H) (F : FunD C.K "_law_rid" "_law_rid" (defArgs (top 20)) (defBody (top 20)) (defScope (top 20)) dvs [] f fd) (H__law_take : Has b P w C mg base 2 "_law_take" g__law_take 2 []) (ct : CtOk C TT nm) : FnG b P w C.K mg base 3 f fd ["_law_hand_here"] (spF C g__law_rid 1) := by
  refine fn_ok hP F sc__law_rid rfl rfl fun cdv A st s H E hr gd => ?_
  exact (ss_one (s_ret (l_ix (l_tup (la_cons l_non (la_cons l_str (la_cons l_bl (la_cons (l_dct1 (k := (Sum.inl 0)) pe_int pe_int (.int _) (.int _)) (la_cons (l_tup (la_cons l_int la_nil)) (la_cons l_bl la_nil))))))) (l_trim ct.nf (l_callH H__law_take hr gd (fun σ => passAt (takes_of rfl rfl rfl rfl) σ) rfl (la_cons (l_var 0) (la_cons l_int la_nil)))))))
theorem sc__law_seq : FnScope ["_law_thing"] ["_law_thing"] (defScope (top 21)) := ⟨rfl, rfl, rfl, by decide +kernel, rfl, by decide +kernel, by decide +kernel⟩
theorem ok__law_seq {b : Bool} {f : Addr} {fd : FuncData} {dvs : List V} (hP : ∀ σ α H, C.ps σ α H) (F : FunD C.K "_law_seq" "_law_seq" (defArgs (top 21)) (defBody (top 21)) (defScope (top 21)) dvs [] f fd) (B_isinstance : mg "isinstance" = none) (B_list : mg "list" = none) (B_tuple : mg "tuple" = none) : FnG b P w C.K mg base 1 f fd ["_law_thing"] (spF C g__law_seq 1) := by
  refine fn_ok hP F sc__law_seq rfl rfl fun cdv A st s H E hr gd => ?_
  exact (ss_one (s_ret (l_or (l_blt (call_isi) (lk_isi rfl) rfl B_isinstance boot_isinstance (la_cons (l_var 0) (la_cons (l_ty .list rfl B_list boot_list) la_nil))) (l_one (l_blt (call_isi) (lk_isi rfl) rfl B_isinstance boot_isinstance (la_cons (l_var 0) (la_cons (l_ty .tuple rfl B_tuple boot_tuple) la_nil)))))))
theorem sc__law_int : FnScope ["_law_thing"] ["_law_thing"] (defScope (top 22)) := ⟨rfl, rfl, rfl, by decide +kernel, rfl, by decide +kernel, by decide +kernel⟩
theorem ok__law_int {b : Bool} {f : Addr} {fd : FuncData} {dvs : List V} (hP : ∀ σ α H, C.ps σ α H) (F : FunD C.K "_law_int" "_law_int" (defArgs (top 22)) (defBody (top 22)) (defScope (top 22)) dvs [] f fd) (B_isinstance : mg "isinstance" = none) (B_int : mg "int" = none) (B_bool : mg "bool" = none) : FnG b P w C.K mg base 1 f fd ["_law_thing"] (spF C g__law_int 1) := by
  refine fn_ok hP F sc__law_int rfl rfl fun cdv A st s H E hr gd => ?_
  exact (ss_one (s_ret (l_and (l_blt (call_isi) (lk_isi rfl) rfl B_isinstance boot_isinstance (la_cons (l_var 0) (la_cons (l_ty .int rfl B_int boot_int) la_nil))) (l_one (l_not (l_blt (call_isi) (lk_isi rfl) rfl B_isinstance boot_isinstance (la_cons (l_var 0) (la_cons (l_ty .bool rfl B_bool boot_bool) la_nil))))))))
theorem sc__law_within : FnScope ["_law_thing", "_law_low", "_law_high"] ["_law_thing", "_law_low", "_law_high"] (defScope (top 23)) := ⟨rfl, rfl, rfl, by decide +kernel, rfl, by decide +kernel, by decide +kernel⟩
theorem ok__law_within {b : Bool} {f : Addr} {fd : FuncData} {dvs : List V} (hP : ∀ σ α H, C.ps σ α H) (F : FunD C.K "_law_within" "_law_within" (defArgs (top 23)) (defBody (top 23)) (defScope (top 23)) dvs [] f fd) (H__law_int : Has b P w C mg base 1 "_law_int" g__law_int 1 []) (ct : CtOk C TT nm) : FnG b P w C.K mg base 2 f fd ["_law_thing", "_law_low", "_law_high"] (spF C g__law_within 3) := by
  refine fn_ok hP F sc__law_within rfl rfl fun cdv A st s H E hr gd => ?_
  exact (ss_one (s_ret (l_and (l_trim ct.nf (l_callH H__law_int hr gd (fun σ => passAt (takes_of rfl rfl rfl rfl) σ) rfl (la_cons (l_var 0) la_nil))) (l_one (l_chain op_le lk_le op_le lk_le (l_var 1) (l_var 0) (l_var 2))))))
theorem sc__law_row : FnScope ["_law_hand_here", "_law_items"] ["_law_hand_here", "_law_items"] (defScope (top 24)) := ⟨rfl, rfl, rfl, by decide +kernel, rfl, by decide +kernel, by decide +kernel⟩
theorem ok__law_row {b : Bool} {f : Addr} {fd : FuncData} {dvs : List V} (hP : ∀ σ α H, C.ps σ α H) (F : FunD C.K "_law_row" "_law_row" (defArgs (top 24)) (defBody (top 24)) (defScope (top 24)) dvs [] f fd) (H__law_take : Has b P w C mg base 2 "_law_take" g__law_take 2 []) (ct : CtOk C TT nm) (B_list : mg "list" = none) (B_tuple : mg "tuple" = none) : FnG b P w C.K mg base 3 f fd ["_law_hand_here", "_law_items"] (spF C g__law_row 2) := by
  refine fn_ok hP F sc__law_row rfl rfl fun cdv A st s H E hr gd => ?_
  exact (ss_one (s_ret (l_if (lt_val (l_trim ct.nf (l_callH H__law_take hr gd (fun σ => passAt (takes_of rfl rfl rfl rfl) σ) rfl (la_cons (l_var 0) (la_cons l_int la_nil))))) (l_bltT call_list_of (lk_listOf (cell := false) rfl) rfl B_list boot_list (la_cons (l_var 1) la_nil)) (l_bltT call_tuple_of (lk_tupOf rfl) rfl B_tuple boot_tuple (la_cons (l_var 1) la_nil)))))
theorem sc__law_spoiled : FnScope ["_law_hand_here", "_law_things", "_law_odd", "_law_kind", "_law_rows", "_law_at", "_law_other", "_law_kept"] ["_law_hand_here", "_law_things", "_law_odd"] (defScope (top 25)) := ⟨rfl, rfl, rfl, by decide +kernel, rfl, by decide +kernel, by decide +kernel⟩
theorem ok__law_spoiled {b : Bool} {f : Addr} {fd : FuncData} {dvs : List V} (hP : ∀ σ α H, C.ps σ α H) (F : FunD C.K "_law_spoiled" "_law_spoiled" (defArgs (top 25)) (defBody (top 25)) (defScope (top 25)) dvs [] f fd) (H__law_take : Has b P w C mg base 2 "_law_take" g__law_take 2 []) (ct : CtOk C TT nm) (B_list : mg "list" = none) (H__law_rid : Has b P w C mg base 3 "_law_rid" g__law_rid 1 []) (B_len : mg "len" = none) : FnG b P w C.K mg base 4 f fd ["_law_hand_here", "_law_things", "_law_odd"] (spF C g__law_spoiled 3) := by
  refine fn_ok hP F sc__law_spoiled rfl rfl fun cdv A st s H E hr gd => ?_
  exact (ss_cons (s_set 3 (kp hP) sc__law_spoiled.nd (l_trim ct.nf (l_callH H__law_take hr gd (fun σ => passAt (takes_of rfl rfl rfl rfl) σ) rfl (la_cons (l_var 0) (la_cons l_int la_nil)))))
    (ss_cons (s_set 4 (kp hP) sc__law_spoiled.nd (l_bltT call_list_of (lk_listOf (cell := true) rfl) rfl B_list boot_list (la_cons (l_var 1) la_nil)))
    (ss_cons (s_if (lt_cmp (op_eqS hr.units) (lk_eqS rfl) (l_var 3) l_int (nomark _)) (ss_one (s_ret (l_trimW ct.nf (l_callH H__law_rid hr gd (fun σ => passAt (takes_of rfl rfl rfl rfl) σ) rfl (la_cons (l_var 0) la_nil))))) ss_nil)
    (ss_cons (s_if (PW.pt (lw_or (lt_cmp op_lt lk_lt (l_var 3) l_int (nomark _)) (lw_or1 (lt_not (lt_val (l_var 4)))))) (ss_cons (s_expr (l_bm (ty_list rfl) lk_insert PySem.F.plainAttrs_list PySem.F.slot_list_insert PySem.F.type_list_insert mt_insert (l_var 4) (la_cons (l_trim ct.nf (l_callH H__law_take hr gd (fun σ => passAt (takes_of rfl rfl rfl rfl) σ) rfl (la_cons (l_var 0) (la_cons (l_add false (l_blt (call_len) (lk_len rfl) rfl B_len boot_len (la_cons (l_var 4) la_nil)) l_int) la_nil)))) (la_cons (l_var 2) la_nil))))
    (ss_one (s_ret (l_var 4)))) ss_nil)
    (ss_cons (s_set 5 (kp hP) sc__law_spoiled.nd (l_trim ct.nf (l_callH H__law_take hr gd (fun σ => passAt (takes_of rfl rfl rfl rfl) σ) rfl (la_cons (l_var 0) (la_cons (l_blt (call_len) (lk_len rfl) rfl B_len boot_len (la_cons (l_var 4) la_nil)) la_nil)))))
    (ss_cons (s_if (lt_cmp op_lt lk_lt (l_var 3) l_int (nomark _)) (ss_one (s_asg (l_var 2) (g_sub (l_var 4) (l_var 5) set_list lk_stL))) (ss_one (s_if (lt_cmp (op_eqS hr.units) (lk_eqS rfl) (l_var 3) l_int (nomark _)) (ss_one (s_expr (l_bm (ty_list rfl) lk_insert PySem.F.plainAttrs_list PySem.F.slot_list_insert PySem.F.type_list_insert mt_insert (l_var 4) (la_cons (l_var 5) (la_cons (l_ix (l_var 4) (l_var 5)) la_nil))))) (ss_cons (s_set 6 (kp hP) sc__law_spoiled.nd (l_trim ct.nf (l_callH H__law_take hr gd (fun σ => passAt (takes_of rfl rfl rfl rfl) σ) rfl (la_cons (l_var 0) (la_cons (l_blt (call_len) (lk_len rfl) rfl B_len boot_len (la_cons (l_var 4) la_nil)) la_nil)))))
    (ss_cons (s_set 7 (kp hP) sc__law_spoiled.nd (l_ix (l_var 4) (l_var 5)))
    (ss_cons (s_asg (l_ix (l_var 4) (l_var 6)) (g_sub (l_var 4) (l_var 5) set_list lk_stL))
    (ss_one (s_asg (l_var 7) (g_sub (l_var 4) (l_var 6) set_list lk_stL)))))))))
    (ss_one (s_ret (l_var 4)))))))))
theorem sc__law_all : FnScope ["_law_count_here", "_law_wrong", "_law_told"] ["_law_count_here"] (defScope (top 26)) := ⟨rfl, rfl, rfl, by decide +kernel, rfl, by decide +kernel, by decide +kernel⟩
theorem ok__law_all {b : Bool} {f : Addr} {fd : FuncData} {dvs : List V} (hP : ∀ σ α H, C.ps σ α H) (F : FunD C.K "_law_all" "_law_all" (defArgs (top 26)) (defBody (top 26)) (defScope (top 26)) dvs [] f fd) (B_list : mg "list" = none) (H_all_groupings : HasN P w C mg base 4 "all_groupings" g_all_groupings 1) (K_all_groupings : ∀ c, okx_all_groupings c = true → OexC C.K (C.xcls c)) (ct : CtOk C TT nm) (S_BadCount : ∀ k b, sub_BadCount k = some b → PySem.W.exmOne C.K (.ref (C.xcls k)) (.ref (C.xcls 2)) = some b) (N_BadCount : mg "BadCount" = some (.ref (C.xcls 2))) (xo : XOk C XT nm) : FnG b P w C.K mg base 8 f fd ["_law_count_here"] (spF C g__law_all 1) := by
  refine fn_ok hP F sc__law_all rfl rfl fun cdv A st s H E hr gd => ?_
  exact (ss_cons (s_try hP rfl rfl sc__law_all.nd (takes_of rfl rfl rfl rfl) (fun W pn xe tk po => (ss_one (s_set 2 (kp hP) sc__law_all.nd (l_lst (la_cons (l_trim ct.nf (l_listG (cell := false) H_all_groupings K_all_groupings hr (fun σ => passAt tk σ) rfl rfl B_list (la_cons (l_var 0) la_nil))) la_nil))))) (Cl3.named (q := ⟨some 1, sub_BadCount, fun k ds => (svSet 2 (evXf XT 1 k ds))⟩) rfl rfl rfl ⟨rfl, by decide, .inl N_BadCount⟩ S_BadCount (fun a oe d pn k ds hz hf => (ss_one (s_set 2 (kn (by decide)) sc__law_all.nd (l_xf (i := 1) 1 xo rfl hz hf)))) Cl3.nil))
    (ss_one (s_ret (l_var 2))))
theorem sc__law_counted : FnScope ["_law_count_here", "_law_wrong", "_law_told"] ["_law_count_here"] (defScope (top 27)) := ⟨rfl, rfl, rfl, by decide +kernel, rfl, by decide +kernel, by decide +kernel⟩
theorem ok__law_counted {b : Bool} {f : Addr} {fd : FuncData} {dvs : List V} (hP : ∀ σ α H, C.ps σ α H) (F : FunD C.K "_law_counted" "_law_counted" (defArgs (top 27)) (defBody (top 27)) (defScope (top 27)) dvs [] f fd) (H_count_groupings : Has b P w C mg base 4 "count_groupings" g_count_groupings 1 []) (ct : CtOk C TT nm) (S_BadCount : ∀ k b, sub_BadCount k = some b → PySem.W.exmOne C.K (.ref (C.xcls k)) (.ref (C.xcls 2)) = some b) (N_BadCount : mg "BadCount" = some (.ref (C.xcls 2))) (xo : XOk C XT nm) : FnG b P w C.K mg base 5 f fd ["_law_count_here"] (spF C g__law_counted 1) := by
  refine fn_ok hP F sc__law_counted rfl rfl fun cdv A st s H E hr gd => ?_
  exact (ss_cons (s_try hP rfl rfl sc__law_counted.nd (takes_of rfl rfl rfl rfl) (fun W pn xe tk po => (ss_one (s_set 2 (kp hP) sc__law_counted.nd (l_lst (la_cons (l_trim ct.nf (l_callH H_count_groupings hr gd (fun σ => passAt tk σ) rfl (la_cons (l_var 0) la_nil))) la_nil))))) (Cl3.named (q := ⟨some 1, sub_BadCount, fun k ds => (svSet 2 (evXf XT 1 k ds))⟩) rfl rfl rfl ⟨rfl, by decide, .inl N_BadCount⟩ S_BadCount (fun a oe d pn k ds hz hf => (ss_one (s_set 2 (kn (by decide)) sc__law_counted.nd (l_xf (i := 1) 1 xo rfl hz hf)))) Cl3.nil))
    (ss_one (s_ret (l_var 2))))
theorem sc__law_count : FnScope ["_law_count_here", "_law_wrong", "_law_told"] ["_law_count_here"] (defScope (top 28)) := ⟨rfl, rfl, rfl, by decide +kernel, rfl, by decide +kernel, by decide +kernel⟩
theorem ok__law_count {b : Bool} {f : Addr} {fd : FuncData} {dvs : List V} (hP : ∀ σ α H, C.ps σ α H) (F : FunD C.K "_law_count" "_law_count" (defArgs (top 28)) (defBody (top 28)) (defScope (top 28)) dvs [] f fd) (H_check_count : Has b P w C mg base 3 "check_count" g_check_count 1 []) (ct : CtOk C TT nm) (S_BadCount : ∀ k b, sub_BadCount k = some b → PySem.W.exmOne C.K (.ref (C.xcls k)) (.ref (C.xcls 2)) = some b) (N_BadCount : mg "BadCount" = some (.ref (C.xcls 2))) (xo : XOk C XT nm) : FnG b P w C.K mg base 4 f fd ["_law_count_here"] (spF C g__law_count 1) := by
  refine fn_ok hP F sc__law_count rfl rfl fun cdv A st s H E hr gd => ?_
  exact (ss_cons (s_try hP rfl rfl sc__law_count.nd (takes_of rfl rfl rfl rfl) (fun W pn xe tk po => (ss_one (s_set 2 (kp hP) sc__law_count.nd (l_lst (la_cons (l_trim ct.nf (l_callH H_check_count hr gd (fun σ => passAt tk σ) rfl (la_cons (l_var 0) la_nil))) la_nil))))) (Cl3.named (q := ⟨some 1, sub_BadCount, fun k ds => (svSet 2 (evXf XT 1 k ds))⟩) rfl rfl rfl ⟨rfl, by decide, .inl N_BadCount⟩ S_BadCount (fun a oe d pn k ds hz hf => (ss_one (s_set 2 (kn (by decide)) sc__law_count.nd (l_xf (i := 1) 1 xo rfl hz hf)))) Cl3.nil))
    (ss_one (s_ret (l_var 2))))
theorem sc__law_checked : FnScope ["_law_count_here", "_law_grouping_here", "_law_gaps", "_law_wrong", "_law_told"] ["_law_count_here", "_law_grouping_here", "_law_gaps"] (defScope (top 29)) := ⟨rfl, rfl, rfl, by decide +kernel, rfl, by decide +kernel, by decide +kernel⟩
theorem ok__law_checked {b : Bool} {f : Addr} {fd : FuncData} {dvs : List V} (hP : ∀ σ α H, C.ps σ α H) (F : FunD C.K "_law_checked" "_law_checked" (defArgs (top 29)) (defBody (top 29)) (defScope (top 29)) dvs [] f fd) (H_check_grouping_2 : HasF b P w C mg base 3 "check_grouping" g_check_grouping 3 2 [] [0, 1, 2] [.bl false]) (ct : CtOk C TT nm) (H_check_grouping_1_gaps_grouping : HasF b P w C mg base 3 "check_grouping" g_check_grouping 3 1 ["gaps", "grouping"] [0, 2, 1] [.bl false]) (S_BadGrouping : ∀ k b, sub_BadGrouping k = some b → PySem.W.exmOne C.K (.ref (C.xcls k)) (.ref (C.xcls 1)) = some b) (N_BadGrouping : mg "BadGrouping" = some (.ref (C.xcls 1))) (xo : XOk C XT nm) : FnG b P w C.K mg base 4 f fd ["_law_count_here", "_law_grouping_here", "_law_gaps"] (spF C g__law_checked 3) := by
  refine fn_ok hP F sc__law_checked rfl rfl fun cdv A st s H E hr gd => ?_
  exact (ss_cons (s_try hP rfl rfl sc__law_checked.nd (takes_of rfl rfl rfl rfl) (fun W pn xe tk po => (ss_one (s_if (lt_cmp op_isN lk_isN (l_var 2) l_non (nomark _)) (ss_one (s_set 4 (kp hP) sc__law_checked.nd (l_trim ct.nf (l_fP H_check_grouping_2 hr gd (fun σ => passAt tk σ) rfl (la_cons (l_var 0) (la_cons (l_var 1) la_nil)))))) (ss_one (s_set 4 (kp hP) sc__law_checked.nd (l_trim ct.nf (l_fKW 2 H_check_grouping_1_gaps_grouping hr gd (fun σ => passAt tk σ) rfl (la_cons (l_var 0) la_nil) (lk_cons (l_var 2) (lk_cons (l_var 1) lk_nil))))))))) (Cl3.named (q := ⟨some 3, sub_BadGrouping, fun k ds => (svSet 4 (evA mkLst (avCons (evXf XT 0 k ds) avNil)))⟩) rfl rfl rfl ⟨rfl, by decide, .inl N_BadGrouping⟩ S_BadGrouping (fun a oe d pn k ds hz hf => (ss_one (s_set 4 (kn (by decide)) sc__law_checked.nd (l_lst (la_cons (l_xf (i := 3) 0 xo rfl hz hf) la_nil))))) Cl3.nil))
    (ss_one (s_ret (l_var 4))))
theorem sc__law_checked_due : FnScope ["_law_count_here", "_law_grouping_here", "_law_gaps", "_law_fresh", "_law_at"] ["_law_count_here", "_law_grouping_here", "_law_gaps"] (defScope (top 30)) := ⟨rfl, rfl, rfl, by decide +kernel, rfl, by decide +kernel, by decide +kernel⟩
theorem ok__law_checked_due {b : Bool} {f : Addr} {fd : FuncData} {dvs : List V} (hP : ∀ σ α H, C.ps σ α H) (F : FunD C.K "_law_checked_due" "_law_checked_due" (defArgs (top 30)) (defBody (top 30)) (defScope (top 30)) dvs [] f fd) (H__law_seq : Has b P w C mg base 1 "_law_seq" g__law_seq 1 []) (ct : CtOk C TT nm) (B_range : mg "range" = none) (B_len : mg "len" = none) (H__law_within : Has b P w C mg base 2 "_law_within" g__law_within 3 []) (B_max : mg "max" = none) (B_min : mg "min" = none) (B_tuple : mg "tuple" = none) : FnG b P w C.K mg base 3 f fd ["_law_count_here", "_law_grouping_here", "_law_gaps"] (spF C g__law_checked_due 3) := by
  refine fn_ok hP F sc__law_checked_due rfl rfl fun cdv A st s H E hr gd => ?_
  exact (ss_cons (s_if (lt_not (lt_val (l_trim ct.nf (l_callH H__law_seq hr gd (fun σ => passAt (takes_of rfl rfl rfl rfl) σ) rfl (la_cons (l_var 1) la_nil))))) (ss_one (s_ret (l_lst (la_cons l_int la_nil)))) ss_nil)
    (ss_cons (s_set 3 (kp hP) sc__law_checked_due.nd l_int)
    (ss_cons (s_for (passes_of rfl) rfl (i_range1 rfl B_range (la_cons (l_blt (call_len) (lk_len rfl) rfl B_len boot_len (la_cons (l_var 1) la_nil)) la_nil)) (g_name 4 (kp hP) sc__law_checked_due.nd) (ss_cons (s_if (PW.pt (lw_and (lt_cmp op_isN lk_isN (l_ix (l_var 1) (l_var 4)) l_non (nomark _)) (lw_and1 (lt_val (l_var 2))))) (ss_one s_cont) ss_nil)
    (ss_cons (s_if (lt_not (lt_val (l_trim ct.nf (l_callH H__law_within hr gd (fun σ => passAt (takes_of rfl rfl rfl rfl) σ) rfl (la_cons (l_ix (l_var 1) (l_var 4)) (la_cons l_int (la_cons (l_var 3) la_nil))))))) (ss_one (s_ret (l_lst (la_cons (l_var 4) la_nil)))) ss_nil)
    (ss_one (s_set 3 (kp hP) sc__law_checked_due.nd (l_blt (call_max2 rfl) lk_max2 rfl B_max PyProof.Rows.boot_max (la_cons (l_var 3) (la_cons (l_add false (l_ix (l_var 1) (l_var 4)) l_int) la_nil))))))))
    (ss_cons (s_if (lt_cmp (op_neS hr.units) (lk_neS rfl) (l_blt (call_len) (lk_len rfl) rfl B_len boot_len (la_cons (l_var 1) la_nil)) (l_var 0) (nomark _)) (ss_one (s_ret (l_lst (la_cons (l_blt (call_min2 rfl) lk_min2 rfl B_min PyProof.Rows.boot_min (la_cons (l_blt (call_len) (lk_len rfl) rfl B_len boot_len (la_cons (l_var 1) la_nil)) (la_cons (l_var 0) la_nil))) la_nil)))) ss_nil)
    (ss_one (s_ret (l_bltT call_tuple_of (lk_tupOf rfl) rfl B_tuple boot_tuple (la_cons (l_var 1) la_nil))))))))
theorem sc__law_book_due : FnScope ["_law_grouping_here", "_law_groups", "_law_group", "_law_item"] ["_law_grouping_here"] (defScope (top 31)) := ⟨rfl, rfl, rfl, by decide +kernel, rfl, by decide +kernel, by decide +kernel⟩
theorem ok__law_book_due {b : Bool} {f : Addr} {fd : FuncData} {dvs : List V} (hP : ∀ σ α H, C.ps σ α H) (F : FunD C.K "_law_book_due" "_law_book_due" (defArgs (top 31)) (defBody (top 31)) (defScope (top 31)) dvs [] f fd) (ct : CtOk C TT nm) (B_tuple : mg "tuple" = none) (B_range : mg "range" = none) (H__law_many : Has b P w C mg base 1 "_law_many" g__law_many 1 []) (B_int : mg "int" = none) : FnG b P w C.K mg base 2 f fd ["_law_grouping_here"] (spF C g__law_book_due 1) := by
  refine fn_ok hP F sc__law_book_due rfl rfl fun cdv A st s H E hr gd => ?_
  exact (ss_cons (s_setLc 1 hP (own := [("_law_group", 2)]) (trim_imp ct.nf) rfl sc__law_book_due.nd rfl rfl (sw_true rfl rfl rfl (by decide +kernel)) (i_seq (l_var 0)) (blkOk_by (N := ["_law_grouping_here", "_law_groups", "_law_group", "_law_item"]) (sc := defScope (top 31)) (by decide +kernel)) (lcg_name hP (by decide)) (fun _ _ _ _ _ => (pg_name (i := 2) sc__law_book_due.nd rfl (by first | exact Or.inl rfl | exact Or.inr rfl))) (fun _ _ _ _ _ => (lts_one (lt_cmp op_notN lk_notN (l_var 2) l_non (nomark _)))) (fun _ _ _ _ _ => (l_var 2)))
    (ss_one (s_ret (l_bltT call_tuple_of (lk_tupOf rfl) rfl B_tuple boot_tuple (la_cons (l_lc hP (own := [("_law_group", 2)]) (trim_imp ct.nf) rfl sc__law_book_due.nd  (i_range1 rfl B_range (la_cons (l_trim ct.nf (l_callH H__law_many hr gd (fun σ => passAt (takes_of rfl rfl rfl rfl) σ) rfl (la_cons (l_var 1) la_nil))) la_nil)) (blkOk_by (N := ["_law_grouping_here", "_law_groups", "_law_group", "_law_item"]) (sc := defScope (top 31)) (by decide +kernel)) (lcg_name hP (by decide)) (fun _ _ _ _ _ => (pg_name (i := 2) sc__law_book_due.nd rfl (by first | exact Or.inl rfl | exact Or.inr rfl))) (fun _ _ _ _ _ => lts_nil) (fun _ _ _ _ _ => (l_tup (la_cons l_str (la_cons (l_bltT call_tuple_of (lk_tupOf rfl) rfl B_tuple boot_tuple (la_cons (l_lc hP (own := [("_law_item", 3)]) (trim_imp ct.nf) rfl sc__law_book_due.nd  (i_seq (l_var 0)) (blkOk_by (N := ["_law_grouping_here", "_law_groups", "_law_group", "_law_item"]) (sc := _) (by kernel_rfl)) (lcg_name hP (by decide)) (fun _ _ _ _ _ => (pg_name (i := 3) sc__law_book_due.nd rfl (by first | exact Or.inl rfl | exact Or.inr rfl))) (fun _ _ _ _ _ => lts_nil) (fun _ _ _ _ _ => (l_bltT call_int1 (lk_int) rfl B_int boot_int (la_cons (l_cmp (op_eqS hr.units) (lk_eqS rfl) (l_var 3) (l_var 2) (nomark _)) la_nil)))) la_nil)) la_nil))))) la_nil)))))
theorem sc_law : FnScope ["_law_script", "_law_hand_here", "_law_count_here", "_law_told", "_law_rows", "_law_step", "_law_wrong", "_law_longer", "_law_row_here", "_law_grouping_here", "_law_odd", "_law_some", "_law_kept", "_law_gaps", "_law_due", "_law_group", "_law_gapped"] ["_law_script"] (defScope (top 32)) := ⟨rfl, rfl, rfl, by decide +kernel, rfl, by decide +kernel, by decide +kernel⟩
theorem ok_law {f : Addr} {fd : FuncData} {dvs : List V} (hP : ∀ σ α H, C.ps σ α H) (F : FunD C.K "law" "law" (defArgs (top 32)) (defBody (top 32)) (defScope (top 32)) dvs [] f fd) (H__law_hand : Has true P w C mg base 1 "_law_hand" g__law_hand 1 []) (H__law_take : Has true P w C mg base 2 "_law_take" g__law_take 2 []) (ct : CtOk C TT nm) (H__law_all : Has true P w C mg base 8 "_law_all" g__law_all 1 []) (B_isinstance : mg "isinstance" = none) (B_list : mg "list" = none) (B_range : mg "range" = none) (H__law_many : Has true P w C mg base 1 "_law_many" g__law_many 1 []) (B_repr : mg "repr" = none) (H__law_counted : Has true P w C mg base 5 "_law_counted" g__law_counted 1 []) (B_len : mg "len" = none) (H__law_count : Has true P w C mg base 4 "_law_count" g__law_count 1 []) (H__law_grouping : Has true P w C mg base 3 "_law_grouping" g__law_grouping 2 []) (H__law_spoiled : Has true P w C mg base 4 "_law_spoiled" g__law_spoiled 3 []) (H__law_row : Has true P w C mg base 3 "_law_row" g__law_row 2 []) (H__law_checked : Has true P w C mg base 4 "_law_checked" g__law_checked 3 []) (H__law_checked_due : Has true P w C mg base 3 "_law_checked_due" g__law_checked_due 3 []) (B_tuple : mg "tuple" = none) (H_book_of : Has true P w C mg base 2 "book_of" g_book_of 1 []) (H__law_book_due : Has true P w C mg base 2 "_law_book_due" g__law_book_due 1 []) (H_groups_many : Has true P w C mg base 1 "groups_many" g_groups_many 1 []) : FnG true P w C.K mg base 9 f fd ["_law_script"] (spF C g_law 1) := by
  refine fn_ok hP F sc_law rfl rfl fun cdv A st s H E hr gd => ?_
  exact (ss_cons (s_set 1 (kp hP) sc_law.nd (l_callH H__law_hand hr gd (fun σ => passAt (takes_of rfl rfl rfl rfl) σ) rfl (la_cons (l_var 0) la_nil)))
    (ss_cons (s_set 2 (kp hP) sc_law.nd (l_add false l_int (l_trim ct.nf (l_callH H__law_take hr gd (fun σ => passAt (takes_of rfl rfl rfl rfl) σ) rfl (la_cons (l_var 1) (la_cons l_int la_nil))))))
    (ss_cons (s_set 3 (kp hP) sc_law.nd (l_trim ct.nf (l_callH H__law_all hr gd (fun σ => passAt (takes_of rfl rfl rfl rfl) σ) rfl (la_cons (l_var 2) la_nil))))
    (ss_cons (s_if (lt_not (lt_val (l_blt (call_isi) (lk_isi rfl) rfl B_isinstance boot_isinstance (la_cons (l_var 3) (la_cons (l_ty .list rfl B_list boot_list) la_nil))))) (ss_one (s_ret l_bl)) ss_nil)
    (ss_cons (s_set 4 (kp hP) sc_law.nd (l_lst (la_cons (l_tup la_nil) la_nil)))
    (ss_cons (s_for (passes_of rfl) rfl (i_range1 rfl B_range (la_cons (l_var 2) la_nil)) (g_name 5 (kp hP) sc_law.nd) (ss_cons (s_set 7 (kp hP) sc_law.nd (l_cell la_nil))
    (ss_cons (s_for (passes_of rfl) rfl (i_seq (l_var 4)) (g_name 8 (kp hP) sc_law.nd) (ss_one (s_for (passes_of rfl) rfl (i_range1 rfl B_range (la_cons (l_add false (l_trim ct.nf (l_callH H__law_many hr gd (fun σ => passAt (takes_of rfl rfl rfl rfl) σ) rfl (la_cons (l_var 8) la_nil))) l_int) la_nil)) (g_name 15 (kp hP) sc_law.nd) (ss_one (s_expr (l_bm (ty_list rfl) lk_append PySem.F.plainAttrs_list PySem.F.slot_list_append PySem.F.type_list_append mt_append (l_var 7) (la_cons (l_add false (l_var 8) (l_tup (la_cons (l_var 15) la_nil))) la_nil)))))))
    (ss_one (s_set 4 (kp hP) sc_law.nd (l_bltT call_list_of (lk_listOf (cell := false) rfl) rfl B_list boot_list (la_cons (l_var 7) la_nil)))))))
    (ss_cons (s_if (PW.pt (lw_or (lt_cmp (op_neS hr.units) (lk_neS rfl) (l_blt (cr_reprX (gd rfl) hr.units) (lk_reprX rfl) rfl B_repr boot_repr (la_cons (l_ix (l_var 3) l_int) la_nil)) (l_blt (cr_reprX (gd rfl) hr.units) (lk_reprX rfl) rfl B_repr boot_repr (la_cons (l_var 4) la_nil)) (nomark _)) (lw_or (lt_cmp (op_neS hr.units) (lk_neS rfl) (l_blt (cr_reprX (gd rfl) hr.units) (lk_reprX rfl) rfl B_repr boot_repr (la_cons (l_trim ct.nf (l_callH H__law_counted hr gd (fun σ => passAt (takes_of rfl rfl rfl rfl) σ) rfl (la_cons (l_var 2) la_nil))) la_nil)) (l_blt (cr_reprX (gd rfl) hr.units) (lk_reprX rfl) rfl B_repr boot_repr (la_cons (l_lst (la_cons (l_blt (call_len) (lk_len rfl) rfl B_len boot_len (la_cons (l_var 4) la_nil)) la_nil)) la_nil)) (nomark _)) (lw_or1 (lt_cmp (op_neS hr.units) (lk_neS rfl) (l_blt (cr_reprX (gd rfl) hr.units) (lk_reprX rfl) rfl B_repr boot_repr (la_cons (l_trim ct.nf (l_callH H__law_count hr gd (fun σ => passAt (takes_of rfl rfl rfl rfl) σ) rfl (la_cons (l_var 2) la_nil))) la_nil)) (l_blt (cr_reprX (gd rfl) hr.units) (lk_reprX rfl) rfl B_repr boot_repr (la_cons (l_lst (la_cons (l_var 2) la_nil)) la_nil)) (nomark _)))))) (ss_one (s_ret l_bl)) ss_nil)
    (ss_cons (s_for (passes_of rfl) rfl (i_seq (l_lst (la_cons l_int (la_cons l_int (la_cons (l_neg l_int) (la_cons l_bl (la_cons l_non (la_cons l_str (la_cons (l_tup (la_cons l_int la_nil)) (la_cons (l_add false l_int (l_trim ct.nf (l_callH H__law_take hr gd (fun σ => passAt (takes_of rfl rfl rfl rfl) σ) rfl (la_cons (l_var 1) (la_cons (l_pow l_int l_int) la_nil))))) (la_cons (l_pow l_int l_int) la_nil))))))))))) (g_name 6 (kp hP) sc_law.nd) (ss_one (s_if (lt_cmp (op_neS hr.units) (lk_neS rfl) (l_blt (cr_reprX (gd rfl) hr.units) (lk_reprX rfl) rfl B_repr boot_repr (la_cons (l_tup (la_cons (l_trim ct.nf (l_callH H__law_all hr gd (fun σ => passAt (takes_of rfl rfl rfl rfl) σ) rfl (la_cons (l_var 6) la_nil))) (la_cons (l_trim ct.nf (l_callH H__law_counted hr gd (fun σ => passAt (takes_of rfl rfl rfl rfl) σ) rfl (la_cons (l_var 6) la_nil))) (la_cons (l_trim ct.nf (l_callH H__law_count hr gd (fun σ => passAt (takes_of rfl rfl rfl rfl) σ) rfl (la_cons (l_var 6) la_nil))) la_nil)))) la_nil)) (l_blt (cr_reprX (gd rfl) hr.units) (lk_reprX rfl) rfl B_repr boot_repr (la_cons (l_tup (la_cons (l_var 6) (la_cons (l_var 6) (la_cons (l_var 6) la_nil)))) la_nil)) (nomark _)) (ss_one (s_ret l_bl)) ss_nil)))
    (ss_cons (s_for (passes_of rfl) rfl (i_range1 rfl B_range (la_cons l_int la_nil)) (g_name 5 (kp hP) sc_law.nd) (ss_cons (s_set 9 (kp hP) sc_law.nd (l_trimW ct.nf (l_callH H__law_grouping hr gd (fun σ => passAt (takes_of rfl rfl rfl rfl) σ) rfl (la_cons (l_var 1) (la_cons (l_var 2) la_nil)))))
    (ss_cons (s_if (lt_val (l_trim ct.nf (l_callH H__law_take hr gd (fun σ => passAt (takes_of rfl rfl rfl rfl) σ) rfl (la_cons (l_var 1) (la_cons l_int la_nil))))) (ss_cons (s_set 16 (kp hP) sc_law.nd (l_cell la_nil))
    (ss_cons (s_for (passes_of rfl) rfl (i_seq (l_var 9)) (g_name 15 (kp hP) sc_law.nd) (ss_cons (s_if (lt_cmp (op_eqS hr.units) (lk_eqS rfl) (l_trim ct.nf (l_callH H__law_take hr gd (fun σ => passAt (takes_of rfl rfl rfl rfl) σ) rfl (la_cons (l_var 1) (la_cons l_int la_nil)))) l_int (nomark _)) (ss_one (s_expr (l_bm (ty_list rfl) lk_append PySem.F.plainAttrs_list PySem.F.slot_list_append PySem.F.type_list_append mt_append (l_var 16) (la_cons l_non la_nil)))) ss_nil)
    (ss_one (s_expr (l_bm (ty_list rfl) lk_append PySem.F.plainAttrs_list PySem.F.slot_list_append PySem.F.type_list_append mt_append (l_var 16) (la_cons (l_var 15) la_nil))))))
    (ss_one (s_set 9 (kp hP) sc_law.nd (l_sl false (l_var 16) lo_none (lo_some (l_var 2))))))) ss_nil)
    (ss_cons (s_set 10 (kp hP) sc_law.nd (l_ix (l_lst (la_cons (l_add false (l_trim ct.nf (l_callH H__law_many hr gd (fun σ => passAt (takes_of rfl rfl rfl rfl) σ) rfl (la_cons (l_add false (l_lst (la_cons l_int la_nil)) (l_lc hP (own := [("_law_group", 15)]) (trim_imp ct.nf) rfl sc_law.nd  (i_seq (l_var 9)) (blkOk_by (N := ["_law_script", "_law_hand_here", "_law_count_here", "_law_told", "_law_rows", "_law_step", "_law_wrong", "_law_longer", "_law_row_here", "_law_grouping_here", "_law_odd", "_law_some", "_law_kept", "_law_gaps", "_law_due", "_law_group", "_law_gapped"]) (sc := defScope (top 32)) (by decide +kernel)) (lcg_name hP (by decide)) (fun _ _ _ _ _ => (pg_name (i := 15) sc_law.nd rfl (by first | exact Or.inl rfl | exact Or.inr rfl))) (fun _ _ _ _ _ => (lts_one (lt_cmp op_notN lk_notN (l_var 15) l_non (nomark _)))) (fun _ _ _ _ _ => (l_var 15)))) la_nil))) l_int) (la_cons (l_neg l_int) (la_cons l_bl (la_cons l_non (la_cons l_str (la_cons (l_tup (la_cons l_int la_nil)) (la_cons l_int la_nil)))))))) (l_trim ct.nf (l_callH H__law_take hr gd (fun σ => passAt (takes_of rfl rfl rfl rfl) σ) rfl (la_cons (l_var 1) (la_cons l_int la_nil))))))
    (ss_cons (s_set 11 (kp hP) sc_law.nd (l_if (lt_val (l_trim ct.nf (l_callH H__law_take hr gd (fun σ => passAt (takes_of rfl rfl rfl rfl) σ) rfl (la_cons (l_var 1) (la_cons l_int la_nil))))) (l_trimW ct.nf (l_callH H__law_spoiled hr gd (fun σ => passAt (takes_of rfl rfl rfl rfl) σ) rfl (la_cons (l_var 1) (la_cons (l_var 9) (la_cons (l_var 10) la_nil))))) (l_trimW ct.nf (l_callH H__law_row hr gd (fun σ => passAt (takes_of rfl rfl rfl rfl) σ) rfl (la_cons (l_var 1) (la_cons (l_var 9) la_nil))))))
    (ss_cons (s_set 12 (kp hP) sc_law.nd (l_blt (cr_reprX (gd rfl) hr.units) (lk_reprX rfl) rfl B_repr boot_repr (la_cons (l_var 11) la_nil)))
    (ss_cons (s_for (passes_of rfl) rfl (i_seq (l_lst (la_cons l_non (la_cons l_bl (la_cons l_bl la_nil))))) (g_name 13 (kp hP) sc_law.nd) (ss_one (s_if (PW.pt (lw_or (lt_cmp (op_neS hr.units) (lk_neS rfl) (l_blt (cr_reprX (gd rfl) hr.units) (lk_reprX rfl) rfl B_repr boot_repr (la_cons (l_trim ct.nf (l_callH H__law_checked hr gd (fun σ => passAt (takes_of rfl rfl rfl rfl) σ) rfl (la_cons (l_var 2) (la_cons (l_var 11) (la_cons (l_var 13) la_nil))))) la_nil)) (l_blt (cr_reprX (gd rfl) hr.units) (lk_reprX rfl) rfl B_repr boot_repr (la_cons (l_trim ct.nf (l_callH H__law_checked_due hr gd (fun σ => passAt (takes_of rfl rfl rfl rfl) σ) rfl (la_cons (l_var 2) (la_cons (l_var 11) (la_cons (l_cmp op_isB lk_isB (l_var 13) l_bl (nomark _)) la_nil))))) la_nil)) (nomark _)) (lw_or1 (lt_cmp (op_neS hr.units) (lk_neS rfl) (l_blt (cr_reprX (gd rfl) hr.units) (lk_reprX rfl) rfl B_repr boot_repr (la_cons (l_var 11) la_nil)) (l_var 12) (nomark _))))) (ss_one (s_ret l_bl)) ss_nil)))
    (ss_cons (s_set 14 (kp hP) sc_law.nd (l_trim ct.nf (l_callH H__law_checked_due hr gd (fun σ => passAt (takes_of rfl rfl rfl rfl) σ) rfl (la_cons (l_var 2) (la_cons (l_var 11) (la_cons l_bl la_nil))))))
    (ss_one (s_if (lt_val (l_blt (call_isi) (lk_isi rfl) rfl B_isinstance boot_isinstance (la_cons (l_var 14) (la_cons (l_ty .tuple rfl B_tuple boot_tuple) la_nil)))) (ss_one (s_if (PW.pt (lw_or (lt_cmp (op_neS hr.units) (lk_neS rfl) (l_blt (cr_reprX (gd rfl) hr.units) (lk_reprX rfl) rfl B_repr boot_repr (la_cons (l_trim ct.nf (l_callH H_book_of hr gd (fun σ => passAt (takes_of rfl rfl rfl rfl) σ) rfl (la_cons (l_var 11) la_nil))) la_nil)) (l_blt (cr_reprX (gd rfl) hr.units) (lk_reprX rfl) rfl B_repr boot_repr (la_cons (l_trim ct.nf (l_callH H__law_book_due hr gd (fun σ => passAt (takes_of rfl rfl rfl rfl) σ) rfl (la_cons (l_var 14) la_nil))) la_nil)) (nomark _)) (lw_or1 (lt_cmp (op_neS hr.units) (lk_neS rfl) (l_blt (cr_reprX (gd rfl) hr.units) (lk_reprX rfl) rfl B_repr boot_repr (la_cons (l_trim ct.nf (l_callH H_groups_many hr gd (fun σ => passAt (takes_of rfl rfl rfl rfl) σ) rfl (la_cons (l_var 11) la_nil))) la_nil)) (l_blt (cr_reprX (gd rfl) hr.units) (lk_reprX rfl) rfl B_repr boot_repr (la_cons (l_blt (call_len) (lk_len rfl) rfl B_len boot_len (la_cons (l_trim ct.nf (l_callH H__law_book_due hr gd (fun σ => passAt (takes_of rfl rfl rfl rfl) σ) rfl (la_cons (l_var 14) la_nil))) la_nil)) la_nil)) (nomark _))))) (ss_one (s_ret l_bl)) ss_nil)) ss_nil))))))))))
    (ss_one (s_ret l_bl)))))))))))
end
end K03

set_option Elab.async false
set_option linter.all false
set_option maxRecDepth 100000
set_option maxHeartbeats 4000000
namespace K03
open PySem PySem.Spec PyProof.Rows L2 L3

def nums : Nums := ⟨48271, 7919, 30011, 2147483399, 92821, 131, 2147483629, 69621, 13, 2147483587, 32⟩
theorem nums_ok : nums.Ok := {}
theorem mix_eq : g__law_mixed = fnB 4 (mixS nums) := rfl
theorem hand_eq : g__law_hand = fnB 4 (handS 37 1709 2147483549) := rfl
theorem take_eq : g__law_take = fnB 4 (takeS TT g__law_mixed 10 18 2147483399 2147483549) := rfl
theorem take_run : TakeOk g__law_take := fun {M h c} H {many} h0 h1 => by
  rw [take_eq]
  exact take_ok (fun n t M => by rw [mix_eq]; exact mix_ok nums_ok n t M) (by decide) (by decide) (by decide) (by decide) H h0 h1

/-! ### things -/
inductive It : D → Prop
  | non : It .non
  | bl (b : Bool) : It (.bl b)
  | int (i : Int) (h : i.natAbs < 2 ^ 200) : It (.int i)
  | str (s : Str) (h0 : PyData.strOk s = true) (h : (PyData.str s).showable = true) (hw : (reprText s).length ≤ 210) : It (.str s)
  | tup (i : Int) (h : i.natAbs < 2 ^ 200) : It (.tup [.int i])
theorem It.clo {d : D} (h : It d) : Clo d := by
  cases h with
  | non => exact clo_non
  | bl b => exact clo_bl
  | int i h => exact clo_int
  | str s _ _ _ => exact clo_str
  | tup i h => exact clo_tup (by simp -implicitDefEqProofs [clo_int])
theorem It.sd {d : D} (h : It d) (n : Nat) : Sd (n + 1) 220 d := by
  cases h with
  | non => exact sd_non.mono (by decide)
  | bl b => exact sd_bl.mono (by decide)
  | int i h => exact (sd_int h).mono (by decide)
  | str s a b c => exact (sd_str a b c).mono (by decide)
  | tup i h => exact (sd_tup (n := n) (k := 210) (ds := [.int i]) (by simpa using sd_int h)).mono (Nat.le_of_ble_eq_true rfl)
def whole : D → Int → Int → Bool
  | .int i, a, b => decide (a ≤ i) && decide (i ≤ b)
  | _, _, _ => false
theorem whole_run {d : D} (h : It d) (a b : Int) (M : Mem) : g_is_whole [d, .int a, .int b] M = .ok (.bl (whole d a b)) M := by
  have st : start3 3 [d, .int a, .int b] = [some d, some (.int a), some (.int b)] := rfl
  unfold g_is_whole fnB s_is_whole
  rw [st]
  cases h with
  | int i h =>
    by_cases z : i < a
    · have z2 : ¬ a ≤ i := by omega
      simp -implicitDefEqProofs [tyOf, isTy, truD, whole, z, z2]
    · have z2 : a ≤ i := by omega
      simp -implicitDefEqProofs [tyOf, isTy, truD, whole, z, z2]
  | _ => simp -implicitDefEqProofs [tyOf, isTy, truD, whole]
theorem int_run {d : D} (h : It d) (M : Mem) : g__law_int [d] M = .ok (.bl (match d with | .int _ => true | _ => false)) M := by
  have st : start3 1 [d] = [some d] := rfl
  unfold g__law_int fnB s__law_int
  rw [st]
  cases h <;> simp -implicitDefEqProofs [tyOf, isTy]
theorem within_run {d : D} (h : It d) (a b : Int) (M : Mem) : g__law_within [d, .int a, .int b] M = .ok (.bl (whole d a b)) M := by
  have st : start3 3 [d, .int a, .int b] = [some d, some (.int a), some (.int b)] := rfl
  unfold g__law_within fnB s__law_within
  rw [st]
  have e := int_run h M
  cases h with
  | int i h =>
    by_cases z : a ≤ i <;> simp -implicitDefEqProofs [e, trim_bl, whole, z]
  | _ => simp -implicitDefEqProofs [e, trim_bl, whole]
/-! ### a grouping is checked -/
def nx : D → Int → Int
  | .int g, f => if g + 1 > f then g + 1 else f
  | _, f => f
def chk (gaps : Bool) : Nat → Int → List D → Option Nat
  | _, _, [] => none
  | k, f, d :: r => if L3.isNon d = true ∧ gaps = true then chk gaps (k + 1) f r else if whole d 0 f = true then chk gaps (k + 1) (nx d f) r else some k
theorem whole_int {d : D} {a b : Int} (h : whole d a b = true) : ∃ i, d = .int i ∧ a ≤ i ∧ i ≤ b := by
  cases d with
  | int i => exact ⟨i, rfl, by simpa [whole] using h⟩
  | _ => exact absurd h (by simp -implicitDefEqProofs [whole])
theorem check_loop {gaps : Bool} {c s : D} : ∀ (ds : List D) (k : Nat) (f : Int) (x4 x5 : Option D) (M : Mem), (∀ d ∈ ds, It d) →
    ∃ f' y4 y5, svLoop [] (gvTup 2 (gvCons (gvName 4) (gvCons (gvName 5) gvNil))) b_check_grouping_1 (enumD k ds) [some c, some s, some (.bl gaps), some (.int f), x4, x5] M = match chk gaps k f ds with
      | none => .nx [some c, some s, some (.bl gaps), some (.int f'), y4, y5] M
      | some i => .exc 1 [.int (i : Nat)] [some c, some s, some (.bl gaps), some (.int f'), y4, y5] M
  | [], k, f, x4, x5, M, _ => ⟨f, x4, x5, rfl⟩
  | d :: r, k, f, x4, x5, M, h => by
    have hd := h d List.mem_cons_self
    have hw := whole_run hd 0 f M
    have hr : ∀ e ∈ r, It e := fun e he => h e (List.mem_cons_of_mem _ he)
    by_cases z : L3.isNon d = true ∧ gaps = true
    · obtain ⟨f', y4, y5, ih⟩ := check_loop (gaps := gaps) (c := c) (s := s) r (k + 1) f (some (.int (k : Nat))) (some d) M hr
      refine ⟨f', y4, y5, ?_⟩
      have e : b_check_grouping_1 [some c, some s, some (.bl gaps), some (.int f), some (.int (k : Nat)), some d] M = .ct [some c, some s, some (.bl gaps), some (.int f), some (.int (k : Nat)), some d] M := by
        unfold b_check_grouping_1
        simp -implicitDefEqProofs [z, truD]
      rw [enum_cons, loopG_cons, tup2_x]
      simp -implicitDefEqProofs only [nxt_nx, nxt_ct, nxt_rt, nxt_bk, nxt_exc, into_nx, seq_nx, y_name, gvCons_x, gvNil_x, List.set_cons_succ, List.set_cons_zero, e, ih, chk, if_pos z]
    · by_cases w : whole d 0 f = true
      · obtain ⟨i, rfl, w0, w1⟩ := whole_int w
        obtain ⟨f', y4, y5, ih⟩ := check_loop (gaps := gaps) (c := c) (s := s) r (k + 1) (nx (.int i) f) (some (.int (k : Nat))) (some (.int i)) M hr
        refine ⟨f', y4, y5, ?_⟩
        have e : b_check_grouping_1 [some c, some s, some (.bl gaps), some (.int f), some (.int (k : Nat)), some (.int i)] M = .nx [some c, some s, some (.bl gaps), some (.int (nx (.int i) f)), some (.int (k : Nat)), some (.int i)] M := by
          unfold b_check_grouping_1
          simp -implicitDefEqProofs [truD, pk, hw, w, trim_bl, nx]
        rw [enum_cons, loopG_cons, tup2_x]
        simp -implicitDefEqProofs only [nxt_nx, nxt_ct, nxt_rt, nxt_bk, nxt_exc, into_nx, seq_nx, y_name, gvCons_x, gvNil_x, List.set_cons_succ, List.set_cons_zero, e, ih, chk, if_neg z, if_pos w]
      · refine ⟨f, some (.int (k : Nat)), some d, ?_⟩
        have w' : whole d 0 f = false := by simpa using w
        have e : b_check_grouping_1 [some c, some s, some (.bl gaps), some (.int f), some (.int (k : Nat)), some d] M = .exc 1 [.int (k : Nat)] [some c, some s, some (.bl gaps), some (.int f), some (.int (k : Nat)), some d] M := by
          unfold b_check_grouping_1
          cases q : L3.isNon d <;> cases q2 : gaps <;> simp -implicitDefEqProofs [q, q2, truD, pk, hw, w', trim_bl] at z ⊢
        rw [enum_cons, loopG_cons, tup2_x]
        simp -implicitDefEqProofs only [nxt_nx, nxt_ct, nxt_rt, nxt_bk, nxt_exc, into_nx, seq_nx, y_name, gvCons_x, gvNil_x, List.set_cons_succ, List.set_cons_zero, e, chk, if_neg z, if_neg w]

theorem isT_l {ds : List D} {M : Mem} : dIsT [.list, .tuple] (.lst ds) M = .ok (.bl true) M := rfl
theorem isT_t {ds : List D} {M : Mem} : dIsT [.list, .tuple] (.tup ds) M = .ok (.bl true) M := rfl
/-- a row: a list or a tuple -/
def sq (t : Bool) (ds : List D) : D := if t then .tup ds else .lst ds
theorem seq_run {t : Bool} {ds : List D} {M : Mem} : g_is_sequence [sq t ds] M = .ok (.bl true) M := by cases t <;> rfl
def chkR (gaps : Bool) (n : Int) (ds : List D) : Option Int := match chk gaps 0 0 ds with
  | some i => some ((i : Nat) : Int)
  | none => if (ds.length : Int) = n then none else some (if n < (ds.length : Int) then n else (ds.length : Int))
theorem check_run {gaps t : Bool} {n : Int} {ds : List D} {M : Mem} (h : ∀ d ∈ ds, It d) (hl : ds.length ≤ 100) : g_check_grouping [.int n, sq t ds, .bl gaps] M = match chkR gaps n ds with
    | some i => .exc 1 [.int i] M
    | none => .ok (.tup ds) M := by
  have st : start3 6 [.int n, sq t ds, .bl gaps] = [some (.int n), some (sq t ds), some (.bl gaps), none, none, none] := rfl
  obtain ⟨f', y4, y5, e⟩ := check_loop (gaps := gaps) (c := .int n) (s := sq t ds) ds 0 0 none none M h
  have e1 : srcOf M (sq t ds) = some (t, ⟨ds, []⟩) := by cases t <;> rfl
  have e2 : dLen (sq t ds) M = .ok (.int (ds.length : Nat)) M := by cases t <;> rfl
  have e3 : dTupOf (sq t ds) M = .ok (.tup ds) M := by
    cases t
    · exact tupOf_l (by omega)
    · rfl
  unfold g_check_grouping fnB s_check_grouping chkR
  rw [st]
  simp -implicitDefEqProofs only [y_seq, y_if, x_bNot, x_bT, x_trim, x_call, x_cons, x_var, x_nil, List.getElem?_cons_succ, List.getElem?_cons_zero, Res.bind_ok, List.append_nil, List.length_cons, List.length_nil, Nat.zero_add, if_true, seq_run, trim_bl, truD, Bool.not_true, Res.out_ok, Bool.false_eq_true, if_false, y_next, seq_nx, y_set, x_c, List.set_cons_succ, List.set_cons_zero, y_for, i_Enum, oneD, Option.bind_some, e1, e]
  cases q : chk gaps 0 0 ds with
  | some i => rfl
  | none =>
    by_cases z : (ds.length : Int) = n
    · simp -implicitDefEqProofs [e2, z, e3]
    · simp -implicitDefEqProofs [e2, z]
theorem check_off {gaps : Bool} {n : Int} {s : D} {M : Mem} (h : g_is_sequence [s] M = .ok (.bl false) M) : g_check_grouping [.int n, s, .bl gaps] M = .exc 1 [.int 0] M := by
  have st : start3 6 [.int n, s, .bl gaps] = [some (.int n), some s, some (.bl gaps), none, none, none] := rfl
  unfold g_check_grouping fnB s_check_grouping
  rw [st]
  simp -implicitDefEqProofs [h, trim_bl, truD]
/-! ### the law's own answer -/
theorem due_loop {gaps : Bool} {c : D} {t : Bool} {all : List D} (hz : ∀ d ∈ all, It d) : ∀ (ds : List D) (k : Nat) (f : Int) (x4 : Option D) (M : Mem), (∃ pre, all = pre ++ ds ∧ pre.length = k) →
    ∃ f' y4, svLoop [] (gvName 4) b__law_checked_due_1 (upD k ds.length) [some c, some (sq t all), some (.bl gaps), some (.int f), x4] M = match chk gaps k f ds with
      | none => .nx [some c, some (sq t all), some (.bl gaps), some (.int f'), y4] M
      | some i => .rt (.lst [.int (i : Nat)]) M
  | [], k, f, x4, M, _ => ⟨f, x4, rfl⟩
  | d :: r, k, f, x4, M, hp => by
    obtain ⟨pre, ea, ek⟩ := hp
    have hd := hz d (by rw [ea]; simp)
    have hw := within_run hd 0 f M
    have hp' : ∃ pre, all = pre ++ r ∧ pre.length = k + 1 := ⟨pre ++ [d], by rw [ea]; simp, by simp -implicitDefEqProofs [ek]⟩
    have at_ : all[k]? = some d := by rw [ea, List.getElem?_append_right (by omega), ek, Nat.sub_self]; rfl
    have ix : dIx (sq t all) (.int (k : Nat)) M = .ok d M := by
      cases t
      · exact ixL at_
      · exact ixT at_
    have up : upD k (d :: r).length = .int (k : Nat) :: upD (k + 1) r.length := rfl
    by_cases z : L3.isNon d = true ∧ gaps = true
    · obtain ⟨f', y4, ih⟩ := due_loop (gaps := gaps) (c := c) (t := t) hz r (k + 1) f (some (.int (k : Nat))) M hp'
      refine ⟨f', y4, ?_⟩
      have e : b__law_checked_due_1 [some c, some (sq t all), some (.bl gaps), some (.int f), some (.int (k : Nat))] M = .ct [some c, some (sq t all), some (.bl gaps), some (.int f), some (.int (k : Nat))] M := by
        unfold b__law_checked_due_1
        simp -implicitDefEqProofs [z, truD, ix]
      rw [up, loop_cons]
      simp -implicitDefEqProofs only [nxt_nx, nxt_ct, nxt_rt, nxt_bk, nxt_exc, into_nx, seq_nx, List.set_cons_succ, List.set_cons_zero, e, ih, chk, if_pos z]
    · by_cases w : whole d 0 f = true
      · obtain ⟨i, rfl, w0, w1⟩ := whole_int w
        obtain ⟨f', y4, ih⟩ := due_loop (gaps := gaps) (c := c) (t := t) hz r (k + 1) (nx (.int i) f) (some (.int (k : Nat))) M hp'
        refine ⟨f', y4, ?_⟩
        have e : b__law_checked_due_1 [some c, some (sq t all), some (.bl gaps), some (.int f), some (.int (k : Nat))] M = .nx [some c, some (sq t all), some (.bl gaps), some (.int (nx (.int i) f)), some (.int (k : Nat))] M := by
          unfold b__law_checked_due_1
          simp -implicitDefEqProofs [truD, hw, w, trim_bl, nx, ix]
        rw [up, loop_cons]
        simp -implicitDefEqProofs only [nxt_nx, nxt_ct, nxt_rt, nxt_bk, nxt_exc, into_nx, seq_nx, List.set_cons_succ, List.set_cons_zero, e, ih, chk, if_neg z, if_pos w]
      · refine ⟨f, x4, ?_⟩
        have w' : whole d 0 f = false := by simpa using w
        have e : b__law_checked_due_1 [some c, some (sq t all), some (.bl gaps), some (.int f), some (.int (k : Nat))] M = .rt (.lst [.int (k : Nat)]) M := by
          unfold b__law_checked_due_1
          cases q : L3.isNon d <;> cases q2 : gaps <;> simp -implicitDefEqProofs [q, q2, truD, hw, w', trim_bl, ix, mkLst_at] at z ⊢
        rw [up, loop_cons]
        simp -implicitDefEqProofs only [nxt_nx, nxt_ct, nxt_rt, nxt_bk, nxt_exc, into_nx, seq_nx, List.set_cons_succ, List.set_cons_zero, e, chk, if_neg z, if_neg w]
def dueD (gaps : Bool) (n : Int) (ds : List D) : D := match chkR gaps n ds with
  | some i => .lst [.int i]
  | none => .tup ds
theorem lseq_run {t : Bool} {ds : List D} {M : Mem} : g__law_seq [sq t ds] M = .ok (.bl true) M := by cases t <;> rfl
theorem due_run {gaps t : Bool} {n : Int} {ds : List D} {M : Mem} (h : ∀ d ∈ ds, It d) (hl : ds.length ≤ 100) : g__law_checked_due [.int n, sq t ds, .bl gaps] M = .ok (dueD gaps n ds) M := by
  have st : start3 5 [.int n, sq t ds, .bl gaps] = [some (.int n), some (sq t ds), some (.bl gaps), none, none] := rfl
  obtain ⟨f', y4, e⟩ := due_loop (gaps := gaps) (c := .int n) (t := t) h ds 0 0 none M ⟨[], rfl, rfl⟩
  have e2 : dLen (sq t ds) M = .ok (.int (ds.length : Nat)) M := by cases t <;> rfl
  have e3 : dTupOf (sq t ds) M = .ok (.tup ds) M := by
    cases t
    · exact tupOf_l (by omega)
    · rfl
  have rg : ivR1 (avCons (evA (a1 dLen) (avCons (evVar 1) avNil)) avNil) [some (.int n), some (sq t ds), some (.bl gaps), some (.int 0), none] M = .ok ⟨upD 0 ds.length, []⟩ M := ivR1_n (by simp -implicitDefEqProofs [e2]) (by omega)
  unfold g__law_checked_due fnB s__law_checked_due dueD chkR
  rw [st]
  simp -implicitDefEqProofs only [y_seq, y_if, x_bNot, x_bT, x_trim, x_call, x_cons, x_var, x_nil, x_A, a1_x, List.getElem?_cons_succ, List.getElem?_cons_zero, Res.bind_ok, List.append_nil, List.length_cons, List.length_nil, Nat.zero_add, if_true, lseq_run, trim_bl, truD, Bool.not_true, Res.out_ok, Bool.false_eq_true, if_false, y_next, seq_nx, y_set, x_c, List.set_cons_succ, List.set_cons_zero, y_for, rg, e]
  cases q : chk gaps 0 0 ds with
  | some i => rfl
  | none =>
    by_cases z : (ds.length : Int) = n
    · simp -implicitDefEqProofs [e2, z, e3]
    · simp -implicitDefEqProofs [e2, z, mkLst_at]
theorem due_off {gaps : Bool} {n : Int} {s : D} {M : Mem} (h : g__law_seq [s] M = .ok (.bl false) M) : g__law_checked_due [.int n, s, .bl gaps] M = .ok (.lst [.int 0]) M := by
  have st : start3 5 [.int n, s, .bl gaps] = [some (.int n), some s, some (.bl gaps), none, none] := rfl
  unfold g__law_checked_due fnB s__law_checked_due
  rw [st]
  simp -implicitDefEqProofs [h, trim_bl, truD, mkLst_at]
/-! the program's answer, as the law hears it -/
def gapsOf : D → Bool
  | .bl b => b
  | _ => false
inductive Gp : D → Prop
  | non : Gp .non
  | bl (b : Bool) : Gp (.bl b)
theorem checked_run {t : Bool} {n : Int} {ds : List D} {g : D} {M : Mem} (hg : Gp g) (h : ∀ d ∈ ds, It d) (hl : ds.length ≤ 100) : g__law_checked [.int n, sq t ds, g] M = .ok (dueD (gapsOf g) n ds) M := by
  have st : start3 5 [.int n, sq t ds, g] = [some (.int n), some (sq t ds), some g, none, none] := rfl
  have cl : ∀ d ∈ ds, Clo d := fun d hd => (h d hd).clo
  unfold g__law_checked fnB s__law_checked dueD
  rw [st]
  cases hg with
  | non =>
    have e := check_run (gaps := false) (t := t) (n := n) (M := M) h hl
    cases q : chkR false n ds with
    | none =>
      rw [q] at e
      simp -implicitDefEqProofs [pk, e, trim_clo0 (clo_tup cl), gapsOf, q]
    | some i =>
      rw [q] at e
      simp -implicitDefEqProofs [pk, e, trim_exc0 (ds := [D.int i]) (by simp -implicitDefEqProofs [clo_int]), gapsOf, q, handle, sub_BadGrouping, slotOk, inSlot, offSlot, evXf, XT, lkN, mkLst_at]
  | bl b =>
    have e := check_run (gaps := b) (t := t) (n := n) (M := M) h hl
    cases q : chkR b n ds with
    | none =>
      rw [q] at e
      simp -implicitDefEqProofs [pk, e, trim_clo0 (clo_tup cl), gapsOf, q]
    | some i =>
      rw [q] at e
      simp -implicitDefEqProofs [pk, e, trim_exc0 (ds := [D.int i]) (by simp -implicitDefEqProofs [clo_int]), gapsOf, q, handle, sub_BadGrouping, slotOk, inSlot, offSlot, evXf, XT, lkN, mkLst_at]
theorem checked_off {n : Int} {s g : D} {M : Mem} (hg : Gp g) (h : g_is_sequence [s] M = .ok (.bl false) M) : g__law_checked [.int n, s, g] M = .ok (.lst [.int 0]) M := by
  have st : start3 5 [.int n, s, g] = [some (.int n), some s, some g, none, none] := rfl
  unfold g__law_checked fnB s__law_checked
  rw [st]
  cases hg with
  | non => simp -implicitDefEqProofs [pk, check_off h, trim_exc0 (ds := [D.int 0]) (by simp -implicitDefEqProofs [clo_int]), handle, sub_BadGrouping, slotOk, inSlot, offSlot, evXf, XT, lkN, mkLst_at]
  | bl b => simp -implicitDefEqProofs [pk, check_off h, trim_exc0 (ds := [D.int 0]) (by simp -implicitDefEqProofs [clo_int]), handle, sub_BadGrouping, slotOk, inSlot, offSlot, evXf, XT, lkN, mkLst_at]
end K03

set_option Elab.async false
set_option linter.all false
set_option maxRecDepth 100000
set_option maxHeartbeats 4000000
namespace K03
open PySem PySem.Spec PyProof.Rows L2 L3

/-! ### restricted growth -/
def nxI (f g : Int) : Int := if g + 1 > f then g + 1 else f
def fin (f : Int) (ns : List Int) : Int := ns.foldl nxI f
def rgf : Int → List Int → Prop
  | _, [] => True
  | f, g :: r => 0 ≤ g ∧ g ≤ f ∧ rgf (nxI f g) r
theorem nx_int {f g : Int} : nx (.int g) f = nxI f g := rfl
theorem nxI_le {f g : Int} : f ≤ nxI f g := by unfold nxI; split <;> omega
theorem fin_le : ∀ {ns : List Int} {f : Int}, f ≤ fin f ns
  | [], f => Int.le_refl _
  | g :: r, f => Int.le_trans (nxI_le (g := g)) (fin_le (ns := r))
theorem chk_valid : ∀ (ds : List D) (k : Nat) (f : Int), chk true k f ds = none → ∃ ns : List Int, ds.filter (fun d => !L3.isNon d) = ns.map D.int ∧ rgf f ns ∧ ns.length ≤ ds.length ∧ ∀ d ∈ ds, d = .non ∨ ∃ i, d = .int i
  | [], _, _, _ => ⟨[], rfl, trivial, Nat.le_refl _, by simp⟩
  | d :: r, k, f, h => by
    unfold chk at h
    by_cases z : L3.isNon d = true
    · have dn : d = .non := by cases d <;> first | rfl | cases z
      rw [if_pos ⟨z, rfl⟩] at h
      obtain ⟨ns, e, rg, l, a⟩ := chk_valid r (k + 1) f h
      refine ⟨ns, by simp -implicitDefEqProofs [z, e], rg, by simp; omega, fun x hx => ?_⟩
      rcases List.mem_cons.mp hx with rfl | hx
      · exact .inl dn
      · exact a x hx
    · rw [if_neg (fun q => z q.1)] at h
      by_cases w : whole d 0 f = true
      · rw [if_pos w] at h
        obtain ⟨i, rfl, w0, w1⟩ := whole_int w
        obtain ⟨ns, e, rg, l, a⟩ := chk_valid r (k + 1) (nx (.int i) f) h
        refine ⟨i :: ns, by simp -implicitDefEqProofs [e], ⟨w0, w1, rg⟩, by simp; omega, fun x hx => ?_⟩
        rcases List.mem_cons.mp hx with rfl | hx
        · exact .inr ⟨i, rfl⟩
        · exact a x hx
      · rw [if_neg w] at h; cases h
def upI (f : Int) : List Int := (List.range f.toNat).map fun i => ((i : Nat) : Int)
theorem dedup_up : ∀ (ns : List Int) (f : Int), 0 ≤ f → rgf f ns → ns.foldl step_dedup (upI f) = upI (fin f ns)
  | [], _, _, _ => rfl
  | g :: r, f, h0, ⟨g0, g1, rg⟩ => by
    have e : step_dedup (upI f) g = upI (nxI f g) := by
      unfold step_dedup nxI
      by_cases z : g < f
      · have m : g ∈ upI f := List.mem_map.mpr ⟨g.toNat, by simp; omega, by omega⟩
        rw [if_neg (show ¬ g + 1 > f by omega)]
        simp -implicitDefEqProofs [m]
      · have ge : g = f := by omega
        subst ge
        have m : g ∉ upI g := fun h => by
          obtain ⟨i, hi, e⟩ := List.mem_map.mp h
          simp at hi
          omega
        rw [if_pos (show g + 1 > g by omega)]
        have e : upI (g + 1) = upI g ++ [g] := by
          unfold upI
          rw [show (g + 1).toNat = g.toNat + 1 by omega, List.range_succ, List.map_append]
          simp -implicitDefEqProofs [Int.toNat_of_nonneg g0]
        simp -implicitDefEqProofs [m, e]
    show r.foldl step_dedup (step_dedup (upI f) g) = _
    rw [e, dedup_up r (nxI f g) (Int.le_trans h0 nxI_le) rg]
    rfl
theorem firsts_len {ns : List Int} (h : rgf 0 ns) : (firsts ns).length = (fin 0 ns).toNat := by
  rw [firsts_fold]
  have := dedup_up ns 0 (by decide) h
  have e : upI 0 = [] := rfl
  rw [e] at this
  rw [this]
  simp -implicitDefEqProofs [upI]
theorem fin_max : ∀ (ns : List Int) (n : Int), fin (n + 1) ns = maxI (n :: ns) + 1
  | [], n => rfl
  | m :: r, n => by
    have e : nxI (n + 1) m = max n m + 1 := by unfold nxI; split <;> omega
    show fin (nxI (n + 1) m) r = _
    rw [e, fin_max r (max n m), ← foldmax, ← foldmax]
    rfl
def manyI (ns : List Int) : Int := match ns with
  | [] => 0
  | n :: r => maxI (n :: r) + 1
theorem many_fin {ns : List Int} (h : rgf 0 ns) : manyI ns = fin 0 ns := by
  cases ns with
  | nil => rfl
  | cons n r =>
    have e : nxI 0 n = n + 1 := by unfold nxI; rw [if_pos (by have := h.1; omega)]
    show maxI (n :: r) + 1 = fin (nxI 0 n) r
    rw [e, fin_max]
theorem many_run {t : Bool} {ns : List Int} {M : Mem} : g__law_many [sq t (ns.map D.int)] M = .ok (.int (manyI ns)) M := by
  have st : start3 1 [sq t (ns.map D.int)] = [some (sq t (ns.map D.int))] := rfl
  unfold g__law_many fnB s__law_many
  rw [st]
  cases ns with
  | nil => cases t <;> rfl
  | cons n r =>
    have e1 : truD M (sq t ((n :: r).map D.int)) = some true := by cases t <;> rfl
    have e2 : dMaxS (sq t ((n :: r).map D.int)) M = .ok (.int (maxI (n :: r))) M := d_maxS
    simp -implicitDefEqProofs only [y_ret, x_if, x_bT, x_var, List.getElem?_cons_zero, Res.bind_ok, e1, if_true, x_2, x_A, x_cons, x_nil, a1_x, e2, x_c, d_add, Res.out_ok, end_rt]
    rfl
theorem groups_run {t : Bool} {ds : List D} {ns : List Int} {M : Mem} (hf : ds.filter (fun d => !L3.isNon d) = ns.map D.int) (hd : ds.length ≤ 50) (hl : ns.length ≤ 50) (rg : rgf 0 ns) : g_groups_many [sq t ds] M = .ok (.int (fin 0 ns)) M := by
  have st : start3 2 [sq t ds] = [some (sq t ds), none] := rfl
  have e1 : srcOf M (sq t ds) = some (t, ⟨ds, []⟩) := by cases t <;> rfl
  have lc : trimR (nfT TT) M (evLc (ivSeq (evVar 0)) [1] (cgName 1) (bvE (ev2 dNotN (evVar 1) (evC .non))) (evVar 1) [some (sq t ds), none] M) = .ok (.lst (ns.map D.int)) M := by
    have := lcC (nf := nfT TT) (iv := ivSeq (evVar 0)) (vs := [1]) (g := cgName 1) (tt := bvE (ev2 dNotN (evVar 1) (evC .non))) (te := evVar 1) (σ := [some (sq t ds), none]) (M := M) (p := fun d => !L3.isNon d) (f := id) (items := ds) (by simp -implicitDefEqProofs [e1]) (by omega) (fun d _ M' => ⟨_, rfl, by simp -implicitDefEqProofs [wipe3], fun _ => by simp -implicitDefEqProofs [wipe3]⟩) (fun d hd2 hp => by
      have : d ∈ ds.filter (fun d => !L3.isNon d) := List.mem_filter.mpr ⟨hd2, hp⟩
      rw [hf] at this
      obtain ⟨i, _, rfl⟩ := List.mem_map.mp this
      exact clo_int)
    rw [this, hf]
    simp
  have e2 : dLenSet (.lst (ns.map D.int)) M = .ok (.int (fin 0 ns)) M := by
    show (match intsOf (ns.map D.int) with
      | some ns => (match (if ns.length < 60 then some (D.int (firsts ns).length) else none) with
        | some d => Res.ok d M
        | none => .no)
      | none => .no) = _
    rw [intsOf_map]
    simp -implicitDefEqProofs only []
    rw [if_pos (by omega), firsts_len rg]
    have := fin_le (ns := ns) (f := 0)
    simp -implicitDefEqProofs [Int.toNat_of_nonneg this]
  unfold g_groups_many fnB s_groups_many
  rw [st]
  simp -implicitDefEqProofs only [y_ret, x_1, x_trim, lc, Res.bind_ok, e2, Res.out_ok, end_rt]
/-! ### the book -/
def markD (g : Int) : D → D
  | .int i => .int (if i = g then 1 else 0)
  | _ => .int 0
def colD (ds : List D) (g : Int) : D := .tup [.str (PySem.Str.ofString "column"), .tup (ds.map (markD g))]
def col (ds : List D) : D → D
  | .int g => colD ds g
  | d => d
theorem mark_clo {g : Int} {d : D} : Clo (markD g d) := by cases d <;> exact clo_int
theorem colD_clo {ds : List D} {g : Int} : Clo (colD ds g) := clo_tup (by
  intro d hd
  simp at hd
  rcases hd with rfl | rfl
  · exact clo_str
  · exact clo_tup fun d hd => by
      obtain ⟨x, _, rfl⟩ := List.mem_map.mp hd
      exact mark_clo)
theorem eqNI {g : Int} {M : Mem} : dEqS .non (.int g) M = .ok (.bl false) M := rfl
theorem mem_up {d : D} : ∀ {n k : Nat}, d ∈ upD k n → ∃ g : Nat, d = .int (g : Nat)
  | 0, _, h => absurd h List.not_mem_nil
  | n + 1, k, h => by
    rcases List.mem_cons.mp h with rfl | h
    · exact ⟨k, rfl⟩
    · exact mem_up h
theorem book_loop {t : Bool} {ds : List D} (hb : ∀ d ∈ ds, d = .non ∨ ∃ i, d = .int i) (hl : ds.length ≤ 50) : ∀ (n k : Nat) (acc : List D) (x2 x3 : Option D) (M : Mem), acc.length + n ≤ 900 →
    ∃ y2 y3, svLoop [] (gvName 2) b_book_of_2 (upD k n) [some (sq t ds), some (.ref M.length), x2, x3] (M ++ [.lst acc]) = .nx [some (sq t ds), some (.ref M.length), y2, y3] (M ++ [.lst (acc ++ (upD k n).map (col ds))])
  | 0, k, acc, x2, x3, M, _ => ⟨x2, x3, by simp -implicitDefEqProofs [upD, loop_nil]⟩
  | n + 1, k, acc, x2, x3, M, h => by
    obtain ⟨y2, y3, ih⟩ := book_loop (t := t) hb hl n (k + 1) (acc ++ [colD ds (k : Nat)]) (some (.int (k : Nat))) x3 M (by simp; omega)
    refine ⟨y2, y3, ?_⟩
    have g1 : (M ++ [Cell.lst acc])[M.length]? = some (.lst acc) := by simp
    have s1 : (M ++ [Cell.lst acc]).set M.length (.lst (acc ++ [colD ds (k : Nat)])) = M ++ [.lst (acc ++ [colD ds (k : Nat)])] := by simp
    have e1 : ∀ M, srcOf M (sq t ds) = some (t, ⟨ds, []⟩) := by cases t <;> exact fun _ => rfl
    have lc : trimR (nfT TT) (M ++ [Cell.lst acc]) (evLc (ivSeq (evVar 0)) [3] (cgName 3) bvYes e_book_of_1 [some (sq t ds), some (.ref M.length), some (.int (k : Nat)), x3] (M ++ [Cell.lst acc])) = .ok (.lst (ds.map (markD (k : Nat)))) (M ++ [Cell.lst acc]) :=
      lcA (by simp -implicitDefEqProofs [e1]) (by omega) (fun d hd M' => by
        unfold e_book_of_1
        rcases hb d hd with rfl | ⟨i, rfl⟩
        · simp -implicitDefEqProofs [wipe3, eqNI, markD]
        · by_cases z : i = (k : Nat) <;> simp -implicitDefEqProofs [wipe3, z, markD]) fun d _ => mark_clo
    have e : b_book_of_2 [some (sq t ds), some (.ref M.length), some (.int (k : Nat)), x3] (M ++ [.lst acc]) = .nx [some (sq t ds), some (.ref M.length), some (.int (k : Nat)), x3] (M ++ [.lst (acc ++ [colD ds (k : Nat)])]) := by
      unfold b_book_of_2
      have tp : ∀ M, dTupOf (.lst (ds.map (markD (k : Nat)))) M = .ok (.tup (ds.map (markD (k : Nat)))) M := fun M => tupOf_l (by simp; omega)
      simp -implicitDefEqProofs only [y_E, x_M, x_var, List.getElem?_cons_succ, List.getElem?_cons_zero, Res.bind_ok, isL_ref g1, if_true, x_cons, x_A, x_c, x_trim, lc, a1_x, tp, x_nil, mkTup_at (xs := [_, _]) (by simp)]
      rw [append_R g1 (by omega)]
      show Out.nx _ ((M ++ [Cell.lst acc]).set M.length (.lst (acc ++ [colD ds (k : Nat)]))) = _
      rw [s1]
    show svLoop [] (gvName 2) b_book_of_2 (.int (k : Nat) :: upD (k + 1) n) _ _ = _
    rw [loop_cons]
    simp -implicitDefEqProofs only [nxt_nx, nxt_ct, nxt_rt, nxt_bk, nxt_exc, into_nx, seq_nx, List.set_cons_succ, List.set_cons_zero, e, ih]
    simp -implicitDefEqProofs [upD, col]
theorem book_run {t : Bool} {ds : List D} {ns : List Int} {M : Mem} (hb : ∀ d ∈ ds, d = .non ∨ ∃ i, d = .int i) (hf : ds.filter (fun d => !L3.isNon d) = ns.map D.int) (hd : ds.length ≤ 50) (hl : ns.length ≤ 50) (rg : rgf 0 ns) (hm : fin 0 ns ≤ 50) :
    trimR (nfT TT) M (g_book_of [sq t ds] M) = .ok (.tup ((upD 0 (fin 0 ns).toNat).map (col ds))) M := by
  have st : start3 4 [sq t ds] = [some (sq t ds), none, none, none] := rfl
  have h0 := fin_le (ns := ns) (f := 0)
  obtain ⟨m, hmm⟩ := Int.eq_ofNat_of_zero_le h0
  have gr : ∀ M, g_groups_many [sq t ds] M = .ok (.int (m : Nat)) M := fun M => by rw [groups_run hf hd hl rg, hmm]
  have rr : ∀ M, ivR1 (avCons (evTrim (nfT TT) (evCall g_groups_many 1 [] (avCons (evVar 0) avNil))) avNil) [some (sq t ds), some (.ref M.length), none, none] (M ++ [Cell.lst []]) = .ok ⟨upD 0 m, []⟩ (M ++ [.lst []]) := fun M => ivR1_n (by simp -implicitDefEqProofs [gr, trim_same low_int]) (by omega)
  obtain ⟨y2, y3, e⟩ := book_loop (t := t) hb hd m 0 [] none none M (by simp; omega)
  have hm2 : m ≤ 50 := by omega
  have g1 : ∀ acc, (M ++ [Cell.lst acc])[M.length]? = some (.lst acc) := by simp
  have tp : dTupOf (.ref M.length) (M ++ [.lst ((upD 0 m).map (col ds))]) = .ok (.tup ((upD 0 m).map (col ds))) (M ++ [.lst ((upD 0 m).map (col ds))]) := tupOf_r (g1 _) (by rw [List.length_map, upD_len]; omega)
  have cl : Clo (.tup ((upD 0 m).map (col ds))) := clo_tup fun d hd => by
    obtain ⟨x, hx, rfl⟩ := List.mem_map.mp hd
    obtain ⟨g, rfl⟩ := mem_up hx
    exact colD_clo
  rw [hmm]
  show trimR (nfT TT) M (g_book_of [sq t ds] M) = .ok (.tup ((upD 0 m).map (col ds))) M
  rw [← trim_clo (nf := nfT TT) (t := [.lst ((upD 0 m).map (col ds))]) cl]
  congr 1
  unfold g_book_of fnB s_book_of
  rw [st]
  simp -implicitDefEqProofs only [y_seq, y_set, x_A, x_nil, Res.bind_ok, mkCell_at (xs := []) (by simp), Res.out_ok, seq_nx, List.set_cons_succ, List.set_cons_zero, y_for, rr, e, List.nil_append, y_ret, x_cons, x_var, List.getElem?_cons_succ, List.getElem?_cons_zero, a1_x, tp, end_rt]
theorem bdue_run {ds : List D} {ns : List Int} {M : Mem} (hb : ∀ d ∈ ds, d = .non ∨ ∃ i, d = .int i) (hf : ds.filter (fun d => !L3.isNon d) = ns.map D.int) (hd : ds.length ≤ 50) (rg : rgf 0 ns) (hm : fin 0 ns ≤ 50) :
    g__law_book_due [.tup ds] M = .ok (.tup ((upD 0 (fin 0 ns).toNat).map (col ds))) M := by
  have st : start3 4 [.tup ds] = [some (.tup ds), none, none, none] := rfl
  have h0 := fin_le (ns := ns) (f := 0)
  obtain ⟨m, hmm⟩ := Int.eq_ofNat_of_zero_le h0
  have hm2 : m ≤ 50 := by omega
  have cl : ∀ g : Nat, Clo (colD ds (g : Nat)) := fun g => colD_clo
  have lc : trimR (nfT TT) M (evLc (ivSeq (evVar 0)) [2] (cgName 2) (bvE (ev2 dNotN (evVar 2) (evC .non))) (evVar 2) [some (.tup ds), none, none, none] M) = .ok (.lst (ns.map D.int)) M := by
    have := lcC (nf := nfT TT) (iv := ivSeq (evVar 0)) (vs := [2]) (g := cgName 2) (tt := bvE (ev2 dNotN (evVar 2) (evC .non))) (te := evVar 2) (σ := [some (.tup ds), none, none, none]) (M := M) (p := fun d => !L3.isNon d) (f := id) (items := ds) (by simp) (by omega) (fun d _ M' => ⟨_, rfl, by simp -implicitDefEqProofs [wipe3], fun _ => by simp -implicitDefEqProofs [wipe3]⟩) (fun d hd2 hp => by
      have : d ∈ ds.filter (fun d => !L3.isNon d) := List.mem_filter.mpr ⟨hd2, hp⟩
      rw [hf] at this
      obtain ⟨i, _, rfl⟩ := List.mem_map.mp this
      exact clo_int)
    rw [this, hf]
    simp
  have mr : ∀ M, g__law_many [.lst (ns.map D.int)] M = .ok (.int (m : Nat)) M := fun M => by rw [show D.lst (ns.map D.int) = sq false (ns.map D.int) from rfl, many_run, many_fin rg, hmm] 
  have rr : ivR1 (avCons (evTrim (nfT TT) (evCall g__law_many 1 [] (avCons (evVar 1) avNil))) avNil) [some (.tup ds), some (.lst (ns.map D.int)), none, none] M = .ok ⟨upD 0 m, []⟩ M := ivR1_n (by simp -implicitDefEqProofs [mr, trim_same low_int]) (by omega)
  have lc2 : trimR (nfT TT) M (evLc (ivR1 (avCons (evTrim (nfT TT) (evCall g__law_many 1 [] (avCons (evVar 1) avNil))) avNil)) [2] (cgName 2) bvYes e__law_book_due_2 [some (.tup ds), some (.lst (ns.map D.int)), none, none] M) = .ok (.lst ((upD 0 m).map (col ds))) M := by
    refine lcA rr (by rw [upD_len]; omega) (fun d hd2 M' => ?_) fun d hd2 => ?_
    · obtain ⟨g, rfl⟩ := mem_up hd2
      have inner : trimR (nfT TT) M' (evLc (ivSeq (evVar 0)) [3] (cgName 3) bvYes e__law_book_due_1 [some (.tup ds), some (.lst (ns.map D.int)), some (.int (g : Nat)), none] M') = .ok (.lst (ds.map (markD (g : Nat)))) M' :=
        lcA (by simp) (by omega) (fun d hd M' => by
          unfold e__law_book_due_1
          rcases hb d hd with rfl | ⟨i, rfl⟩
          · simp -implicitDefEqProofs [wipe3, eqNI, markD]
          · by_cases z : i = (g : Nat) <;> simp -implicitDefEqProofs [wipe3, z, markD]) fun d _ => mark_clo
      have tp : ∀ M, dTupOf (.lst (ds.map (markD (g : Nat)))) M = .ok (.tup (ds.map (markD (g : Nat)))) M := fun M => tupOf_l (by simp; omega)
      unfold e__law_book_due_2
      simp -implicitDefEqProofs only [wipe3, List.set_cons_succ, List.set_cons_zero, x_A, x_cons, x_c, x_trim, inner, Res.bind_ok, x_nil, a1_x, tp, mkTup_at (xs := [_, _]) (by simp)]
      rfl
    · obtain ⟨g, rfl⟩ := mem_up hd2
      exact cl g
  have tp : dTupOf (.lst ((upD 0 m).map (col ds))) M = .ok (.tup ((upD 0 m).map (col ds))) M := tupOf_l (by rw [List.length_map, upD_len]; omega)
  rw [hmm]
  show _ = Res.ok (D.tup ((upD 0 m).map (col ds))) M
  unfold g__law_book_due fnB s__law_book_due
  rw [st]
  simp -implicitDefEqProofs only [y_seq, y_set, y_ret, x_trim, x_A, x_cons, x_nil, lc, lc2, Res.out_ok, Res.bind_ok, seq_nx, List.set_cons_succ, List.set_cons_zero, a1_x, tp, end_rt]
end K03

set_option Elab.async false
set_option linter.all false
set_option maxRecDepth 100000
set_option maxHeartbeats 4000000
namespace K03
open PySem PySem.Spec PyProof.Rows L2 L3

/-! ### the rows -/
def growR (r : List Int) : List (List Int) := (List.range (fin 0 r + 1).toNat).map fun x => r ++ [((x : Nat) : Int)]
def rowsN : Nat → List (List Int)
  | 0 => [[]]
  | n + 1 => (rowsN n).flatMap growR
def rD (r : List Int) : D := .tup (r.map D.int)
theorem fin_snoc {f x : Int} : ∀ {r : List Int}, fin f (r ++ [x]) = nxI (fin f r) x := fun {r} => by unfold fin; rw [List.foldl_append]; rfl
theorem rgf_snoc {x : Int} : ∀ {r : List Int} {f : Int}, rgf f r → 0 ≤ x → x ≤ fin f r → rgf f (r ++ [x])
  | [], f, _, h0, h1 => ⟨h0, h1, trivial⟩
  | g :: r, f, ⟨a, b, c⟩, h0, h1 => ⟨a, b, rgf_snoc c h0 h1⟩
theorem fin_bound : ∀ {r : List Int} {f : Int}, rgf f r → fin f r ≤ f + r.length
  | [], f, _ => by show f ≤ f + (0 : Nat); omega
  | g :: r, f, ⟨a, b, c⟩ => by
    have h := fin_bound c
    have e : nxI f g ≤ f + 1 := by unfold nxI; split <;> omega
    show fin (nxI f g) r ≤ f + ((r.length + 1 : Nat) : Int)
    omega
theorem rows_ok : ∀ {n : Nat} {r : List Int}, r ∈ rowsN n → rgf 0 r ∧ r.length = n
  | 0, r, h => by
    rw [List.mem_singleton.mp h]; exact ⟨trivial, rfl⟩
  | n + 1, r, h => by
    obtain ⟨q, hq, h⟩ := List.mem_flatMap.mp h
    obtain ⟨a, b⟩ := rows_ok hq
    obtain ⟨x, hx, rfl⟩ := List.mem_map.mp h
    have h0 := fin_le (ns := q) (f := 0)
    simp at hx
    exact ⟨rgf_snoc a (by omega) (by omega), by simp [b]⟩
theorem rows_len : ∀ n ≤ 6, (rowsN n).length ≤ 203 := by decide +kernel
theorem rD_clo {r : List Int} : Clo (rD r) := clo_tup fun d hd => by
  obtain ⟨i, _, rfl⟩ := List.mem_map.mp hd
  exact clo_int
/-- what a row grows by -/
def nxtD : D → List D
  | .tup xs => match intsOf xs with
    | some r => upD 0 (fin 0 r + 1).toNat
    | none => []
  | _ => []
def addD : D → D → D
  | .tup xs, e => .tup (xs ++ [e])
  | d, _ => d
theorem nxt_rD {r : List Int} : nxtD (rD r) = upD 0 (fin 0 r + 1).toNat := by
  show (match intsOf (r.map D.int) with
    | some r => upD 0 (fin 0 r + 1).toNat
    | none => []) = _
  rw [intsOf_map]
theorem grow_rD {r : List Int} : (nxtD (rD r)).map (addD (rD r)) = (growR r).map rD := by
  rw [nxt_rD, upD_eq, ← List.range_eq_range']
  unfold growR
  rw [List.map_map, List.map_map]
  refine List.map_congr_left fun x _ => ?_
  show D.tup (r.map D.int ++ [.int (x : Nat)]) = D.tup ((r ++ [((x : Nat) : Int)]).map D.int)
  rw [List.map_append]; rfl
theorem grow_all {rows : List (List Int)} : (rows.map rD).flatMap (fun d => (nxtD d).map (addD d)) = (rows.flatMap growR).map rD := by
  rw [List.flatMap_map, List.map_flatMap]
  congr 1
  funext r
  exact grow_rD
theorem grow_len {rows : List (List Int)} : ((rows.map rD).flatMap nxtD).length = (rows.flatMap growR).length := by
  have h := congrArg List.length (grow_all (rows := rows))
  rw [List.length_map] at h
  rw [← h, List.length_flatMap, List.length_flatMap]
  simp
theorem many_rD {r : List Int} (h : rgf 0 r) (hl : r.length ≤ 6) {M : Mem} : g_groups_many [rD r] M = .ok (.int (fin 0 r)) M := by
  refine groups_run (t := true) (ds := r.map D.int) ?_ (by simp; omega) (by omega) h
  exact List.filter_eq_self.mpr fun d hd => by
    obtain ⟨i, _, rfl⟩ := List.mem_map.mp hd
    rfl
theorem d_addT {M : Mem} {x y : List D} {c : Bool} (h : x.length + y.length ≤ 1000) : dAdd c (.tup x) (.tup y) M = .ok (.tup (x ++ y)) M := if_pos (Nat.le_trans h (by decide))
theorem rows_turn {c : D} {x2 x3 x4 : Option D} {k : Nat} (hk : k + 1 ≤ 6) {M : Mem} : b_all_groupings_3 [some c, some (.lst ((rowsN k).map rD)), x2, x3, x4] M = .nx [some c, some (.lst ((rowsN (k + 1)).map rD)), x2, x3, x4] M := by
  have e : trimR (nfT TT) M (evLc2 (ivSeq (evVar 1)) [3, 4] (cgName 3) bvYes i_all_groupings_2 [4] (cgName 4) bvYes e_all_groupings_2 [some c, some (.lst ((rowsN k).map rD)), x2, x3, x4] M) = .ok (.lst ((rowsN (k + 1)).map rD)) M := by
    have := lc2T (nf := nfT TT) (iv := ivSeq (evVar 1)) (iv1 := i_all_groupings_2) (vs := [3, 4]) (vs1 := [4]) (g := cgName 3) (g1 := cgName 4) (tt := bvYes) (tt1 := bvYes) (te := e_all_groupings_2) (σ := [some c, some (.lst ((rowsN k).map rD)), x2, x3, x4]) (M := M) (f := nxtD) (h := addD) (items := (rowsN k).map rD) (by simp)
      (by rw [grow_len]; exact Nat.le_trans (rows_len (k + 1) hk) (by decide))
      (fun d hd M' => by
        obtain ⟨r, hr, rfl⟩ := List.mem_map.mp hd
        obtain ⟨a, b⟩ := rows_ok hr
        have h0 := fin_le (ns := r) (f := 0)
        have hb := fin_bound a
        have mr : ∀ M, g_groups_many [rD r] M = .ok (.int (fin 0 r)) M := fun M => many_rD a (by omega)
        refine ⟨[some c, some (.lst ((rowsN k).map rD)), x2, some (rD r), none], by simp [wipe3, cgName], rfl, ?_, fun e he M' => ?_⟩
        · rw [nxt_rD]
          obtain ⟨m, hm⟩ := Int.eq_ofNat_of_zero_le (show 0 ≤ fin 0 r + 1 by omega)
          unfold i_all_groupings_2
          rw [hm]
          exact ivR1_n (by simp [mr, trim_same low_int, hm]) (by omega)
        · rw [nxt_rD] at he
          obtain ⟨x, rfl⟩ := mem_up he
          refine ⟨[some c, some (.lst ((rowsN k).map rD)), x2, some (rD r), some (.int (x : Nat))], by simp [wipe3, cgName], rfl, ?_⟩
          unfold e_all_groupings_2
          simp -implicitDefEqProofs only [x_2, x_A, x_cons, x_var, x_nil, List.getElem?_cons_succ, List.getElem?_cons_zero, Res.bind_ok, mkTup_at (xs := [_]) (by simp)]
          exact d_addT (by simp; omega))
      (fun d hd e he => by
        obtain ⟨r, hr, rfl⟩ := List.mem_map.mp hd
        rw [nxt_rD] at he
        obtain ⟨x, rfl⟩ := mem_up he
        refine clo_tup fun d hd => ?_
        rcases List.mem_append.mp hd with hd | hd
        · obtain ⟨i, _, rfl⟩ := List.mem_map.mp hd
          exact clo_int
        · rw [List.mem_singleton.mp hd]; exact clo_int)
    rw [this, grow_all]
    rfl
  unfold b_all_groupings_3
  simp -implicitDefEqProofs only [y_set, x_trim, e, Res.out_ok, List.set_cons_succ, List.set_cons_zero]
theorem rows_loop {c : D} {x3 x4 : Option D} {M : Mem} : ∀ (n k : Nat) (x2 : Option D), k + n ≤ 6 → ∃ y2, svLoop [] (gvName 2) b_all_groupings_3 (upD k n) [some c, some (.lst ((rowsN k).map rD)), x2, x3, x4] M = .nx [some c, some (.lst ((rowsN (k + n)).map rD)), y2, x3, x4] M
  | 0, k, x2, _ => ⟨x2, loop_nil⟩
  | n + 1, k, x2, h => by
    obtain ⟨y2, ih⟩ := rows_loop (c := c) (x3 := x3) (x4 := x4) (M := M) n (k + 1) (some (.int (k : Nat))) (by omega)
    refine ⟨y2, ?_⟩
    show svLoop [] (gvName 2) b_all_groupings_3 (.int (k : Nat) :: upD (k + 1) n) _ _ = _
    have t := rows_turn (c := c) (x2 := some (.int (k : Nat))) (x3 := x3) (x4 := x4) (k := k) (by omega) (M := M)
    rw [loop_cons]
    simp -implicitDefEqProofs only [nxt_nx, nxt_ct, nxt_rt, nxt_bk, nxt_exc, into_nx, seq_nx, gnxt_nx, List.set_cons_succ, List.set_cons_zero, t, ih]
    rw [show k + 1 + n = k + (n + 1) by omega]
theorem yield_loop {a b e : Option D} {x4 : Option D} {M : Mem} : ∀ (ds yd : List D) (x3 : Option D), yd.length + ds.length ≤ 1000 → ∃ y3, gvLoop [] (gvName 3) b_all_groupings_1 ds yd [a, b, e, x3, x4] M = .nx (yd ++ ds) [a, b, e, y3, x4] M
  | [], yd, x3, _ => ⟨x3, by rw [List.append_nil]; rfl⟩
  | d :: r, yd, x3, h => by
    simp -implicitDefEqProofs only [List.length_cons] at h
    obtain ⟨y3, ih⟩ := yield_loop (a := a) (b := b) (e := e) (x4 := x4) (M := M) r (yd ++ [d]) (some d) (by simp; omega)
    refine ⟨y3, ?_⟩
    have t : b_all_groupings_1 yd [a, b, e, some d, x4] M = .nx (yd ++ [d]) [a, b, e, some d, x4] M := by
      unfold b_all_groupings_1
      rw [g_seq, g_Y (d := d) rfl (by omega), gseq_nx, g_next]
    rw [g_loop_cons]
    simp -implicitDefEqProofs only [nxt_nx, nxt_ct, nxt_rt, nxt_bk, nxt_exc, into_nx, seq_nx, gnxt_nx, List.set_cons_succ, List.set_cons_zero, t, ih]
    rw [List.append_assoc]; rfl
theorem count_check {d : D} (h : It d) {M : Mem} : g_check_count [d] M = if whole d 1 6 = true then .ok d M else .exc 2 [d] M := by
  have st : start3 1 [d] = [some d] := rfl
  unfold g_check_count fnB s_check_count
  rw [st]
  cases q : whole d 1 6 <;> simp [pk, whole_run h, q, trim_bl, truD]
theorem it_count {n : Nat} (h : n ≤ 6) : It (.int (n : Nat)) := .int _ (Nat.lt_of_le_of_lt (show ((n : Nat) : Int).natAbs ≤ 6 by omega) (by decide))
theorem whole_count {n : Nat} (h0 : 1 ≤ n) (h : n ≤ 6) : whole (.int (n : Nat)) 1 6 = true := by
  show (decide ((1 : Int) ≤ (n : Nat)) && decide (((n : Nat) : Int) ≤ 6)) = true
  rw [decide_eq_true (by omega), decide_eq_true (by omega)]; rfl
theorem all_run {n : Nat} (h0 : 1 ≤ n) (h : n ≤ 6) {M : Mem} : g_all_groupings [.int (n : Nat)] M = .ok ((rowsN n).map rD) M := by
  have st : start3 5 [.int (n : Nat)] = [some (.int (n : Nat)), none, none, none, none] := rfl
  have cc := count_check (it_count h) (M := M)
  rw [if_pos (whole_count h0 h)] at cc
  obtain ⟨y2, e⟩ := rows_loop (c := .int (n : Nat)) (x3 := none) (x4 := none) (M := M) n 0 none (by omega)
  rw [Nat.zero_add] at e
  obtain ⟨y3, e2⟩ := yield_loop (a := some (.int (n : Nat))) (b := some (.lst ((rowsN n).map rD))) (e := y2) (x4 := none) (M := M) ((rowsN n).map rD) [] none (by have := rows_len n h; simp; omega)
  rw [List.nil_append] at e2
  have rr : ivR1 (avCons (evVar 0) avNil) [some (.int (n : Nat)), some (.lst ((rowsN 0).map rD)), none, none, none] M = .ok ⟨upD 0 n, []⟩ M := ivR1_n (by simp) (by omega)
  have p1 : gvP (svE (evTrim (nfT TT) (evCall g_check_count 1 [] (avCons (evVar 0) avNil)))) [] [some (.int (n : Nat)), none, none, none, none] M = .nx [] [some (.int (n : Nat)), none, none, none, none] M := by
    rw [g_P]
    simp -implicitDefEqProofs [cc, trim_same low_int]
  have p2 : gvP (svSet 1 (evA mkLst (avCons (evA mkTup avNil) avNil))) [] [some (.int (n : Nat)), none, none, none, none] M = .nx [] [some (.int (n : Nat)), some (.lst ((rowsN 0).map rD)), none, none, none] M := by
    rw [g_P]
    simp -implicitDefEqProofs [mkTup_at, mkLst_at, rowsN, rD]
  have p3 : gvP (svFor (ivR1 (avCons (evVar 0) avNil)) (gvName 2) b_all_groupings_3) [] [some (.int (n : Nat)), some (.lst ((rowsN 0).map rD)), none, none, none] M = .nx [] [some (.int (n : Nat)), some (.lst ((rowsN n).map rD)), y2, none, none] M := by
    rw [g_P]
    simp -implicitDefEqProofs only [y_for, rr, Res.out_ok, e, gen_nx]
  unfold g_all_groupings fnN s_all_groupings
  rw [st, g_seq, p1, gseq_nx, g_seq, p2, gseq_nx, g_seq, p3, gseq_nx, g_seq, g_For (s := ⟨(rowsN n).map rD, []⟩) (M1 := M) (by simp), e2, gseq_nx, g_next, gend_nx]
theorem all_bad {d : D} (hd : It d) (h : whole d 1 6 = false) {M : Mem} : g_all_groupings [d] M = .exc 2 [d] M := by
  have st : start3 5 [d] = [some d, none, none, none, none] := rfl
  have cc := count_check hd (M := M)
  rw [if_neg (by rw [h]; simp)] at cc
  have p1 : gvP (svE (evTrim (nfT TT) (evCall g_check_count 1 [] (avCons (evVar 0) avNil)))) [] [some d, none, none, none, none] M = .exc 2 [d] [some d, none, none, none, none] M := by
    rw [g_P]
    simp -implicitDefEqProofs [cc, trim_exc0 (ds := [d]) (by simpa using hd.clo)]
  unfold g_all_groupings fnN s_all_groupings
  rw [st, g_seq, p1]
  rfl
theorem rowsC {n : Nat} : ∀ d ∈ (rowsN n).map rD, Clo d := fun d hd => by
  obtain ⟨r, _, rfl⟩ := List.mem_map.mp hd
  exact rD_clo
theorem lall_run {n : Nat} (h0 : 1 ≤ n) (h : n ≤ 6) {M : Mem} : g__law_all [.int (n : Nat)] M = .ok (.lst [.lst ((rowsN n).map rD)]) M := by
  have st : start3 3 [.int (n : Nat)] = [some (.int (n : Nat)), none, none] := rfl
  have nl : newL false ((rowsN n).map rD) M = .ok (.lst ((rowsN n).map rD)) M := newF (by rw [List.length_map]; exact Nat.le_trans (rows_len n h) (by decide))
  unfold g__law_all fnB s__law_all
  rw [st]
  simp -implicitDefEqProofs [all_run h0 h, nl, trim_clo0 (clo_lst rowsC), mkLst_at]
theorem lall_bad {d : D} (hd : It d) (h : whole d 1 6 = false) {M : Mem} : g__law_all [d] M = .ok d M := by
  have st : start3 3 [d] = [some d, none, none] := rfl
  unfold g__law_all fnB s__law_all
  rw [st]
  simp -implicitDefEqProofs [all_bad hd h, okx_all_groupings, trim_exc0 (ds := [d]) (by simpa using hd.clo), handle, sub_BadCount, slotOk, inSlot, offSlot, evXf, XT, lkN]
theorem lcount_run {n : Nat} (h0 : 1 ≤ n) (h : n ≤ 6) {M : Mem} : g__law_count [.int (n : Nat)] M = .ok (.lst [.int (n : Nat)]) M := by
  have st : start3 3 [.int (n : Nat)] = [some (.int (n : Nat)), none, none] := rfl
  have cc := count_check (it_count h) (M := M)
  rw [if_pos (whole_count h0 h)] at cc
  unfold g__law_count fnB s__law_count
  rw [st]
  simp -implicitDefEqProofs [cc, trim_same low_int, mkLst_at]
theorem lcount_bad {d : D} (hd : It d) (h : whole d 1 6 = false) {M : Mem} : g__law_count [d] M = .ok d M := by
  have st : start3 3 [d] = [some d, none, none] := rfl
  have cc := count_check hd (M := M)
  rw [if_neg (by rw [h]; simp)] at cc
  unfold g__law_count fnB s__law_count
  rw [st]
  simp -implicitDefEqProofs [cc, trim_exc0 (ds := [d]) (by simpa using hd.clo), handle, sub_BadCount, slotOk, inSlot, offSlot, evXf, XT, lkN]
/-! ### how many -/
def innerC : List Int → Nat → List Int → List Int
  | ls, _, [] => ls
  | ls, k, m :: r => innerC ((ls.set k (ls.getD k 0 + ((k : Nat) : Int) * m)).set (k + 1) ((ls.set k (ls.getD k 0 + ((k : Nat) : Int) * m)).getD (k + 1) 0 + m)) (k + 1) r
def bellC : Nat → List Int
  | 0 => [1]
  | n + 1 => innerC (List.replicate ((bellC n).length + 1) 0) 0 (bellC n)
theorem innerC_len : ∀ (r ls : List Int) (k : Nat), (innerC ls k r).length = ls.length
  | [], _, _ => rfl
  | m :: r, ls, k => by
    show (innerC _ (k + 1) r).length = _
    rw [innerC_len r]; simp
theorem bellC_len : ∀ n, (bellC n).length = n + 1
  | 0 => rfl
  | n + 1 => by
    show (innerC _ 0 (bellC n)).length = _
    rw [innerC_len, List.length_replicate, bellC_len n]
theorem bell_sum : ∀ n ≤ 6, (bellC n).sum = (((rowsN n).length : Nat) : Int) := by decide +kernel
theorem at_getD {ls : List Int} {k : Nat} (h : k < ls.length) : atI (ls.map D.int) ((k : Nat) : Int) = some (.int (ls.getD k 0)) := by
  rw [L3.atI_nat]; simp [h]
theorem ixN_nat {n k : Nat} (h : k < n) : ixN n ((k : Nat) : Int) = some k := by
  unfold ixN
  simp -implicitDefEqProofs [h]
theorem inner_loop {w : List (Nat × List D)} {c b x2 : Option D} {M : Mem} (hw : ∀ x, watched w (M ++ [x]) = true) : ∀ (ms ls : List Int) (k : Nat) (x4 x5 : Option D), k + ms.length < ls.length → ls.length ≤ 50 →
    ∃ y4 y5, svLoop w (gvTup 2 (gvCons (gvName 4) (gvCons (gvName 5) gvNil))) b_count_groupings_1 (enumD k (ms.map D.int)) [c, b, x2, some (.ref M.length), x4, x5] (M ++ [.lst (ls.map D.int)]) = .nx [c, b, x2, some (.ref M.length), y4, y5] (M ++ [.lst ((innerC ls k ms).map D.int)])
  | [], ls, k, x4, x5, _, _ => ⟨x4, x5, by
    show svLoop w _ _ [] _ _ = _
    rw [loopW_nil (hw _)]; rfl⟩
  | m :: r, ls, k, x4, x5, h, hl => by
    simp -implicitDefEqProofs only [List.length_cons] at h
    obtain ⟨y4, y5, ih⟩ := inner_loop (c := c) (b := b) (x2 := x2) hw r ((ls.set k (ls.getD k 0 + ((k : Nat) : Int) * m)).set (k + 1) ((ls.set k (ls.getD k 0 + ((k : Nat) : Int) * m)).getD (k + 1) 0 + m)) (k + 1) (some (.int (k : Nat))) (some (.int m)) (by simp; omega) (by simp; omega)
    refine ⟨y4, y5, ?_⟩
    have g1 : ∀ xs : List D, (M ++ [Cell.lst xs])[M.length]? = some (.lst xs) := by simp
    have s1 : ∀ x y : Cell, (M ++ [x]).set M.length y = M ++ [y] := by simp
    have mm : ∀ M, dMul false (.int (k : Nat)) (.int m) M = .ok (.int ((k : Nat) * m)) M := fun M => d_mul (mulOk_l (Nat.lt_of_le_of_lt (show ((k : Nat) : Int).natAbs ≤ 50 by omega) (by decide)))
    have st1 : ∀ (l : List Int) (j : Nat) (z : Int), j < l.length → stL (.ref M.length) (.int (j : Nat)) (.int z) (M ++ [.lst (l.map D.int)]) = some (M ++ [.lst ((l.set j z).map D.int)]) := fun l j z hj => by
      rw [st_R (g1 _) (ixN_nat (by simpa using hj)), s1, List.map_set]
    have ix1 : ∀ (l : List Int) (j : Nat), j < l.length → dIx (.ref M.length) (.int (j : Nat)) (M ++ [.lst (l.map D.int)]) = .ok (.int (l.getD j 0)) (M ++ [.lst (l.map D.int)]) := fun l j hj => d_ixR (g1 _) (at_getD hj)
    have cast : ((k : Nat) : Int) + 1 = ((k + 1 : Nat) : Int) := by omega
    have e : b_count_groupings_1 [c, b, x2, some (.ref M.length), some (.int (k : Nat)), some (.int m)] (M ++ [.lst (ls.map D.int)]) = .nx [c, b, x2, some (.ref M.length), some (.int (k : Nat)), some (.int m)] (M ++ [.lst (((ls.set k (ls.getD k 0 + ((k : Nat) : Int) * m)).set (k + 1) ((ls.set k (ls.getD k 0 + ((k : Nat) : Int) * m)).getD (k + 1) 0 + m)).map D.int)]) := by
      unfold b_count_groupings_1
      simp -implicitDefEqProofs only [y_seq, y_asg, x_2, x_var, x_c, List.getElem?_cons_succ, List.getElem?_cons_zero, Res.bind_ok, mm, d_add, Res.out_ok, y_sub, Out.only_nx, seq_nx, cast]
      rw [ix1 ls k (by omega)]
      simp -implicitDefEqProofs only [Res.bind_ok, d_add, Res.out_ok]
      rw [st1 ls k _ (by omega)]
      simp -implicitDefEqProofs only [Out.only_nx, seq_nx, y_asg, x_2, x_var, x_c, List.getElem?_cons_succ, List.getElem?_cons_zero, Res.bind_ok, d_add, Res.out_ok, y_sub, cast]
      rw [ix1 _ (k + 1) (by simp; omega)]
      simp -implicitDefEqProofs only [Res.bind_ok, d_add, Res.out_ok]
      rw [st1 _ (k + 1) _ (by simp; omega)]
      rfl
    show svLoop w _ b_count_groupings_1 (.tup [.int (k : Nat), .int m] :: enumD (k + 1) (r.map D.int)) _ _ = _
    rw [loopW_cons (hw _), tup2_x]
    simp -implicitDefEqProofs only [nxt_nx, nxt_ct, nxt_rt, nxt_bk, nxt_exc, into_nx, seq_nx, y_name, gvCons_x, gvNil_x, List.set_cons_succ, List.set_cons_zero, e, ih]
    rfl
/-- a list, wherever it lies -/
def Bo (M : Mem) (b : D) (ds : List D) : Prop := ∃ w, (∀ t, srcOf (M ++ t) b = some (false, ⟨ds, w⟩)) ∧ (∀ t, watched w (M ++ t) = true) ∧ (∀ t, L3.listOf (M ++ t) b = some ds) ∧ ∀ t, dLen b (M ++ t) = .ok (.int (ds.length : Nat)) (M ++ t)
theorem bo_lst {M : Mem} {ds : List D} : Bo M (.lst ds) ds := ⟨[], fun _ => rfl, fun _ => rfl, fun _ => rfl, fun _ => rfl⟩
theorem bo_new {M : Mem} {ds : List D} : Bo (M ++ [.lst ds]) (.ref M.length) ds := by
  have g1 : ∀ t, (M ++ [Cell.lst ds] ++ t)[M.length]? = some (.lst ds) := fun t => by simp
  refine ⟨[(M.length, ds)], fun t => ?_, fun t => ?_, fun t => ?_, fun t => d_lenR (g1 t)⟩
  · show (match (M ++ [Cell.lst ds] ++ t)[M.length]? with
      | some (.lst ds) => some (false, (⟨ds, [(M.length, ds)]⟩ : Src))
      | _ => none) = _
    rw [g1]
  · show ([(M.length, ds)].all fun p => decide ((M ++ [Cell.lst ds] ++ t)[p.1]? = some (.lst p.2))) = true
    simp
  · show (match (M ++ [Cell.lst ds] ++ t)[M.length]? with
      | some (.lst ds) => some ds
      | _ => none) = _
    rw [g1]
theorem bell_turn {c : Option D} {x2 x3 x4 x5 : Option D} {b : D} {k : Nat} (hk : k < 6) {M : Mem} (hb : Bo M b ((bellC k).map D.int)) :
    ∃ t y3 y4 y5 b', b_count_groupings_2 [c, some b, x2, x3, x4, x5] M = .nx [c, some b', x2, y3, y4, y5] (M ++ t) ∧ Bo (M ++ t) b' ((bellC (k + 1)).map D.int) := by
  obtain ⟨w, h1, h2, h3, h4⟩ := hb
  have bl := bellC_len k
  obtain ⟨y4, y5, e⟩ := inner_loop (w := w) (c := c) (b := some b) (x2 := x2) (M := M) (fun x => h2 [x]) (bellC k) (List.replicate ((bellC k).length + 1) 0) 0 x4 x5 (by simp) (by simp; omega)
  refine ⟨[.lst ((bellC (k + 1)).map D.int)], some (.ref M.length), y4, y5, .ref M.length, ?_, bo_new⟩
  have ln : dLen b M = .ok (.int ((bellC k).length : Nat)) M := by
    have := h4 []
    rw [List.append_nil, List.length_map] at this
    exact this
  have rep : dMul true (.lst [.int 0]) (.int (((bellC k).length : Nat) + 1)) M = .ok (.ref M.length) (M ++ [.lst ((List.replicate ((bellC k).length + 1) (0 : Int)).map D.int)]) := by
    rw [d_mulL (by omega), show ((((bellC k).length : Nat) : Int) + 1).toNat = (bellC k).length + 1 by omega]
    have e : ∀ n, (List.replicate n [D.int 0]).flatten = (List.replicate n (0 : Int)).map D.int := fun n => by
      induction n with
      | zero => rfl
      | succ n ih => rw [List.replicate_succ, List.flatten_cons, ih, List.replicate_succ]; rfl
    rw [e]
    exact newC (by simp; omega)
  unfold b_count_groupings_2
  simp -implicitDefEqProofs only [y_seq, y_set, x_2, x_A, x_cons, x_c, x_nil, x_var, Res.bind_ok, mkLst_at (xs := [_]) (by simp), List.getElem?_cons_succ, List.getElem?_cons_zero, a1_x, ln, d_add, rep, Res.out_ok, seq_nx, List.set_cons_succ, List.set_cons_zero, y_for, i_Enum, oneD, Option.bind_some, h1, e]
  rfl
theorem bell_loop {c : Option D} : ∀ (n k : Nat) (b : D) (x2 x3 x4 x5 : Option D) (M : Mem), k + n ≤ 6 → Bo M b ((bellC k).map D.int) →
    ∃ t y2 y3 y4 y5 b', svLoop [] (gvName 2) b_count_groupings_2 (upD k n) [c, some b, x2, x3, x4, x5] M = .nx [c, some b', y2, y3, y4, y5] (M ++ t) ∧ Bo (M ++ t) b' ((bellC (k + n)).map D.int)
  | 0, k, b, x2, x3, x4, x5, M, _, hb => ⟨[], x2, x3, x4, x5, b, by rw [List.append_nil]; rfl, by rw [List.append_nil]; exact hb⟩
  | n + 1, k, b, x2, x3, x4, x5, M, h, hb => by
    obtain ⟨t, y3, y4, y5, b', e, hb'⟩ := bell_turn (c := c) (x2 := some (.int (k : Nat))) (x3 := x3) (x4 := x4) (x5 := x5) (by omega) hb
    obtain ⟨t2, z2, z3, z4, z5, b2, e2, hb2⟩ := bell_loop (c := c) n (k + 1) b' (some (.int (k : Nat))) y3 y4 y5 (M ++ t) (by omega) hb'
    refine ⟨t ++ t2, z2, z3, z4, z5, b2, ?_, ?_⟩
    · show svLoop [] (gvName 2) b_count_groupings_2 (.int (k : Nat) :: upD (k + 1) n) _ _ = _
      rw [loop_cons]
      simp -implicitDefEqProofs only [nxt_nx, nxt_ct, nxt_rt, nxt_bk, nxt_exc, into_nx, seq_nx, List.set_cons_succ, List.set_cons_zero, e, e2, List.append_assoc]
    · rw [← List.append_assoc, show k + (n + 1) = k + 1 + n by omega]; exact hb2
theorem count_run {n : Nat} (h0 : 1 ≤ n) (h : n ≤ 6) {M : Mem} : ∃ t, g_count_groupings [.int (n : Nat)] M = .ok (.int (((rowsN n).length : Nat) : Int)) (M ++ t) := by
  have st : start3 6 [.int (n : Nat)] = [some (.int (n : Nat)), none, none, none, none, none] := rfl
  have cc := count_check (it_count h) (M := M)
  rw [if_pos (whole_count h0 h)] at cc
  obtain ⟨t, y2, y3, y4, y5, b', e, hb⟩ := bell_loop (c := some (.int (n : Nat))) n 0 (.lst ((bellC 0).map D.int)) none none none none M (by omega) bo_lst
  rw [Nat.zero_add] at hb
  obtain ⟨w, h1, h2, h3, h4⟩ := hb
  have rr : ivR1 (avCons (evVar 0) avNil) [some (.int (n : Nat)), some (.lst ((bellC 0).map D.int)), none, none, none, none] M = .ok ⟨upD 0 n, []⟩ M := ivR1_n (by simp) (by omega)
  have sm : dSumS b' (M ++ t) = .ok (.int (((rowsN n).length : Nat) : Int)) (M ++ t) := by
    have hl := h3 []
    rw [List.append_nil] at hl
    have tl : toL b' = b' := by
      cases b' <;> first | rfl | (exact absurd hl (by simp [L3.listOf]))
    show (match (L3.listOf (M ++ t) (toL b')).bind intsOf with
      | some ns => Res.ok (D.int ns.sum) (M ++ t)
      | none => .no) = _
    rw [tl, hl, Option.bind_some, intsOf_map]
    show Res.ok (D.int (bellC n).sum) (M ++ t) = _
    rw [bell_sum n h]
  refine ⟨t, ?_⟩
  have l0 : (evA mkLst (avCons (evC (.int 1)) avNil)) [some (.int (n : Nat)), none, none, none, none, none] M = .ok (.lst ((bellC 0).map D.int)) M := by simp [mkLst_at, bellC]
  unfold g_count_groupings fnB s_count_groupings
  rw [st]
  simp -implicitDefEqProofs only [y_seq, y_E, x_trim, x_call, x_cons, x_var, x_nil, List.getElem?_cons_succ, List.getElem?_cons_zero, Res.bind_ok, List.append_nil, List.length_cons, List.length_nil, Nat.zero_add, if_true, cc, trim_same low_int, Res.out_ok, seq_nx, y_set, l0, List.set_cons_succ, List.set_cons_zero, y_for, rr, e, y_ret, x_A, a1_x, sm, end_rt]
theorem count_bad {d : D} (hd : It d) (h : whole d 1 6 = false) {M : Mem} : g_count_groupings [d] M = .exc 2 [d] M := by
  have st : start3 6 [d] = [some d, none, none, none, none, none] := rfl
  have cc := count_check hd (M := M)
  rw [if_neg (by rw [h]; simp)] at cc
  unfold g_count_groupings fnB s_count_groupings
  rw [st]
  simp -implicitDefEqProofs [cc, trim_exc0 (ds := [d]) (by simpa using hd.clo)]
theorem lcounted_run {n : Nat} (h0 : 1 ≤ n) (h : n ≤ 6) {M : Mem} : g__law_counted [.int (n : Nat)] M = .ok (.lst [.int (((rowsN n).length : Nat) : Int)]) M := by
  have st : start3 3 [.int (n : Nat)] = [some (.int (n : Nat)), none, none] := rfl
  obtain ⟨t, e⟩ := count_run h0 h (M := M)
  unfold g__law_counted fnB s__law_counted
  rw [st]
  simp -implicitDefEqProofs [e, trim_clo clo_int, mkLst_at]
theorem lcounted_bad {d : D} (hd : It d) (h : whole d 1 6 = false) {M : Mem} : g__law_counted [d] M = .ok d M := by
  have st : start3 3 [d] = [some d, none, none] := rfl
  unfold g__law_counted fnB s__law_counted
  rw [st]
  simp -implicitDefEqProofs [count_bad hd h, trim_exc0 (ds := [d]) (by simpa using hd.clo), handle, sub_BadCount, slotOk, inSlot, offSlot, evXf, XT, lkN]
end K03

set_option Elab.async false
set_option linter.all false
set_option maxRecDepth 100000
set_option maxHeartbeats 4000000
namespace K03
open PySem PySem.Spec PyProof.Rows L2 L3

/-! ### groupings drawn -/
theorem many_ref {n : Nat} {ns : List Int} {M : Mem} (h : M[n]? = some (.lst (ns.map D.int))) : g__law_many [.ref n] M = .ok (.int (manyI ns)) M := by
  have st : start3 1 [.ref n] = [some (.ref n)] := rfl
  have e1 : truD M (.ref n) = some (!(ns.map D.int).isEmpty) := by
    show (match M[n]? with
      | some (.lst ds) => some (!ds.isEmpty)
      | some (.dic kvs) => some (!kvs.isEmpty)
      | _ => none) = _
    rw [h]
  unfold g__law_many fnB s__law_many
  rw [st]
  cases ns with
  | nil =>
    simp -implicitDefEqProofs only [y_ret, x_if, x_bT, x_var, List.getElem?_cons_zero, Res.bind_ok, e1, List.map_nil, List.isEmpty_nil, Bool.not_true, Bool.false_eq_true, if_false, x_c, Res.out_ok, end_rt]
    rfl
  | cons m r =>
    have lo : L3.listOf M (.ref n) = some ((m :: r).map D.int) := by
      show (match M[n]? with
        | some (.lst ds) => some ds
        | _ => none) = _
      rw [h]
    have e2 : dMaxS (.ref n) M = .ok (.int (maxI (m :: r))) M := by
      show (match (L3.listOf M (.ref n)).bind intsOf with
        | some ns => (match (if ns = [] then none else some (D.int (maxI ns))) with
          | some d => Res.ok d M
          | none => .no)
        | none => .no) = _
      rw [lo, Option.bind_some, intsOf_map]
      simp
    simp -implicitDefEqProofs only [y_ret, x_if, x_bT, x_var, List.getElem?_cons_zero, Res.bind_ok, e1, List.map_cons, List.isEmpty_cons, Bool.not_false, if_true, x_2, x_A, x_cons, x_nil, a1_x, e2, x_c, d_add, Res.out_ok, end_rt]
    rfl
theorem fin_len {ns : List Int} (h : rgf 0 ns) : fin 0 ns ≤ ns.length := by
  have := fin_bound h
  omega
theorem ints_clo {ns : List Int} : ∀ d ∈ ns.map D.int, Clo d := fun d hd => by
  obtain ⟨i, _, rfl⟩ := List.mem_map.mp hd
  exact clo_int
theorem group_loop {s1 : D} : ∀ (n k : Nat) (ns : List Int) (x3 : Option D) (M : Mem), HandL M 1 0 → rgf 0 ns → ns.length + n ≤ 6 →
    ∃ ms y3 M', svLoop [] (gvName 3) b__law_grouping_1 (upD k n) [some (.ref 1), some s1, some (.ref M.length), x3] (M ++ [.lst (ns.map D.int)]) = .nx [some (.ref 1), some s1, some (.ref M.length), y3] (M' ++ [.lst (ms.map D.int)]) ∧ HandL M' 1 0 ∧ M'.length = M.length ∧ rgf 0 ms ∧ ms.length = ns.length + n
  | 0, k, ns, x3, M, H, rg, _ => ⟨ns, x3, M, loop_nil, H, rfl, rg, rfl⟩
  | n + 1, k, ns, x3, M, H, rg, hl => by
    have h0 := fin_le (ns := ns) (f := 0)
    have h1 := fin_len rg
    obtain ⟨d, x, d0, d1, e, H1⟩ := drawTop take_run (nf := nfT TT) (t := [.lst (ns.map D.int)]) H (many := 1 + fin 0 ns) (by omega) (by omega)
    have rg1 : rgf 0 (ns ++ [d]) := rgf_snoc rg d0 (by omega)
    obtain ⟨ms, y3, M', e2, H2, l2, rg2, lm⟩ := group_loop (s1 := s1) n (k + 1) (ns ++ [d]) (some (.int (k : Nat))) (M.set 1 x) H1 rg1 (by simp; omega)
    refine ⟨ms, y3, M', ?_, H2, by rw [l2, set_len], rg2, by rw [lm]; simp; omega⟩
    rw [set_len] at e2
    have mr : trimR (nfT TT) (M ++ [.lst (ns.map D.int)]) (g__law_many [.ref M.length] (M ++ [.lst (ns.map D.int)])) = .ok (.int (fin 0 ns)) (M ++ [.lst (ns.map D.int)]) := by
      rw [many_ref top_at, many_fin rg]
      exact trim_same low_int
    have ap : dAppend (.ref M.length) [.int d] (M.set 1 x ++ [.lst (ns.map D.int)]) = .ok .non (M.set 1 x ++ [.lst ((ns ++ [d]).map D.int)]) := by
      have q := append_R (y := D.int d) (top_at (M := M.set 1 x) (c := .lst (ns.map D.int))) (by simp; omega)
      rw [set_len] at q
      rw [q]
      have := top_set (M := M.set 1 x) (c := .lst (ns.map D.int)) (d := .lst (ns.map D.int ++ [.int d]))
      rw [set_len] at this
      rw [this, List.map_append]; rfl
    have t : b__law_grouping_1 [some (.ref 1), some s1, some (.ref M.length), some (.int (k : Nat))] (M ++ [.lst (ns.map D.int)]) = .nx [some (.ref 1), some s1, some (.ref M.length), some (.int (k : Nat))] (M.set 1 x ++ [.lst ((ns ++ [d]).map D.int)]) := by
      unfold b__law_grouping_1
      simp -implicitDefEqProofs only [y_E, x_M, x_var, List.getElem?_cons_succ, List.getElem?_cons_zero, Res.bind_ok, isL_ref top_at, if_true, x_cons, x_trim, x_call, x_nil, x_2, x_c, List.append_nil, List.length_cons, List.length_nil, Nat.zero_add, mr, d_add, e, ap, Res.out_ok]
    show svLoop [] (gvName 3) b__law_grouping_1 (.int (k : Nat) :: upD (k + 1) n) _ _ = _
    rw [loop_cons]
    simp -implicitDefEqProofs only [nxt_nx, List.set_cons_succ, List.set_cons_zero, t, e2]
theorem grouping_run {n : Nat} (h : n ≤ 6) {M : Mem} (H : HandL M 1 0) : ∃ ns M', trimW (nfT TT) M (g__law_grouping [.ref 1, .int (n : Nat)] M) = .ok (.lst (ns.map D.int)) M' ∧ HandL M' 1 0 ∧ rgf 0 ns ∧ ns.length = n := by
  have st : start3 4 [.ref 1, .int (n : Nat)] = [some (.ref 1), some (.int (n : Nat)), none, none] := rfl
  obtain ⟨ms, y3, M', e, H', l, rg, lm⟩ := group_loop (s1 := .int (n : Nat)) n 0 [] none M H trivial (by simp; omega)
  refine ⟨ms, M', ?_, H', rg, by simpa using lm⟩
  have rr : ivR1 (avCons (evVar 1) avNil) [some (.ref 1), some (.int (n : Nat)), some (.ref M.length), none] (M ++ [.lst []]) = .ok ⟨upD 0 n, []⟩ (M ++ [.lst []]) := ivR1_n (by simp) (by omega)
  have g : g__law_grouping [.ref 1, .int (n : Nat)] M = .ok (.ref M'.length) (M' ++ [.lst (ms.map D.int)]) := by
    unfold g__law_grouping fnB s__law_grouping
    rw [st]
    rw [List.map_nil] at e
    simp -implicitDefEqProofs only [y_seq, y_set, x_A, x_nil, Res.bind_ok, mkCell_at (xs := []) (by simp), Res.out_ok, seq_nx, List.set_cons_succ, List.set_cons_zero, y_for, rr, e, y_ret, x_var, List.getElem?_cons_succ, List.getElem?_cons_zero, end_rt]
    rw [l]
  rw [g]
  exact trimW_lst l H'.L fun d hd => ints_clo d hd _
/-! ### things that may stand for a grouping -/
def Off (s : D) : Prop := (∀ M, g_is_sequence [s] M = .ok (.bl false) M) ∧ (∀ M, g__law_seq [s] M = .ok (.bl false) M) ∧ Clo s ∧ ∃ x, ∀ M, dReprX s M = .ok (.str x) M
def So (s : D) : Prop := (∃ t ds, s = sq t ds ∧ (∀ d ∈ ds, It d) ∧ ds.length ≤ 20) ∨ Off s
theorem row_run {ds : List D} (hl : ds.length ≤ 20) (hd : ∀ d ∈ ds, It d) {M : Mem} (H : HandL M 1 0) : ∃ s M', trimW (nfT TT) M (g__law_row [.ref 1, .lst ds] M) = .ok s M' ∧ HandL M' 1 0 ∧ So s := by
  have st : start3 2 [.ref 1, .lst ds] = [some (.ref 1), some (.lst ds)] := rfl
  obtain ⟨k, x, k0, k1, e, H1⟩ := drawH take_run (nf := nfT TT) H (many := 2) (by decide) (by decide)
  have cl : ∀ d ∈ ds, Clo d := fun d h => (hd d h).clo
  by_cases z : k = 0
  · subst z
    refine ⟨.tup ds, M.set 1 x, ?_, H1, .inl ⟨true, ds, rfl, hd, hl⟩⟩
    have g : g__law_row [.ref 1, .lst ds] M = .ok (.tup ds) (M.set 1 x) := by
      unfold g__law_row fnB s__law_row
      rw [st]
      simp -implicitDefEqProofs [e, truD, tupOf_l (show ds.length ≤ 1000 by omega)]
    rw [g]
    exact trimW_low0 set_len H1.L (clo_tup cl _)
  · refine ⟨.lst ds, M.set 1 x, ?_, H1, .inl ⟨false, ds, rfl, hd, hl⟩⟩
    have g : g__law_row [.ref 1, .lst ds] M = .ok (.lst ds) (M.set 1 x) := by
      unfold g__law_row fnB s__law_row
      rw [st]
      simp -implicitDefEqProofs [e, truD, z, listOf_lF (show ds.length ≤ 1000 by omega)]
    rw [g]
    exact trimW_low0 set_len H1.L (clo_lst cl _)
theorem i1 : It (.int 1) := .int 1 (by decide)
def ridD (k : Int) : D := (atI [D.non, .str (PySem.Str.ofString "ab"), .bl true, .dct [.int 0] [.int 1], .tup [.int 1], .bl false] k).getD .non
theorem rid_so {k : Int} (h0 : 0 ≤ k) (h1 : k < 6) : So (ridD k) := by
  have kk : k = 0 ∨ k = 1 ∨ k = 2 ∨ k = 3 ∨ k = 4 ∨ k = 5 := by omega
  rcases kk with rfl | rfl | rfl | rfl | rfl | rfl
  · exact .inr ⟨fun _ => rfl, fun _ => rfl, clo_non, reprX_sd sd_non (by decide)⟩
  · exact .inr ⟨fun _ => rfl, fun _ => rfl, clo_str, reprX_sd (sd_str (by decide +kernel) (by decide +kernel) (by decide +kernel)) (by decide)⟩
  · exact .inr ⟨fun _ => rfl, fun _ => rfl, clo_bl, reprX_sd sd_bl (by decide)⟩
  · refine .inr ⟨fun _ => rfl, fun _ => rfl, clo_dct (by simp [clo_int]) (by simp [clo_int]), ?_⟩
    have q : ∃ r, pyKV [.int 0] [.int 1] = some r ∧ (PyData.dict r).showable = true ∧ (PyData.dict r).depth ≤ 16 ∧ (PyData.dict r).shown.length ≤ sizeLine := ⟨_, rfl, by decide +kernel, by decide +kernel, by decide +kernel⟩
    obtain ⟨r, q1, q2⟩ := q
    refine ⟨(PyData.dict r).shown, fun M => ?_⟩
    show (match pyKV [.int 0] [.int 1] with
      | some r => if (PyData.dict r).showable = true ∧ (PyData.dict r).depth ≤ 16 ∧ (PyData.dict r).shown.length ≤ sizeLine then Res.ok (D.str (PyData.dict r).shown) M else .no
      | none => .no) = _
    rw [q1]
    exact if_pos q2
  · exact .inl ⟨true, [.int 1], rfl, by simp [i1], by simp⟩
  · exact .inr ⟨fun _ => rfl, fun _ => rfl, clo_bl, reprX_sd sd_bl (by decide)⟩
theorem rid_run {M t : Mem} (H : HandL M 1 0) (ht : LowM (M ++ t)) : ∃ s x, trimW (nfT TT) (M ++ t) (g__law_rid [.ref 1] (M ++ t)) = .ok s (M.set 1 x ++ t) ∧ HandL (M.set 1 x) 1 0 ∧ So s ∧ Clo s := by
  have st : start3 1 [.ref 1] = [some (.ref 1)] := rfl
  have Ht : HandL (M ++ t) 1 0 := ⟨hok_ext H.H, ht⟩
  obtain ⟨k, x, k0, k1, e, H1⟩ := drawH take_run (nf := nfT TT) Ht (many := 6) (by decide) (by decide)
  have so := rid_so k0 k1
  have ix : ∀ M, dIx (.tup [D.non, .str (PySem.Str.ofString "ab"), .bl true, .dct [.int 0] [.int 1], .tup [.int 1], .bl false]) (.int k) M = .ok (ridD k) M := fun M => by
    have kk : k = 0 ∨ k = 1 ∨ k = 2 ∨ k = 3 ∨ k = 4 ∨ k = 5 := by omega
    rcases kk with rfl | rfl | rfl | rfl | rfl | rfl <;> rfl
  have cl : Clo (ridD k) := by
    rcases so with ⟨t, ds, e, hd, _⟩ | h
    · rw [e]; cases t
      · exact clo_lst fun d h => (hd d h).clo
      · exact clo_tup fun d h => (hd d h).clo
    · exact h.2.2.1
  refine ⟨ridD k, x, ?_, H.pre H1.H, so, cl⟩
  have g : g__law_rid [.ref 1] (M ++ t) = .ok (ridD k) ((M ++ t).set 1 x) := by
    unfold g__law_rid fnB s__law_rid
    rw [st]
    simp -implicitDefEqProofs [mkTup_at, e, ix]
  rw [g, set_app H.H.lt.1]
  rw [set_app H.H.lt.1] at H1
  exact trimW_low0 (by simp) H1.L (cl _)
theorem take_it {ds : List D} (h : ∀ d ∈ ds, It d) (k : Nat) : ∀ d ∈ ds.take k, It d := fun d hd => h d (List.mem_of_mem_take hd)
theorem ins_it {ds : List D} {y : D} (h : ∀ d ∈ ds, It d) (hy : It y) (k : Nat) : ∀ d ∈ ds.take k ++ [y] ++ ds.drop k, It d := fun d hd => by
  rcases List.mem_append.mp hd with hd | hd
  · rcases List.mem_append.mp hd with hd | hd
    · exact h d (List.mem_of_mem_take hd)
    · rw [List.mem_singleton.mp hd]; exact hy
  · exact h d (List.mem_of_mem_drop hd)
theorem set_it {ds : List D} {y : D} (h : ∀ d ∈ ds, It d) (hy : It y) (k : Nat) : ∀ d ∈ ds.set k y, It d := fun d hd => by
  rcases List.mem_or_eq_of_mem_set hd with hd | hd
  · exact h d hd
  · rw [hd]; exact hy
theorem ins_len {ds : List D} {y : D} {k : Nat} : (ds.take k ++ [y] ++ ds.drop k).length = ds.length + 1 := by
  simp; omega
theorem spoil_run {ds : List D} {odd : D} (hl : ds.length ≤ 12) (hd : ∀ d ∈ ds, It d) (ho : It odd) {M : Mem} (H : HandL M 1 0) : ∃ s M', trimW (nfT TT) M (g__law_spoiled [.ref 1, .lst ds, odd] M) = .ok s M' ∧ HandL M' 1 0 ∧ So s := by
  have st : start3 8 [.ref 1, .lst ds, odd] = [some (.ref 1), some (.lst ds), some odd, none, none, none, none, none] := rfl
  obtain ⟨k, x, k0, k1, e, H1⟩ := drawH take_run (nf := nfT TT) H (many := 7) (by decide) (by decide)
  have cl : ∀ d ∈ ds, Clo d := fun d h => (hd d h).clo
  have lc := listOf_lC (M := M.set 1 x) (show ds.length ≤ 1000 by omega)
  -- the end: a list made in a new cell
  have fin_ : ∀ (M1 : Mem) (xs : List D), HandL M1 1 0 → M1.length = M.length → xs.length ≤ 20 → (∀ d ∈ xs, It d) → g__law_spoiled [.ref 1, .lst ds, odd] M = .ok (.ref M1.length) (M1 ++ [.lst xs]) → ∃ s M', trimW (nfT TT) M (g__law_spoiled [.ref 1, .lst ds, odd] M) = .ok s M' ∧ HandL M' 1 0 ∧ So s := fun M1 xs K l lx hx g =>
    ⟨.lst xs, M1, by rw [g]; exact trimW_lst l K.L fun d h => (hx d h).clo _, K, .inl ⟨false, xs, rfl, hx, lx⟩⟩
  have run0 : g__law_spoiled [.ref 1, .lst ds, odd] M = endB ((svSeq (svIf (bvE (ev2 dEqS (evVar 3) (evC (.int 0)))) (svRet (evTrimW (nfT TT) (evCall g__law_rid 1 [] (avCons (evVar 0) avNil)))) svNext)
    (svSeq (svIf (bvOr (bvE (ev2 dLt (evVar 3) (evC (.int 3)))) (bvNot (bvT (evVar 4)))) (svSeq (svE (evM isL dInsert (evVar 4) (avCons (evTrim (nfT TT) (evCall g__law_take 2 [] (avCons (evVar 0) (avCons (ev2 (dAdd false) (evA (a1 dLen) (avCons (evVar 4) avNil)) (evC (.int 1))) avNil)))) (avCons (evVar 2) avNil))))
    (svRet (evVar 4))) svNext)
    (svSeq (svSet 5 (evTrim (nfT TT) (evCall g__law_take 2 [] (avCons (evVar 0) (avCons (evA (a1 dLen) (avCons (evVar 4) avNil)) avNil)))))
    (svSeq (svIf (bvE (ev2 dLt (evVar 3) (evC (.int 5)))) (svAsg (evVar 2) (gvSub (evVar 4) (evVar 5) stL)) (svIf (bvE (ev2 dEqS (evVar 3) (evC (.int 5)))) (svE (evM isL dInsert (evVar 4) (avCons (evVar 5) (avCons (ev2 dIx (evVar 4) (evVar 5)) avNil)))) (svSeq (svSet 6 (evTrim (nfT TT) (evCall g__law_take 2 [] (avCons (evVar 0) (avCons (evA (a1 dLen) (avCons (evVar 4) avNil)) avNil)))))
    (svSeq (svSet 7 (ev2 dIx (evVar 4) (evVar 5)))
    (svSeq (svAsg (ev2 dIx (evVar 4) (evVar 6)) (gvSub (evVar 4) (evVar 5) stL))
    (svAsg (evVar 7) (gvSub (evVar 4) (evVar 6) stL)))))))
    (svRet (evVar 4)))))) [some (.ref 1), some (.lst ds), some odd, some (.int k), some (.ref M.length), none, none, none] (M.set 1 x ++ [.lst ds])) := by
    unfold g__law_spoiled fnB s__law_spoiled
    rw [st, y_seq]
    simp -implicitDefEqProofs only [y_set, x_trim, x_call, x_cons, x_var, x_c, x_nil, List.getElem?_cons_succ, List.getElem?_cons_zero, Res.bind_ok, List.append_nil, List.length_cons, List.length_nil, Nat.zero_add, if_true, e, Res.out_ok, seq_nx, List.set_cons_succ, List.set_cons_zero]
    rw [y_seq]
    simp -implicitDefEqProofs only [y_set, x_A, x_cons, x_var, x_nil, List.getElem?_cons_succ, List.getElem?_cons_zero, Res.bind_ok, a1_x, lc, Res.out_ok, seq_nx, List.set_cons_succ, List.set_cons_zero, set_len]
  obtain ⟨M1, hM1⟩ : ∃ M1, M.set 1 x = M1 := ⟨_, rfl⟩
  have l1 : M1.length = M.length := by rw [← hM1, set_len]
  rw [hM1, ← l1] at run0
  rw [hM1] at H1
  have ta : ∀ ds : List D, (M1 ++ [Cell.lst ds])[M1.length]? = some (.lst ds) := fun _ => top_at
  have iL : ∀ ds : List D, isL (M1 ++ [Cell.lst ds]) (.ref M1.length) = true := fun ds => isL_ref (ta ds)
  have ln : dLen (.ref M1.length) (M1 ++ [.lst ds]) = .ok (.int (ds.length : Nat)) (M1 ++ [.lst ds]) := d_lenR (ta ds)
  by_cases z : k = 0
  · subst z
    obtain ⟨s, y, e2, H2, so, cs⟩ := rid_run H1 (H1.one cl).L
    refine ⟨s, M1.set 1 y, ?_, H2, so⟩
    have g : g__law_spoiled [.ref 1, .lst ds, odd] M = .ok s (M1.set 1 y ++ [.lst ds]) := by
      rw [run0]
      simp -implicitDefEqProofs [e2]
    rw [g]
    exact trimW_low (by rw [set_len, l1]) H2.L (cs _)
  have tr : truD (M1 ++ [.lst ds]) (.ref M1.length) = some (!ds.isEmpty) := by
    show (match (M1 ++ [Cell.lst ds])[M1.length]? with
      | some (.lst ds) => some (!ds.isEmpty)
      | some (.dic kvs) => some (!kvs.isEmpty)
      | _ => none) = _
    rw [ta]
  by_cases z3 : k < 3 ∨ ds = []
  · obtain ⟨j, y, j0, j1, e2, H2⟩ := drawTop take_run (nf := nfT TT) (t := [.lst ds]) H1 (many := (ds.length : Nat) + 1) (by omega) (by omega)
    obtain ⟨i, rfl⟩ := Int.eq_ofNat_of_zero_le j0
    have tb : (M1.set 1 y ++ [Cell.lst ds])[M1.length]? = some (.lst ds) := by have := top_at (M := M1.set 1 y) (c := .lst ds); rwa [set_len] at this
    have ins : dInsert (.ref M1.length) [.int (i : Nat), odd] (M1.set 1 y ++ [.lst ds]) = .ok .non (M1.set 1 y ++ [.lst (ds.take i ++ [odd] ++ ds.drop i)]) := by
      rw [insert_R tb (by omega) (by omega)]
      have := top_set (M := M1.set 1 y) (c := .lst ds) (d := .lst (ds.take i ++ [odd] ++ ds.drop i))
      rw [set_len] at this
      rw [this]
    refine fin_ (M1.set 1 y) (ds.take i ++ [odd] ++ ds.drop i) H2 (by rw [set_len, l1]) (by rw [ins_len]; omega) (ins_it hd ho i) ?_
    have cond : bvOr (bvE (ev2 dLt (evVar 3) (evC (.int 3)))) (bvNot (bvT (evVar 4))) [some (.ref 1), some (.lst ds), some odd, some (.int k), some (.ref M1.length), none, none, none] (M1 ++ [.lst ds]) = .ok true (M1 ++ [.lst ds]) := by
      rcases z3 with z3 | rfl
      · simp -implicitDefEqProofs [z3]
      · by_cases z3 : k < 3 <;> simp -implicitDefEqProofs [z3, tr]
    rw [run0, set_len]
    simp -implicitDefEqProofs only [y_seq, y_if, x_bE, x_2, x_var, x_c, List.getElem?_cons_succ, List.getElem?_cons_zero, Res.bind_ok, d_eqI, z, decide_false, Bool.false_eq_true, if_false, Res.out_ok, y_next, seq_nx, cond, if_true, y_E, x_M, iL, x_cons, x_trim, x_call, x_A, x_nil, a1_x, ln, d_add, List.append_nil, List.length_cons, List.length_nil, Nat.zero_add, e2, ins, y_ret, seq_rt, end_rt]
  · have z1 : ¬ k < 3 := fun q => z3 (.inl q)
    have z2 : ds ≠ [] := fun q => z3 (.inr q)
    have lp : 0 < ds.length := List.length_pos_iff.mpr z2
    have em : ds.isEmpty = false := by cases ds <;> simp at z2 ⊢
    have cond : bvOr (bvE (ev2 dLt (evVar 3) (evC (.int 3)))) (bvNot (bvT (evVar 4))) [some (.ref 1), some (.lst ds), some odd, some (.int k), some (.ref M1.length), none, none, none] (M1 ++ [.lst ds]) = .ok false (M1 ++ [.lst ds]) := by
      simp -implicitDefEqProofs [z1, tr, em]
    obtain ⟨j, y, j0, j1, e2, H2⟩ := drawTop take_run (nf := nfT TT) (t := [.lst ds]) H1 (many := (ds.length : Nat)) (by omega) (by omega)
    obtain ⟨i, rfl⟩ := Int.eq_ofNat_of_zero_le j0
    have hi : i < ds.length := by omega
    obtain ⟨M2, hM2⟩ : ∃ M2, M1.set 1 y = M2 := ⟨_, rfl⟩
    have l2 : M2.length = M1.length := by rw [← hM2, set_len]
    rw [hM2] at e2 H2
    have tb : ∀ ds : List D, (M2 ++ [Cell.lst ds])[M1.length]? = some (.lst ds) := fun ds => by rw [← l2]; exact top_at
    have ts : ∀ a b : List D, (M2 ++ [Cell.lst a]).set M1.length (.lst b) = M2 ++ [.lst b] := fun a b => by rw [← l2]; exact top_set
    have st1 : ∀ (a : List D) (p : Nat) (v : D), p < a.length → stL (.ref M1.length) (.int (p : Nat)) v (M2 ++ [.lst a]) = some (M2 ++ [.lst (a.set p v)]) := fun a p v hp => by
      rw [st_R (tb a) (ixN_nat hp), ts]
    have ix1 : ∀ (a : List D) (p : Nat) (v : D), a[p]? = some v → dIx (.ref M1.length) (.int (p : Nat)) (M2 ++ [.lst a]) = .ok v (M2 ++ [.lst a]) := fun a p v hp => d_ixR (tb a) (by rw [L3.atI_nat]; exact hp)
    have ati : ds[i]? = some ds[i] := List.getElem?_eq_getElem hi
    by_cases z5 : k < 5
    · refine fin_ M2 (ds.set i odd) H2 (by rw [l2, l1]) (by simp; omega) (set_it hd ho i) ?_
      rw [run0]
      simp -implicitDefEqProofs only [y_seq, y_if, x_bE, x_2, x_var, x_c, List.getElem?_cons_succ, List.getElem?_cons_zero, Res.bind_ok, d_eqI, z, decide_false, Bool.false_eq_true, if_false, Res.out_ok, y_next, seq_nx, cond, y_set, x_trim, x_call, x_cons, x_A, x_nil, a1_x, ln, List.append_nil, List.length_cons, List.length_nil, Nat.zero_add, if_true, e2, List.set_cons_succ, List.set_cons_zero, d_lt, z5, decide_true, y_asg, y_sub, st1 ds i odd hi, Out.only_nx, y_ret, end_rt]
      rw [l2]
    · by_cases z6 : k = 5
      · subst z6
        refine fin_ M2 (ds.take i ++ [ds[i]] ++ ds.drop i) H2 (by rw [l2, l1]) (by rw [ins_len]; omega) (ins_it hd (hd _ (List.getElem_mem hi)) i) ?_
        have ins : dInsert (.ref M1.length) [.int (i : Nat), ds[i]] (M2 ++ [.lst ds]) = .ok .non (M2 ++ [.lst (ds.take i ++ [ds[i]] ++ ds.drop i)]) := by
          rw [insert_R (tb ds) (by omega) (by omega), ts]
        have iL2 : isL (M2 ++ [Cell.lst ds]) (.ref M1.length) = true := isL_ref (tb ds)
        rw [run0]
        simp -implicitDefEqProofs only [y_seq, y_if, x_bE, x_2, x_var, x_c, List.getElem?_cons_succ, List.getElem?_cons_zero, Res.bind_ok, d_eqI, z, decide_false, Bool.false_eq_true, if_false, Res.out_ok, y_next, seq_nx, cond, y_set, x_trim, x_call, x_cons, x_A, x_nil, a1_x, ln, List.append_nil, List.length_cons, List.length_nil, Nat.zero_add, if_true, e2, List.set_cons_succ, List.set_cons_zero, d_lt, z5, decide_true, y_E, x_M, iL2, ix1 ds i ds[i] ati, ins, y_ret, end_rt]
        rw [l2]
      · obtain ⟨q, w, q0, q1, e3, H3⟩ := drawTop take_run (nf := nfT TT) (t := [.lst ds]) H2 (many := (ds.length : Nat)) (by omega) (by omega)
        obtain ⟨p, rfl⟩ := Int.eq_ofNat_of_zero_le q0
        have hp : p < ds.length := by omega
        obtain ⟨M3, hM3⟩ : ∃ M3, M2.set 1 w = M3 := ⟨_, rfl⟩
        have l3 : M3.length = M1.length := by rw [← hM3, set_len, l2]
        rw [hM3] at e3 H3
        have tc : ∀ ds : List D, (M3 ++ [Cell.lst ds])[M1.length]? = some (.lst ds) := fun ds => by rw [← l3]; exact top_at
        have ts3 : ∀ a b : List D, (M3 ++ [Cell.lst a]).set M1.length (.lst b) = M3 ++ [.lst b] := fun a b => by rw [← l3]; exact top_set
        have st3 : ∀ (a : List D) (p : Nat) (v : D), p < a.length → stL (.ref M1.length) (.int (p : Nat)) v (M3 ++ [.lst a]) = some (M3 ++ [.lst (a.set p v)]) := fun a p v hp => by
          rw [st_R (tc a) (ixN_nat hp), ts3]
        have ix3 : ∀ (a : List D) (p : Nat) (v : D), a[p]? = some v → dIx (.ref M1.length) (.int (p : Nat)) (M3 ++ [.lst a]) = .ok v (M3 ++ [.lst a]) := fun a p v hp => d_ixR (tc a) (by rw [L3.atI_nat]; exact hp)
        have atp : ds[p]? = some ds[p] := List.getElem?_eq_getElem hp
        have ln2 : dLen (.ref M1.length) (M2 ++ [.lst ds]) = .ok (.int (ds.length : Nat)) (M2 ++ [.lst ds]) := d_lenR (tb ds)
        refine fin_ M3 ((ds.set i ds[p]).set p ds[i]) H3 (by rw [l3, l1]) (by simp; omega) (set_it (set_it hd (hd _ (List.getElem_mem hp)) i) (hd _ (List.getElem_mem hi)) p) ?_
        rw [run0]
        simp -implicitDefEqProofs only [y_seq, y_if, x_bE, x_2, x_var, x_c, List.getElem?_cons_succ, List.getElem?_cons_zero, Res.bind_ok, d_eqI, z, decide_false, Bool.false_eq_true, if_false, Res.out_ok, y_next, seq_nx, cond, y_set, x_trim, x_call, x_cons, x_A, x_nil, a1_x, ln, List.append_nil, List.length_cons, List.length_nil, Nat.zero_add, if_true, e2, List.set_cons_succ, List.set_cons_zero, d_lt, z5, z6, ln2, e3, ix3 ds i ds[i] ati, ix3 ds p ds[p] atp, y_asg, y_sub, st3 ds i ds[p] hi, st3 (ds.set i ds[p]) p ds[i] (by simpa using hp), Out.only_nx, y_ret, end_rt]
        rw [l3]
end K03

set_option Elab.async false
set_option linter.all false
set_option maxRecDepth 100000
set_option maxHeartbeats 4000000
namespace K03
open PySem PySem.Spec PyProof.Rows L2 L3

def Gr (d : D) : Prop := d = .non ∨ ∃ i : Int, d = .int i ∧ 0 ≤ i ∧ i ≤ 10
theorem small_it {i : Int} (h0 : -1000 ≤ i) (h1 : i ≤ 10000000000) : It (.int i) := .int _ (Nat.lt_of_le_of_lt (show i.natAbs ≤ 10000000000 by omega) (by decide))
theorem Gr.it {d : D} (h : Gr d) : It d := by
  rcases h with rfl | ⟨i, rfl, h0, h1⟩
  · exact .non
  · exact small_it (by omega) (by omega)
theorem rgf_mem : ∀ {ns : List Int} {f : Int}, rgf f ns → ∀ i ∈ ns, 0 ≤ i ∧ i ≤ f + ns.length
  | [], _, _, i, h => absurd h List.not_mem_nil
  | g :: r, f, ⟨a, b, c⟩, i, h => by
    have e : nxI f g ≤ f + 1 := by unfold nxI; split <;> omega
    rcases List.mem_cons.mp h with rfl | h
    · exact ⟨a, by simp; omega⟩
    · have := rgf_mem c i h
      simp
      omega
theorem rgf_gr {ns : List Int} (h : rgf 0 ns) (hl : ns.length ≤ 6) : ∀ d ∈ ns.map D.int, Gr d := fun d hd => by
  obtain ⟨i, hi, rfl⟩ := List.mem_map.mp hd
  have := rgf_mem h i hi
  exact .inr ⟨i, rfl, by omega, by omega⟩
theorem gr_ints : ∀ {ds : List D}, (∀ d ∈ ds, Gr d) → ∃ ns : List Int, ds.filter (fun d => !L3.isNon d) = ns.map D.int ∧ (∀ i ∈ ns, 0 ≤ i ∧ i ≤ 10) ∧ ns.length ≤ ds.length
  | [], _ => ⟨[], rfl, by simp, Nat.le_refl _⟩
  | d :: r, h => by
    obtain ⟨ns, e, b, l⟩ := gr_ints fun x hx => h x (List.mem_cons_of_mem _ hx)
    rcases h d List.mem_cons_self with rfl | ⟨i, rfl, h0, h1⟩
    · exact ⟨ns, by simp [e], b, by simp; omega⟩
    · exact ⟨i :: ns, by simp [e], by simpa using ⟨⟨h0, h1⟩, b⟩, by simp; omega⟩

theorem gap_loop {a0 a2 a3 a4 a5 a6 a7 a8 a9 a10 a11 a12 a13 a14 : Option D} : ∀ (ds acc : List D) (a15 : Option D) (M : Mem), HandL M 1 0 → (∀ d ∈ ds, Gr d) → (∀ d ∈ acc, Gr d) → acc.length + 2 * ds.length ≤ 100 →
    ∃ acc' y15 M', svLoop [] (gvName 15) b_law_5 ds [a0, some (.ref 1), a2, a3, a4, a5, a6, a7, a8, a9, a10, a11, a12, a13, a14, a15, some (.ref M.length)] (M ++ [.lst acc]) = .nx [a0, some (.ref 1), a2, a3, a4, a5, a6, a7, a8, a9, a10, a11, a12, a13, a14, y15, some (.ref M.length)] (M' ++ [.lst acc']) ∧ HandL M' 1 0 ∧ M'.length = M.length ∧ (∀ d ∈ acc', Gr d) ∧ acc'.length ≤ acc.length + 2 * ds.length
  | [], acc, a15, M, H, _, ha, _ => ⟨acc, a15, M, loop_nil, H, rfl, ha, by simp⟩
  | d :: r, acc, a15, M, H, hd, ha, hl => by
    simp only [List.length_cons] at hl
    obtain ⟨k, x, k0, k1, e, H1⟩ := drawTop take_run (nf := nfT TT) (t := [.lst acc]) H (many := 4) (by decide) (by decide)
    obtain ⟨M1, hM1⟩ : ∃ M1, M.set 1 x = M1 := ⟨_, rfl⟩
    have l1 : M1.length = M.length := by rw [← hM1, set_len]
    rw [hM1] at e H1
    have tb : ∀ ds : List D, (M1 ++ [Cell.lst ds])[M.length]? = some (.lst ds) := fun ds => by rw [← l1]; exact top_at
    have ts : ∀ a b : List D, (M1 ++ [Cell.lst a]).set M.length (.lst b) = M1 ++ [.lst b] := fun a b => by rw [← l1]; exact top_set
    have iL : ∀ ds : List D, isL (M1 ++ [Cell.lst ds]) (.ref M.length) = true := fun ds => isL_ref (tb ds)
    have ap : ∀ (a : List D) (y : D), a.length ≤ 1000 → dAppend (.ref M.length) [y] (M1 ++ [.lst a]) = .ok .non (M1 ++ [.lst (a ++ [y])]) := fun a y h => by rw [append_R (tb a) h, ts]
    obtain ⟨xs, e1, gx, lx⟩ : ∃ xs, c_law_4 [a0, some (.ref 1), a2, a3, a4, a5, a6, a7, a8, a9, a10, a11, a12, a13, a14, some d, some (.ref M.length)] (M ++ [.lst acc]) = .nx [a0, some (.ref 1), a2, a3, a4, a5, a6, a7, a8, a9, a10, a11, a12, a13, a14, some d, some (.ref M.length)] (M1 ++ [.lst xs]) ∧ (∀ d ∈ xs, Gr d) ∧ xs.length ≤ acc.length + 1 := by
      by_cases z : k = 0
      · refine ⟨acc ++ [.non], ?_, ?_, by simp⟩
        · unfold c_law_4
          simp -implicitDefEqProofs only [y_if, x_bE, x_2, x_trim, x_call, x_cons, x_var, x_c, x_nil, List.getElem?_cons_succ, List.getElem?_cons_zero, Res.bind_ok, List.append_nil, List.length_cons, List.length_nil, Nat.zero_add, if_true, e, d_eqI, z, decide_true, Res.out_ok, y_E, x_M, iL, ap acc .non (by omega)]
        · intro q hq
          rcases List.mem_append.mp hq with hq | hq
          · exact ha q hq
          · rw [List.mem_singleton.mp hq]; exact .inl rfl
      · refine ⟨acc, ?_, ha, by omega⟩
        unfold c_law_4
        simp -implicitDefEqProofs only [y_if, x_bE, x_2, x_trim, x_call, x_cons, x_var, x_c, x_nil, List.getElem?_cons_succ, List.getElem?_cons_zero, Res.bind_ok, List.append_nil, List.length_cons, List.length_nil, Nat.zero_add, if_true, e, d_eqI, z, decide_false, Bool.false_eq_true, if_false, Res.out_ok, y_next]
    obtain ⟨acc', y15, M', ih, H2, l2, ga, la⟩ := gap_loop (a0 := a0) (a2 := a2) (a3 := a3) (a4 := a4) (a5 := a5) (a6 := a6) (a7 := a7) (a8 := a8) (a9 := a9) (a10 := a10) (a11 := a11) (a12 := a12) (a13 := a13) (a14 := a14) r (xs ++ [d]) (some d) M1 H1 (fun q hq => hd q (List.mem_cons_of_mem _ hq)) (fun q hq => by
      rcases List.mem_append.mp hq with hq | hq
      · exact gx q hq
      · rw [List.mem_singleton.mp hq]; exact hd d List.mem_cons_self) (by simp; omega)
    refine ⟨acc', y15, M', ?_, H2, by rw [l2, l1], ga, by simp at la ⊢; omega⟩
    rw [l1] at ih
    have t : b_law_5 [a0, some (.ref 1), a2, a3, a4, a5, a6, a7, a8, a9, a10, a11, a12, a13, a14, some d, some (.ref M.length)] (M ++ [.lst acc]) = .nx [a0, some (.ref 1), a2, a3, a4, a5, a6, a7, a8, a9, a10, a11, a12, a13, a14, some d, some (.ref M.length)] (M1 ++ [.lst (xs ++ [d])]) := by
      unfold b_law_5
      rw [y_seq, e1, seq_nx]
      simp -implicitDefEqProofs only [y_E, x_M, x_var, x_cons, x_nil, List.getElem?_cons_succ, List.getElem?_cons_zero, Res.bind_ok, iL, if_true, ap xs d (by omega), Res.out_ok]
    rw [loop_cons]
    simp -implicitDefEqProofs only [nxt_nx, List.set_cons_succ, List.set_cons_zero, t, ih]

/-! the odd one -/
def oddD (m k : Int) : D := (atI [D.int m, .int (-1), .bl true, .non, .str (PySem.Str.ofString "0"), .tup [.int 0], .int 6] k).getD .non
theorem odd_it {m k : Int} (m0 : 0 ≤ m) (m1 : m ≤ 100) (h0 : 0 ≤ k) (h1 : k < 7) : It (oddD m k) := by
  have kk : k = 0 ∨ k = 1 ∨ k = 2 ∨ k = 3 ∨ k = 4 ∨ k = 5 ∨ k = 6 := by omega
  rcases kk with rfl | rfl | rfl | rfl | rfl | rfl | rfl
  · exact small_it (by omega) (by omega)
  · exact small_it (i := -1) (by decide) (by decide)
  · exact .bl true
  · exact .non
  · exact .str _ (by decide +kernel) (by decide +kernel) (by decide +kernel)
  · exact .tup 0 (by decide)
  · exact small_it (i := 6) (by decide) (by decide)
theorem max_bound : ∀ (ns : List Int), (∀ i ∈ ns, 0 ≤ i ∧ i ≤ 10) → 0 ≤ maxI (0 :: ns) ∧ maxI (0 :: ns) ≤ 10 := fun ns h => by
  obtain ⟨h1, h2⟩ := maxI_ok (ns := 0 :: ns) (by simp)
  refine ⟨h2 0 List.mem_cons_self, ?_⟩
  rcases List.mem_cons.mp h1 with q | q
  · omega
  · exact (h _ q).2
theorem odd_run {a0 a2 a3 a4 a5 a6 a7 a8 a10 a11 a12 a13 a14 a15 a16 : Option D} {ds : List D} (hd : ∀ d ∈ ds, Gr d) (hl : ds.length ≤ 50) {M : Mem} (H : HandL M 1 0) : ∃ v M', c_law_9 [a0, some (.ref 1), a2, a3, a4, a5, a6, a7, a8, some (.lst ds), a10, a11, a12, a13, a14, a15, a16] M = .nx [a0, some (.ref 1), a2, a3, a4, a5, a6, a7, a8, some (.lst ds), some v, a11, a12, a13, a14, a15, a16] M' ∧ HandL M' 1 0 ∧ It v := by
  obtain ⟨k, x, k0, k1, e, H1⟩ := drawH take_run (nf := nfT TT) H (many := 7) (by decide) (by decide)
  obtain ⟨ns, hf, hb, ln⟩ := gr_ints hd
  obtain ⟨b0, b1⟩ := max_bound ns hb
  have lc : trimR (nfT TT) M (evLc (ivSeq (evVar 9)) [15] (cgName 15) (bvE (ev2 dNotN (evVar 15) (evC .non))) (evVar 15) [a0, some (.ref 1), a2, a3, a4, a5, a6, a7, a8, some (.lst ds), a10, a11, a12, a13, a14, a15, a16] M) = .ok (.lst (ns.map D.int)) M := by
    have := lcC (nf := nfT TT) (iv := ivSeq (evVar 9)) (vs := [15]) (g := cgName 15) (tt := bvE (ev2 dNotN (evVar 15) (evC .non))) (te := evVar 15) (σ := [a0, some (.ref 1), a2, a3, a4, a5, a6, a7, a8, some (.lst ds), a10, a11, a12, a13, a14, a15, a16]) (M := M) (p := fun d => !L3.isNon d) (f := id) (items := ds) (by simp) (by omega) (fun d _ M' => ⟨_, rfl, by simp [wipe3], fun _ => by simp [wipe3]⟩) (fun d hd2 hp => (hd d hd2).it.clo)
    rw [this, hf]
    simp
  have mr : g__law_many [.lst ([D.int 0] ++ ns.map D.int)] M = .ok (.int (manyI (0 :: ns))) M := many_run (t := false) (ns := 0 :: ns)
  have ix : ∀ M, dIx (.lst [D.int (manyI (0 :: ns) + 1), .int (-1), .bl true, .non, .str (PySem.Str.ofString "0"), .tup [.int 0], .int 6]) (.int k) M = .ok (oddD (manyI (0 :: ns) + 1) k) M := fun M => by
    have kk : k = 0 ∨ k = 1 ∨ k = 2 ∨ k = 3 ∨ k = 4 ∨ k = 5 ∨ k = 6 := by omega
    rcases kk with rfl | rfl | rfl | rfl | rfl | rfl | rfl <;> rfl
  have mb : manyI (0 :: ns) = maxI (0 :: ns) + 1 := rfl
  refine ⟨oddD (manyI (0 :: ns) + 1) k, M.set 1 x, ?_, H1, odd_it (by omega) (by omega) k0 k1⟩
  unfold c_law_9
  simp -implicitDefEqProofs only [y_set, x_2, x_1, x_A, x_cons, x_trim, x_call, x_c, x_nil, x_var, List.getElem?_cons_succ, List.getElem?_cons_zero, Res.bind_ok, mkLst_at (xs := [D.int 0]) (by simp), lc, d_addL (x := [D.int 0]) (y := ns.map D.int) (by simp; omega), List.append_nil, List.length_cons, List.length_nil, Nat.zero_add, if_true, mr, trim_same low_int, d_add, d_neg, mkTup_at (xs := [D.int 0]) (by simp), mkLst_at (xs := [_, _, _, _, _, _, _]) (by simp), e, ix, Res.out_ok, List.set_cons_succ, List.set_cons_zero]
theorem some_run {a0 a2 a3 a4 a5 a6 a7 a8 a11 a12 a13 a14 a15 a16 : Option D} {ds : List D} {odd : D} (hd : ∀ d ∈ ds, Gr d) (hl : ds.length ≤ 12) (ho : It odd) {M : Mem} (H : HandL M 1 0) : ∃ s M', c_law_10 [a0, some (.ref 1), a2, a3, a4, a5, a6, a7, a8, some (.lst ds), some odd, a11, a12, a13, a14, a15, a16] M = .nx [a0, some (.ref 1), a2, a3, a4, a5, a6, a7, a8, some (.lst ds), some odd, some s, a12, a13, a14, a15, a16] M' ∧ HandL M' 1 0 ∧ So s := by
  obtain ⟨k, x, k0, k1, e, H1⟩ := drawH take_run (nf := nfT TT) H (many := 2) (by decide) (by decide)
  have hi : ∀ d ∈ ds, It d := fun d h => (hd d h).it
  by_cases z : k = 0
  · obtain ⟨s, M', e2, H2, so⟩ := row_run (by omega) hi H1
    refine ⟨s, M', ?_, H2, so⟩
    subst z
    unfold c_law_10
    simp -implicitDefEqProofs [e, truD, e2]
  · obtain ⟨s, M', e2, H2, so⟩ := spoil_run hl hi ho H1
    refine ⟨s, M', ?_, H2, so⟩
    unfold c_law_10
    simp -implicitDefEqProofs [e, truD, z, e2]
/-! the checks -/
theorem chk_lt {gaps : Bool} : ∀ {ds : List D} {k : Nat} {f : Int} {i : Nat}, chk gaps k f ds = some i → i < k + ds.length
  | [], _, _, _, h => by cases h
  | d :: r, k, f, i, h => by
    unfold chk at h
    simp only [List.length_cons]
    by_cases z : L3.isNon d = true ∧ gaps = true
    · rw [if_pos z] at h
      have := chk_lt h
      omega
    · rw [if_neg z] at h
      by_cases w : whole d 0 f = true
      · rw [if_pos w] at h
        have := chk_lt h
        omega
      · rw [if_neg w] at h; cases h; omega
theorem chkR_b {gaps : Bool} {n : Nat} {ds : List D} {i : Int} (h : chkR gaps (n : Nat) ds = some i) (hl : ds.length ≤ 50) : 0 ≤ i ∧ i ≤ 1000 := by
  unfold chkR at h
  cases q : chk gaps 0 0 ds with
  | some j =>
    rw [q] at h; cases h
    have := chk_lt q
    omega
  | none =>
    rw [q] at h
    by_cases z : (ds.length : Int) = (n : Nat)
    · rw [if_pos z] at h; cases h
    · rw [if_neg z] at h; cases h
      split <;> omega
theorem sq_clo {t : Bool} {ds : List D} (h : ∀ d ∈ ds, It d) : Clo (sq t ds) := by
  cases t
  · exact clo_lst fun d q => (h d q).clo
  · exact clo_tup fun d q => (h d q).clo
theorem sq_sd {t : Bool} {ds : List D} (h : ∀ d ∈ ds, It d) (hl : ds.length ≤ 50) : Sd 8 20000 (sq t ds) := by
  have hh : ∀ d ∈ ds, Sd 7 220 d := fun d q => (h d q).sd 6
  cases t
  · exact (sd_lst hh).mono (by omega)
  · exact (sd_tup hh).mono (by omega)
theorem due_clo {gaps : Bool} {n : Int} {ds : List D} (h : ∀ d ∈ ds, It d) : Clo (dueD gaps n ds) := by
  unfold dueD
  cases chkR gaps n ds with
  | some i => exact clo_lst (by simp [clo_int])
  | none => exact sq_clo (t := true) h
theorem int_sd {n : Nat} {i : Int} (h0 : -1000 ≤ i) (h1 : i ≤ 10000000000) : Sd n 210 (.int i) := sd_int (b := 200) (Nat.lt_of_le_of_lt (show i.natAbs ≤ 10000000000 by omega) (by decide))
theorem due_sd {gaps : Bool} {n : Nat} {ds : List D} (h : ∀ d ∈ ds, It d) (hl : ds.length ≤ 50) : Sd 8 20000 (dueD gaps (n : Nat) ds) := by
  unfold dueD
  cases q : chkR gaps (n : Nat) ds with
  | some i =>
    have := chkR_b q hl
    exact (sd_lst (n := 7) (k := 210) (ds := [.int i]) (by simpa using int_sd (by omega) (by omega))).mono (by simp)
  | none => exact sq_sd (t := true) h hl
theorem so_repr {s : D} (h : So s) : ∃ x, ∀ M, dReprX s M = .ok (.str x) M := by
  rcases h with ⟨t, ds, rfl, hi, hl⟩ | h
  · exact reprX_sd (sq_sd hi (by omega)) (by decide)
  · exact h.2.2.2
theorem pair_run {s g : D} {n : Nat} (h : So s) (hg : Gp g) : ∃ d x, (∀ M, trimR (nfT TT) M (g__law_checked [.int (n : Nat), s, g] M) = .ok d M) ∧ (∀ M, trimR (nfT TT) M (g__law_checked_due [.int (n : Nat), s, .bl (gapsOf g)] M) = .ok d M) ∧ ∀ M, dReprX d M = .ok (.str x) M := by
  rcases h with ⟨t, ds, rfl, hi, hl⟩ | ⟨o1, o2, _, _⟩
  · obtain ⟨x, hx⟩ := reprX_sd (due_sd (gaps := gapsOf g) (n := n) hi (by omega)) (by decide)
    refine ⟨_, x, fun M => ?_, fun M => ?_, hx⟩
    · rw [checked_run hg hi (by omega)]; exact trim_clo0 (due_clo hi)
    · rw [due_run hi (by omega)]; exact trim_clo0 (due_clo hi)
  · obtain ⟨x, hx⟩ := reprX_sd (d := .lst [.int 0]) ((sd_lst (n := 7) (k := 210) (ds := [.int 0]) (by simpa using int_sd (i := 0) (by decide) (by decide))).mono (j := 20000) (by simp)) (by decide)
    refine ⟨_, x, fun M => ?_, fun M => ?_, hx⟩
    · rw [checked_off hg (o1 M)]; exact trim_clo0 (clo_lst (by simp [clo_int]))
    · rw [due_off (o2 M)]; exact trim_clo0 (clo_lst (by simp [clo_int]))
theorem gaps_turn {a0 a1 a3 a4 a5 a6 a7 a8 a9 a10 a14 a15 a16 : Option D} {s g : D} {x : Str} {n : Nat} {M : Mem} (h : So s) (hx : ∀ M, dReprX s M = .ok (.str x) M) (hg : Gp g) : b_law_6 [a0, a1, some (.int (n : Nat)), a3, a4, a5, a6, a7, a8, a9, a10, some s, some (.str x), some g, a14, a15, a16] M = .nx [a0, a1, some (.int (n : Nat)), a3, a4, a5, a6, a7, a8, a9, a10, some s, some (.str x), some g, a14, a15, a16] M := by
  obtain ⟨d, y, h1, h2, h3⟩ := pair_run (n := n) h hg
  have ib : dIsB false g (.bl true) M = .ok (.bl (gapsOf g)) M := by
    cases hg with
    | non => rfl
    | bl b => cases b <;> rfl
  unfold b_law_6 c_law_5
  simp -implicitDefEqProofs only [y_if, x_bOr, x_bE, x_2, x_A, x_cons, x_trim, x_call, x_var, x_c, x_nil, List.getElem?_cons_succ, List.getElem?_cons_zero, Res.bind_ok, List.append_nil, List.length_cons, List.length_nil, Nat.zero_add, if_true, h1, a1_x, h3, ib, h2, d_neStr, Bool.false_eq_true, if_false, hx, Res.out_ok, y_next]
theorem gaps_run {a0 a1 a3 a4 a5 a6 a7 a8 a9 a10 a14 a15 a16 : Option D} {a13 : Option D} {s : D} {x : Str} {n : Nat} {M : Mem} (h : So s) (hx : ∀ M, dReprX s M = .ok (.str x) M) : c_law_11 [a0, a1, some (.int (n : Nat)), a3, a4, a5, a6, a7, a8, a9, a10, some s, some (.str x), a13, a14, a15, a16] M = .nx [a0, a1, some (.int (n : Nat)), a3, a4, a5, a6, a7, a8, a9, a10, some s, some (.str x), some (.bl true), a14, a15, a16] M := by
  unfold c_law_11
  simp -implicitDefEqProofs only [y_for, i_S, x_A, x_cons, x_c, x_nil, Res.bind_ok, mkLst_at (xs := [D.non, .bl false, .bl true]) (by simp), srcL, Res.out_ok, loop_cons, loop_nil, List.set_cons_succ, List.set_cons_zero, gaps_turn h hx .non, gaps_turn h hx (.bl false), gaps_turn h hx (.bl true), nxt_nx]
/-! the book -/
theorem chkR_none {n : Nat} {ds : List D} (h : chkR true (n : Nat) ds = none) : chk true 0 0 ds = none ∧ ds.length = n := by
  unfold chkR at h
  cases q : chk true 0 0 ds with
  | some j => rw [q] at h; cases h
  | none =>
    rw [q] at h
    by_cases z : (ds.length : Int) = (n : Nat)
    · exact ⟨rfl, by omega⟩
    · rw [if_neg z] at h; cases h
theorem colD_sd {ds : List D} {g : Int} (hl : ds.length ≤ 50) : Sd 7 22000 (colD ds g) := by
  have hm : ∀ d ∈ ds.map (markD g), Sd 5 210 d := fun d hd => by
    obtain ⟨e, _, rfl⟩ := List.mem_map.mp hd
    cases e with
    | int i =>
      show Sd 5 210 (.int (if i = g then 1 else 0))
      split
      · exact int_sd (i := 1) (by decide) (by decide)
      · exact int_sd (i := 0) (by decide) (by decide)
    | _ => exact int_sd (i := 0) (by decide) (by decide)
  have h1 : Sd 6 10700 (.tup (ds.map (markD g))) := (sd_tup hm).mono (by simp; omega)
  have h2 : Sd 6 10700 (.str (PySem.Str.ofString "column")) := (sd_str (by decide +kernel) (by decide +kernel) (by decide +kernel)).mono (by decide)
  refine (sd_tup (n := 6) (k := 10700) (ds := [.str (PySem.Str.ofString "column"), .tup (ds.map (markD g))]) fun d hd => ?_).mono (by simp)
  rcases List.mem_cons.mp hd with rfl | hd
  · exact h2
  · rw [List.mem_singleton.mp hd]; exact h1
theorem cols_sd {ds : List D} {m : Nat} (hl : ds.length ≤ 20) (hm : m ≤ 20) : Sd 8 500000 (.tup ((upD 0 m).map (col ds))) := by
  refine (sd_tup (n := 7) (k := 22000) fun d hd => ?_).mono (by rw [List.length_map, upD_len]; omega)
  obtain ⟨e, he, rfl⟩ := List.mem_map.mp hd
  obtain ⟨g, rfl⟩ := mem_up he
  exact colD_sd (by omega)
theorem due_turn {a0 a1 a3 a4 a5 a6 a7 a8 a9 a10 a12 a13 a15 a16 : Option D} {a14 : Option D} {s : D} {n : Nat} {M : Mem} (hn : n ≤ 6) (h : So s) : ∃ v, svSeq c_law_12 c_law_13 [a0, a1, some (.int (n : Nat)), a3, a4, a5, a6, a7, a8, a9, a10, some s, a12, a13, a14, a15, a16] M = .nx [a0, a1, some (.int (n : Nat)), a3, a4, a5, a6, a7, a8, a9, a10, some s, a12, a13, some v, a15, a16] M := by
  rcases h with ⟨t, ds, rfl, hi, hl⟩ | ⟨o1, o2, _, _⟩
  · have du : ∀ M, trimR (nfT TT) M (g__law_checked_due [.int (n : Nat), sq t ds, .bl true] M) = .ok (dueD true (n : Nat) ds) M := fun M => by
      rw [due_run hi (by omega)]; exact trim_clo0 (due_clo hi)
    refine ⟨dueD true (n : Nat) ds, ?_⟩
    have e1 : c_law_12 [a0, a1, some (.int (n : Nat)), a3, a4, a5, a6, a7, a8, a9, a10, some (sq t ds), a12, a13, a14, a15, a16] M = .nx [a0, a1, some (.int (n : Nat)), a3, a4, a5, a6, a7, a8, a9, a10, some (sq t ds), a12, a13, some (dueD true (n : Nat) ds), a15, a16] M := by
      unfold c_law_12
      simp -implicitDefEqProofs only [y_set, x_trim, x_call, x_cons, x_var, x_c, x_nil, List.getElem?_cons_succ, List.getElem?_cons_zero, Res.bind_ok, List.append_nil, List.length_cons, List.length_nil, Nat.zero_add, if_true, du, Res.out_ok, List.set_cons_succ, List.set_cons_zero]
    rw [y_seq, e1, seq_nx]
    unfold c_law_13
    cases q : chkR true (n : Nat) ds with
    | some i =>
      have dd : dueD true (n : Nat) ds = .lst [.int i] := by unfold dueD; rw [q]
      have ty : dIsi (.lst [.int i]) (.ty .tuple) M = .ok (.bl false) M := rfl
      rw [dd]
      simp -implicitDefEqProofs only [y_if, x_bT, x_A, x_cons, x_var, x_c, x_nil, List.getElem?_cons_succ, List.getElem?_cons_zero, Res.bind_ok, a2_x, ty, truD, Bool.false_eq_true, if_false, Res.out_ok, y_next]
    | none =>
      have dd : dueD true (n : Nat) ds = .tup ds := by unfold dueD; rw [q]
      obtain ⟨c0, cn⟩ := chkR_none q
      obtain ⟨ns, hf, rg, ln, hb⟩ := chk_valid ds 0 0 c0
      have fb := fin_len rg
      have f0 := fin_le (ns := ns) (f := 0)
      obtain ⟨m, hm⟩ := Int.eq_ofNat_of_zero_le f0
      have bk := book_run (t := t) (M := M) hb hf (by omega) (by omega) rg (by omega)
      have bd : ∀ M, g__law_book_due [.tup ds] M = .ok (.tup ((upD 0 m).map (col ds))) M := fun M => by
        rw [bdue_run hb hf (by omega) rg (by omega), hm]; rfl
      have gm : g_groups_many [sq t ds] M = .ok (.int (m : Nat)) M := by rw [groups_run hf (by omega) (by omega) rg, hm]
      rw [hm] at bk
      have bk : trimR (nfT TT) M (g_book_of [sq t ds] M) = .ok (.tup ((upD 0 m).map (col ds))) M := bk
      have cc : Clo (.tup ((upD 0 m).map (col ds))) := clo_tup fun d hd => by
        obtain ⟨e, he, rfl⟩ := List.mem_map.mp hd
        obtain ⟨g, rfl⟩ := mem_up he
        exact colD_clo
      obtain ⟨x, hx⟩ := reprX_sd (cols_sd (ds := ds) (m := m) hl (by omega)) (by decide)
      obtain ⟨y, hy⟩ := reprX_sd (d := .int (m : Nat)) (int_sd (n := 8) (by omega) (by omega)) (by decide)
      have ty : dIsi (.tup ds) (.ty .tuple) M = .ok (.bl true) M := rfl
      have ll : dLen (.tup ((upD 0 m).map (col ds))) M = .ok (.int (m : Nat)) M := by rw [d_lenT, List.length_map, upD_len]
      rw [dd]
      unfold c_law_6
      simp -implicitDefEqProofs only [y_if, x_bT, x_bOr, x_bE, x_2, x_A, x_cons, x_trim, x_call, x_var, x_c, x_nil, List.getElem?_cons_succ, List.getElem?_cons_zero, Res.bind_ok, a1_x, a2_x, ty, truD, if_true, List.append_nil, List.length_cons, List.length_nil, Nat.zero_add, bk, bd, trim_clo0 cc, hx, d_neStr, Bool.false_eq_true, if_false, gm, trim_same low_int, hy, ll, Res.out_ok, y_next]
  · have du : ∀ M, trimR (nfT TT) M (g__law_checked_due [.int (n : Nat), s, .bl true] M) = .ok (.lst [.int 0]) M := fun M => by
      rw [due_off (o2 M)]; exact trim_clo0 (clo_lst (by simp [clo_int]))
    have ty : dIsi (.lst [.int 0]) (.ty .tuple) M = .ok (.bl false) M := rfl
    refine ⟨.lst [.int 0], ?_⟩
    unfold c_law_12 c_law_13
    simp -implicitDefEqProofs only [y_seq, y_set, x_trim, x_call, x_cons, x_var, x_c, x_nil, List.getElem?_cons_succ, List.getElem?_cons_zero, Res.bind_ok, List.append_nil, List.length_cons, List.length_nil, Nat.zero_add, if_true, du, Res.out_ok, List.set_cons_succ, List.set_cons_zero, seq_nx, y_if, x_bT, x_A, a2_x, ty, truD, Bool.false_eq_true, if_false, y_next]
/-! a turn -/
theorem gap_run {a0 a3 a4 a5 a6 a7 a8 a10 a11 a12 a13 a14 a15 a16 : Option D} {n : Nat} (hn : n ≤ 6) {ns : List Int} (rg : rgf 0 ns) (ln : ns.length = n) {M : Mem} (H : HandL M 1 0) :
    ∃ ds y15 y16 M', c_law_8 [a0, some (.ref 1), some (.int (n : Nat)), a3, a4, a5, a6, a7, a8, some (.lst (ns.map D.int)), a10, a11, a12, a13, a14, a15, a16] M = .nx [a0, some (.ref 1), some (.int (n : Nat)), a3, a4, a5, a6, a7, a8, some (.lst ds), a10, a11, a12, a13, a14, y15, y16] M' ∧ HandL M' 1 0 ∧ (∀ d ∈ ds, Gr d) ∧ ds.length ≤ 6 := by
  obtain ⟨k, x, k0, k1, e, H1⟩ := drawH take_run (nf := nfT TT) H (many := 2) (by decide) (by decide)
  have g0 := rgf_gr rg (by omega)
  by_cases z : k = 0
  · subst z
    refine ⟨ns.map D.int, a15, a16, M.set 1 x, ?_, H1, g0, by simp; omega⟩
    unfold c_law_8
    simp -implicitDefEqProofs [e, truD]
  · obtain ⟨acc', y15, M', e2, H2, l2, ga, la⟩ := gap_loop (a0 := a0) (a2 := some (.int (n : Nat))) (a3 := a3) (a4 := a4) (a5 := a5) (a6 := a6) (a7 := a7) (a8 := a8) (a10 := a10) (a11 := a11) (a12 := a12) (a13 := a13) (a14 := a14) (a9 := some (.lst (ns.map D.int))) (ns.map D.int) [] a15 (M.set 1 x) H1 g0 (by simp) (by simp; omega)
    refine ⟨acc'.take n, y15, some (.ref (M.set 1 x).length), M' ++ [.lst acc'], ?_, H2.one fun d hd => (ga d hd).it.clo, fun d hd => ga d (List.mem_of_mem_take hd), by rw [List.length_take]; omega⟩
    have sl : dSl false (.ref (M.set 1 x).length) none (some ((n : Nat) : Int)) (M' ++ [.lst acc']) = .ok (.lst (acc'.take n)) (M' ++ [.lst acc']) := sl_take (by rw [← l2]; exact top_at) (by simp at la; omega)
    unfold c_law_8
    simp -implicitDefEqProofs only [y_if, x_bT, x_trim, x_call, x_cons, x_var, x_c, x_nil, List.getElem?_cons_succ, List.getElem?_cons_zero, Res.bind_ok, List.append_nil, List.length_cons, List.length_nil, Nat.zero_add, if_true, e, truD, Res.out_ok]
    rw [if_pos (by simpa using z)]
    simp -implicitDefEqProofs only [y_seq, y_set, x_A, x_nil, x_var, List.getElem?_cons_succ, List.getElem?_cons_zero, Res.bind_ok, mkCell_at (xs := []) (by simp), Res.out_ok, seq_nx, List.set_cons_succ, List.set_cons_zero, y_for, i_S, srcL, e2, x_sl, x_ovN, x_ovS, sl]
theorem turn_run {a0 a3 a4 a5 a6 a7 a8 a9 a10 a11 a12 a13 a14 a15 a16 : Option D} {n : Nat} (hn : n ≤ 6) {M : Mem} (H : HandL M 1 0) :
    ∃ y9 y10 y11 y12 y13 y14 y15 y16 M', b_law_7 [a0, some (.ref 1), some (.int (n : Nat)), a3, a4, a5, a6, a7, a8, a9, a10, a11, a12, a13, a14, a15, a16] M = .nx [a0, some (.ref 1), some (.int (n : Nat)), a3, a4, a5, a6, a7, a8, y9, y10, y11, y12, y13, y14, y15, y16] M' ∧ HandL M' 1 0 := by
  obtain ⟨ns, M1, e1, H1, rg, ln⟩ := grouping_run hn H
  have c7 : c_law_7 [a0, some (.ref 1), some (.int (n : Nat)), a3, a4, a5, a6, a7, a8, a9, a10, a11, a12, a13, a14, a15, a16] M = .nx [a0, some (.ref 1), some (.int (n : Nat)), a3, a4, a5, a6, a7, a8, some (.lst (ns.map D.int)), a10, a11, a12, a13, a14, a15, a16] M1 := by
    unfold c_law_7
    simp -implicitDefEqProofs only [y_set, x_trimW, x_call, x_cons, x_var, x_nil, List.getElem?_cons_succ, List.getElem?_cons_zero, Res.bind_ok, List.append_nil, List.length_cons, List.length_nil, Nat.zero_add, if_true, e1, Res.out_ok, List.set_cons_succ, List.set_cons_zero]
  obtain ⟨ds, y15, y16, M2, c8, H2, gd, ld⟩ := gap_run (a0 := a0) (a3 := a3) (a4 := a4) (a5 := a5) (a6 := a6) (a7 := a7) (a8 := a8) (a10 := a10) (a11 := a11) (a12 := a12) (a13 := a13) (a14 := a14) (a15 := a15) (a16 := a16) hn rg ln H1
  obtain ⟨v, M3, c9, H3, iv⟩ := odd_run (a0 := a0) (a2 := some (.int (n : Nat))) (a3 := a3) (a4 := a4) (a5 := a5) (a6 := a6) (a7 := a7) (a8 := a8) (a10 := a10) (a11 := a11) (a12 := a12) (a13 := a13) (a14 := a14) (a15 := y15) (a16 := y16) gd (by omega) H2
  obtain ⟨s, M4, c10, H4, so⟩ := some_run (a0 := a0) (a2 := some (.int (n : Nat))) (a3 := a3) (a4 := a4) (a5 := a5) (a6 := a6) (a7 := a7) (a8 := a8) (a11 := a11) (a12 := a12) (a13 := a13) (a14 := a14) (a15 := y15) (a16 := y16) gd (by omega) iv H3
  obtain ⟨x, hx⟩ := so_repr so
  obtain ⟨w, c12⟩ := due_turn (a0 := a0) (a1 := some (.ref 1)) (a3 := a3) (a4 := a4) (a5 := a5) (a6 := a6) (a7 := a7) (a8 := a8) (a9 := some (.lst ds)) (a10 := some v) (a12 := some (.str x)) (a13 := some (.bl true)) (a14 := a14) (a15 := y15) (a16 := y16) (M := M4) hn so
  refine ⟨some (.lst ds), some v, some s, some (.str x), some (.bl true), some w, y15, y16, M4, ?_, H4⟩
  have c11 : c_law_11 [a0, some (.ref 1), some (.int (n : Nat)), a3, a4, a5, a6, a7, a8, some (.lst ds), some v, some s, some (.str x), a13, a14, y15, y16] M4 = _ := gaps_run so hx
  unfold b_law_7
  rw [y_seq, c7, seq_nx, y_seq, c8, seq_nx, y_seq, c9, seq_nx, y_seq, c10, seq_nx, y_seq]
  have r12 : svSet 12 (evA (a1 dReprX) (avCons (evVar 11) avNil)) [a0, some (.ref 1), some (.int (n : Nat)), a3, a4, a5, a6, a7, a8, some (.lst ds), some v, some s, a12, a13, a14, y15, y16] M4 = .nx [a0, some (.ref 1), some (.int (n : Nat)), a3, a4, a5, a6, a7, a8, some (.lst ds), some v, some s, some (.str x), a13, a14, y15, y16] M4 := by
    simp -implicitDefEqProofs only [y_set, x_A, x_cons, x_var, x_nil, List.getElem?_cons_succ, List.getElem?_cons_zero, Res.bind_ok, a1_x, hx, Res.out_ok, List.set_cons_succ, List.set_cons_zero]
  rw [r12, seq_nx, y_seq, c11, seq_nx, c12]
end K03

set_option Elab.async false
set_option linter.all false
set_option maxRecDepth 100000
set_option maxHeartbeats 4000000
namespace K03
open PySem PySem.Spec PyProof.Rows L2 L3
theorem inner_rows {a0 a1 a2 a3 a4 a5 a6 a9 a10 a11 a12 a13 a14 a16 : Option D} {r : List Int} (hr : r.length ≤ 6) : ∀ (n k : Nat) (acc : List D) (a15 : Option D) (M : Mem), acc.length + n ≤ 900 →
    ∃ y15, svLoop [] (gvName 15) b_law_1 (upD k n) [a0, a1, a2, a3, a4, a5, a6, some (.ref M.length), some (rD r), a9, a10, a11, a12, a13, a14, a15, a16] (M ++ [.lst acc]) = .nx [a0, a1, a2, a3, a4, a5, a6, some (.ref M.length), some (rD r), a9, a10, a11, a12, a13, a14, y15, a16] (M ++ [.lst (acc ++ (upD k n).map (addD (rD r)))])
  | 0, k, acc, a15, M, _ => ⟨a15, by simp [upD, loop_nil]⟩
  | n + 1, k, acc, a15, M, h => by
    obtain ⟨y15, ih⟩ := inner_rows (a0 := a0) (a1 := a1) (a2 := a2) (a3 := a3) (a4 := a4) (a5 := a5) (a6 := a6) (a9 := a9) (a10 := a10) (a11 := a11) (a12 := a12) (a13 := a13) (a14 := a14) (a16 := a16) hr n (k + 1) (acc ++ [addD (rD r) (.int (k : Nat))]) (some (.int (k : Nat))) M (by simp; omega)
    refine ⟨y15, ?_⟩
    have ap : dAppend (.ref M.length) [addD (rD r) (.int (k : Nat))] (M ++ [.lst acc]) = .ok .non (M ++ [.lst (acc ++ [addD (rD r) (.int (k : Nat))])]) := by rw [append_R top_at (by omega), top_set]
    have ad : ∀ M, dAdd false (rD r) (.tup [.int (k : Nat)]) M = .ok (addD (rD r) (.int (k : Nat))) M := fun M => d_addT (by simp; omega)
    have t : b_law_1 [a0, a1, a2, a3, a4, a5, a6, some (.ref M.length), some (rD r), a9, a10, a11, a12, a13, a14, some (.int (k : Nat)), a16] (M ++ [.lst acc]) = .nx [a0, a1, a2, a3, a4, a5, a6, some (.ref M.length), some (rD r), a9, a10, a11, a12, a13, a14, some (.int (k : Nat)), a16] (M ++ [.lst (acc ++ [addD (rD r) (.int (k : Nat))])]) := by
      unfold b_law_1 c_law_1
      simp -implicitDefEqProofs only [y_E, x_M, x_var, x_cons, x_2, x_A, x_nil, List.getElem?_cons_succ, List.getElem?_cons_zero, Res.bind_ok, isL_ref top_at, if_true, mkTup_at (xs := [_]) (by simp), ad, ap, Res.out_ok]
    show svLoop [] (gvName 15) b_law_1 (.int (k : Nat) :: upD (k + 1) n) _ _ = _
    rw [loop_cons]
    simp -implicitDefEqProofs only [nxt_nx, List.set_cons_succ, List.set_cons_zero, t, ih]
    simp [upD]
theorem lmany_rD {r : List Int} (h : rgf 0 r) {M : Mem} : g__law_many [rD r] M = .ok (.int (fin 0 r)) M := by
  rw [show rD r = sq true (r.map D.int) from rfl, many_run, many_fin h]
theorem row_turn {a0 a1 a2 a3 a4 a5 a6 a9 a10 a11 a12 a13 a14 a16 : Option D} {a15 : Option D} {r : List Int} (hr : r.length ≤ 6) (rg : rgf 0 r) {acc : List D} {M : Mem} (hl : acc.length ≤ 800) : ∃ y15, b_law_2 [a0, a1, a2, a3, a4, a5, a6, some (.ref M.length), some (rD r), a9, a10, a11, a12, a13, a14, a15, a16] (M ++ [.lst acc]) = .nx [a0, a1, a2, a3, a4, a5, a6, some (.ref M.length), some (rD r), a9, a10, a11, a12, a13, a14, y15, a16] (M ++ [.lst (acc ++ (growR r).map rD)]) := by
  have f0 := fin_le (ns := r) (f := 0)
  have fb := fin_len rg
  obtain ⟨m, hm⟩ := Int.eq_ofNat_of_zero_le (show 0 ≤ fin 0 r + 1 by omega)
  obtain ⟨y15, e⟩ := inner_rows (a0 := a0) (a1 := a1) (a2 := a2) (a3 := a3) (a4 := a4) (a5 := a5) (a6 := a6) (a9 := a9) (a10 := a10) (a11 := a11) (a12 := a12) (a13 := a13) (a14 := a14) (a16 := a16) hr m 0 acc a15 M (by omega)
  refine ⟨y15, ?_⟩
  have rr : ivR1 (avCons (ev2 (dAdd false) (evTrim (nfT TT) (evCall g__law_many 1 [] (avCons (evVar 8) avNil))) (evC (.int 1))) avNil) [a0, a1, a2, a3, a4, a5, a6, some (.ref M.length), some (rD r), a9, a10, a11, a12, a13, a14, a15, a16] (M ++ [.lst acc]) = .ok ⟨upD 0 m, []⟩ (M ++ [.lst acc]) := ivR1_n (by simp [lmany_rD rg, trim_same low_int, hm]) (by omega)
  have gr : (upD 0 m).map (addD (rD r)) = (growR r).map rD := by
    rw [← grow_rD, nxt_rD, hm]; rfl
  unfold b_law_2 c_law_2
  simp -implicitDefEqProofs only [y_for, rr, Res.out_ok, e, gr]
theorem rows_for {a0 a1 a2 a3 a4 a5 a6 a9 a10 a11 a12 a13 a14 a16 : Option D} : ∀ (rows : List (List Int)) (acc : List D) (a8 a15 : Option D) (M : Mem), (∀ r ∈ rows, rgf 0 r ∧ r.length ≤ 6) → acc.length + (rows.flatMap growR).length ≤ 800 →
    ∃ y8 y15, svLoop [] (gvName 8) b_law_2 (rows.map rD) [a0, a1, a2, a3, a4, a5, a6, some (.ref M.length), a8, a9, a10, a11, a12, a13, a14, a15, a16] (M ++ [.lst acc]) = .nx [a0, a1, a2, a3, a4, a5, a6, some (.ref M.length), y8, a9, a10, a11, a12, a13, a14, y15, a16] (M ++ [.lst (acc ++ (rows.flatMap growR).map rD)])
  | [], acc, a8, a15, M, _, _ => ⟨a8, a15, by simp [loop_nil]⟩
  | r :: rows, acc, a8, a15, M, h, hl => by
    rw [List.flatMap_cons, List.length_append] at hl
    obtain ⟨rg, lr⟩ := h r List.mem_cons_self
    obtain ⟨z15, t⟩ := row_turn (a0 := a0) (a1 := a1) (a2 := a2) (a3 := a3) (a4 := a4) (a5 := a5) (a6 := a6) (a9 := a9) (a10 := a10) (a11 := a11) (a12 := a12) (a13 := a13) (a14 := a14) (a16 := a16) (a15 := a15) lr rg (acc := acc) (M := M) (by omega)
    obtain ⟨y8, y15, ih⟩ := rows_for (a0 := a0) (a1 := a1) (a2 := a2) (a3 := a3) (a4 := a4) (a5 := a5) (a6 := a6) (a9 := a9) (a10 := a10) (a11 := a11) (a12 := a12) (a13 := a13) (a14 := a14) (a16 := a16) rows (acc ++ (growR r).map rD) (some (rD r)) z15 M (fun q hq => h q (List.mem_cons_of_mem _ hq)) (by rw [List.length_append, List.length_map]; omega)
    refine ⟨y8, y15, ?_⟩
    show svLoop [] (gvName 8) b_law_2 (rD r :: rows.map rD) _ _ = _
    rw [loop_cons]
    simp -implicitDefEqProofs only [nxt_nx, List.set_cons_succ, List.set_cons_zero, t, ih]
    simp
theorem step_turn {a0 a1 a2 a3 a5 a6 a9 a10 a11 a12 a13 a14 a16 : Option D} {a7 a8 a15 : Option D} {k : Nat} (hk : k + 1 ≤ 6) {M : Mem} : ∃ y7 y8 y15, b_law_3 [a0, a1, a2, a3, some (.lst ((rowsN k).map rD)), a5, a6, a7, a8, a9, a10, a11, a12, a13, a14, a15, a16] M = .nx [a0, a1, a2, a3, some (.lst ((rowsN (k + 1)).map rD)), a5, a6, y7, y8, a9, a10, a11, a12, a13, a14, y15, a16] (M ++ [.lst ((rowsN (k + 1)).map rD)]) := by
  have len : ((rowsN k).flatMap growR).length ≤ 203 := rows_len (k + 1) hk
  obtain ⟨y8, y15, e⟩ := rows_for (a0 := a0) (a1 := a1) (a2 := a2) (a3 := a3) (a4 := some (.lst ((rowsN k).map rD))) (a5 := a5) (a6 := a6) (a9 := a9) (a10 := a10) (a11 := a11) (a12 := a12) (a13 := a13) (a14 := a14) (a16 := a16) (rowsN k) [] a8 a15 M (fun r hr => by
    obtain ⟨a, b⟩ := rows_ok hr
    exact ⟨a, by omega⟩) (by simp only [List.length_nil]; omega)
  rw [List.nil_append] at e
  refine ⟨some (.ref M.length), y8, y15, ?_⟩
  have lo : dListOf false (.ref M.length) (M ++ [.lst (((rowsN k).flatMap growR).map rD)]) = .ok (.lst (((rowsN k).flatMap growR).map rD)) (M ++ [.lst (((rowsN k).flatMap growR).map rD)]) := listOf_rF top_at (by rw [List.length_map]; omega)
  unfold b_law_3
  simp -implicitDefEqProofs only [y_seq, y_set, x_A, x_nil, x_cons, x_var, List.getElem?_cons_succ, List.getElem?_cons_zero, Res.bind_ok, mkCell_at (xs := []) (by simp), Res.out_ok, seq_nx, List.set_cons_succ, List.set_cons_zero, y_for, i_S, srcL, e, a1_x, lo]
  rfl
theorem step_loop {a0 a1 a2 a3 a6 a9 a10 a11 a12 a13 a14 a16 : Option D} : ∀ (n k : Nat) (a5 a7 a8 a15 : Option D) (M : Mem), k + n ≤ 6 → HandL M 1 0 → ∃ y5 y7 y8 y15 M', svLoop [] (gvName 5) b_law_3 (upD k n) [a0, a1, a2, a3, some (.lst ((rowsN k).map rD)), a5, a6, a7, a8, a9, a10, a11, a12, a13, a14, a15, a16] M = .nx [a0, a1, a2, a3, some (.lst ((rowsN (k + n)).map rD)), y5, a6, y7, y8, a9, a10, a11, a12, a13, a14, y15, a16] M' ∧ HandL M' 1 0
  | 0, k, a5, a7, a8, a15, M, _, H => ⟨a5, a7, a8, a15, M, loop_nil, H⟩
  | n + 1, k, a5, a7, a8, a15, M, h, H => by
    obtain ⟨z7, z8, z15, t⟩ := step_turn (a0 := a0) (a1 := a1) (a2 := a2) (a3 := a3) (a5 := some (.int (k : Nat))) (a6 := a6) (a9 := a9) (a10 := a10) (a11 := a11) (a12 := a12) (a13 := a13) (a14 := a14) (a16 := a16) (a7 := a7) (a8 := a8) (a15 := a15) (k := k) (by omega) (M := M)
    obtain ⟨y5, y7, y8, y15, M', ih, H'⟩ := step_loop (a0 := a0) (a1 := a1) (a2 := a2) (a3 := a3) (a6 := a6) (a9 := a9) (a10 := a10) (a11 := a11) (a12 := a12) (a13 := a13) (a14 := a14) (a16 := a16) n (k + 1) (some (.int (k : Nat))) z7 z8 z15 (M ++ [.lst ((rowsN (k + 1)).map rD)]) (by omega) (H.one rowsC)
    refine ⟨y5, y7, y8, y15, M', ?_, H'⟩
    show svLoop [] (gvName 5) b_law_3 (.int (k : Nat) :: upD (k + 1) n) _ _ = _
    rw [loop_cons]
    simp -implicitDefEqProofs only [nxt_nx, List.set_cons_succ, List.set_cons_zero, t, ih]
    rw [show k + 1 + n = k + (n + 1) by omega]
/-! the comparisons -/
theorem rows_sd {n : Nat} (h : n ≤ 6) : Sd 8 300000 (.lst ((rowsN n).map rD)) := by
  refine (sd_lst (n := 7) (k := 1276) fun d hd => ?_).mono (by rw [List.length_map]; have := rows_len n h; omega)
  obtain ⟨r, hr, rfl⟩ := List.mem_map.mp hd
  obtain ⟨a, b⟩ := rows_ok hr
  refine (sd_tup (n := 6) (k := 210) fun d hd => ?_).mono (by rw [List.length_map]; omega)
  obtain ⟨i, hi, rfl⟩ := List.mem_map.mp hd
  have := rgf_mem a i hi
  exact int_sd (by omega) (by omega)
theorem one_repr {i : Int} (h0 : -1000 ≤ i) (h1 : i ≤ 10000000000) : ∃ x, ∀ M, dReprX (.lst [.int i]) M = .ok (.str x) M :=
  reprX_sd ((sd_lst (n := 7) (k := 210) (ds := [.int i]) (by simpa using int_sd h0 h1)).mono (j := 20000) (by simp)) (by decide)
theorem cmp_run {a0 a1 a5 a6 a7 a8 a9 a10 a11 a12 a13 a14 a15 a16 : Option D} {n : Nat} (h0 : 1 ≤ n) (h : n ≤ 6) {M : Mem} : c_law_17 [a0, a1, some (.int (n : Nat)), some (.lst [.lst ((rowsN n).map rD)]), some (.lst ((rowsN n).map rD)), a5, a6, a7, a8, a9, a10, a11, a12, a13, a14, a15, a16] M = .nx [a0, a1, some (.int (n : Nat)), some (.lst [.lst ((rowsN n).map rD)]), some (.lst ((rowsN n).map rD)), a5, a6, a7, a8, a9, a10, a11, a12, a13, a14, a15, a16] M := by
  have rl := rows_len n h
  obtain ⟨x, hx⟩ := reprX_sd (rows_sd h) (by decide)
  obtain ⟨y, hy⟩ := one_repr (i := (((rowsN n).length : Nat) : Int)) (by omega) (by omega)
  obtain ⟨z, hz⟩ := one_repr (i := ((n : Nat) : Int)) (by omega) (by omega)
  have ix : dIx (.lst [.lst ((rowsN n).map rD)]) (.int 0) M = .ok (.lst ((rowsN n).map rD)) M := rfl
  have c1 : ∀ M, trimR (nfT TT) M (g__law_counted [.int (n : Nat)] M) = .ok (.lst [.int (((rowsN n).length : Nat) : Int)]) M := fun M => by
    rw [lcounted_run h0 h]; exact trim_clo0 (clo_lst (by simp [clo_int]))
  have c2 : ∀ M, trimR (nfT TT) M (g__law_count [.int (n : Nat)] M) = .ok (.lst [.int (n : Nat)]) M := fun M => by
    rw [lcount_run h0 h]; exact trim_clo0 (clo_lst (by simp [clo_int]))
  unfold c_law_17
  simp -implicitDefEqProofs only [y_if, x_bOr, x_bE, x_2, x_A, x_trim, x_call, x_cons, x_var, x_c, x_nil, List.getElem?_cons_succ, List.getElem?_cons_zero, Res.bind_ok, List.append_nil, List.length_cons, List.length_nil, Nat.zero_add, if_true, a1_x, ix, hx, d_neStr, Bool.false_eq_true, if_false, c1, d_lenL, List.length_map, mkLst_at (xs := [_]) (by simp), hy, c2, hz, Res.out_ok, y_next]
/-! counts that are none -/
theorem wrong_turn {a0 a1 a2 a3 a4 a5 a7 a8 a9 a10 a11 a12 a13 a14 a15 a16 : Option D} {d : D} (hd : It d) (hw : whole d 1 6 = false) {M : Mem} : b_law_4 [a0, a1, a2, a3, a4, a5, some d, a7, a8, a9, a10, a11, a12, a13, a14, a15, a16] M = .nx [a0, a1, a2, a3, a4, a5, some d, a7, a8, a9, a10, a11, a12, a13, a14, a15, a16] M := by
  obtain ⟨x, hx⟩ := reprX_sd (d := .tup [d, d, d]) ((sd_tup (n := 7) (k := 220) (ds := [d, d, d]) (by simpa using hd.sd 6)).mono (j := 20000) (by simp)) (by decide)
  have e1 : ∀ M, trimR (nfT TT) M (g__law_all [d] M) = .ok d M := fun M => by rw [lall_bad hd hw]; exact trim_clo0 hd.clo
  have e2 : ∀ M, trimR (nfT TT) M (g__law_counted [d] M) = .ok d M := fun M => by rw [lcounted_bad hd hw]; exact trim_clo0 hd.clo
  have e3 : ∀ M, trimR (nfT TT) M (g__law_count [d] M) = .ok d M := fun M => by rw [lcount_bad hd hw]; exact trim_clo0 hd.clo
  unfold b_law_4 c_law_3
  simp -implicitDefEqProofs only [y_if, x_bE, x_2, x_A, x_trim, x_call, x_cons, x_var, x_c, x_nil, List.getElem?_cons_succ, List.getElem?_cons_zero, Res.bind_ok, List.append_nil, List.length_cons, List.length_nil, Nat.zero_add, if_true, e1, e2, e3, mkTup_at (xs := [_, _, _]) (by simp), a1_x, hx, d_neStr, Bool.false_eq_true, if_false, Res.out_ok, y_next]
theorem wrong_loop {a0 a1 a2 a3 a4 a5 a7 a8 a9 a10 a11 a12 a13 a14 a15 a16 : Option D} {M : Mem} : ∀ (ds : List D) (a6 : Option D), (∀ d ∈ ds, It d ∧ whole d 1 6 = false) → ∃ y6, svLoop [] (gvName 6) b_law_4 ds [a0, a1, a2, a3, a4, a5, a6, a7, a8, a9, a10, a11, a12, a13, a14, a15, a16] M = .nx [a0, a1, a2, a3, a4, a5, y6, a7, a8, a9, a10, a11, a12, a13, a14, a15, a16] M
  | [], a6, _ => ⟨a6, loop_nil⟩
  | d :: r, a6, h => by
    obtain ⟨a, b⟩ := h d List.mem_cons_self
    obtain ⟨y6, ih⟩ := wrong_loop (a0 := a0) (a1 := a1) (a2 := a2) (a3 := a3) (a4 := a4) (a5 := a5) (a7 := a7) (a8 := a8) (a9 := a9) (a10 := a10) (a11 := a11) (a12 := a12) (a13 := a13) (a14 := a14) (a15 := a15) (a16 := a16) (M := M) r (some d) fun q hq => h q (List.mem_cons_of_mem _ hq)
    refine ⟨y6, ?_⟩
    have t := wrong_turn (a0 := a0) (a1 := a1) (a2 := a2) (a3 := a3) (a4 := a4) (a5 := a5) (a7 := a7) (a8 := a8) (a9 := a9) (a10 := a10) (a11 := a11) (a12 := a12) (a13 := a13) (a14 := a14) (a15 := a15) (a16 := a16) a b (M := M)
    rw [loop_cons]
    simp -implicitDefEqProofs only [nxt_nx, List.set_cons_succ, List.set_cons_zero, t, ih]
theorem wrong_run {a0 a2 a3 a4 a5 a6 a7 a8 a9 a10 a11 a12 a13 a14 a15 a16 : Option D} {M : Mem} (H : HandL M 1 0) : ∃ y6 M', c_law_18 [a0, some (.ref 1), a2, a3, a4, a5, a6, a7, a8, a9, a10, a11, a12, a13, a14, a15, a16] M = .nx [a0, some (.ref 1), a2, a3, a4, a5, y6, a7, a8, a9, a10, a11, a12, a13, a14, a15, a16] M' ∧ HandL M' 1 0 := by
  obtain ⟨k, x, k0, k1, e, H1⟩ := drawH take_run (nf := nfT TT) H (many := 1000000000) (by decide) (by decide)
  have p9 : ∀ M : Mem, dPow (.int 10) (.int 9) M = .ok (.int 1000000000) M := fun M => d_pow (by decide)
  have p30 : ∀ M : Mem, dPow (.int 10) (.int 30) M = .ok (.int 1000000000000000000000000000000) M := fun M => d_pow (by decide)
  obtain ⟨y6, e2⟩ := wrong_loop (a0 := a0) (a2 := a2) (a3 := a3) (a4 := a4) (a5 := a5) (a7 := a7) (a8 := a8) (a9 := a9) (a10 := a10) (a11 := a11) (a12 := a12) (a13 := a13) (a14 := a14) (a15 := a15) (a16 := a16) (a1 := some (.ref 1)) (M := M.set 1 x) [.int 0, .int 7, .int (-1), .bl true, .non, .str (PySem.Str.ofString "3"), .tup [.int 3], .int (7 + k), .int 1000000000000000000000000000000] a6 (by
    intro d hd
    simp only [List.mem_cons, List.not_mem_nil, or_false] at hd
    rcases hd with rfl | rfl | rfl | rfl | rfl | rfl | rfl | rfl | rfl
    · exact ⟨small_it (by decide) (by decide), by decide⟩
    · exact ⟨small_it (by decide) (by decide), by decide⟩
    · exact ⟨small_it (by decide) (by decide), by decide⟩
    · exact ⟨.bl true, rfl⟩
    · exact ⟨.non, rfl⟩
    · exact ⟨.str _ (by decide +kernel) (by decide +kernel) (by decide +kernel), rfl⟩
    · exact ⟨.tup 3 (by decide), rfl⟩
    · refine ⟨small_it (by omega) (by omega), ?_⟩
      show (decide (1 ≤ 7 + k) && decide (7 + k ≤ 6)) = false
      rw [decide_eq_false (show ¬ 7 + k ≤ 6 by omega)]
      simp
    · exact ⟨.int _ (by decide), by decide⟩)
  refine ⟨y6, M.set 1 x, ?_, H1⟩
  unfold c_law_18
  simp -implicitDefEqProofs only [y_for, i_S, x_A, x_1, x_2, x_trim, x_call, x_cons, x_var, x_c, x_nil, List.getElem?_cons_succ, List.getElem?_cons_zero, Res.bind_ok, List.append_nil, List.length_cons, List.length_nil, Nat.zero_add, if_true, d_neg, mkTup_at (xs := [_]) (by simp), p9, e, d_add, p30, mkLst_at (xs := [_, _, _, _, _, _, _, _, _]) (by simp), srcL, Res.out_ok, e2]
/-! the law -/
theorem turns_run {a0 a3 a4 a5 a6 a7 a8 a9 a10 a11 a12 a13 a14 a15 a16 : Option D} {n : Nat} (hn : n ≤ 6) (ds : List D) (M : Mem) (H : HandL M 1 0) : ∃ σ' M', svLoop [] (gvName 5) b_law_7 ds [a0, some (.ref 1), some (.int (n : Nat)), a3, a4, a5, a6, a7, a8, a9, a10, a11, a12, a13, a14, a15, a16] M = .nx σ' M' := by
  obtain ⟨σ', M', e, _⟩ := loop_ind (i := 5) (b := b_law_7) (I := fun _ σ M => HandL M 1 0 ∧ ∃ a0 a3 a4 a5 a6 a7 a8 a9 a10 a11 a12 a13 a14 a15 a16 : Option D, σ = [a0, some (.ref 1), some (.int (n : Nat)), a3, a4, a5, a6, a7, a8, a9, a10, a11, a12, a13, a14, a15, a16]) (fun d r σ M ⟨H, a0, a3, a4, a5, a6, a7, a8, a9, a10, a11, a12, a13, a14, a15, a16, es⟩ => by
    subst es
    obtain ⟨y9, y10, y11, y12, y13, y14, y15, y16, M', e, H'⟩ := turn_run (a0 := a0) (a3 := a3) (a4 := a4) (a5 := some d) (a6 := a6) (a7 := a7) (a8 := a8) (a9 := a9) (a10 := a10) (a11 := a11) (a12 := a12) (a13 := a13) (a14 := a14) (a15 := a15) (a16 := a16) hn H
    exact ⟨_, M', .inl e, H', _, _, _, _, _, _, _, _, _, _, _, _, _, _, _, rfl⟩) ds _ M ⟨H, a0, a3, a4, a5, a6, a7, a8, a9, a10, a11, a12, a13, a14, a15, a16, rfl⟩
  exact ⟨σ', M', e⟩
theorem law_true (ns : List Int) (hl : ns.length ≤ 63) (hb : ∀ z ∈ ns, Builtin.Int.intBits z ≤ 1048576) : ∃ M, g_law [.scr (ns.map D.int)] [] = .ok (.bl true) M := by
  obtain ⟨t', e1⟩ := hand_ok (t := 37) (a := 1709) (q := 2147483549) (by decide) (by decide) ns hl []
  rw [← hand_eq] at e1
  have H0 := handL_new (cells := ns.map fun i => if i < 0 then -i else i) (t := t')
  obtain ⟨M0, hM0⟩ : ∃ M0, M0 = [Cell.lst ((ns.map fun i => if i < 0 then -i else i).map D.int), .lst [.ref 0, .int 0, .int 0, .int t']] := ⟨_, rfl⟩
  rw [← hM0] at H0
  have e1 : g__law_hand [.scr (ns.map D.int)] [] = .ok (.ref 1) M0 := by rw [hM0]; exact e1
  obtain ⟨k, x, k0, k1, e2, H1⟩ := drawH take_run (nf := nfT TT) H0 (many := 6) (by decide) (by decide)
  obtain ⟨n, hn⟩ := Int.eq_ofNat_of_zero_le (show 0 ≤ 1 + k by omega)
  have n0 : 1 ≤ n := by omega
  have n1 : n ≤ 6 := by omega
  obtain ⟨M1, hM1⟩ : ∃ M1, M0.set 1 x = M1 := ⟨_, rfl⟩
  rw [hM1] at e2 H1
  have st : start3 17 [.scr (ns.map D.int)] = [some (.scr (ns.map D.int)), none, none, none, none, none, none, none, none, none, none, none, none, none, none, none, none] := rfl
  have la : ∀ M, trimR (nfT TT) M (g__law_all [.int (n : Nat)] M) = .ok (.lst [.lst ((rowsN n).map rD)]) M := fun M => by
    rw [lall_run n0 n1]
    exact trim_clo0 (clo_lst (by simpa using clo_lst (rowsC (n := n))))
  obtain ⟨y5, y7, y8, y15, M2, e3, H2⟩ := step_loop (a0 := some (.scr (ns.map D.int))) (a1 := some (.ref 1)) (a2 := some (.int (n : Nat))) (a3 := some (.lst [.lst ((rowsN n).map rD)])) (a6 := none) (a9 := none) (a10 := none) (a11 := none) (a12 := none) (a13 := none) (a14 := none) (a16 := none) n 0 none none none none M1 (by omega) H1
  rw [Nat.zero_add] at e3
  obtain ⟨y6, M3, e4, H3⟩ := wrong_run (a0 := some (.scr (ns.map D.int))) (a2 := some (.int (n : Nat))) (a3 := some (.lst [.lst ((rowsN n).map rD)])) (a4 := some (.lst ((rowsN n).map rD))) (a5 := y5) (a6 := none) (a7 := y7) (a8 := y8) (a9 := none) (a10 := none) (a11 := none) (a12 := none) (a13 := none) (a14 := none) (a15 := y15) (a16 := none) H2
  obtain ⟨σ', M4, e5⟩ := turns_run (a0 := some (.scr (ns.map D.int))) (a3 := some (.lst [.lst ((rowsN n).map rD)])) (a4 := some (.lst ((rowsN n).map rD))) (a5 := y5) (a6 := y6) (a7 := y7) (a8 := y8) (a9 := none) (a10 := none) (a11 := none) (a12 := none) (a13 := none) (a14 := none) (a15 := y15) (a16 := none) n1 (upD 0 6) M3 H3
  refine ⟨M4, ?_⟩
  have r6 : ∀ σ M, ivR1 (avCons (evC (.int 6)) avNil) σ M = .ok ⟨upD 0 6, []⟩ M := fun σ M => ivR1_n (n := 6) rfl (by decide)
  have s1 : svSet 1 (evCall g__law_hand 1 [] (avCons (evVar 0) avNil)) [some (.scr (ns.map D.int)), none, none, none, none, none, none, none, none, none, none, none, none, none, none, none, none] [] = .nx [some (.scr (ns.map D.int)), some (.ref 1), none, none, none, none, none, none, none, none, none, none, none, none, none, none, none] M0 := by
    simp -implicitDefEqProofs only [y_set, x_trim, x_call, x_cons, x_var, x_c, x_nil, List.getElem?_cons_succ, List.getElem?_cons_zero, Res.bind_ok, List.append_nil, List.length_cons, List.length_nil, Nat.zero_add, if_true, e1, Res.out_ok, List.set_cons_succ, List.set_cons_zero]
  have s2 : c_law_14 [some (.scr (ns.map D.int)), some (.ref 1), none, none, none, none, none, none, none, none, none, none, none, none, none, none, none] M0 = .nx [some (.scr (ns.map D.int)), some (.ref 1), some (.int (n : Nat)), none, none, none, none, none, none, none, none, none, none, none, none, none, none] M1 := by
    unfold c_law_14
    simp -implicitDefEqProofs only [y_set, x_2, x_trim, x_call, x_cons, x_var, x_c, x_nil, List.getElem?_cons_succ, List.getElem?_cons_zero, Res.bind_ok, List.append_nil, List.length_cons, List.length_nil, Nat.zero_add, if_true, e2, d_add, hn, Res.out_ok, List.set_cons_succ, List.set_cons_zero]
  have s3 : c_law_15 [some (.scr (ns.map D.int)), some (.ref 1), some (.int (n : Nat)), none, none, none, none, none, none, none, none, none, none, none, none, none, none] M1 = .nx [some (.scr (ns.map D.int)), some (.ref 1), some (.int (n : Nat)), some (.lst [.lst ((rowsN n).map rD)]), none, none, none, none, none, none, none, none, none, none, none, none, none] M1 := by
    unfold c_law_15
    simp -implicitDefEqProofs only [y_set, x_trim, x_call, x_cons, x_var, x_c, x_nil, List.getElem?_cons_succ, List.getElem?_cons_zero, Res.bind_ok, List.append_nil, List.length_cons, List.length_nil, Nat.zero_add, if_true, la, Res.out_ok, List.set_cons_succ, List.set_cons_zero]
  have s4 : c_law_16 [some (.scr (ns.map D.int)), some (.ref 1), some (.int (n : Nat)), some (.lst [.lst ((rowsN n).map rD)]), none, none, none, none, none, none, none, none, none, none, none, none, none] M1 = .nx [some (.scr (ns.map D.int)), some (.ref 1), some (.int (n : Nat)), some (.lst [.lst ((rowsN n).map rD)]), none, none, none, none, none, none, none, none, none, none, none, none, none] M1 := by
    have ty : dIsi (.lst [.lst ((rowsN n).map rD)]) (.ty .list) M1 = .ok (.bl true) M1 := rfl
    unfold c_law_16
    simp -implicitDefEqProofs only [y_if, x_bNot, x_bT, x_A, x_trim, x_call, x_cons, x_var, x_c, x_nil, List.getElem?_cons_succ, List.getElem?_cons_zero, Res.bind_ok, List.append_nil, List.length_cons, List.length_nil, Nat.zero_add, if_true, a2_x, ty, truD, Bool.not_true, Bool.false_eq_true, if_false, Res.out_ok, y_next]
  have s5 : svSet 4 (evA mkLst (avCons (evA mkTup avNil) avNil)) [some (.scr (ns.map D.int)), some (.ref 1), some (.int (n : Nat)), some (.lst [.lst ((rowsN n).map rD)]), none, none, none, none, none, none, none, none, none, none, none, none, none] M1 = .nx [some (.scr (ns.map D.int)), some (.ref 1), some (.int (n : Nat)), some (.lst [.lst ((rowsN n).map rD)]), some (.lst ((rowsN 0).map rD)), none, none, none, none, none, none, none, none, none, none, none, none] M1 := by
    simp -implicitDefEqProofs only [y_set, x_A, x_cons, x_nil, Res.bind_ok, mkTup_at (xs := []) (by simp), mkLst_at (xs := [_]) (by simp), Res.out_ok, List.set_cons_succ, List.set_cons_zero]
    rfl
  have rr : ivR1 (avCons (evVar 2) avNil) [some (.scr (ns.map D.int)), some (.ref 1), some (.int (n : Nat)), some (.lst [.lst ((rowsN n).map rD)]), some (.lst ((rowsN 0).map rD)), none, none, none, none, none, none, none, none, none, none, none, none] M1 = .ok ⟨upD 0 n, []⟩ M1 := ivR1_n rfl (by omega)
  unfold g_law fnB s_law
  rw [st, y_seq, s1, seq_nx, y_seq, s2, seq_nx, y_seq, s3, seq_nx, y_seq, s4, seq_nx, y_seq, s5, seq_nx, y_seq, y_for, rr, Res.out_ok, e3, seq_nx, y_seq, cmp_run n0 n1, seq_nx, y_seq, e4, seq_nx, y_seq, y_for, r6, Res.out_ok, e5, seq_nx, y_ret, x_c, Res.out_ok, end_rt]
end K03

set_option Elab.async false
set_option linter.all false
set_option maxRecDepth 100000
set_option maxHeartbeats 0
namespace K03
open PySem PySem.Spec PyProof.Rows L2 L3
def lo_0 : List Str := ["SlopeError", "BadGrouping", "BadCount", "is_sequence", "is_whole", "check_grouping", "groups_many", "check_count", "all_groupings", "count_groupings", "book_of", "_law_hand", "_law_mixed", "_law_take", "_law_many", "_law_grouping", "_law_rid", "_law_seq", "_law_int", "_law_within", "_law_row", "_law_spoiled", "_law_all", "_law_counted", "_law_count", "_law_checked", "_law_checked_due", "_law_book_due"]
def loose : List Str := lo_0
def clN : List Str := []
def xlN : List Str := [Str.ofString "SlopeError", Str.ofString "BadGrouping", Str.ofString "BadCount"]
def xsL : List (Str × List Str) := [("BadGrouping", ["index"]), ("BadCount", ["count"])]
theorem nm_nd : nm.Nodup := by decide +kernel
theorem tt_low : ∀ l ∈ TT, (∀ j ∈ l, j < nm.length) ∧ l.length < 1000 := by decide +kernel
def d_0 : He.DefD := ⟨("BadGrouping", some "__init__"), "__init__", "BadGrouping.__init__", defArgs (me 2 0), defBody (me 2 0), defScope (me 2 0), [], []⟩
def d_1 : He.DefD := ⟨("BadCount", some "__init__"), "__init__", "BadCount.__init__", defArgs (me 3 0), defBody (me 3 0), defScope (me 3 0), [], []⟩
def d_2 : He.DefD := ⟨("is_sequence", none), "is_sequence", "is_sequence", defArgs (top 5), defBody (top 5), defScope (top 5), [], []⟩
def d_3 : He.DefD := ⟨("is_whole", none), "is_whole", "is_whole", defArgs (top 6), defBody (top 6), defScope (top 6), [.non, .non], []⟩
def d_4 : He.DefD := ⟨("check_grouping", none), "check_grouping", "check_grouping", defArgs (top 8), defBody (top 8), defScope (top 8), [.bl false], []⟩
def d_5 : He.DefD := ⟨("groups_many", none), "groups_many", "groups_many", defArgs (top 9), defBody (top 9), defScope (top 9), [], []⟩
def d_6 : He.DefD := ⟨("check_count", none), "check_count", "check_count", defArgs (top 10), defBody (top 10), defScope (top 10), [], []⟩
def d_7 : He.DefD := ⟨("all_groupings", none), "all_groupings", "all_groupings", defArgs (top 11), defBody (top 11), defScope (top 11), [], []⟩
def d_8 : He.DefD := ⟨("count_groupings", none), "count_groupings", "count_groupings", defArgs (top 12), defBody (top 12), defScope (top 12), [], []⟩
def d_9 : He.DefD := ⟨("book_of", none), "book_of", "book_of", defArgs (top 13), defBody (top 13), defScope (top 13), [], []⟩
def d_10 : He.DefD := ⟨("_law_hand", none), "_law_hand", "_law_hand", defArgs (top 15), defBody (top 15), defScope (top 15), [], []⟩
def d_11 : He.DefD := ⟨("_law_mixed", none), "_law_mixed", "_law_mixed", defArgs (top 16), defBody (top 16), defScope (top 16), [], []⟩
def d_12 : He.DefD := ⟨("_law_take", none), "_law_take", "_law_take", defArgs (top 17), defBody (top 17), defScope (top 17), [], []⟩
def d_13 : He.DefD := ⟨("_law_many", none), "_law_many", "_law_many", defArgs (top 18), defBody (top 18), defScope (top 18), [], []⟩
def d_14 : He.DefD := ⟨("_law_grouping", none), "_law_grouping", "_law_grouping", defArgs (top 19), defBody (top 19), defScope (top 19), [], []⟩
def d_15 : He.DefD := ⟨("_law_rid", none), "_law_rid", "_law_rid", defArgs (top 20), defBody (top 20), defScope (top 20), [], []⟩
def d_16 : He.DefD := ⟨("_law_seq", none), "_law_seq", "_law_seq", defArgs (top 21), defBody (top 21), defScope (top 21), [], []⟩
def d_17 : He.DefD := ⟨("_law_int", none), "_law_int", "_law_int", defArgs (top 22), defBody (top 22), defScope (top 22), [], []⟩
def d_18 : He.DefD := ⟨("_law_within", none), "_law_within", "_law_within", defArgs (top 23), defBody (top 23), defScope (top 23), [], []⟩
def d_19 : He.DefD := ⟨("_law_row", none), "_law_row", "_law_row", defArgs (top 24), defBody (top 24), defScope (top 24), [], []⟩
def d_20 : He.DefD := ⟨("_law_spoiled", none), "_law_spoiled", "_law_spoiled", defArgs (top 25), defBody (top 25), defScope (top 25), [], []⟩
def d_21 : He.DefD := ⟨("_law_all", none), "_law_all", "_law_all", defArgs (top 26), defBody (top 26), defScope (top 26), [], []⟩
def d_22 : He.DefD := ⟨("_law_counted", none), "_law_counted", "_law_counted", defArgs (top 27), defBody (top 27), defScope (top 27), [], []⟩
def d_23 : He.DefD := ⟨("_law_count", none), "_law_count", "_law_count", defArgs (top 28), defBody (top 28), defScope (top 28), [], []⟩
def d_24 : He.DefD := ⟨("_law_checked", none), "_law_checked", "_law_checked", defArgs (top 29), defBody (top 29), defScope (top 29), [], []⟩
def d_25 : He.DefD := ⟨("_law_checked_due", none), "_law_checked_due", "_law_checked_due", defArgs (top 30), defBody (top 30), defScope (top 30), [], []⟩
def d_26 : He.DefD := ⟨("_law_book_due", none), "_law_book_due", "_law_book_due", defArgs (top 31), defBody (top 31), defScope (top 31), [], []⟩
def d_27 : He.DefD := ⟨("law", none), "law", "law", defArgs (top 32), defBody (top 32), defScope (top 32), [], []⟩
def fn : List He.DefD := [d_0, d_1, d_2, d_3, d_4, d_5, d_6, d_7, d_8, d_9, d_10, d_11, d_12, d_13, d_14, d_15, d_16, d_17, d_18, d_19, d_20, d_21, d_22, d_23, d_24, d_25, d_26, d_27]
def fa : List He.Fa := [.exm "SlopeError" "BadCount" false, .exm "BadGrouping" "BadCount" false, .exm "BadCount" "BadCount" true, .glo "BadCount", .exm "SlopeError" "BadGrouping" false, .exm "BadGrouping" "BadGrouping" true, .exm "BadCount" "BadGrouping" false, .glo "BadGrouping", .glo "law", .free "isinstance", .free "tuple", .free "list", .glo "is_sequence", .free "int", .free "bool", .glo "is_whole", .free "enumerate", .free "max", .free "len", .free "min", .glo "check_grouping", .free "set", .glo "groups_many", .glo "check_count", .free "range", .glo "all_groupings", .free "sum", .glo "count_groupings", .glo "book_of", .free "abs", .glo "_law_hand", .glo "_law_mixed", .glo "_law_take", .glo "_law_many", .glo "_law_grouping", .glo "_law_rid", .glo "_law_seq", .glo "_law_int", .glo "_law_within", .glo "_law_row", .glo "_law_spoiled", .glo "_law_all", .glo "_law_counted", .glo "_law_count", .glo "_law_checked", .glo "_law_checked_due", .glo "_law_book_due", .free "repr"]
abbrev R : PySem.W.OpenRow := PySem.W.OpenLaw.row PySem.Challenge.rw_thinslopes_k03_whole_groupings_all_and_r
abbrev hk : PySem.W.Hook := hookX 4 fa fn xsL
def ob (s : PySem.W.SharedT) : AlX := xObs 4 fa fn xsL (HandSHeadRun.getT s)
theorem ob_eq (s : PySem.W.SharedT) : ob s = hk.obs s.abs := xObs_eq (HandSHeadRun.getT_eq s)
theorem run (w : World) : HandSHeadRun.RunEq R (PySem.W.view R.prog [32]) hk ob 100000 loose w := by
  intro os
  kernel_rfl
theorem facts {P : Program} {w : World} {K : PySem.W.Frag} {h : Heap} {mg : Str → Option Value} {f : Addr} (KX : K.In h) (G : h.Ns mainGlobals mg) (hfa : mg ("law" : Str) = some (.ref f)) (c : He.SaysD fa fn K) (xc : ∀ p ∈ xsL, XCl K p.1 p.2) :
    ∃ (C : Ct) (fd : FuncData), C.K.In h ∧ (∀ (s : Shared) (v : Value), BindsTo s fd ⟨[v], []⟩ [("_law_script", v)]) ∧ ∀ base : Heap, C.K.In base → base.Ns mainGlobals mg → FnG true P w C.K mg base 9 f fd ["_law_script"] (spF C g_law 1) := by
  obtain ⟨fd_BadGrouping___init__, F_BadGrouping___init__⟩ := c.def_ 0 (d := d_0) rfl
  obtain ⟨fd_BadCount___init__, F_BadCount___init__⟩ := c.def_ 1 (d := d_1) rfl
  obtain ⟨fd_is_sequence, F_is_sequence⟩ := c.def_ 2 (d := d_2) rfl
  obtain ⟨fd_is_whole, F_is_whole⟩ := c.def_ 3 (d := d_3) rfl
  obtain ⟨fd_check_grouping, F_check_grouping⟩ := c.def_ 4 (d := d_4) rfl
  obtain ⟨fd_groups_many, F_groups_many⟩ := c.def_ 5 (d := d_5) rfl
  obtain ⟨fd_check_count, F_check_count⟩ := c.def_ 6 (d := d_6) rfl
  obtain ⟨fd_all_groupings, F_all_groupings⟩ := c.def_ 7 (d := d_7) rfl
  obtain ⟨fd_count_groupings, F_count_groupings⟩ := c.def_ 8 (d := d_8) rfl
  obtain ⟨fd_book_of, F_book_of⟩ := c.def_ 9 (d := d_9) rfl
  obtain ⟨fd__law_hand, F__law_hand⟩ := c.def_ 10 (d := d_10) rfl
  obtain ⟨fd__law_mixed, F__law_mixed⟩ := c.def_ 11 (d := d_11) rfl
  obtain ⟨fd__law_take, F__law_take⟩ := c.def_ 12 (d := d_12) rfl
  obtain ⟨fd__law_many, F__law_many⟩ := c.def_ 13 (d := d_13) rfl
  obtain ⟨fd__law_grouping, F__law_grouping⟩ := c.def_ 14 (d := d_14) rfl
  obtain ⟨fd__law_rid, F__law_rid⟩ := c.def_ 15 (d := d_15) rfl
  obtain ⟨fd__law_seq, F__law_seq⟩ := c.def_ 16 (d := d_16) rfl
  obtain ⟨fd__law_int, F__law_int⟩ := c.def_ 17 (d := d_17) rfl
  obtain ⟨fd__law_within, F__law_within⟩ := c.def_ 18 (d := d_18) rfl
  obtain ⟨fd__law_row, F__law_row⟩ := c.def_ 19 (d := d_19) rfl
  obtain ⟨fd__law_spoiled, F__law_spoiled⟩ := c.def_ 20 (d := d_20) rfl
  obtain ⟨fd__law_all, F__law_all⟩ := c.def_ 21 (d := d_21) rfl
  obtain ⟨fd__law_counted, F__law_counted⟩ := c.def_ 22 (d := d_22) rfl
  obtain ⟨fd__law_count, F__law_count⟩ := c.def_ 23 (d := d_23) rfl
  obtain ⟨fd__law_checked, F__law_checked⟩ := c.def_ 24 (d := d_24) rfl
  obtain ⟨fd__law_checked_due, F__law_checked_due⟩ := c.def_ 25 (d := d_25) rfl
  obtain ⟨fd__law_book_due, F__law_book_due⟩ := c.def_ 26 (d := d_26) rfl
  obtain ⟨fd_law, F_law⟩ := c.def_ 27 (d := d_27) rfl
  have cl_ : ClsAll K nm clN TT := by
    exact True.intro
  have ct : CtOk (ctOf K TT nm clN XT xlN) TT nm := ctOk_of nm_nd tt_low cl_
  have xc_BadGrouping : XCl K "BadGrouping" ["index"] := xc ("BadGrouping", ["index"]) (List.mem_of_getElem? (i := 0) rfl)
  have xc_BadCount : XCl K "BadCount" ["count"] := xc ("BadCount", ["count"]) (List.mem_of_getElem? (i := 1) rfl)
  have xo : XOk (ctOf K TT nm clN XT xlN) XT nm := xok_of (XT := XT) (xl := xlN) (⟨xrow0, ⟨xrow xc_BadGrouping rfl, ⟨xrow xc_BadCount rfl, True.intro⟩⟩⟩)
  have S_BadCount := sub_of (K := K) (y := He.ga K "BadCount") (xl := xlN) (l := [some false, some false, some true]) (⟨ex_some (c.fact 0 (f := .exm "SlopeError" "BadCount" false) rfl), ⟨ex_some (c.fact 1 (f := .exm "BadGrouping" "BadCount" false) rfl), ⟨ex_some (c.fact 2 (f := .exm "BadCount" "BadCount" true) rfl), True.intro⟩⟩⟩)
  have N_BadCount := He.glo_ok KX G (c.fact 3 (f := .glo "BadCount") rfl)
  have S_BadGrouping := sub_of (K := K) (y := He.ga K "BadGrouping") (xl := xlN) (l := [some false, some true, some false]) (⟨ex_some (c.fact 4 (f := .exm "SlopeError" "BadGrouping" false) rfl), ⟨ex_some (c.fact 5 (f := .exm "BadGrouping" "BadGrouping" true) rfl), ⟨ex_some (c.fact 6 (f := .exm "BadCount" "BadGrouping" false) rfl), True.intro⟩⟩⟩)
  have N_BadGrouping := He.glo_ok KX G (c.fact 7 (f := .glo "BadGrouping") rfl)
  have e := hfa.symm.trans (He.glo_ok KX G (c.fact 8 (f := .glo "law") rfl))
  cases e
  refine ⟨(ctOf K TT nm clN XT xlN), fd_law, KX, fun s v => FunD.bindsA (ps := ["_law_script"]) F_law (fun _ _ _ _ _ _ us hl => match us, hl with | [_], _ => rfl) s [v] rfl, fun base _ _ => ?_⟩
  have X_BadGrouping : HasX P w (ctOf K TT nm clN XT xlN) mg base "BadGrouping" 1 1 := hasX_of (x := "BadGrouping") (fs := ["index"]) xc_BadGrouping rfl rfl rfl (by decide) (by decide) (ok_BadGrouping___init__ (P := P) (w := w) (C := (ctOf K TT nm clN XT xlN)) (mg := mg) (base := base) xc_BadGrouping.oe xc_BadGrouping.no F_BadGrouping___init__) (He.glo_ok KX G (c.fact 7 (f := .glo "BadGrouping") rfl)) (F_BadGrouping___init__.bindsN fun _ _ _ _ _ _ us hl => match us, hl with | [_, _], _ => rfl)
  have X_BadCount : HasX P w (ctOf K TT nm clN XT xlN) mg base "BadCount" 2 1 := hasX_of (x := "BadCount") (fs := ["count"]) xc_BadCount rfl rfl rfl (by decide) (by decide) (ok_BadCount___init__ (P := P) (w := w) (C := (ctOf K TT nm clN XT xlN)) (mg := mg) (base := base) xc_BadCount.oe xc_BadCount.no F_BadCount___init__) (He.glo_ok KX G (c.fact 3 (f := .glo "BadCount") rfl)) (F_BadCount___init__.bindsN fun _ _ _ _ _ _ us hl => match us, hl with | [_, _], _ => rfl)
  have G_is_sequence := ok_is_sequence (b := true) (P := P) (w := w) (C := (ctOf K TT nm clN XT xlN)) (mg := mg) (base := base) (fun _ _ _ => trivial) F_is_sequence (He.free_ok KX G (c.fact 9 (f := .free "isinstance") rfl)) (He.free_ok KX G (c.fact 10 (f := .free "tuple") rfl)) (He.free_ok KX G (c.fact 11 (f := .free "list") rfl))
  have H_is_sequence : Has true P w (ctOf K TT nm clN XT xlN) mg base 1 "is_sequence" g_is_sequence 1 [] := Has.of G_is_sequence (He.glo_ok KX G (c.fact 12 (f := .glo "is_sequence") rfl)) F_is_sequence.kp (F_is_sequence.bindsN fun _ _ _ _ _ _ us hl => match us, hl with | [_], _ => rfl)
  have G_is_whole := ok_is_whole (b := true) (P := P) (w := w) (C := (ctOf K TT nm clN XT xlN)) (mg := mg) (base := base) (fun _ _ _ => trivial) F_is_whole (He.free_ok KX G (c.fact 9 (f := .free "isinstance") rfl)) (He.free_ok KX G (c.fact 13 (f := .free "int") rfl)) (He.free_ok KX G (c.fact 14 (f := .free "bool") rfl))
  have H_is_whole_3 : HasF true P w (ctOf K TT nm clN XT xlN) mg base 1 "is_whole" g_is_whole 3 3 [] [0, 1, 2] [.non, .non] := HasF.of G_is_whole (He.glo_ok KX G (c.fact 15 (f := .glo "is_whole") rfl)) F_is_whole.kp (kbnD F_is_whole (List.cons_ne_nil _ _) fun _ _ _ _ _ _ _ us its ws h1 h2 h3 => match us, its, ws, h1, h2, h3 with | [_, _, _], [_, _], [], _, _, _ => ⟨_, rfl, rfl⟩) (fun _ _ => ⟨_, _, rfl, rfl, ⟨_, _, rfl, rfl, rfl⟩⟩)
  have G0_is_whole := ok_is_whole (b := false) (P := P) (w := w) (C := (ctOf K TT nm clN XT xlN)) (mg := mg) (base := base) (fun _ _ _ => trivial) F_is_whole (He.free_ok KX G (c.fact 9 (f := .free "isinstance") rfl)) (He.free_ok KX G (c.fact 13 (f := .free "int") rfl)) (He.free_ok KX G (c.fact 14 (f := .free "bool") rfl))
  have H0_is_whole_3 : HasF false P w (ctOf K TT nm clN XT xlN) mg base 1 "is_whole" g_is_whole 3 3 [] [0, 1, 2] [.non, .non] := HasF.of G0_is_whole (He.glo_ok KX G (c.fact 15 (f := .glo "is_whole") rfl)) F_is_whole.kp (kbnD F_is_whole (List.cons_ne_nil _ _) fun _ _ _ _ _ _ _ us its ws h1 h2 h3 => match us, its, ws, h1, h2, h3 with | [_, _, _], [_, _], [], _, _, _ => ⟨_, rfl, rfl⟩) (fun _ _ => ⟨_, _, rfl, rfl, ⟨_, _, rfl, rfl, rfl⟩⟩)
  have G_check_grouping := ok_check_grouping (b := true) (P := P) (w := w) (C := (ctOf K TT nm clN XT xlN)) (mg := mg) (base := base) (fun _ _ _ => trivial) F_check_grouping H_is_sequence ct X_BadGrouping (He.free_ok KX G (c.fact 16 (f := .free "enumerate") rfl)) H_is_whole_3 (He.free_ok KX G (c.fact 17 (f := .free "max") rfl)) (He.free_ok KX G (c.fact 18 (f := .free "len") rfl)) (He.free_ok KX G (c.fact 19 (f := .free "min") rfl)) (He.free_ok KX G (c.fact 10 (f := .free "tuple") rfl))
  have H_check_grouping_2 : HasF true P w (ctOf K TT nm clN XT xlN) mg base 3 "check_grouping" g_check_grouping 3 2 [] [0, 1, 2] [.bl false] := HasF.of G_check_grouping (He.glo_ok KX G (c.fact 20 (f := .glo "check_grouping") rfl)) F_check_grouping.kp (kbnD F_check_grouping (List.cons_ne_nil _ _) fun _ _ _ _ _ _ _ us its ws h1 h2 h3 => match us, its, ws, h1, h2, h3 with | [_, _], [_], [], _, _, _ => ⟨_, rfl, rfl⟩) (fun _ _ => ⟨_, _, rfl, rfl, rfl⟩)
  have H_check_grouping_1_gaps_grouping : HasF true P w (ctOf K TT nm clN XT xlN) mg base 3 "check_grouping" g_check_grouping 3 1 ["gaps", "grouping"] [0, 2, 1] [.bl false] := HasF.of G_check_grouping (He.glo_ok KX G (c.fact 20 (f := .glo "check_grouping") rfl)) F_check_grouping.kp (kbnD F_check_grouping (List.cons_ne_nil _ _) fun _ _ _ _ _ _ _ us its ws h1 h2 h3 => match us, its, ws, h1, h2, h3 with | [_], [_], [_, _], _, _, _ => ⟨_, rfl, rfl⟩) (fun _ _ => ⟨_, _, rfl, rfl, rfl⟩)
  have G_groups_many := ok_groups_many (b := true) (P := P) (w := w) (C := (ctOf K TT nm clN XT xlN)) (mg := mg) (base := base) (fun _ _ _ => trivial) F_groups_many ct (He.free_ok KX G (c.fact 18 (f := .free "len") rfl)) (He.free_ok KX G (c.fact 21 (f := .free "set") rfl))
  have H_groups_many : Has true P w (ctOf K TT nm clN XT xlN) mg base 1 "groups_many" g_groups_many 1 [] := Has.of G_groups_many (He.glo_ok KX G (c.fact 22 (f := .glo "groups_many") rfl)) F_groups_many.kp (F_groups_many.bindsN fun _ _ _ _ _ _ us hl => match us, hl with | [_], _ => rfl)
  have G0_groups_many := ok_groups_many (b := false) (P := P) (w := w) (C := (ctOf K TT nm clN XT xlN)) (mg := mg) (base := base) (fun _ _ _ => trivial) F_groups_many ct (He.free_ok KX G (c.fact 18 (f := .free "len") rfl)) (He.free_ok KX G (c.fact 21 (f := .free "set") rfl))
  have H0_groups_many : Has false P w (ctOf K TT nm clN XT xlN) mg base 1 "groups_many" g_groups_many 1 [] := Has.of G0_groups_many (He.glo_ok KX G (c.fact 22 (f := .glo "groups_many") rfl)) F_groups_many.kp (F_groups_many.bindsN fun _ _ _ _ _ _ us hl => match us, hl with | [_], _ => rfl)
  have G_check_count := ok_check_count (b := true) (P := P) (w := w) (C := (ctOf K TT nm clN XT xlN)) (mg := mg) (base := base) (fun _ _ _ => trivial) F_check_count H_is_whole_3 ct X_BadCount
  have H_check_count : Has true P w (ctOf K TT nm clN XT xlN) mg base 3 "check_count" g_check_count 1 [] := Has.of G_check_count (He.glo_ok KX G (c.fact 23 (f := .glo "check_count") rfl)) F_check_count.kp (F_check_count.bindsN fun _ _ _ _ _ _ us hl => match us, hl with | [_], _ => rfl)
  have G0_check_count := ok_check_count (b := false) (P := P) (w := w) (C := (ctOf K TT nm clN XT xlN)) (mg := mg) (base := base) (fun _ _ _ => trivial) F_check_count H0_is_whole_3 ct X_BadCount
  have H0_check_count : Has false P w (ctOf K TT nm clN XT xlN) mg base 3 "check_count" g_check_count 1 [] := Has.of G0_check_count (He.glo_ok KX G (c.fact 23 (f := .glo "check_count") rfl)) F_check_count.kp (F_check_count.bindsN fun _ _ _ _ _ _ us hl => match us, hl with | [_], _ => rfl)
  have H_all_groupings : HasN P w (ctOf K TT nm clN XT xlN) mg base 4 "all_groupings" g_all_groupings 1 := ⟨_, _, _, ok_all_groupings (P := P) (w := w) (C := (ctOf K TT nm clN XT xlN)) (mg := mg) (base := base) (fun _ _ _ => trivial) F_all_groupings (He.free_ok KX G (c.fact 24 (f := .free "range") rfl)) H0_groups_many ct H0_check_count, He.glo_ok KX G (c.fact 25 (f := .glo "all_groupings") rfl), F_all_groupings.kp, F_all_groupings.bindsN fun _ _ _ _ _ _ us hl => match us, hl with | [_], _ => rfl⟩
  have K_all_groupings : ∀ c, okx_all_groupings c = true → OexC ((ctOf K TT nm clN XT xlN)).K (((ctOf K TT nm clN XT xlN)).xcls c) := by
    intro c h
    simp only [okx_all_groupings, Bool.or_eq_true, decide_eq_true_eq] at h
    subst h
    · exact xc_BadCount.oe
  have G_count_groupings := ok_count_groupings (b := true) (P := P) (w := w) (C := (ctOf K TT nm clN XT xlN)) (mg := mg) (base := base) (fun _ _ _ => trivial) F_count_groupings H_check_count ct (He.free_ok KX G (c.fact 24 (f := .free "range") rfl)) (He.free_ok KX G (c.fact 18 (f := .free "len") rfl)) (He.free_ok KX G (c.fact 16 (f := .free "enumerate") rfl)) (He.free_ok KX G (c.fact 26 (f := .free "sum") rfl))
  have H_count_groupings : Has true P w (ctOf K TT nm clN XT xlN) mg base 4 "count_groupings" g_count_groupings 1 [] := Has.of G_count_groupings (He.glo_ok KX G (c.fact 27 (f := .glo "count_groupings") rfl)) F_count_groupings.kp (F_count_groupings.bindsN fun _ _ _ _ _ _ us hl => match us, hl with | [_], _ => rfl)
  have G_book_of := ok_book_of (b := true) (P := P) (w := w) (C := (ctOf K TT nm clN XT xlN)) (mg := mg) (base := base) (fun _ _ _ => trivial) F_book_of (He.free_ok KX G (c.fact 24 (f := .free "range") rfl)) H_groups_many ct (He.free_ok KX G (c.fact 10 (f := .free "tuple") rfl))
  have H_book_of : Has true P w (ctOf K TT nm clN XT xlN) mg base 2 "book_of" g_book_of 1 [] := Has.of G_book_of (He.glo_ok KX G (c.fact 28 (f := .glo "book_of") rfl)) F_book_of.kp (F_book_of.bindsN fun _ _ _ _ _ _ us hl => match us, hl with | [_], _ => rfl)
  have G__law_hand := ok__law_hand (b := true) (P := P) (w := w) (C := (ctOf K TT nm clN XT xlN)) (mg := mg) (base := base) (fun _ _ _ => trivial) F__law_hand (He.free_ok KX G (c.fact 18 (f := .free "len") rfl)) (He.free_ok KX G (c.fact 13 (f := .free "int") rfl)) (He.free_ok KX G (c.fact 29 (f := .free "abs") rfl))
  have H__law_hand : Has true P w (ctOf K TT nm clN XT xlN) mg base 1 "_law_hand" g__law_hand 1 [] := Has.of G__law_hand (He.glo_ok KX G (c.fact 30 (f := .glo "_law_hand") rfl)) F__law_hand.kp (F__law_hand.bindsN fun _ _ _ _ _ _ us hl => match us, hl with | [_], _ => rfl)
  have G__law_mixed := ok__law_mixed (b := true) (P := P) (w := w) (C := (ctOf K TT nm clN XT xlN)) (mg := mg) (base := base) (fun _ _ _ => trivial) F__law_mixed (He.free_ok KX G (c.fact 13 (f := .free "int") rfl))
  have H__law_mixed : Has true P w (ctOf K TT nm clN XT xlN) mg base 1 "_law_mixed" g__law_mixed 2 [] := Has.of G__law_mixed (He.glo_ok KX G (c.fact 31 (f := .glo "_law_mixed") rfl)) F__law_mixed.kp (F__law_mixed.bindsN fun _ _ _ _ _ _ us hl => match us, hl with | [_, _], _ => rfl)
  have G__law_take := ok__law_take (b := true) (P := P) (w := w) (C := (ctOf K TT nm clN XT xlN)) (mg := mg) (base := base) (fun _ _ _ => trivial) F__law_take (He.free_ok KX G (c.fact 18 (f := .free "len") rfl)) (He.free_ok KX G (c.fact 13 (f := .free "int") rfl)) H__law_mixed ct
  have H__law_take : Has true P w (ctOf K TT nm clN XT xlN) mg base 2 "_law_take" g__law_take 2 [] := Has.of G__law_take (He.glo_ok KX G (c.fact 32 (f := .glo "_law_take") rfl)) F__law_take.kp (F__law_take.bindsN fun _ _ _ _ _ _ us hl => match us, hl with | [_, _], _ => rfl)
  have G__law_many := ok__law_many (b := true) (P := P) (w := w) (C := (ctOf K TT nm clN XT xlN)) (mg := mg) (base := base) (fun _ _ _ => trivial) F__law_many (He.free_ok KX G (c.fact 17 (f := .free "max") rfl))
  have H__law_many : Has true P w (ctOf K TT nm clN XT xlN) mg base 1 "_law_many" g__law_many 1 [] := Has.of G__law_many (He.glo_ok KX G (c.fact 33 (f := .glo "_law_many") rfl)) F__law_many.kp (F__law_many.bindsN fun _ _ _ _ _ _ us hl => match us, hl with | [_], _ => rfl)
  have G__law_grouping := ok__law_grouping (b := true) (P := P) (w := w) (C := (ctOf K TT nm clN XT xlN)) (mg := mg) (base := base) (fun _ _ _ => trivial) F__law_grouping (He.free_ok KX G (c.fact 24 (f := .free "range") rfl)) H__law_take H__law_many ct
  have H__law_grouping : Has true P w (ctOf K TT nm clN XT xlN) mg base 3 "_law_grouping" g__law_grouping 2 [] := Has.of G__law_grouping (He.glo_ok KX G (c.fact 34 (f := .glo "_law_grouping") rfl)) F__law_grouping.kp (F__law_grouping.bindsN fun _ _ _ _ _ _ us hl => match us, hl with | [_, _], _ => rfl)
  have G__law_rid := ok__law_rid (b := true) (P := P) (w := w) (C := (ctOf K TT nm clN XT xlN)) (mg := mg) (base := base) (fun _ _ _ => trivial) F__law_rid H__law_take ct
  have H__law_rid : Has true P w (ctOf K TT nm clN XT xlN) mg base 3 "_law_rid" g__law_rid 1 [] := Has.of G__law_rid (He.glo_ok KX G (c.fact 35 (f := .glo "_law_rid") rfl)) F__law_rid.kp (F__law_rid.bindsN fun _ _ _ _ _ _ us hl => match us, hl with | [_], _ => rfl)
  have G__law_seq := ok__law_seq (b := true) (P := P) (w := w) (C := (ctOf K TT nm clN XT xlN)) (mg := mg) (base := base) (fun _ _ _ => trivial) F__law_seq (He.free_ok KX G (c.fact 9 (f := .free "isinstance") rfl)) (He.free_ok KX G (c.fact 11 (f := .free "list") rfl)) (He.free_ok KX G (c.fact 10 (f := .free "tuple") rfl))
  have H__law_seq : Has true P w (ctOf K TT nm clN XT xlN) mg base 1 "_law_seq" g__law_seq 1 [] := Has.of G__law_seq (He.glo_ok KX G (c.fact 36 (f := .glo "_law_seq") rfl)) F__law_seq.kp (F__law_seq.bindsN fun _ _ _ _ _ _ us hl => match us, hl with | [_], _ => rfl)
  have G__law_int := ok__law_int (b := true) (P := P) (w := w) (C := (ctOf K TT nm clN XT xlN)) (mg := mg) (base := base) (fun _ _ _ => trivial) F__law_int (He.free_ok KX G (c.fact 9 (f := .free "isinstance") rfl)) (He.free_ok KX G (c.fact 13 (f := .free "int") rfl)) (He.free_ok KX G (c.fact 14 (f := .free "bool") rfl))
  have H__law_int : Has true P w (ctOf K TT nm clN XT xlN) mg base 1 "_law_int" g__law_int 1 [] := Has.of G__law_int (He.glo_ok KX G (c.fact 37 (f := .glo "_law_int") rfl)) F__law_int.kp (F__law_int.bindsN fun _ _ _ _ _ _ us hl => match us, hl with | [_], _ => rfl)
  have G__law_within := ok__law_within (b := true) (P := P) (w := w) (C := (ctOf K TT nm clN XT xlN)) (mg := mg) (base := base) (fun _ _ _ => trivial) F__law_within H__law_int ct
  have H__law_within : Has true P w (ctOf K TT nm clN XT xlN) mg base 2 "_law_within" g__law_within 3 [] := Has.of G__law_within (He.glo_ok KX G (c.fact 38 (f := .glo "_law_within") rfl)) F__law_within.kp (F__law_within.bindsN fun _ _ _ _ _ _ us hl => match us, hl with | [_, _, _], _ => rfl)
  have G__law_row := ok__law_row (b := true) (P := P) (w := w) (C := (ctOf K TT nm clN XT xlN)) (mg := mg) (base := base) (fun _ _ _ => trivial) F__law_row H__law_take ct (He.free_ok KX G (c.fact 11 (f := .free "list") rfl)) (He.free_ok KX G (c.fact 10 (f := .free "tuple") rfl))
  have H__law_row : Has true P w (ctOf K TT nm clN XT xlN) mg base 3 "_law_row" g__law_row 2 [] := Has.of G__law_row (He.glo_ok KX G (c.fact 39 (f := .glo "_law_row") rfl)) F__law_row.kp (F__law_row.bindsN fun _ _ _ _ _ _ us hl => match us, hl with | [_, _], _ => rfl)
  have G__law_spoiled := ok__law_spoiled (b := true) (P := P) (w := w) (C := (ctOf K TT nm clN XT xlN)) (mg := mg) (base := base) (fun _ _ _ => trivial) F__law_spoiled H__law_take ct (He.free_ok KX G (c.fact 11 (f := .free "list") rfl)) H__law_rid (He.free_ok KX G (c.fact 18 (f := .free "len") rfl))
  have H__law_spoiled : Has true P w (ctOf K TT nm clN XT xlN) mg base 4 "_law_spoiled" g__law_spoiled 3 [] := Has.of G__law_spoiled (He.glo_ok KX G (c.fact 40 (f := .glo "_law_spoiled") rfl)) F__law_spoiled.kp (F__law_spoiled.bindsN fun _ _ _ _ _ _ us hl => match us, hl with | [_, _, _], _ => rfl)
  have G__law_all := ok__law_all (b := true) (P := P) (w := w) (C := (ctOf K TT nm clN XT xlN)) (mg := mg) (base := base) (fun _ _ _ => trivial) F__law_all (He.free_ok KX G (c.fact 11 (f := .free "list") rfl)) H_all_groupings K_all_groupings ct S_BadCount N_BadCount xo
  have H__law_all : Has true P w (ctOf K TT nm clN XT xlN) mg base 8 "_law_all" g__law_all 1 [] := Has.of G__law_all (He.glo_ok KX G (c.fact 41 (f := .glo "_law_all") rfl)) F__law_all.kp (F__law_all.bindsN fun _ _ _ _ _ _ us hl => match us, hl with | [_], _ => rfl)
  have G__law_counted := ok__law_counted (b := true) (P := P) (w := w) (C := (ctOf K TT nm clN XT xlN)) (mg := mg) (base := base) (fun _ _ _ => trivial) F__law_counted H_count_groupings ct S_BadCount N_BadCount xo
  have H__law_counted : Has true P w (ctOf K TT nm clN XT xlN) mg base 5 "_law_counted" g__law_counted 1 [] := Has.of G__law_counted (He.glo_ok KX G (c.fact 42 (f := .glo "_law_counted") rfl)) F__law_counted.kp (F__law_counted.bindsN fun _ _ _ _ _ _ us hl => match us, hl with | [_], _ => rfl)
  have G__law_count := ok__law_count (b := true) (P := P) (w := w) (C := (ctOf K TT nm clN XT xlN)) (mg := mg) (base := base) (fun _ _ _ => trivial) F__law_count H_check_count ct S_BadCount N_BadCount xo
  have H__law_count : Has true P w (ctOf K TT nm clN XT xlN) mg base 4 "_law_count" g__law_count 1 [] := Has.of G__law_count (He.glo_ok KX G (c.fact 43 (f := .glo "_law_count") rfl)) F__law_count.kp (F__law_count.bindsN fun _ _ _ _ _ _ us hl => match us, hl with | [_], _ => rfl)
  have G__law_checked := ok__law_checked (b := true) (P := P) (w := w) (C := (ctOf K TT nm clN XT xlN)) (mg := mg) (base := base) (fun _ _ _ => trivial) F__law_checked H_check_grouping_2 ct H_check_grouping_1_gaps_grouping S_BadGrouping N_BadGrouping xo
  have H__law_checked : Has true P w (ctOf K TT nm clN XT xlN) mg base 4 "_law_checked" g__law_checked 3 [] := Has.of G__law_checked (He.glo_ok KX G (c.fact 44 (f := .glo "_law_checked") rfl)) F__law_checked.kp (F__law_checked.bindsN fun _ _ _ _ _ _ us hl => match us, hl with | [_, _, _], _ => rfl)
  have G__law_checked_due := ok__law_checked_due (b := true) (P := P) (w := w) (C := (ctOf K TT nm clN XT xlN)) (mg := mg) (base := base) (fun _ _ _ => trivial) F__law_checked_due H__law_seq ct (He.free_ok KX G (c.fact 24 (f := .free "range") rfl)) (He.free_ok KX G (c.fact 18 (f := .free "len") rfl)) H__law_within (He.free_ok KX G (c.fact 17 (f := .free "max") rfl)) (He.free_ok KX G (c.fact 19 (f := .free "min") rfl)) (He.free_ok KX G (c.fact 10 (f := .free "tuple") rfl))
  have H__law_checked_due : Has true P w (ctOf K TT nm clN XT xlN) mg base 3 "_law_checked_due" g__law_checked_due 3 [] := Has.of G__law_checked_due (He.glo_ok KX G (c.fact 45 (f := .glo "_law_checked_due") rfl)) F__law_checked_due.kp (F__law_checked_due.bindsN fun _ _ _ _ _ _ us hl => match us, hl with | [_, _, _], _ => rfl)
  have G__law_book_due := ok__law_book_due (b := true) (P := P) (w := w) (C := (ctOf K TT nm clN XT xlN)) (mg := mg) (base := base) (fun _ _ _ => trivial) F__law_book_due ct (He.free_ok KX G (c.fact 10 (f := .free "tuple") rfl)) (He.free_ok KX G (c.fact 24 (f := .free "range") rfl)) H__law_many (He.free_ok KX G (c.fact 13 (f := .free "int") rfl))
  have H__law_book_due : Has true P w (ctOf K TT nm clN XT xlN) mg base 2 "_law_book_due" g__law_book_due 1 [] := Has.of G__law_book_due (He.glo_ok KX G (c.fact 46 (f := .glo "_law_book_due") rfl)) F__law_book_due.kp (F__law_book_due.bindsN fun _ _ _ _ _ _ us hl => match us, hl with | [_], _ => rfl)
  have G_law := ok_law (P := P) (w := w) (C := (ctOf K TT nm clN XT xlN)) (mg := mg) (base := base) (fun _ _ _ => trivial) F_law H__law_hand H__law_take ct H__law_all (He.free_ok KX G (c.fact 9 (f := .free "isinstance") rfl)) (He.free_ok KX G (c.fact 11 (f := .free "list") rfl)) (He.free_ok KX G (c.fact 24 (f := .free "range") rfl)) H__law_many (He.free_ok KX G (c.fact 47 (f := .free "repr") rfl)) H__law_counted (He.free_ok KX G (c.fact 18 (f := .free "len") rfl)) H__law_count H__law_grouping H__law_spoiled H__law_row H__law_checked H__law_checked_due (He.free_ok KX G (c.fact 10 (f := .free "tuple") rfl)) H_book_of H__law_book_due H_groups_many
  exact G_law
end K03
open PySem PySem.W PySem.Calls PyProof.Rows
theorem PySem.Challenge.cw_thinslopes_k03_whole_groupings_all_and_r_holds : PySem.Challenge.rw_thinslopes_k03_whole_groupings_all_and_r.Holds := by
  w_on; o_law
  refine HandSHeadRun.head_any (r := OpenLaw.row PySem.Challenge.rw_thinslopes_k03_whole_groupings_all_and_r) (q := view (OpenLaw.row PySem.Challenge.rw_thinslopes_k03_whole_groupings_all_and_r).prog [32]) (H := K03.hk) (ob := K03.ob) (M := 100000) (loose := K03.loose) (d := HandSHeadRun.topDef (OpenLaw.row PySem.Challenge.rw_thinslopes_k03_whole_groupings_all_and_r).prog 32) (kwd := []) K03.ob_eq
    (by kernel_rfl) (fun s => by kernel_rfl) K03.run (by kernel_rfl) (by kernel_rfl) (by kernel_rfl) (by rfl) (by first | assumption | decide +kernel) (by decide +kernel) ⟨rfl, rfl, rfl, rfl, rfl, by decide +kernel⟩ ?hw ?hc
  case hw => w_witness2
  case hc =>
    refine L3.walk_g (l := PySem.Challenge.rw_thinslopes_k03_whole_groupings_all_and_r) (n := 63) (k := 9) (x := "_law_script") rfl (by decide) (by kernel_rfl) ⟨rfl, by decide, by decide⟩ ?F
    intro w mg fa h Y G hmg0
    obtain ⟨K, KX, c, xc⟩ := Y
    have hmg : mg ("law" : PySem.Str) = some (.ref fa) := by
      have e : (HandSHeadRun.topDef (OpenLaw.row PySem.Challenge.rw_thinslopes_k03_whole_groupings_all_and_r).prog 32).name = ("law" : PySem.Str) := by kernel_rfl
      rw [← e]
      exact hmg0
    obtain ⟨C, fd, h1, h2, h3⟩ := K03.facts (P := (PySem.Challenge.rw_thinslopes_k03_whole_groupings_all_and_r).prog) (w := w) KX G hmg c xc
    exact ⟨C, fd, K03.g_law, h1, h2, fun ns hl hb => K03.law_true ns hl hb, h3⟩

