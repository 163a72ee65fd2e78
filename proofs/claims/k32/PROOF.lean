import PyProof.Rows.All
import HandS.ForMost
import HandS.Defaults
import HandS.Deep
import HandS.Flow
import HandS.TupAny
import HandS.Zip
import HandS.DictComp
import HandS.SetKeys
import HandS.Strs
import HandS.Conv
import HandS.FStr
import HandS.Wide
import HandS.TupSets
import KE.SortData
import KE.LtData
import KE.SortKeyHeap
import KE.KEqDict
import KE.DataCmp
import HandS.NoneIn
import HandS.Style
import HandS.IsInst
import HandS.More
import HandS.Small
import HandS.Comp
import KE.KDictSum
import HandS.Sort
import HandS.SetTxt0
import HandS.SetFor
import HandS.Iter
import HandS.Codes
import HandS.Words
import HandS.SortKw
import KE.DataMinMax
import KE.KRevSl
import HandS.List
import KE.GoesEnum
import PyProof.EnumMake
import KE.KIntText
import PyProof.Rows.StrIntSpec
import PyProof.StrBlockL
import PyProof.StrLaws
import Wide.All
import OpenK.AllK
import Wide.FinOn
import PySem.Challenge.RW_callhouse_k32_layings_spoilt
section
set_option Elab.async false
set_option linter.all false
set_option maxRecDepth 100000
/-! Trees of data over the hand layer: D, the store, what stands for what. -/
namespace T
open PySem PySem.Spec PyProof.Rows L2

/-- data: trees; refs stand for objects of the store -/
inductive D where
  | non | bl (b : Bool) | int (i : Int) | str (s : Str)
  | tup (ds : List D) | lst (ds : List D)
  | dK (kvs : List (Key × D)) | dT (kvs : List (List Key × D))
  | ref (a : Addr)
  | scr (is : List Int)
  | ktup (ds : List D)
  deriving Inhabited
/-- objects that may change -/
inductive MO where
  | lst (ds : List D) | dK (kvs : List (Key × D)) | dT (kvs : List (List Key × D))
  | ins (C : Addr) (fs : List (Str × D))
abbrev Store := Addr → Option MO
def st0 : Store := fun _ => none
def put (G : Store) (a : Addr) (o : MO) : Store := fun b => if b = a then some o else G b
theorem put_same {G : Store} {a : Addr} {o : MO} : put G a o a = some o := by unfold put; rw [if_pos rfl]
theorem put_ne {G : Store} {a b : Addr} {o : MO} (h : b ≠ a) : put G a o b = G b := by unfold put; rw [if_neg h]
theorem put_put {G : Store} {a : Addr} {o u : MO} : put (put G a o) a u = put G a u := by
  funext b; unfold put; split <;> rfl

section
variable (K : PySem.W.Frag) (H : Hp) (G : Store)
/-- a tuple (list) that never changes any more -/
def FzT (a : Addr) (vs : List V) : Prop := G a = none ∧ H a = some (.tup vs)
/-- a tuple of the written part -/
def WrT (K : PySem.W.Frag) (a : Addr) (vs : List V) : Prop :=
  ∃ (o : Obj) (its : Array Value) (n : Nat), K.lookup a = some o ∧ o.cls = .type "tuple" ∧ o.data = .seq its n ∧ its.size ≤ sizeLine ∧ Vals vs its.toList
def FzL (a : Addr) (vs : List V) : Prop := G a = none ∧ ∃ o, H a = some (.frz o (.lst vs))
/-- a list that is only read (the script) -/
def FzS (a : Addr) (vs : List V) : Prop := (G a = none ∧ ∃ o, H a = some (.frz o (.lst vs))) ∨
  ∃ (o : Obj) (its : Array Value) (n : Nat), K.lookup a = some o ∧ o.cls = .type "list" ∧ o.dict = none ∧ o.data = .seq its n ∧ its.size ≤ sizeLine ∧ Vals vs its.toList
mutual
def Tr : D → V → Prop
  | .non, v => v = .non
  | .bl b, v => v = .bl b
  | .int i, v => v = .int i
  | .str s, v => v = .str s
  | .tup ds, v => ∃ a vs, v = .ref a ∧ FzT H G a vs ∧ TrL ds vs
  | .lst ds, v => ∃ a vs, v = .ref a ∧ FzL H G a vs ∧ TrL ds vs
  | .dK kvs, v => ∃ a kws, v = .ref a ∧ (G a = none ∧ ∃ o, H a = some (.frz o (.dK kws))) ∧ TrK kvs kws
  | .dT kvs, v => ∃ a kws, v = .ref a ∧ (G a = none ∧ ∃ o, H a = some (.frz o (.dT kws))) ∧ TrT kvs kws
  | .ref a, v => v = .ref a
  | .scr is, v => ∃ a, v = .ref a ∧ FzS K H G a (is.map V.int)
  | .ktup ds, v => ∃ a vs, v = .ref a ∧ WrT K a vs ∧ TrL ds vs
def TrL : List D → List V → Prop
  | [], vs => vs = []
  | d :: ds, vs => ∃ v ws, vs = v :: ws ∧ Tr d v ∧ TrL ds ws
def TrK : List (Key × D) → List (Key × V) → Prop
  | [], vs => vs = []
  | (k, d) :: ds, vs => ∃ v ws, vs = (k, v) :: ws ∧ Tr d v ∧ TrK ds ws
def TrT : List (List Key × D) → List (List Key × V) → Prop
  | [], vs => vs = []
  | (k, d) :: ds, vs => ∃ v ws, vs = (k, v) :: ws ∧ Tr d v ∧ TrT ds ws
end
/-- what an object of the store is on the abstract heap -/
def ObjIs (a : Addr) : MO → Prop
  | .lst ds => ∃ vs, H a = some (.lst vs) ∧ TrL K H G ds vs
  | .dK kvs => ∃ kws, H a = some (.dK kws) ∧ TrK K H G kvs kws
  | .dT kvs => ∃ kws, H a = some (.dT kws) ∧ TrT K H G kvs kws
  | .ins C fs => ∃ dx fs', H a = some (.ins C dx fs') ∧ fs.map (·.1) = fs'.map (·.1) ∧ TrL K H G (fs.map (·.2)) (fs'.map (·.2))
def Sto : Prop := ∀ a o, G a = some o → ObjIs K H G a o
/-- slots -/
abbrev Sl := List (Option D)
def Sts (σ : Sl) (τ : L2.St) : Prop := σ.length = τ.length ∧ ∀ (i : Nat) d, σ[i]? = some (some d) → ∃ v, τ[i]? = some (some v) ∧ Tr K H G d v
end
def IsDat : HO → Prop
  | .lst _ => True | .tup _ => True | .dK _ => True | .dT _ => True | _ => False
/-- what is frozen (locked, or a tuple) stays so -/
structure Ext0 (G : Store) (H : Hp) (G' : Store) (H' : Hp) : Prop where
  fz : ∀ a o u, IsDat u → G a = none → H a = some (.frz o u) → G' a = none ∧ H' a = some (.frz o u)
  ts : ∀ a vs, G a = none → H a = some (.tup vs) → G' a = none ∧ H' a = some (.tup vs)
/-- .. and what is neither frozen nor of the store isn't touched -/
structure Ext (G : Store) (H : Hp) (G' : Store) (H' : Hp) : Prop extends Ext0 G H G' H' where
  un : ∀ a u, Mut (some u) → G a = none → H a = some u → G' a = none ∧ H' a = some u
theorem Ext.refl (G : Store) (H : Hp) : Ext G H G H := ⟨⟨fun _ _ _ _ h r => ⟨h, r⟩, fun _ _ h r => ⟨h, r⟩⟩, fun _ _ _ h r => ⟨h, r⟩⟩
theorem Ext.trans {G G1 G2 : Store} {H H1 H2 : Hp} (a : Ext G H G1 H1) (b : Ext G1 H1 G2 H2) : Ext G H G2 H2 := ⟨⟨fun x o u d h r =>
  let ⟨h1, r1⟩ := a.fz x o u d h r
  b.fz x o u d h1 r1, fun x vs h r =>
  let ⟨h1, r1⟩ := a.ts x vs h r
  b.ts x vs h1 r1⟩, fun x u m h r =>
  let ⟨h1, r1⟩ := a.un x u m h r
  b.un x u m h1 r1⟩
section
variable {K : PySem.W.Frag} {H H' : Hp} {G G' : Store}
theorem FzT.ext0 (e : Ext0 G H G' H') {a : Addr} {vs : List V} (h : FzT H G a vs) : FzT H' G' a vs := e.ts a vs h.1 h.2
theorem WrT.sq {a : Addr} {vs : List V} (h : WrT K a vs) : SqT K H a vs := .inr h
theorem FzL.ext0 (e : Ext0 G H G' H') {a : Addr} {vs : List V} (h : FzL H G a vs) : FzL H' G' a vs := let ⟨o, q⟩ := h.2; ⟨(e.fz a o (.lst vs) trivial h.1 q).1, o, (e.fz a o (.lst vs) trivial h.1 q).2⟩
theorem FzS.ext0 (e : Ext0 G H G' H') {a : Addr} {vs : List V} (h : FzS K H G a vs) : FzS K H' G' a vs := h.imp (fun h => let ⟨o, q⟩ := h.2; ⟨(e.fz a o (.lst vs) trivial h.1 q).1, o, (e.fz a o (.lst vs) trivial h.1 q).2⟩) id
theorem FzT.sq {a : Addr} {vs : List V} (h : FzT H G a vs) : SqT K H a vs := .of h.2
theorem FzL.sq {a : Addr} {vs : List V} (h : FzL H G a vs) : SqL K H a vs := .inl (.inr h.2)
theorem FzS.sq {a : Addr} {vs : List V} (h : FzS K H G a vs) : SqL K H a vs := h.imp (fun h => .inr h.2) id
mutual
theorem Tr.ext0 (e : Ext0 G H G' H') : ∀ (d : D) (v : V), Tr K H G d v → Tr K H' G' d v
  | .non, _, h => h
  | .bl _, _, h => h
  | .int _, _, h => h
  | .str _, _, h => h
  | .tup ds, _, ⟨a, vs, h1, h2, h3⟩ => ⟨a, vs, h1, h2.ext0 e, TrL.ext0 e ds vs h3⟩
  | .lst ds, _, ⟨a, vs, h1, h2, h3⟩ => ⟨a, vs, h1, h2.ext0 e, TrL.ext0 e ds vs h3⟩
  | .dK kvs, _, ⟨a, vs, h1, ⟨h2, o, h3⟩, h4⟩ => ⟨a, vs, h1, ⟨(e.fz a o (.dK vs) trivial h2 h3).1, o, (e.fz a o (.dK vs) trivial h2 h3).2⟩, TrK.ext0 e kvs vs h4⟩
  | .dT kvs, _, ⟨a, vs, h1, ⟨h2, o, h3⟩, h4⟩ => ⟨a, vs, h1, ⟨(e.fz a o (.dT vs) trivial h2 h3).1, o, (e.fz a o (.dT vs) trivial h2 h3).2⟩, TrT.ext0 e kvs vs h4⟩
  | .ref _, _, h => h
  | .scr _, _, ⟨a, h1, h2⟩ => ⟨a, h1, h2.ext0 e⟩
  | .ktup ds, _, ⟨a, vs, h1, h2, h3⟩ => ⟨a, vs, h1, h2, TrL.ext0 e ds vs h3⟩
theorem TrL.ext0 (e : Ext0 G H G' H') : ∀ (ds : List D) (vs : List V), TrL K H G ds vs → TrL K H' G' ds vs
  | [], _, h => h
  | d :: ds, _, ⟨v, ws, h1, h2, h3⟩ => ⟨v, ws, h1, Tr.ext0 e d v h2, TrL.ext0 e ds ws h3⟩
theorem TrK.ext0 (e : Ext0 G H G' H') : ∀ (ds : List (Key × D)) (vs : List (Key × V)), TrK K H G ds vs → TrK K H' G' ds vs
  | [], _, h => h
  | (_, d) :: ds, _, ⟨v, ws, h1, h2, h3⟩ => ⟨v, ws, h1, Tr.ext0 e d v h2, TrK.ext0 e ds ws h3⟩
theorem TrT.ext0 (e : Ext0 G H G' H') : ∀ (ds : List (List Key × D)) (vs : List (List Key × V)), TrT K H G ds vs → TrT K H' G' ds vs
  | [], _, h => h
  | (_, d) :: ds, _, ⟨v, ws, h1, h2, h3⟩ => ⟨v, ws, h1, Tr.ext0 e d v h2, TrT.ext0 e ds ws h3⟩
end
theorem Sts.ext0 (e : Ext0 G H G' H') {σ : Sl} {τ : L2.St} (h : Sts K H G σ τ) : Sts K H' G' σ τ := ⟨h.1, fun i d q => let ⟨v, r, t⟩ := h.2 i d q; ⟨v, r, t.ext0 e⟩⟩

theorem FzT.ext (e : Ext G H G' H') {a : Addr} {vs : List V} (h : FzT H G a vs) : FzT H' G' a vs := h.ext0 e.toExt0
theorem FzL.ext (e : Ext G H G' H') {a : Addr} {vs : List V} (h : FzL H G a vs) : FzL H' G' a vs := h.ext0 e.toExt0
theorem FzS.ext (e : Ext G H G' H') {a : Addr} {vs : List V} (h : FzS K H G a vs) : FzS K H' G' a vs := h.ext0 e.toExt0
theorem Tr.ext (e : Ext G H G' H') (d : D) (v : V) (h : Tr K H G d v) : Tr K H' G' d v := Tr.ext0 e.toExt0 d v h
theorem TrL.ext (e : Ext G H G' H') (ds : List D) (vs : List V) (h : TrL K H G ds vs) : TrL K H' G' ds vs := TrL.ext0 e.toExt0 ds vs h
theorem TrK.ext (e : Ext G H G' H') (ds : List (Key × D)) (vs : List (Key × V)) (h : TrK K H G ds vs) : TrK K H' G' ds vs := TrK.ext0 e.toExt0 ds vs h
theorem TrT.ext (e : Ext G H G' H') (ds : List (List Key × D)) (vs : List (List Key × V)) (h : TrT K H G ds vs) : TrT K H' G' ds vs := TrT.ext0 e.toExt0 ds vs h
theorem Sts.ext (e : Ext G H G' H') {σ : Sl} {τ : L2.St} (h : Sts K H G σ τ) : Sts K H' G' σ τ := h.ext0 e.toExt0

/-! ### lists of trees -/
theorem TrL.length : ∀ {ds : List D} {vs : List V}, TrL K H G ds vs → ds.length = vs.length
  | [], _, h => by cases h; rfl
  | _ :: ds, _, ⟨_, _, e, _, h⟩ => by subst e; simp [TrL.length h]
theorem TrL.get : ∀ {ds : List D} {vs : List V} {i : Nat} {d : D}, TrL K H G ds vs → ds[i]? = some d → ∃ v, vs[i]? = some v ∧ Tr K H G d v
  | [], _, _, _, _, e => by simp at e
  | _ :: ds, _, 0, d, ⟨v, ws, e, t, h⟩, q => by subst e; simp at q; subst q; exact ⟨v, rfl, t⟩
  | _ :: ds, _, i + 1, d, ⟨v, ws, e, t, h⟩, q => by
    subst e
    obtain ⟨u, a, b⟩ := TrL.get (i := i) h (by simpa using q)
    exact ⟨u, by simpa using a, b⟩
theorem TrL.getV : ∀ {ds : List D} {vs : List V} {i : Nat} {v : V}, TrL K H G ds vs → vs[i]? = some v → ∃ d, ds[i]? = some d ∧ Tr K H G d v
  | [], _, _, _, h, e => by cases h; simp at e
  | d :: ds, _, 0, _, ⟨v, ws, e, t, h⟩, q => by subst e; simp at q; subst q; exact ⟨d, rfl, t⟩
  | _ :: ds, _, i + 1, _, ⟨v, ws, e, t, h⟩, q => by
    subst e
    obtain ⟨u, a, b⟩ := TrL.getV (i := i) h (by simpa using q)
    exact ⟨u, by simpa using a, b⟩
theorem TrL.append : ∀ {ds es : List D} {vs ws : List V}, TrL K H G ds vs → TrL K H G es ws → TrL K H G (ds ++ es) (vs ++ ws)
  | [], _, _, _, h, k => by cases h; exact k
  | _ :: ds, _, _, _, ⟨v, us, e, t, h⟩, k => by subst e; exact ⟨v, us ++ _, rfl, t, h.append k⟩
theorem TrL.one {d : D} {v : V} (h : Tr K H G d v) : TrL K H G [d] [v] := ⟨v, [], rfl, h, rfl⟩
theorem TrL.cons {d : D} {v : V} {ds : List D} {vs : List V} (h : Tr K H G d v) (k : TrL K H G ds vs) : TrL K H G (d :: ds) (v :: vs) := ⟨v, vs, rfl, h, k⟩
theorem TrL.nil : TrL K H G [] [] := rfl
theorem TrL.take : ∀ {ds : List D} {vs : List V} (n : Nat), TrL K H G ds vs → TrL K H G (ds.take n) (vs.take n)
  | [], _, n, h => by cases h; simp; rfl
  | _ :: _, _, 0, _ => by simp; rfl
  | _ :: ds, _, n + 1, ⟨v, us, e, t, h⟩ => by subst e; exact ⟨v, us.take n, rfl, t, h.take n⟩
theorem TrL.drop : ∀ {ds : List D} {vs : List V} (n : Nat), TrL K H G ds vs → TrL K H G (ds.drop n) (vs.drop n)
  | [], _, n, h => by cases h; simp; rfl
  | _ :: _, _, 0, h => by simpa using h
  | _ :: ds, _, n + 1, ⟨v, us, e, t, h⟩ => by subst e; exact h.drop n
theorem TrL.set : ∀ {ds : List D} {vs : List V} {d : D} {v : V} (n : Nat), Tr K H G d v → TrL K H G ds vs → TrL K H G (ds.set n d) (vs.set n v)
  | [], _, _, _, n, _, h => by cases h; simp; rfl
  | _ :: _, _, _, v, 0, t, ⟨u, us, e, _, h⟩ => by subst e; exact ⟨v, us, rfl, t, h⟩
  | _ :: ds, _, _, v, n + 1, t, ⟨u, us, e, q, h⟩ => by subst e; exact ⟨u, us.set n v, rfl, q, h.set n t⟩
theorem TrL.eraseIdx : ∀ {ds : List D} {vs : List V} (n : Nat), TrL K H G ds vs → TrL K H G (ds.eraseIdx n) (vs.eraseIdx n)
  | [], _, n, h => by cases h; simp; rfl
  | _ :: _, _, 0, ⟨u, us, e, _, h⟩ => by subst e; exact h
  | _ :: ds, _, n + 1, ⟨u, us, e, q, h⟩ => by subst e; exact ⟨u, us.eraseIdx n, rfl, q, h.eraseIdx n⟩
theorem TrL.reverse : ∀ {ds : List D} {vs : List V}, TrL K H G ds vs → TrL K H G ds.reverse vs.reverse
  | [], _, h => by cases h; rfl
  | _ :: ds, _, ⟨u, us, e, q, h⟩ => by subst e; rw [List.reverse_cons, List.reverse_cons]; exact h.reverse.append (.one q)
theorem TrL.rep : ∀ {ds : List D} {vs : List V} (k : Nat), TrL K H G ds vs → TrL K H G (List.replicate k ds).flatten (List.replicate k vs).flatten
  | _, _, 0, _ => rfl
  | ds, vs, k + 1, h => by rw [List.replicate_succ, List.replicate_succ, List.flatten_cons, List.flatten_cons]; exact h.append (h.rep k)
theorem TrL.of_get : ∀ {ds : List D} {vs : List V}, ds.length = vs.length → (∀ (i : Nat) d v, ds[i]? = some d → vs[i]? = some v → Tr K H G d v) → TrL K H G ds vs
  | [], [], _, _ => rfl
  | d :: ds, v :: vs, l, h => ⟨v, vs, rfl, h 0 d v rfl rfl, TrL.of_get (by simpa using l) fun i d v a b => h (i + 1) d v (by simpa using a) (by simpa using b)⟩
  | [], _ :: _, l, _ => by simp at l
  | _ :: _, [], l, _ => by simp at l
theorem TrL.nil_iff {ds : List D} {vs : List V} (h : TrL K H G ds vs) : ds = [] ↔ vs = [] := by
  rw [← List.length_eq_zero_iff, ← List.length_eq_zero_iff, h.length]
theorem TrK.length : ∀ {ds : List (Key × D)} {vs : List (Key × V)}, TrK K H G ds vs → ds.length = vs.length
  | [], _, h => by cases h; rfl
  | (_, _) :: ds, _, ⟨_, _, e, _, h⟩ => by subst e; simp [TrK.length h]
theorem TrT.length : ∀ {ds : List (List Key × D)} {vs : List (List Key × V)}, TrT K H G ds vs → ds.length = vs.length
  | [], _, h => by cases h; rfl
  | (_, _) :: ds, _, ⟨_, _, e, _, h⟩ => by subst e; simp [TrT.length h]

/-! ### looking an object up -/
/-- the object that a ref stands for, as a tree -/
def lk (G : Store) : D → D
  | .ref a => match G a with
    | some (.lst ds) => .lst ds
    | some (.dK k) => .dK k
    | some (.dT k) => .dT k
    | _ => .ref a
  | d => d
/-- may be read as d now -/
def Rb (K : PySem.W.Frag) (H : Hp) (G : Store) : D → V → Prop
  | .tup ds, v => ∃ a vs, v = .ref a ∧ FzT H G a vs ∧ TrL K H G ds vs
  | .lst ds, v => ∃ a vs, v = .ref a ∧ Rd H a (.lst vs) ∧ TrL K H G ds vs
  | .dK kvs, v => ∃ a kws, v = .ref a ∧ Rd H a (.dK kws) ∧ TrK K H G kvs kws
  | .dT kvs, v => ∃ a kws, v = .ref a ∧ Rd H a (.dT kws) ∧ TrT K H G kvs kws
  | .non, v => v = .non
  | .bl b, v => v = .bl b
  | .int i, v => v = .int i
  | .str s, v => v = .str s
  | .ref a, v => v = .ref a
  | .scr is, v => ∃ a, v = .ref a ∧ SqL K H a (is.map V.int)
  | .ktup ds, v => ∃ a vs, v = .ref a ∧ WrT K a vs ∧ TrL K H G ds vs
theorem Tr.rb {d : D} {v : V} (h : Tr K H G d v) : Rb K H G d v := by
  cases d with
  | tup ds => exact h
  | lst ds => obtain ⟨a, vs, e, q, t⟩ := h; exact ⟨a, vs, e, .inr q.2, t⟩
  | dK ds => obtain ⟨a, vs, e, q, t⟩ := h; exact ⟨a, vs, e, .inr q.2, t⟩
  | dT ds => obtain ⟨a, vs, e, q, t⟩ := h; exact ⟨a, vs, e, .inr q.2, t⟩
  | scr is => obtain ⟨a, e, q⟩ := h; exact ⟨a, e, q.sq⟩
  | _ => exact h
theorem Sto.rb (S : Sto K H G) {d : D} {v : V} (h : Tr K H G d v) : Rb K H G (lk G d) v := by
  cases d with
  | ref a =>
    have e : v = .ref a := h
    subst e
    cases q : G a with
    | none => simp only [lk, q]; rfl
    | some o =>
      have s := S a o q
      cases o with
      | lst ds => obtain ⟨vs, e, t⟩ := s; simp only [lk, q]; exact ⟨a, vs, rfl, .inl e, t⟩
      | dK ds => obtain ⟨vs, e, t⟩ := s; simp only [lk, q]; exact ⟨a, vs, rfl, .inl e, t⟩
      | dT ds => obtain ⟨vs, e, t⟩ := s; simp only [lk, q]; exact ⟨a, vs, rfl, .inl e, t⟩
      | ins C fs => simp only [lk, q]; rfl
  | tup ds => exact h.rb
  | lst ds => exact h.rb
  | dK ds => exact h.rb
  | dT ds => exact h.rb
  | scr is => exact h.rb
  | ktup ds => exact h.rb
  | _ => exact h
end

/-! ### lifting -/
section
variable (K : PySem.W.Frag)
/-- what follows -/
abbrev DK := D → Store → Prop
def Kont (G : Store) (H : Hp) (q : DK) (Q : VK) : Prop := ∀ v d G' H', Ext G H G' H' → Sto K H' G' → Tr K H' G' d v → q d G' → Q v H'
abbrev TW := Sl → Store → DK → Prop
def lE (w : TW) : TE := fun τ H Q => ∃ σ G q, Sts K H G σ τ ∧ Sto K H G ∧ w σ G q ∧ Kont K G H q Q
def KontB (G : Store) (H : Hp) (q : Bool → Store → Prop) (Q : Bool → Hp → Prop) : Prop := ∀ b G' H', Ext G H G' H' → Sto K H' G' → q b G' → Q b H'
abbrev TWB := Sl → Store → (Bool → Store → Prop) → Prop
def lT (w : TWB) : TT := fun τ H Q => ∃ σ G q, Sts K H G σ τ ∧ Sto K H G ∧ w σ G q ∧ KontB K G H q Q
def KontL (G : Store) (H : Hp) (q : List D → Store → Prop) (Q : List V → Hp → Prop) : Prop := ∀ vs ds G' H', Ext G H G' H' → Sto K H' G' → TrL K H' G' ds vs → q ds G' → Q vs H'
abbrev TWL := Sl → Store → (List D → Store → Prop) → Prop
def lA (w : TWL) : TA := fun τ H Q => ∃ σ G q, Sts K H G σ τ ∧ Sto K H G ∧ w σ G q ∧ KontL K G H q Q
end
/-! ### locking -/
/-- Q holds when some objects have been locked -/
inductive LockQ (Q : Hp → Prop) : Hp → Prop
  | done {H : Hp} : Q H → LockQ Q H
  | lock {H : Hp} (d : Addr) (u : HO) : H d = some u → Mut (some u) → (∀ od, LockQ Q (upd H d (.frz od u))) → LockQ Q H
theorem LockQ.run {X : Cx} {pins : List (Addr × Obj)} {σ : L2.St} {s : Shared} {Q : Hp → Prop} : ∀ {H : Hp}, LockQ Q H → Inv X pins σ H s → ∃ H', Inv X pins σ H' s ∧ Q H' := by
  intro H h
  induction h with
  | done q => exact fun I => ⟨_, I, q⟩
  | lock d u e m _ ih => exact fun I => let ⟨od, I'⟩ := I.lock e m; ih od I'
theorem upd_upd {H : Hp} {p : Addr} {o u : HO} : upd (upd H p o) p u = upd H p u := by
  funext b
  by_cases e : b = p
  · subst e; rw [upd_same, upd_same]
  · rw [upd_ne e, upd_ne e, upd_ne e]
theorem LockQ.new {Q : Hp → Prop} {H : Hp} {p : Addr} {u : HO} (m : Mut (some u)) (h : ∀ od, Q (upd H p (.frz od u))) : LockQ Q (upd H p u) := .lock p u upd_same m fun od => .done (by rw [upd_upd]; exact h od)
end T
end
section
set_option Elab.async false
set_option linter.all false
set_option maxRecDepth 100000
/-! A small language over trees of data, and what it wants of a state (weakest preconditions). -/
namespace T
open PySem L2

/-- built-in functions of one, two or three values -/
inductive Bi where
  | len | sum | all | any | min2 | max2 | minL | tuple | list | listM | dict | dictT | int | str | abs
  | isInt | isBool | isStr | isTup | isLst
  deriving DecidableEq, Repr
/-- methods of built-in types -/
inductive Bm where
  | append | extend | pop | popAt | insert | count | get2 | popD | join | split | update | addM
  deriving DecidableEq, Repr
inductive Op where
  | add | sub | mul | fdiv | mod | pow
  deriving DecidableEq, Repr
inductive Cm where
  | eq | ne | lt | le | gt | ge | isN | notN | isT | notT | isF | notF | in_ | notIn
  deriving DecidableEq, Repr

inductive E where
  | var (i : Nat) | glob (x : Str)
  | non | bl (b : Bool) | int (i : Int) | str (s : Str)
  | tup (es : List E) | lst (m : Bool) (es : List E)
  /-- {} that will be filled: t: its keys are tuples -/
  | dic (t : Bool)
  /-- {k: v, ..}; t: keys are tuples, m: it will change -/
  | dsp (t m : Bool) (kvs : List E)
  | bin (op : Op) (a b : E) | neg (a : E)
  | cmp (op : Cm) (a b : E) | chain (op op' : Cm) (a b c : E)
  | and (es : List E) | or (es : List E) | not (a : E)
  | ife (c a b : E)
  | idx (a i : E) | cut (a lo hi : E) | rev (a : E) | absent
  | att (a : E) (f : Str)
  | call (f : Str) (args : List E) (ks : List Str) (kws : List E)
  | meth (o : E) (m : Str) (args : List E)
  | bi (b : Bi) (args : List E)
  | bm (o : E) (b : Bm) (args : List E)
  /-- t[:n].count(k) of a tuple -/
  | cnt (a h k : E)
  | sorted (m : Bool) (a : E) | sortedBy (m : Bool) (f : Str) (a : E) | sortedSet (m : Bool) (a : E)
  | lc (m : Bool) (elt pat it : E) (ifs : List E) (own : List Nat)
  | dc (t m : Bool) (k v pat it : E) (own : List Nat)
  | fstr (es : List E)
  -- what is walked
  | range1 (a : E) | range2 (a b : E) | enum (a : E) | zip (a b : E) | zip3 (a b c : E) | items (a : E)
  -- targets
  | pname (i : Nat) | ptup (ps : List E) | psub (o i : E) | pcut (o lo hi : E) | patt (o : E) (f : Str)
  deriving Inhabited

inductive S where
  | asg (p e : E) | par (is : List Nat) (es : List E) | aug (i : Nat) (op : Op) (e : E)
  | exp (e : E) | ret (e : E)
  | ite (c : E) (a b : List S) | for_ (p it : E) (body : List S) | whl (c : E) (body : List S)
  | cont | pass
  | raise (c : Str) (args : List E)
  /-- another view of the state: nothing stands in the text -/
  | view
  deriving Inhabited

/-! ### values -/
abbrev LN : Nat := 16777216
section
variable {κ β : Type} [DecidableEq κ]
def look (kvs : List (κ × β)) (k : κ) : Option β := (kvs.find? fun kv => decide (kv.1 = k)).map (·.2)
def putG (kvs : List (κ × β)) (k : κ) (v : β) : List (κ × β) :=
  if (kvs.any fun kv => decide (kv.1 = k)) then kvs.map (fun kv => if kv.1 = k then (kv.1, v) else kv) else kvs ++ [(k, v)]
def dropG (kvs : List (κ × β)) (k : κ) : List (κ × β) := kvs.filter fun kv => decide (kv.1 ≠ k)
end
def keyOf : D → Option Key
  | .int i => some (.inl i)
  | .str s => some (.inr s)
  | _ => none
def keysOf : D → Option (List Key)
  | .tup ds => ds.mapM keyOf
  | _ => none
def dKey : Key → D
  | .inl i => .int i
  | .inr s => .str s
def dKeys (ks : List Key) : D := .tup (ks.map dKey)
/- pure data -/
mutual
def D.pure : D → Bool
  | .non | .bl _ | .int _ | .str _ => true
  | .tup ds => D.pureL ds
  | .lst ds => D.pureL ds
  | .dK _ | .dT _ | .ref _ | .scr _ | .ktup _ => false
def D.pureL : List D → Bool
  | [] => true
  | d :: ds => d.pure && D.pureL ds
end
mutual
def D.py : D → PyData
  | .non | .dK _ | .dT _ | .ref _ | .scr _ | .ktup _ => .none
  | .bl b => .bool b
  | .int i => .int i
  | .str s => .str s
  | .tup ds => .tuple (D.pyL ds)
  | .lst ds => .list (D.pyL ds)
def D.pyL : List D → List PyData
  | [] => []
  | d :: ds => d.py :: D.pyL ds
end
mutual
def D.dep : D → Nat
  | .non | .bl _ | .int _ | .str _ | .dK _ | .dT _ | .ref _ | .scr _ | .ktup _ => 0
  | .tup ds => D.depL ds + 1
  | .lst ds => D.depL ds + 1
def D.depL : List D → Nat
  | [] => 0
  | d :: ds => max d.dep (D.depL ds)
end
mutual
/-- x == y -/
def D.eq : D → D → Bool
  | .non, .non => true
  | .bl a, .bl b => a == b
  | .bl a, .int j => (if a then 1 else 0) == j
  | .int i, .bl b => i == (if b then 1 else 0)
  | .int i, .int j => i == j
  | .str x, .str y => x == y
  | .lst xs, .lst ys => D.eqL xs ys
  | .tup xs, .tup ys => D.eqL xs ys
  | _, _ => false
def D.eqL : List D → List D → Bool
  | [], [] => true
  | x :: xs, y :: ys => D.eq x y && D.eqL xs ys
  | _, _ => false
end
/-- what == may be asked of: data; or lists of unlike lengths -/
def eqOk : D → D → Bool
  | .dK _, .dK ys => ys.isEmpty
  | .dT _, .dK ys => ys.isEmpty
  | .lst xs, .lst ys => (D.pureL xs && D.pureL ys && decide (D.depL xs ≤ 30)) || (xs.length != ys.length)
  | x, y => x.pure && y.pure && decide (x.dep ≤ 30)
def eqD : D → D → Bool
  | .dK xs, .dK _ => xs.isEmpty
  | .dT xs, .dK _ => xs.isEmpty
  | x, y => D.eq x y
def oq {α : Type} (o : Option α) (q : α → Prop) : Prop := ∃ a, o = some a ∧ q a
theorem oq_some {α : Type} {a : α} {q : α → Prop} : oq (some a) q = q a := by
  unfold oq; apply propext; constructor
  · rintro ⟨_, e, h⟩; cases e; exact h
  · exact fun h => ⟨a, rfl, h⟩
theorem oq_none {α : Type} {q : α → Prop} : oq none q = False := by
  unfold oq; apply propext; constructor
  · rintro ⟨_, e, _⟩; cases e
  · exact False.elim
def isNonD : D → Bool
  | .non => true
  | _ => false
def ltD (x y : D) : Option Bool :=
  if (x.pure && y.pure && PySem.W.alike x.py y.py && decide (x.dep ≤ 30) && !isNonD x) = true then some (PySem.W.dataLt x.py y.py) else none
def gtD (x y : D) : Option Bool :=
  if (x.pure && y.pure && PySem.W.alike x.py y.py && decide (x.dep ≤ 30) && !isNonD x) = true then some (PySem.W.dataLt y.py x.py) else none
def inD (x : D) : D → Option Bool
  | .tup ds => if x.pure && D.pureL ds && decide (x.dep ≤ 30) then some (ds.any fun d => D.eq d x) else none
  | .lst ds => if x.pure && D.pureL ds && decide (x.dep ≤ 30) then some (ds.any fun d => D.eq d x) else none
  | .ktup ds => if x.pure && D.pureL ds && decide (x.dep ≤ 30) then some (ds.any fun d => D.eq d x) else none
  | .dK kvs => (keyOf x).map fun k => (look kvs k).isSome
  | .dT kvs => (keysOf x).map fun k => (look kvs k).isSome
  | .str z => match x with
    | .str y => match y.cps.toList with
      | [c] => some (decide (c ∈ z.cps.toList))
      | _ => none
    | _ => none
  | _ => none
def cmpD (op : Cm) (x y : D) : Option D :=
  match op with
  | .eq => if eqOk x y then some (.bl (eqD x y)) else none
  | .ne => if eqOk x y then some (.bl (!eqD x y)) else none
  | .lt => (ltD x y).map .bl
  | .gt => match x, y with | .int i, .int j => some (.bl (decide (j < i))) | x, y => (gtD x y).map .bl
  | .le => match x, y with | .int i, .int j => some (.bl (decide (i ≤ j))) | _, _ => none
  | .ge => match x, y with | .int i, .int j => some (.bl (decide (j ≤ i))) | _, _ => none
  | .isN => some (.bl (isNonD x))
  | .notN => some (.bl (!isNonD x))
  | .isT => match x with | .bl b => some (.bl b) | _ => none
  | .notT => match x with | .bl b => some (.bl (!b)) | _ => none
  | .isF => match x with | .bl b => some (.bl (!b)) | _ => none
  | .notF => match x with | .bl b => some (.bl b) | _ => none
  | .in_ => (inD x y).map .bl
  | .notIn => (inD x y).map fun b => .bl (!b)
def truth : D → Option Bool
  | .non => some false
  | .bl b => some b
  | .int i => some (i != 0)
  | .str s => if s.length ≤ LN then some (s.length != 0) else none
  | .tup ds => some (!ds.isEmpty)
  | .lst ds => some (!ds.isEmpty)
  | _ => none
abbrev small (i : Int) : Bool := decide (-(2 ^ 64) < i) && decide (i < 2 ^ 64)
def binD (op : Op) (x y : D) : Option D :=
  match op, x, y with
  | .add, .int i, .int j => some (.int (i + j))
  | .add, .str a, .str b => if a.length + b.length ≤ LN then some (.str (a ++ b)) else none
  | .add, .tup a, .tup b => if a.length + b.length ≤ LN then some (.tup (a ++ b)) else none
  | .add, .lst a, .lst b => if a.length + b.length ≤ LN then some (.lst (a ++ b)) else none
  | .sub, .int i, .int j => some (.int (i - j))
  | .mul, .int i, .int j => if small i || small j then some (.int (i * j)) else none
  | .mul, .lst a, .int k => if decide (-(2 ^ 63) ≤ k) && decide (k < 2 ^ 63) && decide (a.length * k.toNat ≤ LN) then some (.lst (List.replicate k.toNat a).flatten) else none
  | .fdiv, .int i, .int j => if decide (0 < j) && decide (j < 1073741824) then some (.int (i / j)) else none
  | .mod, .int i, .int j => if decide (0 < j) then some (.int (i % j)) else none
  | .pow, .int i, .int j => if decide (0 ≤ j) && decide (j ≤ 1000) && small i then some (.int (i ^ j.toNat)) else none
  | _, _, _ => none
def idxD (x i : D) : Option D :=
  match x with
  | .tup ds => match i with | .int k => atI ds k | _ => none
  | .lst ds => match i with | .int k => atI ds k | _ => none
  | .str s => match i with | .int k => if s.length ≤ LN then (atI s.cps.toList k).map fun c => .str ⟨#[c]⟩ else none | _ => none
  | .scr is => match i with | .int k => (atI is k).map .int | _ => none
  | .dK kvs => (keyOf i).bind (look kvs)
  | .dT kvs => (keysOf i).bind (look kvs)
  | _ => none
def cutG {α : Type} (xs : List α) (lo hi : Option Int) : List α := (xs.drop (HT.sIx xs.length 0 lo)).take (HT.sIx xs.length xs.length hi - HT.sIx xs.length 0 lo)
def cutD (x : D) (lo hi : Option Int) : Option D :=
  match x with
  | .tup ds => some (.tup (cutG ds lo hi))
  | .lst ds => some (.lst (cutG ds lo hi))
  | .str s => if s.length ≤ LN then some (.str ⟨(cutG s.cps.toList lo hi).toArray⟩) else none
  | _ => none
def revD : D → Option D
  | .tup ds => some (.tup ds.reverse)
  | .lst ds => some (.lst ds.reverse)
  | _ => none
/-- what is walked when a value is -/
def seqOf : D → Option (List D)
  | .tup ds => some ds
  | .lst ds => some ds
  | .ktup ds => some ds
  | .dK kvs => some (kvs.map fun p => dKey p.1)
  | .dT kvs => some (kvs.map fun p => dKeys p.1)
  | .str s => if s.length ≤ LN then some (s.cps.toList.map fun c => .str ⟨#[c]⟩) else none
  | _ => none
def intOf : D → Option Int
  | .int i => some i
  | _ => none
def blOf : D → Option Bool
  | .bl b => some b
  | _ => none
def strOf : D → Option Str
  | .str s => some s
  | _ => none
def seqD : D → Option (List D)
  | .tup ds => some ds
  | .lst ds => some ds
  | _ => none
/-- what sorted does -/
def leD (x y : D) : Bool := !PySem.W.dataLt y.py x.py
def sortOk (ds : List D) : Bool :=
  D.pureL ds && decide (D.depL ds ≤ 30) && (ds.all fun x => ds.all fun y => PySem.W.alike x.py y.py) &&
    ((ds.all fun d => match d with | .tup (_ :: _) => true | _ => false) || (ds.all fun d => match d with | .tup _ => false | .non => false | _ => true))
/-- what sorted takes: one thing alone may be anything -/
def sortOkS (ds : List D) : Bool := sortOk ds || decide (ds.length ≤ 1)
def sortD (ds : List D) : List D := ds.mergeSort leD
end T
end
section
set_option Elab.async false
set_option linter.all false
set_option maxRecDepth 100000
/-! What the small language wants of a state. -/
namespace T
open PySem L2

structure Exn where
  cls : Addr
  lot : Option D
abbrev Wi := Exn → Sl → Store → Prop
abbrev W0 : Wi := fun _ _ _ => False
/-- a promise: values, values by name, the store, what follows, what is raised -/
abbrev SpD := List D → List D → Store → DK → (Exn → Store → Prop) → Prop
structure Ctx where
  glob : Str → Option D
  fn : Str → List Str → Option SpD
  meth : Addr → Str → Option SpD
  exc : Str → Option Addr
  /-- instances of the class have such an attribute of their own -/
  att : Addr → Str → Prop

def slot (σ : Sl) (i : Nat) : Option D := (σ[i]?).join
def mkO (m : Bool) (o : MO) (d : D) (G : Store) (q : DK) : Prop :=
  match m with
  | true => ∀ p, G p = none → q (.ref p) (put G p o)
  | false => q d G
def insOf (G : Store) : D → Option (Addr × List (Str × D))
  | .ref a => match G a with
    | some (.ins C fs) => some (C, fs)
    | _ => none
  | _ => none
def putA (f : Str) (d : D) : List (Str × D) → List (Str × D)
  | [] => [(f, d)]
  | p :: r => if p.1 = f then (f, d) :: r else p :: putA f d r
/-- dicts of pairs of values -/
def pairsK : List D → Option (List (Key × D))
  | [] => some []
  | k :: v :: r => (keyOf k).bind fun k => (pairsK r).map fun l => (k, v) :: l
  | _ => none
def pairsT : List D → Option (List (List Key × D))
  | [] => some []
  | k :: v :: r => (keysOf k).bind fun k => (pairsT r).map fun l => (k, v) :: l
  | _ => none
def merge {κ : Type} [DecidableEq κ] (kvs more : List (κ × D)) : List (κ × D) := more.foldl (fun acc kv => putG acc kv.1 kv.2) kvs
/-- a list of pairs, as dict(..) takes it -/
def dictOf : List D → Option (List (Key × D))
  | [] => some []
  | .tup [k, v] :: r => (keyOf k).bind fun k => (dictOf r).map fun l => (k, v) :: l
  | _ => none
def minD : D → List D → D
  | m, [] => m
  | m, d :: ds => minD (if PySem.W.dataLt d.py m.py then d else m) ds
/-- built-in functions -/
def biD (b : Bi) (ds : List D) : Option D :=
  match b, ds with
  | .len, [.str s] => if s.length ≤ LN then some (.int s.length) else none
  | .len, [.tup l] => some (.int l.length)
  | .len, [.lst l] => some (.int l.length)
  | .len, [.scr l] => some (.int l.length)
  | .sum, [.lst l] => (l.mapM intOf).map fun is => .int is.sum
  | .all, [.lst l] => (l.mapM blOf).map fun bs => .bl (bs.all id)
  | .any, [.lst l] => (l.mapM blOf).map fun bs => .bl (bs.any id)
  | .min2, [.int i, .int j] => some (.int (if j < i then j else i))
  | .max2, [.int i, .int j] => some (.int (if j > i then j else i))
  | .tuple, [.lst l] => some (.tup l)
  | .tuple, [.tup l] => some (.tup l)
  | .list, [.lst l] => some (.lst l)
  | .list, [.tup l] => some (.lst l)
  | .list, [.ktup l] => some (.lst l)
  | .list, [.dK l] => some (.lst (l.map fun p => dKey p.1))
  | .list, [.dT l] => some (.lst (l.map fun p => dKeys p.1))
  | .dict, [.lst l] => (dictOf l).map fun kvs => .dK (merge [] kvs)
  | .int, [.int i] => some (.int i)
  | .int, [.bl b] => some (.int (if b then 1 else 0))
  | .str, [.int i] => if i.natAbs < 10 ^ 20 then some (.str (toString i)) else none
  | .abs, [.int i] => some (.int (if i < 0 then -i else i))
  | .isInt, [d] => match d with | .int _ | .bl _ => some (.bl true) | .ref _ | .scr _ | .ktup _ | .dT _ => none | _ => some (.bl false)
  | .isBool, [d] => match d with | .bl _ => some (.bl true) | .ref _ | .scr _ | .ktup _ | .dT _ => none | _ => some (.bl false)
  | .isStr, [d] => match d with | .str _ => some (.bl true) | .ref _ | .scr _ | .ktup _ | .dT _ => none | _ => some (.bl false)
  | .isTup, [d] => match d with | .tup _ => some (.bl true) | .ref _ | .scr _ | .ktup _ | .dT _ => none | _ => some (.bl false)
  | .isLst, [d] => match d with | .lst _ => some (.bl true) | .ref _ | .scr _ | .ktup _ | .dT _ => none | _ => some (.bl false)
  | .minL, [.lst (d :: ds)] => if sortOk (d :: ds) then some (minD d ds) else none
  | .minL, [.tup (d :: ds)] => if sortOk (d :: ds) then some (minD d ds) else none
  | _, _ => none
/-- methods that only read -/
def bmD (b : Bm) (x : D) (ds : List D) : Option D :=
  match b, x, ds with
  | .get2, .dK kvs, [k, z] => (keyOf k).map fun k => (look kvs k).getD z
  | .get2, .dT kvs, [k, z] => (keysOf k).map fun k => (look kvs k).getD z
  | .join, .str s, [.tup l] => (l.mapM strOf).bind fun ys => if (ys.map (·.length)).sum + ys.length * s.length ≤ 16777216 then some (.str (Str.join s ys)) else none
  | .join, .str s, [.lst l] => (l.mapM strOf).bind fun ys => if (ys.map (·.length)).sum + ys.length * s.length ≤ 16777216 then some (.str (Str.join s ys)) else none
  | .count, .lst l, [.int k] => (l.mapM intOf).map fun ns => .int (ns.count k : Nat)
  | _, _, _ => none
/-- methods that change their object -/
def bmW (b : Bm) (o : MO) (ds : List D) : Option (D × MO) :=
  match b, o, ds with
  | .append, .lst l, [d] => if l.length < LN then some (.non, .lst (l ++ [d])) else none
  | .pop, .lst l, [] => (l.getLast?).map fun d => (d, .lst l.dropLast)
  | .popAt, .lst l, [.int i] => (ixN l.length i).bind fun j => (l[j]?).map fun d => (d, .lst (l.eraseIdx j))
  | .insert, .lst l, [.int i, d] => if decide (0 ≤ i) && decide (i ≤ l.length) && decide (l.length < LN) then some (.non, .lst (l.take i.toNat ++ d :: l.drop i.toNat)) else none
  | .popD, .dT kvs, [k] => (keysOf k).bind fun k => (look kvs k).map fun v => (v, .dT (dropG kvs k))
  | .update, .dT kvs, [.dT more] => some (.non, .dT (merge kvs more))
  | _, _, _ => none
def wBm (b : Bm) (x : D) (ds : List D) (G : Store) (q : DK) : Prop :=
  match b with
  | .get2 => oq (bmD .get2 (lk G x) ds) fun d => q d G
  | .join | .count => oq (bmD b (lk G x) (ds.map (lk G))) fun d => q d G
  | .extend => ∃ p l b k, x = .ref p ∧ G p = some (.lst l) ∧ ds = [.ref b] ∧ G b = some (.lst k) ∧ l.length + k.length ≤ LN ∧ q .non (put G p (.lst (l ++ k)))
  | .addM => ∃ l k, lk G x = .lst l ∧ ds.map (lk G) = [.lst k] ∧ l.length + k.length ≤ LN ∧ ∀ p, G p = none → q (.ref p) (put G p (.lst (l ++ k)))
  | _ => ∃ p o, x = .ref p ∧ G p = some o ∧ oq (bmW b o (match b with | .append | .insert => ds | _ => ds.map (lk G))) fun r => q r.1 (put G p r.2)
def wBi (b : Bi) (ds : List D) (G : Store) (q : DK) : Prop :=
  match b with
  | .listM => oq (biD .list (ds.map (lk G))) fun d => oq (seqD d) fun l => ∀ p, G p = none → q (.ref p) (put G p (.lst l))
  | _ => oq (biD b (ds.map (lk G))) fun d => q d G
/-- o[i] = d -/
def setI (x i d : D) (G : Store) (k : Store → Prop) : Prop :=
  ∃ p o, x = .ref p ∧ G p = some o ∧ match o with
    | .lst l => ∃ n j, i = .int n ∧ ixN l.length n = some j ∧ k (put G p (.lst (l.set j d)))
    | .dK kvs => kvs.length < LN ∧ oq (keyOf i) fun y => k (put G p (.dK (putG kvs y d)))
    | .dT kvs => kvs.length < LN ∧ oq (keysOf i) fun y => k (put G p (.dT (putG kvs y d)))
    | .ins _ _ => False
/-- o[lo:hi] = d -/
def setC (x : D) (lo hi : Option Int) (d : D) (G : Store) (k : Store → Prop) : Prop :=
  ∃ p l r a c, x = .ref p ∧ G p = some (.lst l) ∧ d = .lst r ∧ lo = some a ∧ hi = some c ∧ 0 ≤ a ∧ a ≤ c ∧ c < 2 ^ 62 ∧ l.length + r.length ≤ LN ∧
    k (put G p (.lst (l.take (min a.toNat l.length) ++ r ++ l.drop (min c.toNat l.length))))
def setA (Γ : Ctx) (x : D) (f : Str) (d : D) (G : Store) (k : Store → Prop) : Prop :=
  ∃ p C fs, x = .ref p ∧ G p = some (.ins C fs) ∧ Γ.att C f ∧ fs.length < 1000 ∧ k (put G p (.ins C (putA f d fs)))
def itemsOf (G : Store) : D → Option (List D)
  | .ref a => match G a with
    | some (.lst ds) => some ds
    | _ => none
  | d => seqOf d
def still (G : Store) : D → Store → Prop
  | .ref a => fun G' => G' a = G a
  | _ => fun _ => True
def wipeD (σ : Sl) : List Nat → Sl
  | [] => σ
  | v :: vs => (wipeD σ vs).set v none
def pickSet : List D → List D
  | [] => []
  | d :: ds => d :: (pickSet ds).filter fun e => !D.eq e d
def setOk (ds : List D) : Bool :=
  (ds.all fun d => match d with | .str _ => true | _ => false) || (ds.all fun d => match d with | .tup (_ :: _) => (keysOf d).isSome | _ => false)
def sortByD (ds ks : List D) : List D := ((ds.zip ks).mergeSort fun a b => leD a.2 b.2).map (·.1)

/-- a loop over what is walked: gd holds at every turn -/
def loopW {α : Type} (gd : Store → Prop) (step : α → (Sl → Store → Prop) → Sl → Store → Prop) (fin : Sl → Store → Prop) : List α → Sl → Store → Prop
  | [], σ, G => gd G ∧ fin σ G
  | d :: ds, σ, G => gd G ∧ step d (loopW gd step fin ds) σ G
def compW {α : Type} (gd : Store → Prop) (step : α → (Option D → Store → Prop) → Store → Prop) (fin : List D → Store → Prop) : List α → List D → Store → Prop
  | [], acc, G => gd G ∧ fin acc G
  | d :: ds, acc, G => gd G ∧ step d (fun o G' => compW gd step fin ds (acc ++ o.toList) G') G
def dcompW {α κ : Type} [DecidableEq κ] (gd : Store → Prop) (step : α → (κ → D → Store → Prop) → Store → Prop) (fin : List (κ × D) → Store → Prop) : List α → List (κ × D) → Store → Prop
  | [], acc, G => gd G ∧ fin acc G
  | d :: ds, acc, G => gd G ∧ step d (fun k v G' => dcompW gd step fin ds (putG acc k v) G') G

/-- f-strings: a part of one -/
def partD : D → Option Str
  | .str s => if s.length ≤ LN then some s else none
  | .int i => if i.natAbs < 10 ^ 20 then some (toString i : String) else none
  | _ => none

/-- what a piece of the text means: as a value, a test, a part of a slice, what is walked, a target -/
structure Den where
  e : Wi → Sl → Store → DK → Prop
  t : Wi → Sl → Store → (Bool → Store → Prop) → Prop
  o : Wi → Sl → Store → (Option Int → Store → Prop) → Prop
  i : Wi → Sl → Store → (List D → (Store → Prop) → Store → Prop) → Prop
  p : Wi → D → Sl → Store → (Sl → Store → Prop) → Prop
/-- a value -/
def dV (v : Wi → Sl → Store → DK → Prop) : Den where
  e := v
  t := fun W σ G q => v W σ G fun x G1 => oq (truth (lk G1 x)) fun b => q b G1
  o := fun W σ G q => v W σ G fun x G1 => oq (intOf x) fun i => q (some i) G1
  i := fun W σ G q => v W σ G fun x G1 => oq (itemsOf G1 x) fun ds => q ds (still G1 x) G1
  p := fun _ _ _ _ _ => False
def dN : Den := ⟨fun _ _ _ _ => False, fun _ _ _ _ => False, fun _ _ _ _ => False, fun _ _ _ _ => False, fun _ _ _ _ _ => False⟩
def dI (v : Wi → Sl → Store → (List D → (Store → Prop) → Store → Prop) → Prop) : Den := { dN with i := v }
def dP (v : Wi → D → Sl → Store → (Sl → Store → Prop) → Prop) : Den := { dN with p := v }
def dA : List Den → Wi → Sl → Store → (List D → Store → Prop) → Prop
  | [], _, _, G, q => q [] G
  | e :: es, W, σ, G, q => e.e W σ G fun d G1 => dA es W σ G1 fun ds G2 => q (d :: ds) G2
def dTs : List Den → Wi → Sl → Store → (Bool → Store → Prop) → Prop
  | [], _, _, G, q => q true G
  | e :: es, W, σ, G, q => e.t W σ G fun t G1 => if t = true then dTs es W σ G1 q else q false G1
def dPs : List Den → Wi → List D → Sl → Store → (Sl → Store → Prop) → Prop
  | [], _, ds, σ, G, k => ds = [] ∧ k σ G
  | p :: ps, W, ds, σ, G, k => ∃ d r, ds = d :: r ∧ p.p W d σ G fun σ1 G1 => dPs ps W r σ1 G1 k
/-- f-strings: part by part -/
def dJ : List Den → Str → Wi → Sl → Store → (Str → Store → Prop) → Prop
  | [], acc, W, σ, G, q => q acc G
  | d :: ds, acc, W, σ, G, q => d.e W σ G fun x G1 => oq (partD x) fun y => (acc ++ y).length ≤ LN ∧ dJ ds (acc ++ y) W σ G1 q
def isAbs : E → Bool
  | .absent => true
  | _ => false

section
variable (Γ : Ctx)
def sVar (i : Nat) : Den := dV fun _ σ G q => oq (slot σ i) fun d => q d G
def sGlob (x : Str) : Den := dV fun _ _ G q => oq (Γ.glob x) fun d => q d G
def sC (d : D) : Den := dV fun _ _ G q => q d G
def sTup (es : List Den) : Den := dV fun W σ G q => dA es W σ G fun ds G1 => q (.tup ds) G1
def sLst (m : Bool) (es : List Den) : Den := dV fun W σ G q => dA es W σ G fun ds G1 => mkO m (.lst ds) (.lst ds) G1 q
def sDic (t : Bool) : Den := dV fun _ _ G q => ∀ p, G p = none → q (.ref p) (put G p (match t with | true => .dT [] | false => .dK []))
def sDsp (t m : Bool) (kvs : List Den) : Den := dV fun W σ G q => dA kvs W σ G fun ds G1 => match t with
    | true => oq (pairsT ds) fun l => mkO m (.dT (merge [] l)) (.dT (merge [] l)) G1 q
    | false => oq (pairsK ds) fun l => mkO m (.dK (merge [] l)) (.dK (merge [] l)) G1 q
def sBin (op : Op) (a b : Den) : Den := dV fun W σ G q => a.e W σ G fun x G1 => b.e W σ G1 fun y G2 => oq (binD op (lk G2 x) (lk G2 y)) fun d => q d G2
def sNeg (a : Den) : Den := dV fun W σ G q => a.e W σ G fun x G1 => oq (intOf x) fun i => q (.int (-i)) G1
/-- the left side of in is taken as it is -/
def lkc (op : Cm) (G : Store) (x : D) : D := match op with | .in_ => x | .notIn => x | _ => lk G x
def sCmp (op : Cm) (a b : Den) : Den := dV fun W σ G q => a.e W σ G fun x G1 => b.e W σ G1 fun y G2 => oq (cmpD op (lkc op G2 x) (lk G2 y)) fun d => q d G2
def sChain (op op' : Cm) (a b c : Den) : Den := dV fun W σ G q => a.e W σ G fun x G1 => b.e W σ G1 fun y G2 => oq (cmpD op (lk G2 x) (lk G2 y)) fun r => oq (blOf r) fun t =>
      if t = true then c.e W σ G2 fun z G3 => oq (cmpD op' (lk G3 y) (lk G3 z)) fun d => q d G3 else q (.bl false) G2
def sAnd : List Den → Den
  | [] => dN
  | [a] => { dV a.e with t := a.t }
  | a :: b :: r => { dV (fun W σ G q => a.e W σ G fun x G1 => oq (truth (lk G1 x)) fun t => if t = true then (sAnd (b :: r)).e W σ G1 q else q x G1) with
      t := fun W σ G q => a.t W σ G fun t G1 => if t = true then (sAnd (b :: r)).t W σ G1 q else q false G1 }
def sOr : List Den → Den
  | [] => dN
  | [a] => { dV a.e with t := a.t }
  | a :: b :: r => { dV (fun W σ G q => a.e W σ G fun x G1 => oq (truth (lk G1 x)) fun t => if t = true then q x G1 else (sOr (b :: r)).e W σ G1 q) with
      t := fun W σ G q => a.t W σ G fun t G1 => if t = true then q true G1 else (sOr (b :: r)).t W σ G1 q }
def sNot (a : Den) : Den := { dV (fun W σ G q => a.e W σ G fun x G1 => oq (truth (lk G1 x)) fun t => q (.bl (!t)) G1) with
  t := fun W σ G q => a.t W σ G fun b G1 => q (!b) G1 }
def sIfe (c a b : Den) : Den := { dV (fun W σ G q => c.t W σ G fun t G1 => if t = true then a.e W σ G1 q else b.e W σ G1 q) with
  t := fun W σ G q => c.t W σ G fun t G1 => if t = true then a.t W σ G1 q else b.t W σ G1 q }
def sIdx (a i : Den) : Den := dV fun W σ G q => a.e W σ G fun x G1 => i.e W σ G1 fun y G2 => oq (idxD (lk G2 x) y) fun d => q d G2
def sCut (a lo hi : Den) : Den := dV fun W σ G q => a.e W σ G fun x G1 => lo.o W σ G1 fun l G2 => hi.o W σ G2 fun h G3 => oq (cutD (lk G3 x) l h) fun d => q d G3
def sRev (a : Den) : Den := dV fun W σ G q => a.e W σ G fun x G1 => oq (revD (lk G1 x)) fun d => q d G1
def sAtt (a : Den) (f : Str) : Den := dV fun W σ G q => a.e W σ G fun x G1 => oq (insOf G1 x) fun o => Γ.att o.1 f ∧ oq (o.2.lookup f) fun d => q d G1
def sCall (f : Str) (args : List Den) (ks : List Str) (kws : List Den) : Den := dV fun W σ G q => dA args W σ G fun ds G1 => dA kws W σ G1 fun es G2 => oq (Γ.fn f ks) fun sp => sp ds es G2 q fun e G' => W e σ G'
def sMeth (o : Den) (m : Str) (args : List Den) : Den := dV fun W σ G q => o.e W σ G fun x G1 => oq (insOf G1 x) fun c => c.2.lookup m = none ∧ dA args W σ G1 fun ds G2 => oq (Γ.meth c.1 m) fun sp =>
      sp (x :: ds) [] G2 q fun e G' => W e σ G'
def sBi (b : Bi) (args : List Den) : Den := dV fun W σ G q => dA args W σ G fun ds G1 => wBi b ds G1 q
/-- whose method it is -/
def bmTy (b : Bm) (x : D) : Bool := match b, x with
  | .append, .lst _ | .extend, .lst _ | .pop, .lst _ | .popAt, .lst _ | .insert, .lst _ | .count, .lst _ | .addM, .lst _ => true
  | .join, .str _ => true
  | .get2, .dK _ | .get2, .dT _ | .popD, .dT _ | .update, .dT _ => true
  | _, _ => false
def sBm (o : Den) (b : Bm) (args : List Den) : Den := dV fun W σ G q => o.e W σ G fun x G1 => bmTy b (lk G1 x) = true ∧ dA args W σ G1 fun ds G2 => wBm b x ds G2 q
def sCnt (a h k : Den) : Den := dV fun W σ G q => a.e W σ G fun x G1 => h.e W σ G1 fun y G2 => ∃ (l : List D) (ns : List Int) (n : Nat), lk G2 x = .tup l ∧ l.mapM intOf = some ns ∧ y = .int n ∧ n < ns.length ∧ k.e W σ G2 fun z G3 => ∃ i, z = .int i ∧ q (.int ((ns.take n).count i : Nat)) G3
/-- what sorted takes -/
def srtOf : D → Option (List D)
  | .lst ds => some ds
  | .tup ds => some ds
  | .dK kvs => some (kvs.map fun p => dKey p.1)
  | .dT kvs => some (kvs.map fun p => dKeys p.1)
  | _ => none
def sSorted (m : Bool) (a : Den) : Den := dV fun W σ G q => a.e W σ G fun x G1 => oq (srtOf (lk G1 x)) fun ds => sortOkS ds = true ∧ mkO m (.lst (sortD ds)) (.lst (sortD ds)) G1 q
/-- sorted(set(..)) of texts: the members, whichever way they were gathered -/
def lstOf : D → Option (List D)
  | .lst ds => some ds
  | _ => none
def sSortedBy (m : Bool) (f : Str) (a : Den) : Den := dV fun W σ G q => a.e W σ G fun x G1 => oq (lstOf (lk G1 x)) fun ds => oq (Γ.fn f []) fun sp => ∃ ks : List D, ks.length = ds.length ∧
      (∀ (i : Nat) d k, ds[i]? = some d → ks[i]? = some k → sp [d] [] G1 (fun y G2 => y = k ∧ G2 = G1) fun _ _ => False) ∧ sortOk ks = true ∧ mkO m (.lst (sortByD ds ks)) (.lst (sortByD ds ks)) G1 q
def sSortedSet (m : Bool) (a : Den) : Den := dV fun W σ G q => a.e W σ G fun x G1 => oq (lstOf (lk G1 x)) fun ds => oq (ds.mapM strOf) fun xs => xs.length < 4000 ∧
  ∀ ys : List Str, ys.Nodup → (∀ k, k ∈ ys ↔ k ∈ xs) → mkO m (.lst (sortD (ys.map D.str))) (.lst (sortD (ys.map D.str))) G1 q
def sLc (m : Bool) (elt pat it : Den) (ifs : List Den) (own : List Nat) : Den := dV fun W σ G q => it.i W σ G fun ds gd G1 => compW gd (fun d k G2 => pat.p W0 d (wipeD σ own) G2 fun σ1 G3 => dTs ifs W0 σ1 G3 fun t G4 =>
      if t = true then elt.e W0 σ1 G4 fun y G5 => k (some y) G5 else k none G4) (fun l G2 => mkO m (.lst l) (.lst l) G2 q) ds [] G1
def sDc (t m : Bool) (kx vx pat it : Den) (own : List Nat) : Den := dV fun W σ G q => it.i W σ G fun ds gd G1 => match t with
    | true => dcompW gd (fun d k G2 => pat.p W0 d (wipeD σ own) G2 fun σ1 G3 => kx.e W0 σ1 G3 fun x G4 => vx.e W0 σ1 G4 fun y G5 => oq (keysOf x) fun x => k x y G5)
        (fun l G2 => mkO m (.dT l) (.dT l) G2 q) ds [] G1
    | false => dcompW gd (fun d k G2 => pat.p W0 d (wipeD σ own) G2 fun σ1 G3 => kx.e W0 σ1 G3 fun x G4 => vx.e W0 σ1 G4 fun y G5 => oq (keyOf x) fun x => k x y G5)
        (fun l G2 => mkO m (.dK l) (.dK l) G2 q) ds [] G1
def sFstr (es : List Den) : Den := dV fun W σ G q => dJ es Str.empty W σ G fun t G1 => q (.str t) G1
def sAbs : Den := { dN with o := fun _ _ G q => q none G }
def sRange1 (a : Den) : Den := dI fun W σ G q => a.e W σ G fun x G1 => oq (intOf x) fun n => n ≤ LN ∧ -(2 ^ 61) ≤ n ∧ q ((List.range n.toNat).map fun i : Nat => .int (i : Int)) (fun _ => True) G1
def sRange2 (a b : Den) : Den := dI fun W σ G q => a.e W σ G fun x G1 => b.e W σ G1 fun y G2 => oq (intOf x) fun i => oq (intOf y) fun j =>
      (-(2 ^ 61) ≤ i ∧ i < 2 ^ 61 ∧ -(2 ^ 61) ≤ j ∧ j < 2 ^ 61 ∧ j - i ≤ LN) ∧ q ((List.range (j - i).toNat).map fun n : Nat => .int (i + (n : Int))) (fun _ => True) G2
def sEnum (a : Den) : Den := dI fun W σ G q => a.e W σ G fun x G1 => oq (seqD (lk G1 x)) fun ds => ds.length ≤ LN ∧ q (ds.zipIdx.map fun p => .tup [.int (p.2 : Nat), p.1]) (still G1 x) G1
def sZip (a b : Den) : Den := dI fun W σ G q => a.e W σ G fun x G1 => b.e W σ G1 fun y G2 => oq (seqD (lk G2 x)) fun ds => oq (seqD (lk G2 y)) fun es =>
      q ((ds.zip es).map fun p => .tup [p.1, p.2]) (fun G' => still G2 x G' ∧ still G2 y G') G2
def sZip3 (a b c : Den) : Den := dI fun W σ G q => a.e W σ G fun x G1 => b.e W σ G1 fun y G2 => c.e W σ G2 fun z G3 => oq (seqD (lk G3 x)) fun ds => oq (seqD (lk G3 y)) fun es => oq (seqD (lk G3 z)) fun fs =>
      q ((ds.zip (es.zip fs)).map fun p => .tup [p.1, p.2.1, p.2.2]) (fun G' => still G3 x G' ∧ still G3 y G' ∧ still G3 z G') G3
def sItems (a : Den) : Den := dI fun W σ G q => a.e W σ G fun x G1 => match x with
    | .dK kvs => kvs.length ≤ LN ∧ q (kvs.map fun p => .tup [dKey p.1, p.2]) (fun _ => True) G1
    | _ => False
def sPname (i : Nat) : Den := dP fun _ d σ G k => k (σ.set i (some d)) G
def sPtup (ps : List Den) : Den := dP fun W d σ G k => oq (seqD (lk G d)) fun ds => ds.length = ps.length ∧ dPs ps W ds σ G k
def sPsub (o i : Den) : Den := dP fun W d σ G k => o.e W σ G fun x G1 => i.e W σ G1 fun y G2 => setI x y d G2 fun G3 => k σ G3
def sPcut (o lo hi : Den) : Den := dP fun W d σ G k => o.e W σ G fun x G1 => lo.o W σ G1 fun l G2 => hi.o W σ G2 fun h G3 => setC x l h d G3 fun G4 => k σ G4
def sPatt (o : Den) (f : Str) : Den := dP fun W d σ G k => o.e W σ G fun x G1 => setA Γ x f d G1 fun G2 => k σ G2

mutual
def sem : E → Den
  | .var i => sVar i
  | .glob x => sGlob Γ x
  | .non => sC .non
  | .bl b => sC (.bl b)
  | .int i => sC (.int i)
  | .str s => sC (.str s)
  | .tup es => sTup (semL es)
  | .lst m es => sLst m (semL es)
  | .dic t => sDic t
  | .dsp t m kvs => sDsp t m (semL kvs)
  | .bin op a b => sBin op (sem a) (sem b)
  | .neg a => sNeg (sem a)
  | .cmp op a b => sCmp op (sem a) (sem b)
  | .chain op op' a b c => sChain op op' (sem a) (sem b) (sem c)
  | .and es => sAnd (semL es)
  | .or es => sOr (semL es)
  | .not a => sNot (sem a)
  | .ife c a b => sIfe (sem c) (sem a) (sem b)
  | .idx a i => sIdx (sem a) (sem i)
  | .cut a lo hi => sCut (sem a) (sem lo) (sem hi)
  | .rev a => sRev (sem a)
  | .absent => sAbs
  | .att a f => sAtt Γ (sem a) f
  | .call f args ks kws => sCall Γ f (semL args) ks (semL kws)
  | .meth o m args => sMeth Γ (sem o) m (semL args)
  | .bi b args => sBi b (semL args)
  | .bm o b args => sBm (sem o) b (semL args)
  | .cnt a h k => sCnt (sem a) (sem h) (sem k)
  | .sorted m a => sSorted m (sem a)
  | .sortedBy m f a => sSortedBy Γ m f (sem a)
  | .sortedSet m a => sSortedSet m (sem a)
  | .lc m elt pat it ifs own => sLc m (sem elt) (sem pat) (sem it) (semL ifs) own
  | .dc t m kx vx pat it own => sDc t m (sem kx) (sem vx) (sem pat) (sem it) own
  | .fstr es => sFstr (semL es)
  | .range1 a => sRange1 (sem a)
  | .range2 a b => sRange2 (sem a) (sem b)
  | .enum a => sEnum (sem a)
  | .zip a b => sZip (sem a) (sem b)
  | .zip3 a b c => sZip3 (sem a) (sem b) (sem c)
  | .items a => sItems (sem a)
  | .pname i => sPname i
  | .ptup ps => sPtup (semL ps)
  | .psub o i => sPsub (sem o) (sem i)
  | .pcut o lo hi => sPcut (sem o) (sem lo) (sem hi)
  | .patt o f => sPatt Γ (sem o) f
def semL : List E → List Den
  | [] => []
  | e :: es => sem e :: semL es
end
end
/-! ### statements -/
structure Ed where
  nx : Sl → Store → Prop
  rt : DK
  bk : Sl → Store → Prop := fun _ _ => False
  ct : Sl → Store → Prop := fun _ _ => False
/- another view: some objects no longer change; others are forgotten -/
mutual
inductive Fz (G G' : Store) : D → D → Prop
  | same (d : D) : Fz G G' d d
  | lst {a : Addr} {ds : List D} : G a = some (.lst ds) → G' a = none → Fz G G' (.ref a) (.lst ds)
  | dK {a : Addr} {ds : List (Key × D)} : G a = some (.dK ds) → G' a = none → Fz G G' (.ref a) (.dK ds)
  | dT {a : Addr} {ds : List (List Key × D)} : G a = some (.dT ds) → G' a = none → Fz G G' (.ref a) (.dT ds)
  | tup {ds es : List D} : FzAll G G' ds es → Fz G G' (.tup ds) (.tup es)
inductive FzAll (G G' : Store) : List D → List D → Prop
  | nil : FzAll G G' [] []
  | cons {d e : D} {ds es : List D} : Fz G G' d e → FzAll G G' ds es → FzAll G G' (d :: ds) (e :: es)
end
/-- G' forgets objects of G -/
def Less (G G' : Store) : Prop := ∀ a o, G' a = some o → G a = some o
theorem Less.refl (G : Store) : Less G G := fun _ _ h => h
def View (σ : Sl) (G : Store) (σ' : Sl) (G' : Store) : Prop := Less G G' ∧ σ.length = σ'.length ∧ ∀ (i : Nat) d', σ'[i]? = some (some d') → ∃ d, σ[i]? = some (some d) ∧ Fz G G' d d'
def ViewD (d : D) (G : Store) (d' : D) (G' : Store) : Prop := Less G G' ∧ Fz G G' d d'
abbrev TSt := Wi → Ed → Sl → Store → Prop
def seqW (a b : TSt) : TSt := fun W D σ G => a W { D with nx := b W D } σ G
section
variable (Γ : Ctx)
def sAsg (p e : Den) : TSt := fun W D σ G => e.e W σ G fun d G1 => p.p W d σ G1 D.nx
def setAll : List Nat → List D → Sl → Sl
  | i :: is, d :: ds, σ => setAll is ds (σ.set i (some d))
  | _, _, σ => σ
def sPar (is : List Nat) (es : List Den) : TSt := fun W D σ G => dA es W σ G fun ds G1 => D.nx (setAll is ds σ) G1
def sAug (i : Nat) (op : Op) (e : Den) : TSt := fun W D σ G => oq (slot σ i) fun x => e.e W σ G fun y G1 => oq (intOf x) fun a => oq (intOf y) fun b => match op with
  | .add => D.nx (σ.set i (some (.int (a + b)))) G1
  | .sub => D.nx (σ.set i (some (.int (a - b)))) G1
  | _ => False
def sExp (e : Den) : TSt := fun W D σ G => e.e W σ G fun _ G1 => D.nx σ G1
def sRet (e : Den) : TSt := fun W D σ G => e.e W σ G D.rt
def sIte (c : Den) (a b : TSt) : TSt := fun W D σ G => c.t W σ G fun t G1 => if t = true then a W D σ G1 else b W D σ G1
def sFor (p it : Den) (body : TSt) : TSt := fun W D σ G => it.i W σ G fun ds gd G1 => loopW gd (fun d k σ1 G2 => p.p W d σ1 G2 fun σ2 G3 => body W { nx := k, ct := k, bk := D.nx, rt := D.rt } σ2 G3) D.nx ds σ G1
def sWhl (c : Den) (body : TSt) : TSt := fun W D σ G => ∃ I : Nat → Sl → Store → Prop, (∃ m, I m σ G) ∧ ∀ m σ G, I m σ G → c.t W σ G fun t G1 =>
  if t = true then body W { nx := fun σ' G' => ∃ m', m' < m ∧ I m' σ' G', ct := fun σ' G' => ∃ m', m' < m ∧ I m' σ' G', bk := D.nx, rt := D.rt } σ G1 else D.nx σ G1
def sCont : TSt := fun _ D σ G => D.ct σ G
def sPass : TSt := fun _ D σ G => D.nx σ G
def sRaise (c : Str) (args : List Den) : TSt := fun W _ σ G => dA args W σ G fun ds G1 => oq (Γ.exc c) fun C => match ds with
  | [.str _] => W ⟨C, none⟩ σ G1
  | _ => False
def sView : TSt := fun _ D σ G => ∃ σ' G', View σ G σ' G' ∧ D.nx σ' G'
mutual
def sS : S → TSt
  | .asg p e => sAsg (sem Γ p) (sem Γ e)
  | .par is es => sPar is (semL Γ es)
  | .aug i op e => sAug i op (sem Γ e)
  | .exp e => sExp (sem Γ e)
  | .ret e => sRet (sem Γ e)
  | .ite c a b => sIte (sem Γ c) (sSs a) (sSs b)
  | .for_ p it body => sFor (sem Γ p) (sem Γ it) (sSs body)
  | .whl c body => sWhl (sem Γ c) (sSs body)
  | .cont => sCont
  | .pass => sPass
  | .raise c args => sRaise Γ c (semL Γ args)
  | .view => sView
def sSs : List S → TSt
  | [] => sPass
  | s :: ss => seqW (sS s) (sSs ss)
end
end
/-- a def's body at its arguments -/
def run (Γ : Ctx) (n : Nat) (body : List S) (W : Exn → Store → Prop) (args : List D) (G : Store) (q : DK) : Prop :=
  sSs Γ body (fun e _ G' => W e G') { nx := fun _ G' => q .non G', rt := fun d G' => ∃ d' G'', ViewD d G' d' G'' ∧ q d' G'' } (args.map some ++ List.replicate (n - args.length) none) G
end T
end
section
set_option Elab.async false
set_option linter.all false
set_option maxRecDepth 100000
/-! Lifting: each rule of the hand layer, said over trees of data. -/
namespace T
open PySem PySem.Spec L2

section
variable {K : PySem.W.Frag} {H H' : Hp} {G G' : Store}
theorem rd_ne {p a : Addr} {u : HO} (h : Rd H a u) (n : H p = none) : a ≠ p := by
  rintro rfl
  rcases h with h | ⟨o, h⟩ <;> rw [n] at h <;> cases h
theorem rd_upd {p a : Addr} {u o : HO} (h : Rd H a u) (n : a ≠ p) : Rd (upd H p o) a u := by
  rcases h with h | ⟨x, h⟩
  · exact .inl (by rw [upd_ne n]; exact h)
  · exact .inr ⟨x, by rw [upd_ne n]; exact h⟩
theorem ext_new {p : Addr} {o : HO} (n : H p = none) : Ext G H G (upd H p o) := ⟨⟨fun a u _ _ h r => ⟨h, by rw [upd_ne (ne_of_none r n)]; exact r⟩, fun a vs h r => ⟨h, by rw [upd_ne (ne_of_none r n)]; exact r⟩⟩, fun a u _ h r => ⟨h, by rw [upd_ne (ne_of_none r n)]; exact r⟩⟩
theorem ext_newM {p : Addr} {o : HO} {m : MO} (n : H p = none) : Ext G H (put G p m) (upd H p o) := ⟨⟨fun a u _ _ h r => ⟨by rw [put_ne (ne_of_none r n)]; exact h, by rw [upd_ne (ne_of_none r n)]; exact r⟩, fun a vs h r => ⟨by rw [put_ne (ne_of_none r n)]; exact h, by rw [upd_ne (ne_of_none r n)]; exact r⟩⟩,
  fun a u _ h r => ⟨by rw [put_ne (ne_of_none r n)]; exact h, by rw [upd_ne (ne_of_none r n)]; exact r⟩⟩
/-- a thing that is neither locked nor a tuple changes -/
theorem ext_any {p : Addr} {o u : HO} (h : H p = some u) (m : Mut (some u)) : Ext0 G H G (upd H p o) := by
  refine ⟨fun a x w _ hG r => ⟨hG, ?_⟩, fun a vs hG r => ⟨hG, ?_⟩⟩
  · rw [upd_ne (fun e => by subst e; rw [h] at r; cases r; exact m)]; exact r
  · rw [upd_ne (fun e => by subst e; rw [h] at r; cases r; exact m)]; exact r
theorem ObjIs.ext0 {a : Addr} {m : MO} (e : Ext0 G H G' H') (h : H' a = H a) (x : ObjIs K H G a m) : ObjIs K H' G' a m := by
  cases m with
  | lst ds => obtain ⟨vs, q, t⟩ := x; exact ⟨vs, h.trans q, t.ext0 e⟩
  | dK ds => obtain ⟨vs, q, t⟩ := x; exact ⟨vs, h.trans q, t.ext0 e⟩
  | dT ds => obtain ⟨vs, q, t⟩ := x; exact ⟨vs, h.trans q, t.ext0 e⟩
  | ins C fs => obtain ⟨dx, vs, q, l, t⟩ := x; exact ⟨dx, vs, h.trans q, l, t.ext0 e⟩
theorem ObjIs.ext {a : Addr} {m : MO} (e : Ext G H G' H') (h : H' a = H a) (x : ObjIs K H G a m) : ObjIs K H' G' a m := x.ext0 e.toExt0 h
theorem ObjIs.there {a : Addr} {m : MO} (x : ObjIs K H G a m) : ∃ o, H a = some o := by
  cases m with
  | lst ds => obtain ⟨vs, q, t⟩ := x; exact ⟨_, q⟩
  | dK ds => obtain ⟨vs, q, t⟩ := x; exact ⟨_, q⟩
  | dT ds => obtain ⟨vs, q, t⟩ := x; exact ⟨_, q⟩
  | ins C fs => obtain ⟨dx, vs, q, l, t⟩ := x; exact ⟨_, q⟩
theorem Sto.no (S : Sto K H G) {p : Addr} (n : H p = none) : G p = none := by
  cases q : G p with
  | none => rfl
  | some o =>
    obtain ⟨u, e⟩ := (S p o q).there
    rw [n] at e; cases e
theorem Sto.new (S : Sto K H G) {p : Addr} {o : HO} (n : H p = none) : Sto K (upd H p o) G := fun a m q =>
  (S a m q).ext (ext_new n) (upd_ne fun e => by subst e; rw [S.no n] at q; cases q)
theorem Sto.newM (S : Sto K H G) {p : Addr} {o : HO} {m : MO} (n : H p = none) (x : ObjIs K (upd H p o) (put G p m) p m) : Sto K (upd H p o) (put G p m) := fun a u q => by
  by_cases e : a = p
  · subst e; rw [put_same] at q; cases q; exact x
  · rw [put_ne e] at q
    exact (S a u q).ext (ext_newM n) (upd_ne e)
/-- an object of the store is changed -/
theorem ext_write {p : Addr} {o : HO} {m m0 : MO} (g : G p = some m0) : Ext G H (put G p m) (upd H p o) := by
  have n : ∀ a, G a = none → a ≠ p := fun a h => by rintro rfl; rw [g] at h; cases h
  exact ⟨⟨fun a x u _ h r => ⟨by rw [put_ne (n a h)]; exact h, by rw [upd_ne (n a h)]; exact r⟩, fun a vs h r => ⟨by rw [put_ne (n a h)]; exact h, by rw [upd_ne (n a h)]; exact r⟩⟩, fun a u _ h r => ⟨by rw [put_ne (n a h)]; exact h, by rw [upd_ne (n a h)]; exact r⟩⟩
/-- an object that isn't of the store changes -/
theorem Sto.any (S : Sto K H G) {p : Addr} {o u : HO} (g : G p = none) (h : H p = some u) (m : Mut (some u)) : Sto K (upd H p o) G := fun a x q =>
  (S a x q).ext0 (ext_any h m) (upd_ne fun e => by subst e; rw [g] at q; cases q)
theorem Sto.write (S : Sto K H G) {p : Addr} {o : HO} {m m0 : MO} (g : G p = some m0) (x : ObjIs K (upd H p o) (put G p m) p m) : Sto K (upd H p o) (put G p m) := fun a u q => by
  by_cases e : a = p
  · subst e; rw [put_same] at q; cases q; exact x
  · rw [put_ne e] at q
    exact (S a u q).ext (ext_write g) (upd_ne e)
theorem tup_new {p : Addr} {vs : List V} {ds : List D} (S : Sto K H G) (n : H p = none) (t : TrL K H G ds vs) : Tr K (upd H p (.tup vs)) G (.tup ds) (.ref p) :=
  ⟨p, vs, rfl, ⟨S.no n, upd_same⟩, t.ext (ext_new n)⟩
theorem lst_new {p : Addr} {vs : List V} {ds : List D} {od : Obj} (S : Sto K H G) (n : H p = none) (t : TrL K H G ds vs) : Tr K (upd H p (.frz od (.lst vs))) G (.lst ds) (.ref p) :=
  ⟨p, vs, rfl, ⟨S.no n, od, upd_same⟩, t.ext (ext_new n)⟩
abbrev lQ (Q : VK) : VK := fun v H => LockQ (Q v) H
/-- a new list, as it stands or as one that may change -/
theorem mk_lst {m : Bool} {p : Addr} {vs : List V} {ds : List D} {q : DK} {Q : VK} (S : Sto K H G) (n : H p = none) (t : TrL K H G ds vs) (h : mkO m (.lst ds) (.lst ds) G q) (k : Kont K G H q Q) : lQ Q (.ref p) (upd H p (.lst vs)) := by
  cases m with
  | false => exact .new trivial fun od => k _ _ G _ (ext_new n) (S.new n) (lst_new S n t) h
  | true => exact .done (k _ (.ref p) _ _ (ext_newM n) (S.newM (m := .lst ds) n ⟨vs, upd_same, t.ext (ext_newM n)⟩) rfl (h p (S.no n)))
theorem mk_dK {m : Bool} {p : Addr} {vs : List (Key × V)} {ds : List (Key × D)} {q : DK} {Q : VK} (S : Sto K H G) (n : H p = none) (t : TrK K H G ds vs) (h : mkO m (.dK ds) (.dK ds) G q) (k : Kont K G H q Q) : lQ Q (.ref p) (upd H p (.dK vs)) := by
  cases m with
  | false => exact .new trivial fun od => k _ (.dK ds) G _ (ext_new n) (S.new n) ⟨p, vs, rfl, ⟨S.no n, od, upd_same⟩, t.ext (ext_new n)⟩ h
  | true => exact .done (k _ (.ref p) _ _ (ext_newM n) (S.newM (m := .dK ds) n ⟨vs, upd_same, t.ext (ext_newM n)⟩) rfl (h p (S.no n)))
theorem mk_dT {m : Bool} {p : Addr} {vs : List (List Key × V)} {ds : List (List Key × D)} {q : DK} {Q : VK} (S : Sto K H G) (n : H p = none) (t : TrT K H G ds vs) (h : mkO m (.dT ds) (.dT ds) G q) (k : Kont K G H q Q) : lQ Q (.ref p) (upd H p (.dT vs)) := by
  cases m with
  | false => exact .new trivial fun od => k _ (.dT ds) G _ (ext_new n) (S.new n) ⟨p, vs, rfl, ⟨S.no n, od, upd_same⟩, t.ext (ext_new n)⟩ h
  | true => exact .done (k _ (.ref p) _ _ (ext_newM n) (S.newM (m := .dT ds) n ⟨vs, upd_same, t.ext (ext_newM n)⟩) rfl (h p (S.no n)))
theorem Kont.ext {q : DK} {Q : VK} (k : Kont K G H q Q) (e : Ext G H G' H') : Kont K G' H' q Q := fun v d G2 H2 e2 => k v d G2 H2 (e.trans e2)
end

/-! ### lifts in a row -/
section
variable {K : PySem.W.Frag} {H : Hp} {τ : L2.St} {Q Q' : VK}
theorem lE_mono {w : TW} (h : lE K w τ H Q) (i : ∀ v H', Q v H' → Q' v H') : lE K w τ H Q' := by
  obtain ⟨σ, G, q, a, b, c, k⟩ := h
  exact ⟨σ, G, q, a, b, c, fun v d G' H' e s t z => i _ _ (k v d G' H' e s t z)⟩
theorem lE_bind {w : TW} {k : Sl → D → Store → DK → Prop} (h : lE K (fun σ G q => w σ G fun x G1 => k σ x G1 q) τ H Q) :
    lE K w τ H fun u H1 => ∃ σ G1 x q, Sts K H1 G1 σ τ ∧ Sto K H1 G1 ∧ Tr K H1 G1 x u ∧ k σ x G1 q ∧ Kont K G1 H1 q Q := by
  obtain ⟨σ, G, q, a, b, c, kk⟩ := h
  exact ⟨σ, G, _, a, b, c, fun v d G' H' e s t z => ⟨σ, G', d, q, a.ext e, s, t, z, kk.ext e⟩⟩
theorem lE_bind2 {wa wb : TW} {k : Sl → D → D → Store → DK → Prop} (h : lE K (fun σ G q => wa σ G fun x G1 => wb σ G1 fun y G2 => k σ x y G2 q) τ H Q) :
    lE K wa τ H fun u H1 => lE K wb τ H1 fun v H2 => ∃ σ G2 x y q, Sts K H2 G2 σ τ ∧ Sto K H2 G2 ∧ Tr K H2 G2 x u ∧ Tr K H2 G2 y v ∧ k σ x y G2 q ∧ Kont K G2 H2 q Q := by
  refine lE_mono (lE_bind h) fun u H1 ⟨σ, G1, x, q, a, b, t, c, kk⟩ => ?_
  exact ⟨σ, G1, _, a, b, c, fun v d G' H' e s t' z => ⟨σ, G', x, d, q, a.ext e, s, t.ext e, t', z, kk.ext e⟩⟩
theorem lE_bind3 {wa wb wc : TW} {k : Sl → D → D → D → Store → DK → Prop} (h : lE K (fun σ G q => wa σ G fun x G1 => wb σ G1 fun y G2 => wc σ G2 fun z G3 => k σ x y z G3 q) τ H Q) :
    lE K wa τ H fun u H1 => lE K wb τ H1 fun v H2 => lE K wc τ H2 fun w H3 => ∃ σ G3 x y z q, Sts K H3 G3 σ τ ∧ Sto K H3 G3 ∧ Tr K H3 G3 x u ∧ Tr K H3 G3 y v ∧ Tr K H3 G3 z w ∧ k σ x y z G3 q ∧ Kont K G3 H3 q Q := by
  refine lE_mono (lE_bind2 h) fun u H1 hh => lE_mono hh fun v H2 ⟨σ, G2, x, y, q, a, b, t, t2, c, kk⟩ => ?_
  exact ⟨σ, G2, _, a, b, c, fun v d G' H' e s t' z => ⟨σ, G', x, y, d, q, a.ext e, s, t.ext e, t2.ext e, t', z, kk.ext e⟩⟩
/-- arguments: n of them -/
def lAn (K : PySem.W.Frag) (n : Nat) (w : TWL) : TA := fun τ H Q => ∃ σ G q, Sts K H G σ τ ∧ Sto K H G ∧ w σ G q ∧ ∀ vs ds G' H', ds.length = n → Ext G H G' H' → Sto K H' G' → TrL K H' G' ds vs → q ds G' → Q vs H'
theorem lAn_bind {n : Nat} {w : TWL} {k : Sl → List D → Store → DK → Prop} (h : lE K (fun σ G q => w σ G fun x G1 => k σ x G1 q) τ H Q) :
    lAn K n w τ H fun us H1 => ∃ σ G1 ds q, ds.length = n ∧ Sts K H1 G1 σ τ ∧ Sto K H1 G1 ∧ TrL K H1 G1 ds us ∧ k σ ds G1 q ∧ Kont K G1 H1 q Q := by
  obtain ⟨σ, G, q, a, b, c, kk⟩ := h
  exact ⟨σ, G, _, a, b, c, fun vs ds G' H' l e s t z => ⟨σ, G', ds, q, l, a.ext e, s, t, z, kk.ext e⟩⟩
theorem lAn_mono {n : Nat} {w : TWL} {P P' : List V → Hp → Prop} (h : lAn K n w τ H P) (i : ∀ v H', P v H' → P' v H') : lAn K n w τ H P' := by
  obtain ⟨σ, G, q, a, b, c, k⟩ := h
  exact ⟨σ, G, q, a, b, c, fun v d G' H' l e s t z => i _ _ (k v d G' H' l e s t z)⟩
end

section
variable {X : Cx}
theorem _root_.L2.PE.imp {e : Expr} {t t' : TE} (h : PE X e t) (i : ∀ σ H Q, t' σ H Q → t σ H Q) : PE X e t' := ⟨fun pins s σ H Q I w => h.run pins s σ H Q I (i σ H Q w)⟩
theorem ep_lk {pins : List (Addr × Obj)} {σ : L2.St} {Q : VK} {u : Value} {s : Shared} (h : EP X pins σ (lQ Q) u s) : EP X pins σ Q u s := by
  obtain ⟨v, H, I, r, q⟩ := h
  obtain ⟨H', I', q'⟩ := q.run I
  exact ⟨v, H', I', r, q'⟩
theorem _root_.L2.PE.lk {e : Expr} {t : TE} (h : PE X e t) : PE X e (fun τ H Q => t τ H (lQ Q)) := ⟨fun pins s σ H Q I w => thn (h.run pins s σ H _ I w) fun _ _ q => ep_lk q⟩
theorem _root_.L2.OpR.lk {f : Value → Value → Sem Value} {r : R2} (h : OpR X f r) : OpR X f (fun x y H Q => r x y H (lQ Q)) := fun pins s σ H x y v u Q I rx ry w => thn (h pins s σ H x y v u _ I rx ry w) fun _ _ q => ep_lk q
theorem _root_.L2.CallR.lk {f : Value} {r : List V → Hp → VK → Prop} (h : CallR X f r) : CallR X f (fun xs H Q => r xs H (lQ Q)) := fun pins s σ H xs vs Q I rx w => thn (h pins s σ H xs vs _ I rx w) fun _ _ q => ep_lk q
theorem _root_.L2.PT.imp {e : Expr} {t t' : TT} (h : PT X e t) (i : ∀ σ H Q, t' σ H Q → t σ H Q) : PT X e t' := ⟨fun pins s σ H Q I w => h.run pins s σ H Q I (i σ H Q w)⟩
theorem _root_.L2.PA.imp {e : List Expr} {t t' : TA} (h : PA X e t) (i : ∀ σ H Q, t' σ H Q → t σ H Q) : PA X e t' := ⟨fun pos pins s σ H Q I w => h.run pos pins s σ H Q I (i σ H Q w)⟩
theorem _root_.L2.PO.imp {e : Option Expr} {t t' : TO} (h : PO X e t) (i : ∀ σ H Q, t' σ H Q → t σ H Q) : PO X e t' := ⟨fun pins s σ H Q I w => h.run pins s σ H Q I (i σ H Q w)⟩
theorem _root_.L2.PS.imp {e : Stmt} {t t' : TS} (h : PS X e t) (i : ∀ D σ H, t' D σ H → t D σ H) : PS X e t' := ⟨fun pins s σ H D I w => h.run pins s σ H D I (i D σ H w)⟩
theorem _root_.L2.PSs.imp {e : List Stmt} {t t' : TS} (h : PSs X e t) (i : ∀ D σ H, t' D σ H → t D σ H) : PSs X e t' := ⟨fun pins s σ H D I w => h.run pins s σ H D I (i D σ H w)⟩
theorem _root_.L2.PG.imp {e : Expr} {t t' : TG} (h : PG X e t) (i : ∀ v σ H Q, t' v σ H Q → t v σ H Q) : PG X e t' := ⟨fun pins s σ H v u Q I r w => h.run pins s σ H v u Q I r (i v σ H Q w)⟩
theorem _root_.L2.OpR.imp {f : Value → Value → Sem Value} {r r' : R2} (h : OpR X f r) (i : ∀ x y H Q, r' x y H Q → r x y H Q) : OpR X f r' := fun pins s σ H x y v u Q I rx ry w => h pins s σ H x y v u Q I rx ry (i x y H Q w)
theorem _root_.L2.CallR.imp {f : Value} {r r' : List V → Hp → VK → Prop} (h : CallR X f r) (i : ∀ xs H Q, r' xs H Q → r xs H Q) : CallR X f r' := fun pins s σ H xs vs Q I rx w => h pins s σ H xs vs Q I rx (i xs H Q w)

/-- a def's values and tests -/
abbrev DE (X : Cx) (W : Wi) (e : Expr) (d : Den) : Prop := PE X e (lE X.K (d.e W))
abbrev DT (X : Cx) (W : Wi) (e : Expr) (d : Den) : Prop := PT X e (lT X.K (d.t W))
abbrev DA (X : Cx) (W : Wi) (es : List Expr) (n : Nat) (ds : List Den) : Prop := PA X es (lAn X.K n (dA ds W))
variable {W : Wi}

theorem de_var {i : Nat} {x : Str} {pos : Pos} (hN : X.N[i]? = some x) (hv : Vis X.env.scope x) (hd : (x == ("__debug__" : Str)) = false) (hcd : (x == ("__classdict__" : Str)) = false) : DE X W (.Name x pos) (sVar i) :=
  (pe_var hN hv hd hcd).imp fun τ H Q ⟨σ, G, q, a, b, ⟨d, h1, h2⟩, k⟩ => by
    have e : σ[i]? = some (some d) := by
      unfold slot at h1
      cases h : σ[i]? with
      | none => rw [h] at h1; cases h1
      | some o => rw [h] at h1; cases o with
        | none => cases h1
        | some d' => cases h1; rfl
    obtain ⟨v, hv, t⟩ := a.2 i d e
    exact ⟨v, hv, k v d G H (.refl G H) b t h2⟩
theorem lE_c {K : PySem.W.Frag} {H : Hp} {τ : L2.St} {Q : VK} {d : D} {v : V} (h : lE K ((sC d).e W) τ H Q) (t : ∀ G, Tr K H G d v) : Q v H := by
  obtain ⟨σ, G, q, a, b, c, k⟩ := h
  exact k v d G H (.refl G H) b (t G) c
theorem de_int {i j pos} : DE X W (.Constant (.int i) j pos) (sC (.int i)) := pe_int.imp fun _ _ _ h => lE_c h fun _ => rfl
theorem de_bl {i j pos} : DE X W (.Constant (.bool i) j pos) (sC (.bl i)) := pe_bl.imp fun _ _ _ h => lE_c h fun _ => rfl
theorem de_non {j pos} : DE X W (.Constant .none j pos) (sC .non) := pe_non.imp fun _ _ _ h => lE_c h fun _ => rfl
theorem de_str {i j pos} : DE X W (.Constant (.str i) j pos) (sC (.str i)) := pe_str.imp fun _ _ _ h => lE_c h fun _ => rfl

/-- a tree that stands in every heap -/
def Cst (K : PySem.W.Frag) (d : D) (v : V) : Prop := ∀ H G, Tr K H G d v
theorem de_glob {x : Str} {v : V} {u : Value} {pos : Pos} {Γ : Ctx} {d : D} (hg : Gl X x) (hm : X.mg x = some u) (r : RelV v u) (hd : (x == ("__debug__" : Str)) = false) (hx : ∀ d, Γ.glob x = some d → Cst X.K d v) :
    DE X W (.Name x pos) (sGlob Γ x) :=
  (pe_glob hg hm r hd).imp fun τ H Q ⟨σ, G, q, a, b, ⟨d, h1, h2⟩, k⟩ => k v d G H (.refl G H) b (hx d h1 H G) h2

/-! arguments -/
theorem da_nil : DA X W [] 0 [] := pa_nil.imp fun τ H Q ⟨σ, G, q, a, b, c, k⟩ => k [] [] G H rfl (.refl G H) b .nil c
def noStar : Expr → Bool
  | .Starred _ _ => false
  | _ => true
theorem star_cons {e : Expr} {es : List Expr} {env : Env} (h : noStar e = true) : starEach (e :: es) env = (false, eval e env) :: starEach es env := by
  cases e <;> first | rfl | exact (Bool.noConfusion h)
theorem da_cons {e : Expr} {es : List Expr} {n : Nat} {d : Den} {ds : List Den} (ha : DE X W e d) (hr : DA X W es n ds) (hs : noStar e = true) : DA X W (e :: es) (n + 1) (d :: ds) :=
  (pa_cons ha hr (star_cons hs)).imp fun τ H Q ⟨σ, G, q, a, b, c, k⟩ => by
    refine ⟨σ, G, _, a, b, c, fun v x G1 H1 e s t z => ?_⟩
    refine ⟨σ, G1, _, a.ext e, s, z, fun vs xs G2 H2 l e2 s2 t2 z2 => ?_⟩
    exact k (v :: vs) (x :: xs) G2 H2 (by rw [List.length_cons, l]) (e.trans e2) s2 (.cons (t.ext e2) t2) z2

/-! displays -/
theorem de_tup {es : List Expr} {n : Nat} {ds : List Den} {x1 : Nat} {pos : Pos} (h : DA X W es n ds) (hn : n ≤ 1000) : DE X W (.Tuple es x1 pos) (sTup ds) :=
  (pe_tup h).imp fun τ H Q hw => lAn_mono (lAn_bind (n := n) (k := fun _ ds G q => q (.tup ds) G) hw) fun us H1 ⟨σ, G1, xs, q, l, a, b, t, z, k⟩ => by
    refine ⟨?_, fun p np => k _ _ G1 _ (ext_new np) (b.new np) (tup_new b np t) z⟩
    rw [← t.length, l]
    exact Nat.le_trans hn (by decide)
theorem de_lst {es : List Expr} {n : Nat} {m : Bool} {ds : List Den} {pos : Pos} (h : DA X W es n ds) (hn : n ≤ 1000) : DE X W (.List es pos) (sLst m ds) :=
  (pe_lst h).lk.imp fun τ H Q hw => lAn_mono (lAn_bind (n := n) (k := fun _ ds G q => mkO m (.lst ds) (.lst ds) G q) hw) fun us H1 ⟨σ, G1, xs, q, l, a, b, t, z, k⟩ => by
    refine ⟨?_, fun p np => mk_lst b np t z k⟩
    rw [← t.length, l]
    exact Nat.le_trans hn (by decide)
theorem de_dic {t : Bool} {pos : Pos} : DE X W (.Dict [] [] pos) (sDic t) := by
  cases t with
  | false => exact pe_dnewK.imp fun τ H Q ⟨σ, G, q, a, b, c, k⟩ p np => k _ (.ref p) _ _ (ext_newM np) (b.newM (m := .dK []) np ⟨[], upd_same, rfl⟩) rfl (c p (b.no np))
  | true => exact pe_dnewT.imp fun τ H Q ⟨σ, G, q, a, b, c, k⟩ p np => k _ (.ref p) _ _ (ext_newM np) (b.newM (m := .dT []) np ⟨[], upd_same, rfl⟩) rfl (c p (b.no np))

/-! operators -/
/-- an operator by values, over trees -/
def OpL (X : Cx) (f : Value → Value → Sem Value) (r : D → D → Option D) : Prop :=
  OpR X f fun u v H Q => ∃ x y G d, Rb X.K H G x u ∧ Rb X.K H G y v ∧ Sto X.K H G ∧ r x y = some d ∧ ∀ z H', Ext G H G H' → Sto X.K H' G → Tr X.K H' G d z → Q z H'
theorem opl_post {K : PySem.W.Frag} {H : Hp} {G : Store} {x y : D} {u v : V} {q : DK} {Q : VK} {r : D → D → Option D} (b : Sto K H G) (t : Tr K H G x u) (t2 : Tr K H G y v)
    (z : oq (r (lk G x) (lk G y)) fun d => q d G) (k : Kont K G H q Q) : ∃ x y G d, Rb K H G x u ∧ Rb K H G y v ∧ Sto K H G ∧ r x y = some d ∧ ∀ z H', Ext G H G H' → Sto K H' G → Tr K H' G d z → Q z H' := by
  obtain ⟨d, e, z⟩ := z
  exact ⟨_, _, G, d, b.rb t, b.rb t2, b, e, fun z' H' e' s t => k z' d G H' e' s t z⟩
theorem de_bin {a b : Expr} {da db : Den} {o : Operator} {op : Op} {pos : Pos} (ho : OpL X (binaryOp o) (binD op)) (ha : DE X W a da) (hb : DE X W b db) : DE X W (.BinOp a o b pos) (sBin op da db) :=
  (pe_op ho ha hb).imp fun τ H Q hw => lE_mono (lE_bind2 (k := fun _ x y G2 q => oq (binD op (lk G2 x) (lk G2 y)) fun d => q d G2) hw) fun u H1 hh => lE_mono hh fun v H2 ⟨σ, G2, x, y, q, a, b, t, t2, z, k⟩ => opl_post b t t2 z k
theorem de_cmp {a b : Expr} {da db : Den} {o : CmpOp} {op : Cm} {pos : Pos} (ho : OpL X (compareOp o) (cmpD op)) (ha : DE X W a da) (hb : DE X W b db) (hm : behindInMarks o b = false) : DE X W (.Compare a [o] [b] pos) (sCmp op da db) :=
  (pe_cmpR ho ha hb hm).imp fun τ H Q hw => lE_mono (lE_bind2 (k := fun _ x y G2 q => oq (cmpD op (lkc op G2 x) (lk G2 y)) fun d => q d G2) hw) fun u H1 hh => lE_mono hh fun v H2 ⟨σ, G2, x, y, q, a, b, t, t2, ⟨d, e, z⟩, k⟩ =>
    ⟨_, _, G2, d, (by unfold lkc; split <;> first | exact t.rb | exact b.rb t), b.rb t2, b, e, fun z' H' e' s t => k z' d G2 H' e' s t z⟩
end
end T
end
section
set_option Elab.async false
set_option linter.all false
set_option maxRecDepth 100000
set_option maxHeartbeats 1000000
/-! Equality, membership, order of data. -/
namespace T
open PySem PySem.Spec L2
open PySem.SeqAt (EqAt RcAt)

/-! ### trees that are pure data, as PyData -/
section
variable {K : PySem.W.Frag} {H : Hp} {G : Store}
mutual
theorem tr_dp : ∀ (d : D) (v : V), d.pure = true → Tr K H G d v → Dp K H v d.py
  | .non, v, _, h => by have e : v = .non := h; subst e; exact .non
  | .bl b, v, _, h => by have e : v = .bl b := h; subst e; exact .bl b
  | .int i, v, _, h => by have e : v = .int i := h; subst e; exact .int i
  | .str s, v, _, h => by have e : v = .str s := h; subst e; exact .str s
  | .tup ds, _, p, ⟨a, vs, e, q, t⟩ => by subst e; exact .tup q.sq (trL_dp ds vs p t)
  | .lst ds, _, p, ⟨a, vs, e, q, t⟩ => by subst e; exact .lst q.sq (trL_dp ds vs p t)
  | .dK _, _, p, _ => by cases p
  | .dT _, _, p, _ => by cases p
  | .ref _, _, p, _ => by cases p
  | .scr _, _, p, _ => by cases p
  | .ktup _, _, p, _ => by cases p
theorem trL_dp : ∀ (ds : List D) (vs : List V), D.pureL ds = true → TrL K H G ds vs → DpAll K H vs (D.pyL ds)
  | [], _, _, h => by cases h; exact .nil
  | d :: ds, _, p, ⟨v, ws, e, t, h⟩ => by
    subst e
    have p' : d.pure = true ∧ D.pureL ds = true := by simpa [D.pureL] using p
    exact .cons (tr_dp d v p'.1 t) (trL_dp ds ws p'.2 h)
end
theorem rb_dp {d : D} {v : V} (p : d.pure = true) (h : Rb K H G d v) : Dp K H v d.py := by
  cases d with
  | tup ds => obtain ⟨a, vs, e, q, t⟩ := h; subst e; exact .tup q.sq (trL_dp ds vs p t)
  | lst ds => obtain ⟨a, vs, e, q, t⟩ := h; subst e; exact .lst (.inl q) (trL_dp ds vs p t)
  | non => exact tr_dp (G := G) _ _ p h
  | bl b => exact tr_dp (G := G) _ _ p h
  | int b => exact tr_dp (G := G) _ _ p h
  | str b => exact tr_dp (G := G) _ _ p h
  | dK _ => cases p
  | dT _ => cases p
  | ref _ => cases p
  | scr _ => cases p
  | ktup _ => cases p
end
mutual
theorem eq_py : ∀ x y : D, x.pure = true → y.pure = true → PyData.eqv x.py y.py = D.eq x y
  | .non, y, _, q => by cases y <;> first | rfl | cases q
  | .bl b, y, _, q => by cases y <;> first | rfl | cases q
  | .int b, y, _, q => by cases y <;> first | rfl | cases q
  | .str b, y, _, q => by cases y <;> first | rfl | cases q
  | .tup xs, y, p, q => by
    cases y with
    | tup ys => exact eqL_py xs ys p q
    | _ => first | rfl | cases q
  | .lst xs, y, p, q => by
    cases y with
    | lst ys => exact eqL_py xs ys p q
    | _ => first | rfl | cases q
  | .dK _, _, p, _ => by cases p
  | .dT _, _, p, _ => by cases p
  | .ref _, _, p, _ => by cases p
  | .scr _, _, p, _ => by cases p
  | .ktup _, _, p, _ => by cases p
theorem eqL_py : ∀ xs ys : List D, D.pureL xs = true → D.pureL ys = true → PyData.eqvAll (D.pyL xs) (D.pyL ys) = D.eqL xs ys
  | [], [], _, _ => rfl
  | [], _ :: _, _, _ => rfl
  | _ :: _, [], _, _ => rfl
  | x :: xs, y :: ys, p, q => by
    have p' : x.pure = true ∧ D.pureL xs = true := by simpa [D.pureL] using p
    have q' : y.pure = true ∧ D.pureL ys = true := by simpa [D.pureL] using q
    show (PyData.eqv x.py y.py && PyData.eqvAll (D.pyL xs) (D.pyL ys)) = (D.eq x y && D.eqL xs ys)
    rw [eq_py x y p'.1 q'.1, eqL_py xs ys p'.2 q'.2]
end
mutual
theorem dep_py : ∀ x : D, x.pure = true → x.py.depth = x.dep
  | .non, _ => rfl
  | .bl _, _ => rfl
  | .int _, _ => rfl
  | .str _, _ => rfl
  | .tup xs, p => congrArg (· + 1) (depL_py xs p)
  | .lst xs, p => congrArg (· + 1) (depL_py xs p)
  | .dK _, p => by cases p
  | .dT _, p => by cases p
  | .ref _, p => by cases p
  | .scr _, p => by cases p
  | .ktup _, p => by cases p
theorem depL_py : ∀ xs : List D, D.pureL xs = true → PyData.depthAll (D.pyL xs) = D.depL xs
  | [], _ => rfl
  | x :: xs, p => by
    have p' : x.pure = true ∧ D.pureL xs = true := by simpa [D.pureL] using p
    show max x.py.depth (PyData.depthAll (D.pyL xs)) = max x.dep (D.depL xs)
    rw [dep_py x p'.1, depL_py xs p'.2]
end
theorem pyL_map : ∀ ds : List D, D.pyL ds = ds.map D.py
  | [] => rfl
  | d :: ds => by rw [List.map_cons, ← pyL_map ds]; rfl
theorem pureL_all : ∀ ds : List D, D.pureL ds = ds.all D.pure
  | [] => rfl
  | d :: ds => by rw [List.all_cons, ← pureL_all ds]; rfl
theorem depL_le : ∀ {ds : List D} {d : D}, d ∈ ds → d.dep ≤ D.depL ds
  | e :: ds, d, h => by
    show d.dep ≤ max e.dep (D.depL ds)
    rcases List.mem_cons.mp h with h | h
    · subst h; exact Nat.le_max_left _ _
    · exact Nat.le_trans (depL_le h) (Nat.le_max_right _ _)

/-! ### what a value reads as is one -/
section
variable {X : Cx} {pins : List (Addr × Obj)} {τ : L2.St} {H : Hp} {s : Shared}
theorem no_tl (I : Inv X pins τ H s) {a : Addr} {xs ys : List V} (h : SqL X.K H a xs) (k : SqT X.K H a ys) : False := by
  obtain ⟨_, _, ⟨o, n, e, c, _⟩, _⟩ := I.list h
  obtain ⟨_, _, ⟨o', e', c', _⟩, _⟩ := I.tuple k
  rw [e] at e'; cases e'; rw [c] at c'; exact absurd c' (by simp)
mutual
theorem dp_one (I : Inv X pins τ H s) : ∀ (p q : PyData) (v : V), Dp X.K H v p → Dp X.K H v q → p = q
  | .none, _, _, a, b => by cases a; cases b; rfl
  | .bool _, _, _, a, b => by cases a; cases b; rfl
  | .int _, _, _, a, b => by cases a; cases b; rfl
  | .str _, _, _, a, b => by cases a; cases b; rfl
  | .list ps, _, _, a, b => by
    cases a with
    | lst h t =>
      cases b with
      | lst h' t' =>
        have e := I.list_inj h h'
        subst e
        rw [dps_one I ps _ _ t t']
      | tup h' t' => exact (no_tl I h h').elim
  | .tuple ps, _, _, a, b => by
    cases a with
    | tup h t =>
      cases b with
      | tup h' t' =>
        have e := I.tuple_inj h h'
        subst e
        rw [dps_one I ps _ _ t t']
      | lst h' t' => exact (no_tl I h' h).elim
  | .dict _, _, _, a, _ => by cases a
theorem dps_one (I : Inv X pins τ H s) : ∀ (ps qs : List PyData) (vs : List V), DpAll X.K H vs ps → DpAll X.K H vs qs → ps = qs
  | [], _, _, a, b => by cases a; cases b; rfl
  | p :: ps, _, _, a, b => by
    cases a with
    | cons a1 a2 =>
      cases b with
      | cons b1 b2 => rw [dp_one I p _ _ a1 b1, dps_one I ps _ _ a2 b2]
end
mutual
theorem eqv_self (I : Inv X pins τ H s) : ∀ (p : PyData) (v : V), Dp X.K H v p → PyData.eqv p p = true
  | .none, _, _ => rfl
  | .bool _, _, _ => beq_self_eq_true _
  | .int _, _, _ => beq_self_eq_true _
  | .str _, _, _ => beq_self_eq_true _
  | .list ps, _, a => by cases a with | lst h t => exact eqvs_self I ps _ t
  | .tuple ps, _, a => by cases a with | tup h t => exact eqvs_self I ps _ t
  | .dict _, _, a => by cases a
theorem eqvs_self (I : Inv X pins τ H s) : ∀ (ps : List PyData) (vs : List V), DpAll X.K H vs ps → PyData.eqvAll ps ps = true
  | [], _, _ => rfl
  | p :: ps, _, a => by
    cases a with
    | cons a1 a2 => exact Bool.and_eq_true_iff.mpr ⟨eqv_self I p _ a1, eqvs_self I ps _ a2⟩
end
theorem dps_len : ∀ {vs : List V} {ps : List PyData}, DpAll X.K H vs ps → vs.length = ps.length
  | _, _, .nil => rfl
  | _, _, .cons _ t => congrArg (· + 1) (dps_len t)
theorem units_in1 {A : Around} {m n : Nat} (h : A.units + (m + 1) < n) : A.in1.units + m < n := by
  have e : A.in1.units = A.units + 1 := rfl
  omega
mutual
theorem eq_dp (I : Inv X pins τ H s) : ∀ (p q : PyData) (A : Around) (u v : V) (a b : Value), Dp X.K H u p → Dp X.K H v q → RelV u a → RelV v b → A.units + min p.depth q.depth < cLine → EqAt A s a b (PyData.eqv p q)
  | .none, q, A, u, v, a, b, hp, hq, ra, rb, hu => by
    cases hp; cases ra
    have h0 : A.units < cLine := by omega
    cases hq with
    | non => cases rb; exact .same _
    | bl y => cases rb; exact .none_bool y
    | int y => obtain ⟨t, rfl⟩ := rb; exact .none_int y t
    | str y => obtain ⟨t, rfl⟩ := rb; exact .none_str y t
    | lst h t => cases rb; obtain ⟨_, _, c, _⟩ := I.list h; exact .none_list c.isList h0
    | tup h t => cases rb; obtain ⟨_, _, c, _⟩ := I.tuple h; exact .none_tuple c h0
  | .bool x, q, A, u, v, a, b, hp, hq, ra, rb, hu => by
    cases hp; cases ra
    have h0 : A.units < cLine := by omega
    cases hq with
    | non => cases rb; exact .bool_none x
    | bl y => cases rb; exact .bool_bool x y
    | int y => obtain ⟨t, rfl⟩ := rb; exact .bool_int x y t
    | str y => obtain ⟨t, rfl⟩ := rb; exact .bool_str x y t
    | lst h t => cases rb; obtain ⟨_, _, c, _⟩ := I.list h; exact .bool_list x c.isList h0
    | tup h t => cases rb; obtain ⟨_, _, c, _⟩ := I.tuple h; exact .bool_tuple x c h0
  | .int x, q, A, u, v, a, b, hp, hq, ra, rb, hu => by
    cases hp; obtain ⟨tx, rfl⟩ := ra
    have h0 : A.units < cLine := by omega
    cases hq with
    | non => cases rb; exact .int_none x tx
    | bl y => cases rb; exact .int_bool x tx y
    | int y => obtain ⟨t, rfl⟩ := rb; exact .int_int x tx y t
    | str y => obtain ⟨t, rfl⟩ := rb; exact .int_str x tx y t
    | lst h t => cases rb; obtain ⟨_, _, c, _⟩ := I.list h; exact .int_list x tx c.isList h0
    | tup h t => cases rb; obtain ⟨_, _, c, _⟩ := I.tuple h; exact .int_tuple x tx c h0
  | .str x, q, A, u, v, a, b, hp, hq, ra, rb, hu => by
    cases hp; obtain ⟨tx, rfl⟩ := ra
    have h0 : A.units < cLine := by omega
    cases hq with
    | non => cases rb; exact .str_none x tx
    | bl y => cases rb; exact .str_bool x tx y
    | int y => obtain ⟨t, rfl⟩ := rb; exact .str_int x tx y t
    | str y => obtain ⟨t, rfl⟩ := rb; exact .str_str x tx y t
    | lst h t => cases rb; obtain ⟨_, _, c, _⟩ := I.list h; exact .str_list x tx c.isList h0
    | tup h t => cases rb; obtain ⟨_, _, c, _⟩ := I.tuple h; exact .str_tuple x tx c h0
  | .list ps, q, A, u, v, a, b, hp, hq, ra, rb, hu => by
    cases hp with
    | @lst l xs _ hl tl =>
      cases ra
      have h0 : A.units < cLine := by omega
      obtain ⟨is, ri, ci, _⟩ := I.list hl
      cases hq with
      | non => cases rb; exact .list_none ci.isList h0
      | bl y => cases rb; exact .list_bool y ci.isList h0
      | int y => obtain ⟨t, rfl⟩ := rb; exact .list_int y t ci.isList h0
      | str y => obtain ⟨t, rfl⟩ := rb; exact .list_str y t ci.isList h0
      | tup h t => cases rb; obtain ⟨_, _, c, _⟩ := I.tuple h; exact .list_tuple ci.isList c h0
      | @lst l' ys qs hl' tl' =>
        cases rb
        obtain ⟨js, rj, cj, _⟩ := I.list hl'
        by_cases hne : l = l'
        · subst hne
          have e := dp_one I (.list ps) (.list qs) (.ref l) (.lst hl tl) (.lst hl' tl')
          rw [← e, eqv_self I (.list ps) (.ref l) (.lst hl tl)]
          exact .same _
        · refine .of_refs hne ?_
          have n1 : is.toArray.size = ps.length := by rw [List.size_toArray, ← ri.length, dps_len tl]
          have n2 : js.toArray.size = qs.length := by rw [List.size_toArray, ← rj.length, dps_len tl']
          show RcAt A s (.ref l) (.ref l') (PyData.eqvAll ps qs)
          by_cases hsz : is.toArray.size = js.toArray.size
          · rw [← SeqAt.eqvAll_same_length (by omega : ps.length = qs.length), ← n1]
            refine RcAt.lists ci.isList cj.isList hsz h0 fun j j1 j2 => ?_
            have hd : A.in1.units + min (PyData.depthAll ps) (PyData.depthAll qs) < cLine := by
              have e1 : (PyData.list ps).depth = PyData.depthAll ps + 1 := rfl
              have e2 : (PyData.list qs).depth = PyData.depthAll qs + 1 := rfl
              rw [e1, e2] at hu
              have e3 : A.in1.units = A.units + 1 := rfl
              omega
            have z := eqs_dp I ps qs A.in1 xs ys is js tl tl' ri rj hd j (by rw [List.size_toArray] at j1; exact j1) (by rw [List.size_toArray] at j2; exact j2)
            simpa using z
          · rw [SeqAt.eqvAll_other_length (by omega : ps.length ≠ qs.length)]
            exact RcAt.lists_lengths ci.isList cj.isList (by simpa using hsz) h0
  | .tuple ps, q, A, u, v, a, b, hp, hq, ra, rb, hu => by
    cases hp with
    | @tup l xs _ hl tl =>
      cases ra
      have h0 : A.units < cLine := by omega
      obtain ⟨is, ri, ci, _⟩ := I.tuple hl
      cases hq with
      | non => cases rb; exact .tuple_none ci h0
      | bl y => cases rb; exact .tuple_bool y ci h0
      | int y => obtain ⟨t, rfl⟩ := rb; exact .tuple_int y t ci h0
      | str y => obtain ⟨t, rfl⟩ := rb; exact .tuple_str y t ci h0
      | lst h t => cases rb; obtain ⟨_, _, c, _⟩ := I.list h; exact .tuple_list ci c.isList h0
      | @tup l' ys qs hl' tl' =>
        cases rb
        obtain ⟨js, rj, cj, _⟩ := I.tuple hl'
        by_cases hne : l = l'
        · subst hne
          have e := dp_one I (.tuple ps) (.tuple qs) (.ref l) (.tup hl tl) (.tup hl' tl')
          rw [← e, eqv_self I (.tuple ps) (.ref l) (.tup hl tl)]
          exact .same _
        · refine .of_refs hne ?_
          have n1 : is.toArray.size = ps.length := by rw [List.size_toArray, ← ri.length, dps_len tl]
          have n2 : js.toArray.size = qs.length := by rw [List.size_toArray, ← rj.length, dps_len tl']
          show RcAt A s (.ref l) (.ref l') (PyData.eqvAll ps qs)
          rw [← SeqAt.eqvAll_eq ps qs, ← n1, ← n2]
          refine RcAt.tuples ci cj h0 fun j j1 j2 => ?_
          have hd : A.in1.units + min (PyData.depthAll ps) (PyData.depthAll qs) < cLine := by
            have e1 : (PyData.tuple ps).depth = PyData.depthAll ps + 1 := rfl
            have e2 : (PyData.tuple qs).depth = PyData.depthAll qs + 1 := rfl
            rw [e1, e2] at hu
            have e3 : A.in1.units = A.units + 1 := rfl
            omega
          have z := eqs_dp I ps qs A.in1 xs ys is js tl tl' ri rj hd j (by rw [List.size_toArray] at j1; exact j1) (by rw [List.size_toArray] at j2; exact j2)
          simpa using z
  | .dict _, _, _, _, _, _, _, hp, _, _, _, _ => by cases hp
theorem eqs_dp (I : Inv X pins τ H s) : ∀ (ps qs : List PyData) (A : Around) (us vs : List V) (as bs : List Value), DpAll X.K H us ps → DpAll X.K H vs qs → Vals us as → Vals vs bs → A.units + min (PyData.depthAll ps) (PyData.depthAll qs) < cLine →
    ∀ j (h1 : j < as.length) (h2 : j < bs.length), EqAt A s as[j] bs[j] (SeqAt.pairEq ps qs j)
  | [], _, _, _, _, _, _, a, _, r, _, _, j, h1, _ => by cases a; cases r; exact absurd h1 (by simp)
  | _ :: _, [], _, _, _, _, _, _, b, _, r, _, j, _, h2 => by cases b; cases r; exact absurd h2 (by simp)
  | p :: ps, q :: qs, A, _, _, _, _, a, b, ra, rb, hu, j, h1, h2 => by
    cases a with
    | cons a1 a2 =>
      cases b with
      | cons b1 b2 =>
        cases ra with
        | cons ra1 ra2 =>
          cases rb with
          | cons rb1 rb2 =>
            have e1 : PyData.depthAll (p :: ps) = max p.depth (PyData.depthAll ps) := rfl
            have e2 : PyData.depthAll (q :: qs) = max q.depth (PyData.depthAll qs) := rfl
            rw [e1, e2] at hu
            cases j with
            | zero => exact eq_dp I p q A _ _ _ _ a1 b1 ra1 rb1 (by omega)
            | succ j => exact eqs_dp I ps qs A _ _ _ _ a2 b2 ra2 rb2 (by omega) j (by simpa using h1) (by simpa using h2)
end
open PySem.SeqAt (RcNeAt)
theorem rc_dp (I : Inv X pins τ H s) : ∀ (p q : PyData) (A : Around) (u v : V) (a b : Value), Dp X.K H u p → Dp X.K H v q → RelV u a → RelV v b → A.units + min p.depth q.depth < cLine → RcAt A s a b (PyData.eqv p q)
  | .none, q, A, u, v, a, b, hp, hq, ra, rb, hu => by
    cases hp; cases ra
    have h0 : A.units < cLine := by omega
    cases hq with
    | non => cases rb; exact .none_none
    | bl y => cases rb; exact .none_bool y
    | int y => obtain ⟨t, rfl⟩ := rb; exact .none_int y t
    | str y => obtain ⟨t, rfl⟩ := rb; exact .none_str y t
    | lst h t => cases rb; obtain ⟨_, _, c, _⟩ := I.list h; exact .none_list c.isList h0
    | tup h t => cases rb; obtain ⟨_, _, c, _⟩ := I.tuple h; exact .none_tuple c h0
  | .bool x, q, A, u, v, a, b, hp, hq, ra, rb, hu => by
    cases hp; cases ra
    have h0 : A.units < cLine := by omega
    cases hq with
    | non => cases rb; exact .bool_none x
    | bl y => cases rb; exact .bool_bool x y
    | int y => obtain ⟨t, rfl⟩ := rb; exact .bool_int x y t
    | str y => obtain ⟨t, rfl⟩ := rb; exact .bool_str x y t
    | lst h t => cases rb; obtain ⟨_, _, c, _⟩ := I.list h; exact .bool_list x c.isList h0
    | tup h t => cases rb; obtain ⟨_, _, c, _⟩ := I.tuple h; exact .bool_tuple x c h0
  | .int x, q, A, u, v, a, b, hp, hq, ra, rb, hu => by
    cases hp; obtain ⟨tx, rfl⟩ := ra
    have h0 : A.units < cLine := by omega
    cases hq with
    | non => cases rb; exact .int_none x tx
    | bl y => cases rb; exact .int_bool x tx y
    | int y => obtain ⟨t, rfl⟩ := rb; exact .int_int x tx y t
    | str y => obtain ⟨t, rfl⟩ := rb; exact .int_str x tx y t
    | lst h t => cases rb; obtain ⟨_, _, c, _⟩ := I.list h; exact .int_list x tx c.isList h0
    | tup h t => cases rb; obtain ⟨_, _, c, _⟩ := I.tuple h; exact .int_tuple x tx c h0
  | .str x, q, A, u, v, a, b, hp, hq, ra, rb, hu => by
    cases hp; obtain ⟨tx, rfl⟩ := ra
    have h0 : A.units < cLine := by omega
    cases hq with
    | non => cases rb; exact .str_none x tx
    | bl y => cases rb; exact .str_bool x tx y
    | int y => obtain ⟨t, rfl⟩ := rb; exact .str_int x tx y t
    | str y => obtain ⟨t, rfl⟩ := rb; exact .str_str x tx y t
    | lst h t => cases rb; obtain ⟨_, _, c, _⟩ := I.list h; exact .str_list x tx c.isList h0
    | tup h t => cases rb; obtain ⟨_, _, c, _⟩ := I.tuple h; exact .str_tuple x tx c h0
  | .list ps, q, A, u, v, a, b, hp, hq, ra, rb, hu => by
    cases hp with
    | @lst l xs _ hl tl =>
      cases ra
      have h0 : A.units < cLine := by omega
      obtain ⟨is, ri, ci, _⟩ := I.list hl
      cases hq with
      | non => cases rb; exact .list_none ci.isList h0
      | bl y => cases rb; exact .list_bool y ci.isList h0
      | int y => obtain ⟨t, rfl⟩ := rb; exact .list_int y t ci.isList h0
      | str y => obtain ⟨t, rfl⟩ := rb; exact .list_str y t ci.isList h0
      | tup h t => cases rb; obtain ⟨_, _, c, _⟩ := I.tuple h; exact .list_tuple ci.isList c h0
      | @lst l' ys qs hl' tl' =>
        cases rb
        obtain ⟨js, rj, cj, _⟩ := I.list hl'
        have n1 : is.toArray.size = ps.length := by rw [List.size_toArray, ← ri.length, dps_len tl]
        have n2 : js.toArray.size = qs.length := by rw [List.size_toArray, ← rj.length, dps_len tl']
        have hd : A.in1.units + min (PyData.depthAll ps) (PyData.depthAll qs) < cLine := by
          have e1 : (PyData.list ps).depth = PyData.depthAll ps + 1 := rfl
          have e2 : (PyData.list qs).depth = PyData.depthAll qs + 1 := rfl
          rw [e1, e2] at hu
          have e3 : A.in1.units = A.units + 1 := rfl
          omega
        have z : ∀ j (j1 : j < is.toArray.size) (j2 : j < js.toArray.size), EqAt A.in1 s is.toArray[j] js.toArray[j] (SeqAt.pairEq ps qs j) := fun j j1 j2 => by
          have z := eqs_dp I ps qs A.in1 xs ys is js tl tl' ri rj hd j (by rw [List.size_toArray] at j1; exact j1) (by rw [List.size_toArray] at j2; exact j2)
          simpa using z
        show RcAt A s (.ref l) (.ref l') (PyData.eqvAll ps qs)
        by_cases hsz : is.toArray.size = js.toArray.size
        · rw [← SeqAt.eqvAll_same_length (by omega : ps.length = qs.length), ← n1]
          exact RcAt.lists ci.isList cj.isList hsz h0 z
        · rw [SeqAt.eqvAll_other_length (by omega : ps.length ≠ qs.length)]
          exact RcAt.lists_lengths ci.isList cj.isList (by simpa using hsz) h0
  | .tuple ps, q, A, u, v, a, b, hp, hq, ra, rb, hu => by
    cases hp with
    | @tup l xs _ hl tl =>
      cases ra
      have h0 : A.units < cLine := by omega
      obtain ⟨is, ri, ci, _⟩ := I.tuple hl
      cases hq with
      | non => cases rb; exact .tuple_none ci h0
      | bl y => cases rb; exact .tuple_bool y ci h0
      | int y => obtain ⟨t, rfl⟩ := rb; exact .tuple_int y t ci h0
      | str y => obtain ⟨t, rfl⟩ := rb; exact .tuple_str y t ci h0
      | lst h t => cases rb; obtain ⟨_, _, c, _⟩ := I.list h; exact .tuple_list ci c.isList h0
      | @tup l' ys qs hl' tl' =>
        cases rb
        obtain ⟨js, rj, cj, _⟩ := I.tuple hl'
        have n1 : is.toArray.size = ps.length := by rw [List.size_toArray, ← ri.length, dps_len tl]
        have n2 : js.toArray.size = qs.length := by rw [List.size_toArray, ← rj.length, dps_len tl']
        have hd : A.in1.units + min (PyData.depthAll ps) (PyData.depthAll qs) < cLine := by
          have e1 : (PyData.tuple ps).depth = PyData.depthAll ps + 1 := rfl
          have e2 : (PyData.tuple qs).depth = PyData.depthAll qs + 1 := rfl
          rw [e1, e2] at hu
          have e3 : A.in1.units = A.units + 1 := rfl
          omega
        have z : ∀ j (j1 : j < is.toArray.size) (j2 : j < js.toArray.size), EqAt A.in1 s is.toArray[j] js.toArray[j] (SeqAt.pairEq ps qs j) := fun j j1 j2 => by
          have z := eqs_dp I ps qs A.in1 xs ys is js tl tl' ri rj hd j (by rw [List.size_toArray] at j1; exact j1) (by rw [List.size_toArray] at j2; exact j2)
          simpa using z
        show RcAt A s (.ref l) (.ref l') (PyData.eqvAll ps qs)
        rw [← SeqAt.eqvAll_eq ps qs, ← n1, ← n2]
        exact RcAt.tuples ci cj h0 z
  | .dict _, _, _, _, _, _, _, hp, _, _, _, _ => by cases hp
theorem ne_dp (I : Inv X pins τ H s) : ∀ (p q : PyData) (A : Around) (u v : V) (a b : Value), Dp X.K H u p → Dp X.K H v q → RelV u a → RelV v b → A.units + min p.depth q.depth < cLine → RcNeAt A s a b (!PyData.eqv p q)
  | .none, q, A, u, v, a, b, hp, hq, ra, rb, hu => by
    cases hp; cases ra
    have h0 : A.units < cLine := by omega
    cases hq with
    | non => cases rb; exact .none_none
    | bl y => cases rb; exact .none_bool y
    | int y => obtain ⟨t, rfl⟩ := rb; exact .none_int y t
    | str y => obtain ⟨t, rfl⟩ := rb; exact .none_str y t
    | lst h t => cases rb; obtain ⟨_, _, c, _⟩ := I.list h; exact .none_list c.isList h0
    | tup h t => cases rb; obtain ⟨_, _, c, _⟩ := I.tuple h; exact .none_tuple c h0
  | .bool x, q, A, u, v, a, b, hp, hq, ra, rb, hu => by
    cases hp; cases ra
    have h0 : A.units < cLine := by omega
    cases hq with
    | non => cases rb; exact .bool_none x
    | bl y => cases rb; exact .bool_bool x y
    | int y => obtain ⟨t, rfl⟩ := rb; exact .bool_int x y t
    | str y => obtain ⟨t, rfl⟩ := rb; exact .bool_str x y t
    | lst h t => cases rb; obtain ⟨_, _, c, _⟩ := I.list h; exact .bool_list x c.isList h0
    | tup h t => cases rb; obtain ⟨_, _, c, _⟩ := I.tuple h; exact .bool_tuple x c h0
  | .int x, q, A, u, v, a, b, hp, hq, ra, rb, hu => by
    cases hp; obtain ⟨tx, rfl⟩ := ra
    have h0 : A.units < cLine := by omega
    cases hq with
    | non => cases rb; exact .int_none x tx
    | bl y => cases rb; exact .int_bool x tx y
    | int y => obtain ⟨t, rfl⟩ := rb; exact .int_int x tx y t
    | str y => obtain ⟨t, rfl⟩ := rb; exact .int_str x tx y t
    | lst h t => cases rb; obtain ⟨_, _, c, _⟩ := I.list h; exact .int_list x tx c.isList h0
    | tup h t => cases rb; obtain ⟨_, _, c, _⟩ := I.tuple h; exact .int_tuple x tx c h0
  | .str x, q, A, u, v, a, b, hp, hq, ra, rb, hu => by
    cases hp; obtain ⟨tx, rfl⟩ := ra
    have h0 : A.units < cLine := by omega
    cases hq with
    | non => cases rb; exact .str_none x tx
    | bl y => cases rb; exact .str_bool x tx y
    | int y => obtain ⟨t, rfl⟩ := rb; exact .str_int x tx y t
    | str y => obtain ⟨t, rfl⟩ := rb; exact .str_str x tx y t
    | lst h t => cases rb; obtain ⟨_, _, c, _⟩ := I.list h; exact .str_list x tx c.isList h0
    | tup h t => cases rb; obtain ⟨_, _, c, _⟩ := I.tuple h; exact .str_tuple x tx c h0
  | .list ps, q, A, u, v, a, b, hp, hq, ra, rb, hu => by
    cases hp with
    | @lst l xs _ hl tl =>
      cases ra
      have h0 : A.units < cLine := by omega
      obtain ⟨is, ri, ci, _⟩ := I.list hl
      cases hq with
      | non => cases rb; exact .list_none ci.isList h0
      | bl y => cases rb; exact .list_bool y ci.isList h0
      | int y => obtain ⟨t, rfl⟩ := rb; exact .list_int y t ci.isList h0
      | str y => obtain ⟨t, rfl⟩ := rb; exact .list_str y t ci.isList h0
      | tup h t => cases rb; obtain ⟨_, _, c, _⟩ := I.tuple h; exact .list_tuple ci.isList c h0
      | @lst l' ys qs hl' tl' =>
        cases rb
        obtain ⟨js, rj, cj, _⟩ := I.list hl'
        have n1 : is.toArray.size = ps.length := by rw [List.size_toArray, ← ri.length, dps_len tl]
        have n2 : js.toArray.size = qs.length := by rw [List.size_toArray, ← rj.length, dps_len tl']
        have hd : A.in1.units + min (PyData.depthAll ps) (PyData.depthAll qs) < cLine := by
          have e1 : (PyData.list ps).depth = PyData.depthAll ps + 1 := rfl
          have e2 : (PyData.list qs).depth = PyData.depthAll qs + 1 := rfl
          rw [e1, e2] at hu
          have e3 : A.in1.units = A.units + 1 := rfl
          omega
        have z : ∀ j (j1 : j < is.toArray.size) (j2 : j < js.toArray.size), EqAt A.in1 s is.toArray[j] js.toArray[j] (SeqAt.pairEq ps qs j) := fun j j1 j2 => by
          have z := eqs_dp I ps qs A.in1 xs ys is js tl tl' ri rj hd j (by rw [List.size_toArray] at j1; exact j1) (by rw [List.size_toArray] at j2; exact j2)
          simpa using z
        show RcNeAt A s (.ref l) (.ref l') (!PyData.eqvAll ps qs)
        by_cases hsz : is.toArray.size = js.toArray.size
        · rw [← SeqAt.eqvAll_same_length (by omega : ps.length = qs.length), ← n1]
          exact RcNeAt.lists ci.isList cj.isList hsz h0 z
        · rw [SeqAt.eqvAll_other_length (by omega : ps.length ≠ qs.length)]
          exact RcNeAt.lists_lengths ci.isList cj.isList (by simpa using hsz) h0
  | .tuple ps, q, A, u, v, a, b, hp, hq, ra, rb, hu => by
    cases hp with
    | @tup l xs _ hl tl =>
      cases ra
      have h0 : A.units < cLine := by omega
      obtain ⟨is, ri, ci, _⟩ := I.tuple hl
      cases hq with
      | non => cases rb; exact .tuple_none ci h0
      | bl y => cases rb; exact .tuple_bool y ci h0
      | int y => obtain ⟨t, rfl⟩ := rb; exact .tuple_int y t ci h0
      | str y => obtain ⟨t, rfl⟩ := rb; exact .tuple_str y t ci h0
      | lst h t => cases rb; obtain ⟨_, _, c, _⟩ := I.list h; exact .tuple_list ci c.isList h0
      | @tup l' ys qs hl' tl' =>
        cases rb
        obtain ⟨js, rj, cj, _⟩ := I.tuple hl'
        have n1 : is.toArray.size = ps.length := by rw [List.size_toArray, ← ri.length, dps_len tl]
        have n2 : js.toArray.size = qs.length := by rw [List.size_toArray, ← rj.length, dps_len tl']
        have hd : A.in1.units + min (PyData.depthAll ps) (PyData.depthAll qs) < cLine := by
          have e1 : (PyData.tuple ps).depth = PyData.depthAll ps + 1 := rfl
          have e2 : (PyData.tuple qs).depth = PyData.depthAll qs + 1 := rfl
          rw [e1, e2] at hu
          have e3 : A.in1.units = A.units + 1 := rfl
          omega
        have z : ∀ j (j1 : j < is.toArray.size) (j2 : j < js.toArray.size), EqAt A.in1 s is.toArray[j] js.toArray[j] (SeqAt.pairEq ps qs j) := fun j j1 j2 => by
          have z := eqs_dp I ps qs A.in1 xs ys is js tl tl' ri rj hd j (by rw [List.size_toArray] at j1; exact j1) (by rw [List.size_toArray] at j2; exact j2)
          simpa using z
        show RcNeAt A s (.ref l) (.ref l') (!PyData.eqvAll ps qs)
        rw [← SeqAt.eqvAll_eq ps qs, ← n1, ← n2]
        exact RcNeAt.tuples ci cj h0 z
  | .dict _, _, _, _, _, _, _, hp, _, _, _, _ => by cases hp
end
end T
end
section
set_option Elab.async false
set_option linter.all false
set_option maxRecDepth 100000
set_option maxHeartbeats 1000000
/-! A dict of any keys beside an empty one: ==, !=. -/
namespace T
open PySem PySem.Spec PyProof.Rows PySem.W L2
section
variable {P : Program} {w : World} {A : Around} {E : Value → Shared → Prop} {s : Shared}
/-- the dict at a has the rows es -/
structure RawD (h : Heap) (a : Addr) (es : Array DictEntry) : Prop where
  low : (a == sysModules) = false
  ob : ∃ o ep, h.get? a = some o ∧ o.ExactDict ∧ o.data = .dict es ep
theorem RawD.ty {a : Addr} {es : Array DictEntry} (r : RawD s.heap a es) : s.TypeIs (.ref a) "dict" := let ⟨_, o, _, h, c, _⟩ := r; ⟨o, h, c.1⟩
theorem raw_pairs {nm : String} {a b : Addr} {es : Array DictEntry} {Q : Bool → Shared → Prop} (x : RawD s.heap a es) (y : RawD s.heap b #[]) (h : Q (es.size == 0) s) : wpAny (model P w) A (Builtin.Dict.samePairs nm a b) Q E s := by
  obtain ⟨xl, xo, xe, x1, x2, x3⟩ := x
  obtain ⟨yl, yo, ye, y1, y2, y3⟩ := y
  unfold Builtin.Dict.samePairs Builtin.Dict.showsAll
  rw [xl, yl]
  refine wpAny_bind (m := if false = true then _ else _) (wpAny_pure (wpAny_bind (m := if false = true then _ else _) (wpAny_pure (wpAny_bind (wpAny_dictEntries x1 x3 (wpAny_bind (wpAny_dictEntries y1 y3 ?_)))))))
  by_cases z : es.size = 0
  · rw [z] at h
    rw [if_neg (by simp [z]), z]
    refine wpAny_bind (wpAny_dictEpoch x1 x3 (wpAny_bind ?_))
    rw [Std.Legacy.Range.forIn_eq_forIn_range']
    show wpAny _ _ (forIn (List.range' 0 0 1) _ _) _ _ _
    exact wpAny_pure (wpAny_pure h)
  · have zb : (es.size == 0) = false := by simpa using z
    rw [zb] at h
    rw [if_pos (by simpa using z)]
    exact wpAny_bind (wpAny_rule (wpAny_pure h))
theorem raw_eq {a b : Addr} {es : Array DictEntry} {Q : Value → Shared → Prop} (x : RawD s.heap a es) (y : RawD s.heap b #[]) (hu : A.units < cLine) (h : Q (.bool (es.size == 0)) s) : wpAny (model P w) A (compareOp .Eq (.ref a) (.ref b)) Q E s := by
  refine wpAny_richCompare_same_room (op := .Eq) x.ty y.ty PySem.F.slot_dict_eq (wpAny_call_entry PySem.F.slot_dict_eq x.ty PySem.F.entry_dict_eq ?_ (PySem.F.args_dict_eq_2 _ _)) hu
  show wpAny _ _ (Builtin.Dict.dictSlotArgs "__eq__" ⟨[.ref a, .ref b], []⟩ >>= _) _ _ s
  unfold Builtin.Dict.dictSlotArgs
  refine wpAny_bind ?_
  refine wpAny_bind (wpAny_notOrdered_dict x.ty ?_)
  show wpAny _ _ (pure (Value.ref a, Value.ref b)) _ _ _
  refine wpAny_pure (wpAny_bind (wpAny_isInstance (T := "dict") y.ty PySem.F.sub_dict_dict ?_))
  rw [if_neg (by simp)]
  refine wpAny_bind (m := pure a) (wpAny_pure (wpAny_bind (m := pure b) (wpAny_pure (wpAny_bind (raw_pairs x y ?_)))))
  exact wpAny_pure ⟨_, rfl, (fun z => nomatch z), by simpa using h⟩
theorem raw_ne {a b : Addr} {es : Array DictEntry} {Q : Value → Shared → Prop} (x : RawD s.heap a es) (y : RawD s.heap b #[]) (hu : A.units < cLine) (h : Q (.bool (!(es.size == 0))) s) : wpAny (model P w) A (compareOp .NotEq (.ref a) (.ref b)) Q E s := by
  refine wpAny_richCompare_same_room (op := .NotEq) x.ty y.ty PySem.F.slot_dict_ne (wpAny_call_entry PySem.F.slot_dict_ne x.ty PySem.F.entry_dict_ne ?_ (PySem.F.args_dict_ne_2 _ _)) hu
  show wpAny _ _ (Builtin.Dict.dictSlotArgs "__ne__" ⟨[.ref a, .ref b], []⟩ >>= _) _ _ s
  unfold Builtin.Dict.dictSlotArgs
  refine wpAny_bind ?_
  refine wpAny_bind (wpAny_notOrdered_dict x.ty ?_)
  show wpAny _ _ (pure (Value.ref a, Value.ref b)) _ _ _
  refine wpAny_pure (wpAny_bind (wpAny_isInstance (T := "dict") y.ty PySem.F.sub_dict_dict ?_))
  rw [if_neg (by simp)]
  refine wpAny_bind (m := pure a) (wpAny_pure (wpAny_bind (m := pure b) (wpAny_pure (wpAny_bind (raw_pairs x y ?_)))))
  exact wpAny_pure ⟨_, rfl, (fun z => nomatch z), by simpa using h⟩
end
section
variable {X : Cx} {pins : List (Addr × Obj)} {s : Shared} {τ : L2.St} {H : Hp}
theorem raw_dK {a : Addr} {kws : List (Key × V)} (I : Inv X pins τ H s) (h : Rd H a (.dK kws)) : ∃ es, RawD s.heap a es ∧ es.size = kws.length := by
  obtain ⟨_, lo, kus, rel, o, es, ep, ho, hx, hd, _, hp, _⟩ := (show ObjOk X.prog X.w H s.heap a (.dK kws) from h.ok I.hok)
  refine ⟨es, ⟨lo, o, ep, ho, hx, hd⟩, ?_⟩
  rw [← Array.length_toList, hp.length, rel.length]
theorem raw_dT {a : Addr} {kws : List (List Key × V)} (I : Inv X pins τ H s) (h : Rd H a (.dT kws)) : ∃ es, RawD s.heap a es ∧ es.size = kws.length := by
  obtain ⟨_, lo, ks, pr, o, es, ep, ho, hx, hd, he, _⟩ := (show ObjOk X.prog X.w H s.heap a (.dT kws) from h.ok I.hok)
  exact ⟨es, ⟨lo, o, ep, ho, hx, hd⟩, (size_of_entries he).trans (Paired.length pr).symm⟩
end
end T
end
section
set_option Elab.async false
set_option linter.all false
set_option maxRecDepth 100000
set_option maxHeartbeats 1000000
/-! Operators over trees. -/
namespace T
open PySem PySem.Spec L2
theorem ln_eq : sizeLine = LN := sizeLine_eq
section
variable {X : Cx}
theorem OpL.mk {f : Value → Value → Sem Value} {r : D → D → Option D}
    (h : ∀ (pins : List (Addr × Obj)) (s : Shared) (τ : L2.St) (H : Hp) (G : Store) (x y d : D) (u v : V) (a b : Value) (Q : VK), Inv X pins τ H s → RelV u a → RelV v b → Rb X.K H G x u → Rb X.K H G y v → Sto X.K H G → r x y = some d →
      (∀ z H', Ext G H G H' → Sto X.K H' G → Tr X.K H' G d z → Q z H') → wpAny (model X.prog X.w) X.A (f a b) (EP X pins τ Q) X.xe s) : OpL X f r :=
  fun pins s τ H u v a b Q I ra rb ⟨x, y, G, d, hx, hy, S, e, k⟩ => h pins s τ H G x y d u v a b Q I ra rb hx hy S e k
/-- by a rule of the layer -/
theorem OpL.by {f : Value → Value → Sem Value} {r : D → D → Option D} (P : D → D → Prop) {t : R2} (hr : OpR X f t)
    (h : ∀ (H : Hp) (G : Store) (x y d : D) (u v : V) (Q : VK), P x y → Rb X.K H G x u → Rb X.K H G y v → Sto X.K H G → r x y = some d → (∀ z H', Ext G H G H' → Sto X.K H' G → Tr X.K H' G d z → Q z H') → t u v H Q) :
    ∀ (pins : List (Addr × Obj)) (s : Shared) (τ : L2.St) (H : Hp) (G : Store) (x y d : D) (u v : V) (a b : Value) (Q : VK), P x y → Inv X pins τ H s → RelV u a → RelV v b → Rb X.K H G x u → Rb X.K H G y v → Sto X.K H G → r x y = some d →
      (∀ z H', Ext G H G H' → Sto X.K H' G → Tr X.K H' G d z → Q z H') → wpAny (model X.prog X.w) X.A (f a b) (EP X pins τ Q) X.xe s :=
  fun pins s τ H G x y d u v a b Q p I ra rb hx hy S e k => hr pins s τ H u v a b Q I ra rb (h H G x y d u v Q p hx hy S e k)
/-- the heap as it stands -/
theorem here {K : PySem.W.Frag} {H : Hp} {G : Store} {d : D} {Q : VK} (S : Sto K H G) (k : ∀ z H', Ext G H G H' → Sto K H' G → Tr K H' G d z → Q z H') {v : V} (t : Tr K H G d v) : Q v H := k v H (.refl G H) S t

/-- a list that may be locked: its object -/
theorem lst_rd {pins : List (Addr × Obj)} {s : Shared} {τ : L2.St} {H : Hp} {l : Addr} {xs : List V} (I : Inv X pins τ H s) (h : Rd H l (.lst xs)) :
    xs.length ≤ sizeLine ∧ ∃ (is : List Value) (c : Nat), Vals xs is ∧ xs.length = is.length ∧ s.heap.get? l = some { cls := .type "list", data := .seq is.toArray c } := by
  obtain ⟨z, is, c, r, e⟩ := h.ok I.hok
  exact ⟨z, is, c, r, r.length, e⟩
theorem cat_rd : OpR X (binaryOp .Add) fun x y H Q => ∃ l b xs zs, x = .ref l ∧ y = .ref b ∧ Rd H l (.lst xs) ∧ Rd H b (.lst zs) ∧ xs.length + zs.length ≤ sizeLine ∧ ∀ p, H p = none → Q (.ref p) (upd H p (.lst (xs ++ zs))) := by
  intro pins s τ H x y v u Q I rx ry ⟨l, b, xs, zs, e1, e2, hx, hy, hz, q⟩
  subst e1; subst e2; cases rx; cases ry
  obtain ⟨-, is, c, r, hl, e⟩ := lst_rd I hx
  obtain ⟨-, js, c2, r2, hl2, e2⟩ := lst_rd I hy
  refine PySem.P.add_list e e2 ?_ (by rw [List.size_toArray, List.size_toArray]; omega)
  rw [show is.toArray ++ js.toArray = (is ++ js).toArray by simp]
  exact ⟨.ref _, _, I.lnew (t' := s.toks) (r.append r2) (by rw [List.length_append]; omega), rfl, q _ I.fresh⟩
theorem rep_rd : OpR X (binaryOp .Mult) fun x y H Q => ∃ l k xs, x = .ref l ∧ y = .int k ∧ Rd H l (.lst xs) ∧ -(2 ^ 63) ≤ k ∧ k < 2 ^ 63 ∧ xs.length * k.toNat ≤ sizeLine ∧
    ∀ p, H p = none → Q (.ref p) (upd H p (.lst (List.replicate k.toNat xs).flatten)) := by
  intro pins s τ H x y v u Q I rx ry ⟨l, k, xs, ex, ey, hx, lo, hi, hz, q⟩
  subst ex; subst ey; cases rx
  obtain ⟨tk, rfl⟩ := ry
  obtain ⟨-, is, c, r, hl, e⟩ := lst_rd I hx
  have hn : is.toArray.size * k.toNat ≤ sizeLine := by rw [List.size_toArray, ← hl]; exact hz
  have cap : ¬ is.toArray.size * k.toNat > (2 ^ 63 - 1) / 8 := by
    have : (sizeLine : Nat) ≤ (2 ^ 63 - 1) / 8 := by decide
    omega
  have fit : ¬ (!Builtin.List.listFitsIndex k) = true := by rw [fitsIndex_both lo hi]; exact Bool.false_ne_true
  have lng : ¬ Builtin.List.listTooLong (is.toArray.size * k.toNat) = true := by rw [notLongL hn]; exact Bool.false_ne_true
  have fold : ∀ m : Nat, List.foldl (fun a b => a ++ b) #[] (List.replicate m is.toArray) = (List.replicate m is).flatten.toArray := fun m => by
    have z := foldl_rep is m []
    rwa [List.nil_append] at z
  have out : List.foldl (fun a b => a ++ b) #[] (List.replicate (if is.toArray.isEmpty = true then 0 else k.toNat) is.toArray) = (List.replicate k.toNat is).flatten.toArray := by
    rw [fold]
    cases is <;> simp
  refine wpAny_binaryOp_repeat_ref (T := "list") (U := "int") (by decide) ⟨_, e, rfl⟩ (fun s' => typeIs_int s' k tk) noFill_list_mul PySem.F.fills_int_mul PySem.F.slot_int_rmul repeat_list PySem.F.slot_int_index.lookup (call_meets PySem.F.slot_int_rmul (typeIs_int s k tk) PySem.F.entry_int_rmul (PySem.F.args_int_rmul_2 _ _)
    (int___rmul___int_list k tk l is.toArray c) ⟨e, rfl, ⟨_, e, rfl⟩, call_meets PySem.F.slot_list_mul ⟨_, e, rfl⟩ PySem.F.entry_list_mul (PySem.F.args_list_mul_2 _ _) (AutoListH.list___mul___list_int_3 l is.toArray c k tk fit cap lng) ⟨e, ?_⟩⟩)
  rw [out]
  exact ⟨.ref _, _, I.lnew (t' := s.toks) (r.rep k.toNat) (by rw [PyProof.Rows.lm_len_rep_flat, Nat.mul_comm]; exact hz), rfl, q _ I.fresh⟩
theorem lst_k {K : PySem.W.Frag} {H : Hp} {G : Store} {n : Addr} {vs : List V} {ds : List D} {Q : VK} (S : Sto K H G) (hn : H n = none) (t : TrL K H G ds vs) (k : ∀ z H', Ext G H G H' → Sto K H' G → Tr K H' G (.lst ds) z → Q z H') : lQ Q (.ref n) (upd H n (.lst vs)) :=
  .new trivial fun _ => k _ _ (ext_new hn) (S.new hn) (lst_new S hn t)
theorem opl_add : OpL X (binaryOp .Add) (binD .add) := by
  refine .mk fun pins s τ H G x y d u v a b Q I ra rb hx hy S e k => ?_
  cases x with
  | int i =>
    cases y with
    | int j =>
      have e1 : u = .int i := hx
      have e2 : v = .int j := hy
      subst e1; subst e2
      cases e
      exact op_add pins s τ H _ _ a b Q I ra rb ⟨i, j, rfl, rfl, here S k rfl⟩
    | _ => cases e
  | str i =>
    cases y with
    | str j =>
      have e1 : u = .str i := hx
      have e2 : v = .str j := hy
      subst e1; subst e2
      simp only [binD] at e
      split at e
      · rename_i hl
        cases e
        exact op_add_str pins s τ H _ _ a b Q I ra rb ⟨i, j, rfl, rfl, by rw [ln_eq]; exact hl, here S k rfl⟩
      · cases e
    | _ => cases e
  | tup xs =>
    cases y with
    | tup ys =>
      obtain ⟨p, us, rfl, hp, tp⟩ := hx
      obtain ⟨q, vs, rfl, hq, tq⟩ := hy
      simp only [binD] at e
      split at e
      · rename_i hl
        cases e
        refine op_catA pins s τ H _ _ a b Q I ra rb ⟨p, q, us, vs, rfl, rfl, hp.sq, hq.sq, by rw [ln_eq, ← tp.length, ← tq.length]; exact hl, ?_⟩
        refine ⟨fun z => ?_, fun z1 z2 => ?_, fun z1 z2 n hn => ?_⟩
        · have e0 : xs = [] := tp.nil_iff.mpr z
          subst e0
          exact here S k ⟨_, _, rfl, hq, tq⟩
        · have e0 : ys = [] := tq.nil_iff.mpr z2
          subst e0
          rw [List.append_nil] at k
          exact here S k ⟨_, _, rfl, hp, tp⟩
        · exact k _ _ (ext_new hn) (S.new hn) (tup_new S hn (tp.append tq))
      · cases e
    | _ => cases e
  | lst xs =>
    cases y with
    | lst ys =>
      obtain ⟨p, us, rfl, hp, tp⟩ := hx
      obtain ⟨q, vs, rfl, hq, tq⟩ := hy
      simp only [binD] at e
      split at e
      · rename_i hl
        cases e
        refine cat_rd.lk pins s τ H _ _ a b Q I ra rb ⟨p, q, us, vs, rfl, rfl, hp, hq, by rw [ln_eq, ← tp.length, ← tq.length]; exact hl, fun n hn => ?_⟩
        exact lst_k S hn (tp.append tq) k
      · cases e
    | _ => cases e
  | _ => cases e
theorem opl_ii {f : Value → Value → Sem Value} {op : Op} {C : Int → Int → Prop} {g : Int → Int → Int} (h : OpR X f (rI C fun i j => .int (g i j)))
    (hr : ∀ x y d, binD op x y = some d → ∃ i j, x = .int i ∧ y = .int j ∧ C i j ∧ d = .int (g i j)) : OpL X f (binD op) :=
  .mk fun pins s τ H G x y d u v a b Q I ra rb hx hy S e k => by
    obtain ⟨i, j, rfl, rfl, c, rfl⟩ := hr x y d e
    have e1 : u = .int i := hx
    have e2 : v = .int j := hy
    subst e1; subst e2
    exact h pins s τ H _ _ a b Q I ra rb ⟨i, j, rfl, rfl, c, here S k rfl⟩
theorem opl_sub : OpL X (binaryOp .Sub) (binD .sub) := opl_ii (C := fun _ _ => True) (g := fun i j => i - j) (op_sub.imp fun x y H Q ⟨i, j, a, b, _, q⟩ => ⟨i, j, a, b, q⟩) fun x y d e => by
  cases x with
  | int i => cases y with
    | int j => cases e; exact ⟨i, j, rfl, rfl, trivial, rfl⟩
    | _ => cases e
  | _ => cases e
theorem opl_fdiv : OpL X (binaryOp .FloorDiv) (binD .fdiv) := opl_ii (C := CDiv) (g := fun i j => i / j) op_fdiv fun x y d e => by
  cases x with
  | int i => cases y with
    | int j =>
      simp only [binD] at e
      split at e
      · rename_i h
        cases e
        simp only [Bool.and_eq_true, decide_eq_true_eq] at h
        exact ⟨i, j, rfl, rfl, h, rfl⟩
      · cases e
    | _ => cases e
  | _ => cases e
theorem opl_mod : OpL X (binaryOp .Mod) (binD .mod) := opl_ii (C := fun _ j => 0 < j) (g := fun i j => i % j) op_mod fun x y d e => by
  cases x with
  | int i => cases y with
    | int j =>
      simp only [binD] at e
      split at e
      · rename_i h
        cases e
        exact ⟨i, j, rfl, rfl, by simpa using h, rfl⟩
      · cases e
    | _ => cases e
  | _ => cases e
theorem opl_pow : OpL X (binaryOp .Pow) (binD .pow) := opl_ii (C := CPow) (g := fun i j => i ^ j.toNat) op_pow fun x y d e => by
  cases x with
  | int i => cases y with
    | int j =>
      simp only [binD] at e
      split at e
      · rename_i h
        cases e
        simp only [Bool.and_eq_true, decide_eq_true_eq, small] at h
        exact ⟨i, j, rfl, rfl, ⟨h.1.1, by omega, by omega⟩, rfl⟩
      · cases e
    | _ => cases e
  | _ => cases e
theorem opl_mul : OpL X (binaryOp .Mult) (binD .mul) := by
  refine .mk fun pins s τ H G x y d u v a b Q I ra rb hx hy S e k => ?_
  cases x with
  | int i =>
    cases y with
    | int j =>
      have e1 : u = .int i := hx
      have e2 : v = .int j := hy
      subst e1; subst e2
      simp only [binD] at e
      split at e
      · rename_i h
        cases e
        refine op_mul pins s τ H _ _ a b Q I ra rb ⟨i, j, rfl, rfl, ?_, here S k rfl⟩
        simp only [Bool.or_eq_true, Bool.and_eq_true, decide_eq_true_eq, small] at h
        exact h
      · cases e
    | _ => cases e
  | lst xs =>
    cases y with
    | int j =>
      obtain ⟨p, us, rfl, hp, tp⟩ := hx
      have e2 : v = .int j := hy
      subst e2
      simp only [binD] at e
      split at e
      · rename_i h
        cases e
        simp only [Bool.and_eq_true, decide_eq_true_eq] at h
        refine rep_rd.lk pins s τ H _ _ a b Q I ra rb ⟨p, j, us, rfl, rfl, hp, h.1.1, h.1.2, by rw [ln_eq, ← tp.length]; exact h.2, fun n hn => ?_⟩
        exact lst_k S hn (tp.rep j.toNat) k
      · cases e
    | _ => cases e
  | _ => cases e

/-! comparisons -/
theorem rb_pure {K : PySem.W.Frag} {H : Hp} {G : Store} {d : D} {v : V} (p : d.pure = true) (h : Rb K H G d v) : Dp K H v d.py := rb_dp p h
theorem eqOk_pure {x y : D} (h : eqOk x y = true) : ((x.pure = true ∧ y.pure = true ∧ x.dep ≤ 31 ∧ eqD x y = D.eq x y) ∨ ∃ xs ys, x = .lst xs ∧ y = .lst ys ∧ xs.length ≠ ys.length) ∨ ((∃ kvs, x = .dK kvs ∧ eqD x y = kvs.isEmpty) ∨ ∃ kvs, x = .dT kvs ∧ eqD x y = kvs.isEmpty) ∧ y = .dK [] := by
  unfold eqOk at h
  split at h
  · rename_i xs ys
    rw [List.isEmpty_iff] at h
    subst h
    exact .inr ⟨.inl ⟨xs, rfl, rfl⟩, rfl⟩
  · rename_i xs ys
    rw [List.isEmpty_iff] at h
    subst h
    exact .inr ⟨.inr ⟨xs, rfl, rfl⟩, rfl⟩
  · rename_i xs ys
    simp only [Bool.or_eq_true, Bool.and_eq_true, decide_eq_true_eq, bne_iff_ne] at h
    rcases h with h | h
    · exact .inl (.inl ⟨h.1.1, h.1.2, by show D.depL xs + 1 ≤ 31; omega, rfl⟩)
    · exact .inl (.inr ⟨xs, ys, rfl, rfl, h⟩)
  · rename_i n1 n2 n3
    simp only [Bool.and_eq_true, decide_eq_true_eq] at h
    refine .inl (.inl ⟨h.1.1, h.1.2, by omega, ?_⟩)
    cases x <;> first | rfl | (cases h.1.1; done)
theorem eqL_len : ∀ xs ys : List D, xs.length ≠ ys.length → D.eqL xs ys = false
  | [], [], h => absurd rfl h
  | [], _ :: _, _ => rfl
  | _ :: _, [], _ => rfl
  | x :: xs, y :: ys, h => by
    have e := eqL_len xs ys (by simpa using h)
    show (D.eq x y && D.eqL xs ys) = false
    rw [e, Bool.and_false]
theorem opl_eq (hu : X.A.units + 64 < cLine) : OpL X (compareOp .Eq) (cmpD .eq) := by
  refine .mk fun pins s τ H G x y d u v a b Q I ra rb hx hy S e k => ?_
  simp only [cmpD] at e
  split at e
  · rename_i ok
    cases e
    rcases eqOk_pure ok with (⟨p, q, dp, er⟩ | ⟨xs, ys, rfl, rfl, hl⟩) | ⟨hxx, rfl⟩
    · have z := rc_dp I x.py y.py X.A u v a b (rb_dp p hx) (rb_dp q hy) ra rb (by rw [dep_py x p]; omega)
      rw [eq_py x y p q, ← er] at z
      exact z _ _ _ _ ⟨.bl _, H, I, rfl, here S k rfl⟩
    · obtain ⟨p, us, rfl, hp, tp⟩ := hx
      obtain ⟨q, vs, rfl, hq, tq⟩ := hy
      cases ra; cases rb
      obtain ⟨is, ri, ci, _⟩ := I.list (.inl hp)
      obtain ⟨js, rj, cj, _⟩ := I.list (.inl hq)
      refine SeqAt.RcAt.lists_lengths ci.isList cj.isList ?_ (by omega) _ _ _ _ ⟨.bl false, H, I, rfl, ?_⟩
      · rw [List.size_toArray, List.size_toArray, ← ri.length, ← rj.length, ← tp.length, ← tq.length]
        exact bne_iff_ne.mpr hl
      · have z : eqD (.lst xs) (.lst ys) = false := eqL_len xs ys hl
        rw [z] at k
        exact here S k rfl
    · obtain ⟨c, kws, rfl, hc, tc⟩ := hy
      obtain ⟨fs, yw, yl⟩ := raw_dK I hc
      have fe : fs = #[] := by
        have := tc.length
        have h0 : kws.length = 0 := by simpa using this.symm
        exact Array.size_eq_zero_iff.mp (yl.trans h0)
      subst fe
      cases rb
      have fin : ∀ (p : Addr) (es : Array DictEntry) (n : Nat), RelV (.ref p) a → RawD s.heap p es → es.size = n → eqD x (.dK []) = (n == 0) → wpAny (model X.prog X.w) X.A (compareOp .Eq a (.ref c)) (EP X pins τ Q) X.xe s := fun p es n rp xw xl ee => by
        cases rp
        refine raw_eq xw yw (by omega) ⟨.bl _, H, I, rfl, ?_⟩
        rw [xl, ← ee]
        exact here S k rfl
      rcases hxx with ⟨kvs, rfl, ee⟩ | ⟨kvs, rfl, ee⟩
      · obtain ⟨p, kw, rfl, hp, tp⟩ := hx
        obtain ⟨es, xw, xl⟩ := raw_dK I hp
        exact fin p es _ ra xw xl (ee.trans (by rw [← tp.length]; cases kvs <;> rfl))
      · obtain ⟨p, kw, rfl, hp, tp⟩ := hx
        obtain ⟨es, xw, xl⟩ := raw_dT I hp
        exact fin p es _ ra xw xl (ee.trans (by rw [← tp.length]; cases kvs <;> rfl))
  · cases e
theorem opl_ne (hu : X.A.units + 64 < cLine) : OpL X (compareOp .NotEq) (cmpD .ne) := by
  refine .mk fun pins s τ H G x y d u v a b Q I ra rb hx hy S e k => ?_
  simp only [cmpD] at e
  split at e
  · rename_i ok
    cases e
    rcases eqOk_pure ok with (⟨p, q, dp, er⟩ | ⟨xs, ys, rfl, rfl, hl⟩) | ⟨hxx, rfl⟩
    · have z := ne_dp I x.py y.py X.A u v a b (rb_dp p hx) (rb_dp q hy) ra rb (by rw [dep_py x p]; omega)
      rw [eq_py x y p q, ← er] at z
      exact z _ _ _ _ ⟨.bl _, H, I, rfl, here S k rfl⟩
    · obtain ⟨p, us, rfl, hp, tp⟩ := hx
      obtain ⟨q, vs, rfl, hq, tq⟩ := hy
      cases ra; cases rb
      obtain ⟨is, ri, ci, _⟩ := I.list (.inl hp)
      obtain ⟨js, rj, cj, _⟩ := I.list (.inl hq)
      refine SeqAt.RcNeAt.lists_lengths ci.isList cj.isList ?_ (by omega) _ _ _ _ ⟨.bl true, H, I, rfl, ?_⟩
      · rw [List.size_toArray, List.size_toArray, ← ri.length, ← rj.length, ← tp.length, ← tq.length]
        exact bne_iff_ne.mpr hl
      · have z : eqD (.lst xs) (.lst ys) = false := eqL_len xs ys hl
        rw [z] at k
        exact here S k rfl
    · obtain ⟨c, kws, rfl, hc, tc⟩ := hy
      obtain ⟨fs, yw, yl⟩ := raw_dK I hc
      have fe : fs = #[] := by
        have := tc.length
        have h0 : kws.length = 0 := by simpa using this.symm
        exact Array.size_eq_zero_iff.mp (yl.trans h0)
      subst fe
      cases rb
      have fin : ∀ (p : Addr) (es : Array DictEntry) (n : Nat), RelV (.ref p) a → RawD s.heap p es → es.size = n → eqD x (.dK []) = (n == 0) → wpAny (model X.prog X.w) X.A (compareOp .NotEq a (.ref c)) (EP X pins τ Q) X.xe s := fun p es n rp xw xl ee => by
        cases rp
        refine raw_ne xw yw (by omega) ⟨.bl _, H, I, rfl, ?_⟩
        rw [xl, ← ee]
        exact here S k rfl
      rcases hxx with ⟨kvs, rfl, ee⟩ | ⟨kvs, rfl, ee⟩
      · obtain ⟨p, kw, rfl, hp, tp⟩ := hx
        obtain ⟨es, xw, xl⟩ := raw_dK I hp
        exact fin p es _ ra xw xl (ee.trans (by rw [← tp.length]; cases kvs <;> rfl))
      · obtain ⟨p, kw, rfl, hp, tp⟩ := hx
        obtain ⟨es, xw, xl⟩ := raw_dT I hp
        exact fin p es _ ra xw xl (ee.trans (by rw [← tp.length]; cases kvs <;> rfl))
  · cases e
theorem opl_le : OpL X (compareOp .LtE) (cmpD .le) := by
  refine .mk fun pins s τ H G x y d u v a b Q I ra rb hx hy S e k => ?_
  cases x with
  | int i => cases y with
    | int j =>
      have e1 : u = .int i := hx
      have e2 : v = .int j := hy
      subst e1; subst e2
      cases e
      exact op_le pins s τ H _ _ a b Q I ra rb ⟨i, j, rfl, rfl, here S k rfl⟩
    | _ => cases e
  | _ => cases e
theorem opl_ge : OpL X (compareOp .GtE) (cmpD .ge) := by
  refine .mk fun pins s τ H G x y d u v a b Q I ra rb hx hy S e k => ?_
  cases x with
  | int i => cases y with
    | int j =>
      have e1 : u = .int i := hx
      have e2 : v = .int j := hy
      subst e1; subst e2
      cases e
      exact op_ge pins s τ H _ _ a b Q I ra rb ⟨i, j, rfl, rfl, here S k rfl⟩
    | _ => cases e
  | _ => cases e
theorem ltD_ok {x y : D} {c : Bool} (h : ltD x y = some c) : x.pure = true ∧ y.pure = true ∧ PySem.W.alike x.py y.py = true ∧ x.dep ≤ 30 ∧ x ≠ .non ∧ c = PySem.W.dataLt x.py y.py := by
  unfold ltD at h
  by_cases g : (x.pure && y.pure && PySem.W.alike x.py y.py && decide (x.dep ≤ 30) && !isNonD x) = true
  · rw [if_pos g] at h
    have h := Option.some.inj h
    simp only [Bool.and_eq_true, decide_eq_true_eq] at g
    refine ⟨g.1.1.1.1, g.1.1.1.2, g.1.1.2, g.1.2, fun z => ?_, h.symm⟩
    subst z
    cases g.2
  · rw [if_neg g] at h
    cases h
theorem py_none {x : D} (p : x.pure = true) (h : x ≠ .non) : x.py ≠ .none := by
  cases x <;> first | exact absurd rfl h | (cases p; done) | (intro z; cases z)
theorem opl_lt (hu : X.A.units + 64 < cLine) : OpL X (compareOp .Lt) (cmpD .lt) := by
  refine .mk fun pins s τ H G x y d u v a b Q I ra rb hx hy S e k => ?_
  simp only [cmpD] at e
  cases hl : ltD x y with
  | none => rw [hl] at e; cases e
  | some c =>
    rw [hl] at e; cases e
    obtain ⟨p, q, al, dp, nn, rfl⟩ := ltD_ok hl
    obtain ⟨as, r1⟩ := Dp.reads I x.py u a (rb_dp p hx) ra
    obtain ⟨bs, r2⟩ := Dp.reads I y.py v b (rb_dp q hy) rb
    exact PySem.W.rcLt_alike x.py y.py X.A s a b as bs r1 r2 al (py_none p nn) (by rw [dep_py x p]; omega) _ _ _ _ ⟨.bl _, H, I, rfl, here S k rfl⟩
theorem gt_cases {x y d : D} (h : cmpD .gt x y = some d) : (∃ i j, x = .int i ∧ y = .int j ∧ d = .bl (decide (j < i))) ∨ ∃ c, gtD x y = some c ∧ d = .bl c := by
  simp only [cmpD] at h
  split at h
  · cases h; exact .inl ⟨_, _, rfl, rfl, rfl⟩
  · cases e : gtD x y with
    | none => rw [e] at h; cases h
    | some c => rw [e] at h; cases h; exact .inr ⟨c, rfl, rfl⟩
theorem gtD_ok {x y : D} {c : Bool} (h : gtD x y = some c) : x.pure = true ∧ y.pure = true ∧ PySem.W.alike x.py y.py = true ∧ x.dep ≤ 30 ∧ x ≠ .non ∧ c = PySem.W.dataLt y.py x.py := by
  unfold gtD at h
  split at h
  · rename_i q
    cases h
    simp only [Bool.and_eq_true, decide_eq_true_eq, Bool.not_eq_true'] at q
    obtain ⟨⟨⟨⟨a, b⟩, c⟩, d⟩, e⟩ := q
    exact ⟨a, b, c, d, (fun z => by subst z; cases e), rfl⟩
  · cases h
theorem opl_gt (hu : X.A.units + 64 < cLine) : OpL X (compareOp .Gt) (cmpD .gt) := by
  refine .mk fun pins s τ H G x y d u v a b Q I ra rb hx hy S e k => ?_
  rcases gt_cases e with ⟨i, j, rfl, rfl, rfl⟩ | ⟨c, hl, rfl⟩
  · have e1 : u = .int i := hx
    have e2 : v = .int j := hy
    subst e1; subst e2
    exact op_gt pins s τ H _ _ a b Q I ra rb ⟨i, j, rfl, rfl, here S k rfl⟩
  · obtain ⟨p, q, al, dp, nn, rfl⟩ := gtD_ok hl
    obtain ⟨as, r1⟩ := Dp.reads I x.py u a (rb_dp p hx) ra
    obtain ⟨bs, r2⟩ := Dp.reads I y.py v b (rb_dp q hy) rb
    exact PySem.W.gt_data r1 r2 al (py_none p nn) (by rw [dep_py x p]; omega) ⟨.bl _, H, I, rfl, here S k rfl⟩
/-! is -/
theorem opl_isN : OpR X (compareOp .Is) (fun u v H Q => ∃ x G, Rb X.K H G x u ∧ v = .non ∧ Q (.bl (decide (u = .non))) H) := op_isN.imp fun x y H Q ⟨_, _, _, e, q⟩ => ⟨e, q⟩
theorem rb_non {K : PySem.W.Frag} {H : Hp} {G : Store} {x : D} {u : V} (h : Rb K H G x u) : decide (u = .non) = isNonD x := by
  cases x with
  | non => have e : u = .non := h; subst e; rfl
  | bl _ => have e := (show u = .bl _ from h); subst e; rfl
  | int _ => have e := (show u = .int _ from h); subst e; rfl
  | str _ => have e := (show u = .str _ from h); subst e; rfl
  | tup _ => obtain ⟨_, _, rfl, _⟩ := h; rfl
  | lst _ => obtain ⟨_, _, rfl, _⟩ := h; rfl
  | dK _ => obtain ⟨_, _, rfl, _⟩ := h; rfl
  | dT _ => obtain ⟨_, _, rfl, _⟩ := h; rfl
  | ref _ => have e := (show u = .ref _ from h); subst e; rfl
  | scr _ => obtain ⟨_, rfl, _⟩ := h; rfl
  | ktup _ => obtain ⟨_, _, rfl, _⟩ := h; rfl
theorem opl_is_none : OpL X (compareOp .Is) (fun x y => match y with | .non => cmpD .isN x y | _ => none) := by
  refine .mk fun pins s τ H G x y d u v a b Q I ra rb hx hy S e k => ?_
  cases y with
  | non =>
    have e2 : v = .non := hy
    subst e2
    refine op_isN pins s τ H _ _ a b Q I ra rb ⟨rfl, ?_⟩
    rw [rb_non hx]
    cases e
    exact here S k rfl
  | _ => cases e
theorem opl_isnot_none : OpL X (compareOp .IsNot) (fun x y => match y with | .non => cmpD .notN x y | _ => none) := by
  refine .mk fun pins s τ H G x y d u v a b Q I ra rb hx hy S e k => ?_
  cases y with
  | non =>
    have e2 : v = .non := hy
    subst e2
    refine op_notN pins s τ H _ _ a b Q I ra rb ⟨rfl, ?_⟩
    rw [rb_non hx]
    cases e
    exact here S k rfl
  | _ => cases e
/-- is True, is not True, is False, is not False -/
theorem opl_is_bool : OpL X (compareOp .Is) (fun x y => match y with | .bl true => cmpD .isT x y | .bl false => cmpD .isF x y | _ => none) := by
  refine .mk fun pins s τ H G x y d u v a b Q I ra rb hx hy S e k => ?_
  cases y with
  | bl c =>
    have e2 : v = .bl c := hy
    subst e2
    cases x with
    | bl t =>
      have e1 : u = .bl t := hx
      subst e1
      refine op_isBl pins s τ H _ _ a b Q I ra rb ⟨t, c, rfl, rfl, ?_⟩
      cases c <;> cases t <;> (cases e; exact here S k rfl)
    | _ => cases c <;> cases e
  | _ => cases e
theorem opl_isnot_bool : OpL X (compareOp .IsNot) (fun x y => match y with | .bl true => cmpD .notT x y | .bl false => cmpD .notF x y | _ => none) := by
  refine .mk fun pins s τ H G x y d u v a b Q I ra rb hx hy S e k => ?_
  cases y with
  | bl c =>
    have e2 : v = .bl c := hy
    subst e2
    cases x with
    | bl t =>
      have e1 : u = .bl t := hx
      subst e1
      refine op_notBl pins s τ H _ _ a b Q I ra rb ⟨t, c, rfl, rfl, ?_⟩
      cases c <;> cases t <;> (cases e; exact here S k rfl)
    | _ => cases c <;> cases e
  | _ => cases e

/-! in -/
open Classical in
/-- whether a value among those read is equal to p -/
noncomputable def eqTo (K : PySem.W.Frag) (H : Hp) (p : PyData) (b : Value) : Bool := decide (∃ v q, RelV v b ∧ Dp K H v q ∧ PyData.eqv q p = true)
open Classical in
theorem eqTo_of {pins : List (Addr × Obj)} {s : Shared} {τ : L2.St} {H : Hp} (I : Inv X pins τ H s) {p q : PyData} {v : V} {b : Value} (r : RelV v b) (h : Dp X.K H v q) : eqTo X.K H p b = PyData.eqv q p := by
  unfold eqTo
  cases e : PyData.eqv q p with
  | true => exact decide_eq_true ⟨v, q, r, h, e⟩
  | false =>
    refine decide_eq_false fun ⟨v', q', r', h', e'⟩ => ?_
    have z := r.inj r'
    subst z
    rw [dp_one I q q' v h h', e'] at e
    cases e
theorem any_eqTo {pins : List (Addr × Obj)} {s : Shared} {τ : L2.St} {H : Hp} (I : Inv X pins τ H s) {p : PyData} : ∀ {vs : List V} {qs : List PyData} {bs : List Value}, DpAll X.K H vs qs → Vals vs bs → bs.any (eqTo X.K H p) = qs.any fun q => PyData.eqv q p
  | _, _, _, .nil, .nil => rfl
  | _, _, _, .cons h t, .cons r rs => by rw [List.any_cons, List.any_cons, eqTo_of I r h, any_eqTo I t rs]
theorem mem_eqTo {pins : List (Addr × Obj)} {s : Shared} {τ : L2.St} {H : Hp} (I : Inv X pins τ H s) {p : PyData} {u : V} {a : Value} (hp : Dp X.K H u p) (ra : RelV u a) {A : Around} (hu : A.units + p.depth < cLine) :
    ∀ {vs : List V} {qs : List PyData} {bs : List Value}, DpAll X.K H vs qs → Vals vs bs → ∀ b ∈ bs, SeqAt.EqAt A s b a (eqTo X.K H p b)
  | _, _, _, .nil, .nil, b, hb => by cases hb
  | _, _, _, .cons (d := q) h t, .cons r rs, b, hb => by
    rcases List.mem_cons.mp hb with e | hb
    · subst e
      rw [eqTo_of I r h]
      exact eq_dp I q p A _ _ _ _ h hp r ra (by omega)
    · exact mem_eqTo I hp ra hu t rs b hb
theorem any_py {x : D} (p : x.pure = true) : ∀ {ds : List D}, D.pureL ds = true → ((D.pyL ds).any fun q => PyData.eqv q x.py) = ds.any fun d => D.eq d x
  | [], _ => rfl
  | d :: ds, h => by
    have h' : d.pure = true ∧ D.pureL ds = true := by simpa [D.pureL] using h
    show (PyData.eqv d.py x.py || (D.pyL ds).any fun q => PyData.eqv q x.py) = (D.eq d x || ds.any fun d => D.eq d x)
    rw [eq_py d x h'.1 p, any_py p h'.2]
theorem valG_val {K : PySem.W.Frag} {H : Hp} {G : Store} {k : Key} : ∀ {kvs : List (Key × D)} {kws : List (Key × V)}, TrK K H G kvs kws → (∀ d, look kvs k = some d → ∃ v, valV kws k = some v ∧ Tr K H G d v) ∧ (look kvs k = none → valV kws k = none)
  | [], _, h => by cases h; exact ⟨fun d e => (by cases e), fun _ => rfl⟩
  | (j, d) :: r, _, ⟨v, ws, e, t, h⟩ => by
    subst e
    by_cases hj : j = k
    · have e1 : look ((j, d) :: r) k = some d := by simp [look, hj]
      rw [e1, valV_pos (show ((j, v) : Key × V).1 = k from hj)]
      exact ⟨fun d' e => (by cases e; exact ⟨v, rfl, t⟩), fun e => (by cases e)⟩
    · have e1 : look ((j, d) :: r) k = look r k := by simp [look, hj]
      rw [e1, valV_neg (show ¬ ((j, v) : Key × V).1 = k from hj)]
      exact valG_val h
theorem valG_valT {K : PySem.W.Frag} {H : Hp} {G : Store} {k : List Key} : ∀ {kvs : List (List Key × D)} {kws : List (List Key × V)}, TrT K H G kvs kws → (∀ d, look kvs k = some d → ∃ v, valV kws k = some v ∧ Tr K H G d v) ∧ (look kvs k = none → valV kws k = none)
  | [], _, h => by cases h; exact ⟨fun d e => (by cases e), fun _ => rfl⟩
  | (j, d) :: r, _, ⟨v, ws, e, t, h⟩ => by
    subst e
    by_cases hj : j = k
    · have e1 : look ((j, d) :: r) k = some d := by simp [look, hj]
      rw [e1, valV_pos (show ((j, v) : List Key × V).1 = k from hj)]
      exact ⟨fun d' e => (by cases e; exact ⟨v, rfl, t⟩), fun e => (by cases e)⟩
    · have e1 : look ((j, d) :: r) k = look r k := by simp [look, hj]
      rw [e1, valV_neg (show ¬ ((j, v) : List Key × V).1 = k from hj)]
      exact valG_valT h
theorem look_isSome {K : PySem.W.Frag} {H : Hp} {G : Store} {k : Key} {kvs : List (Key × D)} {kws : List (Key × V)} (h : TrK K H G kvs kws) : (valV kws k).isSome = (look kvs k).isSome := by
  cases e : look kvs k with
  | none => rw [(valG_val h).2 e]; rfl
  | some d => obtain ⟨v, e2, _⟩ := (valG_val h).1 d e; rw [e2]; rfl
theorem look_isSomeT {K : PySem.W.Frag} {H : Hp} {G : Store} {k : List Key} {kvs : List (List Key × D)} {kws : List (List Key × V)} (h : TrT K H G kvs kws) : (valV kws k).isSome = (look kvs k).isSome := by
  cases e : look kvs k with
  | none => rw [(valG_valT h).2 e]; rfl
  | some d => obtain ⟨v, e2, _⟩ := (valG_valT h).1 d e; rw [e2]; rfl
theorem key_V {K : PySem.W.Frag} {H : Hp} {G : Store} {d : D} {k : Key} {v : V} (e : keyOf d = some k) (h : Rb K H G d v) : v = kV k := by
  cases d with
  | int i => cases e; exact h
  | str i => cases e; exact h
  | _ => cases e
theorem keys_V {K : PySem.W.Frag} {H : Hp} {G : Store} : ∀ {ds : List D} {ks : List Key} {vs : List V}, ds.mapM keyOf = some ks → TrL K H G ds vs → vs = ks.map kV
  | [], ks, _, e, h => by cases h; simp at e; subst e; rfl
  | d :: ds, ks, _, e, ⟨v, ws, q, t, h⟩ => by
    subst q
    rw [List.mapM_cons] at e
    cases h1 : keyOf d with
    | none => rw [h1] at e; cases e
    | some k =>
      cases h2 : ds.mapM keyOf with
      | none => rw [h1, h2] at e; cases e
      | some r =>
        rw [h1, h2] at e
        have e' : ks = k :: r := by simpa using e.symm
        subst e'
        rw [key_V h1 t.rb, keys_V h2 h]
        rfl
end
end T
end
section
set_option Elab.async false
set_option linter.all false
set_option maxRecDepth 100000
set_option maxHeartbeats 1000000
/-! in, subscripts, slices, truth, tests over trees. -/
namespace T
open PySem PySem.Spec L2
section
variable {X : Cx}
theorem inD_seq {x : D} {ds : List D} {c : Bool} (h : (if (x.pure && D.pureL ds && decide (x.dep ≤ 30)) = true then some (ds.any fun d => D.eq d x) else none) = some c) : x.pure = true ∧ D.pureL ds = true ∧ x.dep ≤ 30 ∧ c = ds.any fun d => D.eq d x := by
  by_cases g : (x.pure && D.pureL ds && decide (x.dep ≤ 30)) = true
  · rw [if_pos g] at h
    simp only [Bool.and_eq_true, decide_eq_true_eq] at g
    exact ⟨g.1.1, g.1.2, g.2, (Option.some.inj h).symm⟩
  · rw [if_neg g] at h; cases h
/-- in, over trees: by what holds of the answer -/
theorem in_run (hu : X.A.units + 64 < cLine) {neg : Bool} {op : CmpOp} (hop : op = (if neg then .NotIn else .In)) {pins : List (Addr × Obj)} {s : Shared} {τ : L2.St} {H : Hp} {G : Store} {x y : D} {c : Bool} {u v : V} {a b : Value} {Q : VK} (I : Inv X pins τ H s) (ra : RelV u a) (rb : RelV v b)
    (hx : Tr X.K H G x u) (hy : Rb X.K H G y v) (e : inD x y = some c) (q : Q (.bl (if neg then !c else c)) H) : wpAny (model X.prog X.w) X.A (compareOp op a b) (EP X pins τ Q) X.xe s := by
  subst hop
  have seqT : ∀ {p : Addr} {vs : List V} {ds : List D}, v = .ref p → SqT X.K H p vs → TrL X.K H G ds vs → x.pure = true → D.pureL ds = true → x.dep ≤ 30 → c = (ds.any fun d => D.eq d x) → wpAny (model X.prog X.w) X.A (compareOp (if neg = true then .NotIn else .In) a b) (EP X pins τ Q) X.xe s := by
    intro p vs ds ev hq t px pd dp ec
    subst ev; cases rb
    obtain ⟨its, ri, ci, _⟩ := I.tuple hq
    have hm := mem_eqTo I (tr_dp x u px hx) ra (A := X.A.in1) (by rw [dep_py x px]; have : X.A.in1.units = X.A.units + 1 := rfl; omega) (trL_dp ds vs pd t) ri
    have hv : its.toArray.any (eqTo X.K H x.py) = c := by
      rw [List.any_toArray, any_eqTo I (trL_dp ds vs pd t) ri, any_py px pd, ec]
    cases neg with
    | false => exact SeqAt.in_tupleAt (eqTo X.K H x.py) ci (fun z hz => hm z (by simpa using hz)) (by rw [hv]; exact ⟨.bl _, H, I, rfl, q⟩)
    | true => exact SeqAt.notIn_tupleAt (eqTo X.K H x.py) ci (fun z hz => hm z (by simpa using hz)) (by rw [hv]; exact ⟨.bl _, H, I, rfl, q⟩)
  cases y with
  | tup ds =>
    obtain ⟨px, pd, dp, ec⟩ := inD_seq e
    obtain ⟨p, vs, ev, hq, t⟩ := hy
    exact seqT ev hq.sq t px pd dp ec
  | ktup ds =>
    obtain ⟨px, pd, dp, ec⟩ := inD_seq e
    obtain ⟨p, vs, ev, hq, t⟩ := hy
    exact seqT ev hq.sq t px pd dp ec
  | lst ds =>
    obtain ⟨px, pd, dp, ec⟩ := inD_seq e
    obtain ⟨p, vs, ev, hq, t⟩ := hy
    subst ev; cases rb
    obtain ⟨its, ri, ci, _⟩ := I.list (.inl hq)
    have hm := mem_eqTo I (tr_dp x u px hx) ra (A := X.A.in1) (by rw [dep_py x px]; have : X.A.in1.units = X.A.units + 1 := rfl; omega) (trL_dp ds vs pd t) ri
    have hv : its.toArray.any (eqTo X.K H x.py) = c := by
      rw [List.any_toArray, any_eqTo I (trL_dp ds vs pd t) ri, any_py px pd, ec]
    cases neg with
    | false => exact SeqAt.in_listAt (eqTo X.K H x.py) ci.isList (fun z hz => hm z (by simpa using hz)) (by rw [hv]; exact ⟨.bl _, H, I, rfl, q⟩)
    | true => exact SeqAt.notIn_listAt (eqTo X.K H x.py) ci.isList (fun z hz => hm z (by simpa using hz)) (by rw [hv]; exact ⟨.bl _, H, I, rfl, q⟩)
  | dK kvs =>
    obtain ⟨p, kws, ev, hd, t⟩ := hy
    subst ev; cases rb
    cases hk : keyOf x with
    | none => simp only [inD, hk] at e; cases e
    | some k =>
      simp only [inD, hk] at e
      have ec : c = (look kvs k).isSome := by cases e; rfl
      have g : DGet H p u (valV kws k) := .inl ⟨kws, k, hd, key_V hk hx.rb, rfl⟩
      rw [ec, ← look_isSome t] at q
      cases neg with
      | false => exact d_in (by omega) I g ra fun s' I' => ⟨.bl _, H, I', rfl, q⟩
      | true => exact d_notIn (by omega) I g ra fun s' I' => ⟨.bl _, H, I', rfl, q⟩
  | dT kvs =>
    obtain ⟨p, kws, ev, hd, t⟩ := hy
    subst ev; cases rb
    cases x with
    | tup ds =>
      cases hk : ds.mapM keyOf with
      | none => simp only [inD, keysOf, hk] at e; cases e
      | some ks =>
        simp only [inD, keysOf, hk] at e
        have ec : c = (look kvs ks).isSome := by cases e; rfl
        obtain ⟨bq, us, eu, hq, tq⟩ := hx
        have g : DGet H p u (valV kws ks) := .inr ⟨kws, ks, bq, hd, eu, by rw [hq.2, keys_V hk tq], rfl⟩
        rw [ec, ← look_isSomeT t] at q
        cases neg with
        | false => exact d_in (by omega) I g ra fun s' I' => ⟨.bl _, H, I', rfl, q⟩
        | true => exact d_notIn (by omega) I g ra fun s' I' => ⟨.bl _, H, I', rfl, q⟩
    | _ => cases e
  | str z =>
    cases x with
    | str y =>
      simp only [inD] at e
      split at e
      · rename_i c' hc
        have ec : c = decide (c' ∈ z.cps.toList) := by cases e; rfl
        have ey : y = ⟨#[c']⟩ := by
          cases y with
          | mk arr =>
            have h1 : arr.toList = [c'] := hc
            have h2 : arr = #[c'] := by rw [← Array.toArray_toList (xs := arr), h1]
            rw [h2]
        have e1 : u = .str y := hx
        have e2 : v = .str z := hy
        subst e1; subst e2; subst ey
        rw [ec] at q
        cases neg with
        | false => exact op_in_sign pins s τ H _ _ a b Q I ra rb ⟨c', z, rfl, rfl, q⟩
        | true => exact op_notIn_sign pins s τ H _ _ a b Q I ra rb ⟨c', z, rfl, rfl, q⟩
      · cases e
    | _ => cases e
  | _ => cases e
theorem de_in {neg : Bool} {a b : Expr} {da db : Den} {W : Wi} {pos : Pos} (hu : X.A.units + 64 < cLine) (ha : DE X W a da) (hb : DE X W b db) (hm : behindInMarks (if neg then .NotIn else .In) b = false) :
    DE X W (.Compare a [if neg then .NotIn else .In] [b] pos) (sCmp (if neg then .notIn else .in_) da db) := by
  have ho : OpR X (compareOp (if neg then .NotIn else .In)) fun u v H Q => ∃ x y G c, Tr X.K H G x u ∧ Rb X.K H G y v ∧ inD x y = some c ∧ Q (.bl (if neg then !c else c)) H :=
    fun pins s τ H u v a b Q I ra rb ⟨x, y, G, c, hx, hy, e, q⟩ => in_run hu rfl I ra rb hx hy e q
  refine (pe_cmpR ho ha hb hm).imp fun τ H Q hw => lE_mono (lE_bind2 (k := fun _ x y G2 q => oq (cmpD (if neg then .notIn else .in_) (lkc (if neg then .notIn else .in_) G2 x) (lk G2 y)) fun d => q d G2) hw) fun u H1 hh => lE_mono hh fun v H2 ⟨σ, G2, x, y, q, a, b, t, t2, ⟨d, e, z⟩, k⟩ => ?_
  cases neg with
  | false =>
    have e' : (inD x (lk G2 y)).map D.bl = some d := e
    cases hc : inD x (lk G2 y) with
    | none => rw [hc] at e'; cases e'
    | some c =>
      rw [hc] at e'
      cases e'
      exact ⟨x, lk G2 y, G2, c, t, b.rb t2, hc, k _ (.bl c) G2 _ (.refl _ _) b rfl z⟩
  | true =>
    have e' : ((inD x (lk G2 y)).map fun b => D.bl (!b)) = some d := e
    cases hc : inD x (lk G2 y) with
    | none => rw [hc] at e'; cases e'
    | some c =>
      rw [hc] at e'
      cases e'
      exact ⟨x, lk G2 y, G2, c, t, b.rb t2, hc, k _ (.bl (!c)) G2 _ (.refl _ _) b rfl z⟩
variable {W : Wi} {a b c : Expr} {da db dc : Den} {pos : Pos}
theorem de_neg (ha : DE X W a da) : DE X W (.UnaryOp .USub a pos) (sNeg da) :=
  (pe_un un_neg ha).imp fun τ H Q hw => lE_mono (lE_bind (k := fun _ x G1 q => oq (intOf x) fun i => q (.int (-i)) G1) hw) fun u H1 ⟨σ, G, x, q, a, b, t, ⟨i, e, z⟩, k⟩ => by
    cases x with
    | int j => cases e; exact ⟨i, t, k _ (.int (-i)) G H1 (.refl _ _) b rfl z⟩
    | _ => cases e
/-! subscripts -/
theorem atI_tr {K : PySem.W.Frag} {H : Hp} {G : Store} {ds : List D} {vs : List V} {i : Int} {d : D} (t : TrL K H G ds vs) (h : atI ds i = some d) : ∃ v, atI vs i = some v ∧ Tr K H G d v := by
  unfold atI at *
  rw [← t.length]
  cases e : ixN ds.length i with
  | none => rw [e] at h; cases h
  | some j =>
    rw [e] at h
    exact t.get h
theorem atI_map {α β : Type} (f : α → β) (xs : List α) (i : Int) : atI (xs.map f) i = (atI xs i).map f := by
  unfold atI
  rw [List.length_map]
  cases ixN xs.length i with
  | none => rfl
  | some j => simp
def rIxD (K : PySem.W.Frag) : R2 := fun u v H Q => ∃ x y G d, Rb K H G x u ∧ Tr K H G y v ∧ Sto K H G ∧ idxD x y = some d ∧ ∀ z H', Ext G H G H' → Sto K H' G → Tr K H' G d z → Q z H'
theorem ix_D (hu : X.A.units + 64 < cLine) : IxR X (rIxD X.K) := by
  intro value slice pins s τ H u v a b Q I ra rb ⟨x, y, G, d, hx, hy, S, e, k⟩ hs
  cases x with
  | tup ds =>
    cases y with
    | int i =>
      obtain ⟨p, vs, rfl, hq, t⟩ := hx
      have e2 : v = .int i := hy
      subst e2
      obtain ⟨z, hz, tz⟩ := atI_tr t e
      exact ix_tup value slice pins s τ H _ _ a b Q I ra rb ⟨p, vs, i, z, rfl, rfl, hq.sq, hz, here S k tz⟩ hs
    | _ => cases e
  | lst ds =>
    cases y with
    | int i =>
      obtain ⟨p, vs, rfl, hq, t⟩ := hx
      have e2 : v = .int i := hy
      subst e2
      obtain ⟨z, hz, tz⟩ := atI_tr t e
      exact ix_list value slice pins s τ H _ _ a b Q I ra rb ⟨p, vs, i, z, rfl, rfl, .inl hq, hz, here S k tz⟩ hs
    | _ => cases e
  | scr is =>
    cases y with
    | int i =>
      obtain ⟨p, rfl, hq⟩ := hx
      have e2 : v = .int i := hy
      subst e2
      have e' : (atI is i).map D.int = some d := e
      cases h : atI is i with
      | none => rw [h] at e'; cases e'
      | some n =>
        rw [h] at e'
        cases e'
        exact ix_list value slice pins s τ H _ _ a b Q I ra rb ⟨p, _, i, .int n, rfl, rfl, hq, by rw [atI_map, h]; rfl, here S k rfl⟩ hs
    | _ => cases e
  | str z =>
    cases y with
    | int i =>
      have e1 : u = .str z := hx
      have e2 : v = .int i := hy
      subst e1; subst e2
      simp only [idxD] at e
      split at e
      · rename_i hl
        cases h : atI z.cps.toList i with
        | none => rw [h] at e; cases e
        | some c =>
          rw [h] at e
          cases e
          exact ix_str value slice pins s τ H _ _ a b Q I ra rb ⟨z, i, c, rfl, rfl, by rw [ln_eq]; exact hl, h, here S k rfl⟩ hs
      · cases e
    | _ => cases e
  | dK kvs =>
    obtain ⟨p, kws, rfl, hd, t⟩ := hx
    cases ra
    cases hk : keyOf y with
    | none => simp only [idxD, hk] at e; cases e
    | some j =>
      have e' : look kvs j = some d := by simp only [idxD, hk] at e; exact e
      obtain ⟨z, hz, tz⟩ := (valG_val t).1 d e'
      have g : DGet H p v (some z) := .inl ⟨kws, j, hd, key_V hk hy.rb, hz.symm⟩
      exact PyProof.Rows.tail_any (dict_typeIs I g) PySem.F.slot_dict_getitem.lookup (d_getItem (by omega) I g rb fun w' s' I' rw' => ⟨z, H, I', rw', here S k tz⟩) hs
  | dT kvs =>
    obtain ⟨p, kws, rfl, hd, t⟩ := hx
    cases ra
    cases y with
    | tup ds =>
      cases hk : ds.mapM keyOf with
      | none => simp only [idxD, keysOf, hk] at e; cases e
      | some ks =>
        have e' : look kvs ks = some d := by simp only [idxD, keysOf, hk] at e; exact e
        obtain ⟨z, hz, tz⟩ := (valG_valT t).1 d e'
        obtain ⟨bq, us, eu, hq, tq⟩ := hy
        have g : DGet H p v (some z) := .inr ⟨kws, ks, bq, hd, eu, by rw [hq.2, keys_V hk tq], hz.symm⟩
        exact PyProof.Rows.tail_any (dict_typeIs I g) PySem.F.slot_dict_getitem.lookup (d_getItem (by omega) I g rb fun w' s' I' rw' => ⟨z, H, I', rw', here S k tz⟩) hs
    | _ => cases e
  | _ => cases e
theorem de_idx (hu : X.A.units + 64 < cLine) (ha : DE X W a da) (hb : DE X W b db) (hs : PlainIx b) : DE X W (.Subscript a b pos) (sIdx da db) :=
  (pe_ix (ix_D hu) ha hb hs).imp fun τ H Q hw => lE_mono (lE_bind2 (k := fun _ x y G2 q => oq (idxD (lk G2 x) y) fun d => q d G2) hw) fun u H1 hh => lE_mono hh fun v H2 ⟨σ, G2, x, y, q, a, b, t, t2, ⟨d, e, z⟩, k⟩ =>
    ⟨_, y, G2, d, b.rb t, t2, b, e, fun z' H' e' s t => k z' d G2 H' e' s t z⟩
/-! slices -/
def lO (K : PySem.W.Frag) (w : Sl → Store → (Option Int → Store → Prop) → Prop) : TO := fun τ H Q => ∃ σ G q, Sts K H G σ τ ∧ Sto K H G ∧ w σ G q ∧ ∀ o G' H', Ext G H G' H' → Sto K H' G' → q o G' → Q o H'
abbrev DO (X : Cx) (W : Wi) (e : Option Expr) (d : Den) : Prop := PO X e (lO X.K (d.o W))
theorem do_none : DO X W none sAbs := po_none.imp fun τ H Q ⟨σ, G, q, a, b, c, k⟩ => k none G H (.refl _ _) b c
theorem do_some {v : Wi → Sl → Store → DK → Prop} {d : Den} (hd : d.o = (dV d.e).o) (ha : DE X W a d) : DO X W (some a) d :=
  (po_some ha).imp fun τ H Q hw => by
    obtain ⟨σ, G, q, a, b, c, k⟩ := hw
    rw [hd] at c
    refine ⟨σ, G, _, a, b, c, fun v x G' H' e s t ⟨i, e', z⟩ => ?_⟩
    cases x with
    | int j => cases e'; exact ⟨i, t, k _ _ _ e s z⟩
    | _ => cases e'
theorem cut_tr {K : PySem.W.Frag} {H : Hp} {G : Store} {ds : List D} {vs : List V} {lo hi : Option Int} (t : TrL K H G ds vs) : TrL K H G (cutG ds lo hi) (cutV vs lo hi) := by
  unfold cutG cutV
  rw [t.length]
  exact (t.drop _).take _
def rSlD (K : PySem.W.Frag) : V → Option Int → Option Int → Hp → VK → Prop := fun u lo hi H Q => ∃ x G d, Rb K H G x u ∧ Sto K H G ∧ cutD x lo hi = some d ∧ ∀ z H', Ext G H G H' → Sto K H' G → Tr K H' G d z → Q z H'
theorem cut_all {α : Type} {xs : List α} {lo hi : Option Int} (h : HT.sIx xs.length 0 lo = 0 ∧ HT.sIx xs.length xs.length hi = xs.length) : cutG xs lo hi = xs := by
  unfold cutG
  rw [h.1, h.2, Nat.sub_zero]
  exact List.take_length
theorem sl_D : SlR X (rSlD X.K) := by
  intro pins s τ H u a vl vu lo hi sl Q I ra hsl pl pu ⟨x, G, d, hx, S, e, k⟩
  cases x with
  | tup ds =>
    obtain ⟨p, vs, rfl, hq, t⟩ := hx
    cases e
    refine sl_tupA pins s τ H _ a vl vu lo hi sl Q I ra hsl pl pu ⟨p, vs, rfl, hq.sq, fun hw => ?_, fun _ n hn => ?_⟩
    · rw [← t.length] at hw
      rw [cut_all hw] at k
      exact here S k ⟨p, vs, rfl, hq, t⟩
    · exact k _ _ (ext_new hn) (S.new hn) (tup_new S hn (cut_tr t))
  | lst ds =>
    obtain ⟨p, vs, rfl, hq, t⟩ := hx
    cases e
    obtain ⟨T, id, h1, h2, h3⟩ := sl_list pins s τ H _ a vl vu lo hi sl (lQ Q) I ra hsl pl pu ⟨p, vs, rfl, .inl hq, fun n hn => lst_k S hn (cut_tr t) k⟩
    exact ⟨T, id, h1, h2, thn h3 fun _ _ q => ep_lk q⟩
  | str z =>
    have e1 : u = .str z := hx
    subst e1
    simp only [cutD] at e
    split at e
    · rename_i hl
      cases e
      refine sl_str pins s τ H _ a vl vu lo hi sl Q I ra hsl pl pu ⟨z, rfl, by rw [ln_eq]; exact hl, ?_⟩
      have ez : cutS z lo hi = ⟨(cutG z.cps.toList lo hi).toArray⟩ := by unfold cutS cutG; first | rfl | simp [Str.length]
      rw [ez]
      exact here S k rfl
    · cases e
  | _ => cases e
theorem de_cut {lo hi : Option Expr} {dl dh : Den} {p2 : Pos} (ha : DE X W a da) (hl : DO X W lo dl) (hh : DO X W hi dh) : DE X W (.Subscript a (.Slice lo hi none p2) pos) (sCut da dl dh) :=
  (pe_slice sl_D ha hl hh).imp fun τ H Q hw => by
    refine lE_mono (lE_bind (k := fun σ x G1 q => dl.o W σ G1 fun l G2 => dh.o W σ G2 fun h G3 => oq (cutD (lk G3 x) l h) fun d => q d G3) hw) fun u H1 ⟨σ, G1, x, q, a, b, t, c, k⟩ => ?_
    refine ⟨σ, G1, _, a, b, c, fun o G2 H2 e2 s2 c2 => ⟨σ, G2, _, a.ext e2, s2, c2, fun o' G3 H3 e3 s3 ⟨d, e, z⟩ => ?_⟩⟩
    exact ⟨_, G3, d, s3.rb ((t.ext e2).ext e3), s3, e, fun z' H' e' s' t' => k z' d G3 H' ((e2.trans e3).trans e') s' t' z⟩
end
end T
end
section
set_option Elab.async false
set_option linter.all false
set_option maxRecDepth 100000
set_option maxHeartbeats 1000000
/-! Truth, and, or, not, if, chains, attributes over trees. -/
namespace T
open PySem PySem.Spec L2
section
variable {K : PySem.W.Frag} {H : Hp} {τ : L2.St}
theorem lT_mono {w : TWB} {P P' : Bool → Hp → Prop} (h : lT K w τ H P) (i : ∀ v H', P v H' → P' v H') : lT K w τ H P' := by
  obtain ⟨σ, G, q, a, b, c, k⟩ := h
  exact ⟨σ, G, q, a, b, c, fun v G' H' e s z => i _ _ (k v G' H' e s z)⟩
theorem tru_of {G : Store} {d : D} {v : V} {k : Bool} (h : Rb K H G d v) (e : truth d = some k) : TruV K v H k := by
  cases d with
  | non => have e1 : v = .non := h; subst e1; cases e; rfl
  | bl b => have e1 : v = .bl b := h; subst e1; cases e; rfl
  | int i => have e1 : v = .int i := h; subst e1; cases e; rfl
  | str s =>
    have e1 : v = .str s := h
    subst e1
    simp only [truth] at e
    split at e
    · rename_i hl
      cases e
      refine ⟨by rw [ln_eq]; exact hl, ?_⟩
      by_cases h0 : s.length = 0
      · rw [h0]; rfl
      · have h1 : ((s.length : Int) != 0) = true := by simpa using h0
        have h2 : (s.length != 0) = true := by simpa using h0
        rw [h1, h2]
    · cases e
  | tup ds =>
    obtain ⟨a, vs, rfl, q, t⟩ := h
    cases e
    refine .inr (.inl ⟨vs, q.sq, ?_⟩)
    cases ds with
    | nil => cases t; rfl
    | cons d ds => obtain ⟨_, _, rfl, _⟩ := t; rfl
  | lst ds =>
    obtain ⟨a, vs, rfl, q, t⟩ := h
    cases e
    refine .inl ⟨vs, .inl q, ?_⟩
    cases ds with
    | nil => cases t; rfl
    | cons d ds => obtain ⟨_, _, rfl, _⟩ := t; rfl
  | _ => cases e
end
section
variable {X : Cx} {W : Wi} {a b c : Expr} {da db dc : Den} {pos : Pos}
/-- a value as a test -/
theorem dt_val {v : Wi → Sl → Store → DK → Prop} (ha : PE X a (lE X.K (v W))) (he : ∀ whole, isTrue a X.env whole = (do let v ← whole; standAt a.pos; holding [v] (truthy v))) : PT X a (lT X.K ((dV v).t W)) :=
  (pt_truth ha he).imp fun τ H Q ⟨σ, G, q, a, b, c, k⟩ => ⟨σ, G, _, a, b, c, fun u x G' H' e s t ⟨r, e1, z⟩ => ⟨r, tru_of (s.rb t) e1, k r G' H' e s z⟩⟩
theorem cmp_bl {op : Cm} {x y d : D} (h : cmpD op x y = some d) : ∃ b, d = .bl b := by
  unfold cmpD at h
  split at h
  · split at h
    · cases h; exact ⟨_, rfl⟩
    · cases h
  · split at h
    · cases h; exact ⟨_, rfl⟩
    · cases h
  · cases e : ltD x y with
    | none => rw [e] at h; cases h
    | some c => rw [e] at h; cases h; exact ⟨_, rfl⟩
  · split at h
    · cases h; exact ⟨_, rfl⟩
    · rw [Option.map_eq_some_iff] at h
      obtain ⟨c, _, rfl⟩ := h
      exact ⟨_, rfl⟩
  · split at h
    · cases h; exact ⟨_, rfl⟩
    · cases h
  · split at h
    · cases h; exact ⟨_, rfl⟩
    · cases h
  · cases h; exact ⟨_, rfl⟩
  · cases h; exact ⟨_, rfl⟩
  · split at h
    · cases h; exact ⟨_, rfl⟩
    · cases h
  · split at h
    · cases h; exact ⟨_, rfl⟩
    · cases h
  · split at h
    · cases h; exact ⟨_, rfl⟩
    · cases h
  · split at h
    · cases h; exact ⟨_, rfl⟩
    · cases h
  · cases e : inD x y with
    | none => rw [e] at h; cases h
    | some c => rw [e] at h; cases h; exact ⟨_, rfl⟩
  · cases e : inD x y with
    | none => rw [e] at h; cases h
    | some c => rw [e] at h; cases h; exact ⟨_, rfl⟩
theorem tr_bl {K : PySem.W.Frag} {H : Hp} {G : Store} {d : D} {r : Bool} (h : Tr K H G d (.bl r)) : d = .bl r := by
  cases d with
  | bl b => cases h; rfl
  | non => cases h
  | int _ => cases h
  | str _ => cases h
  | tup _ => obtain ⟨_, _, e, _⟩ := h; cases e
  | lst _ => obtain ⟨_, _, e, _⟩ := h; cases e
  | dK _ => obtain ⟨_, _, e, _⟩ := h; cases e
  | dT _ => obtain ⟨_, _, e, _⟩ := h; cases e
  | ref _ => cases h
  | scr _ => obtain ⟨_, e, _⟩ := h; cases e
  | ktup _ => obtain ⟨_, _, e, _⟩ := h; cases e
/-- a test by its value, wherever that is a truth -/
theorem as_test {K : PySem.W.Frag} {H : Hp} {τ : L2.St} {Q : Bool → Hp → Prop} {v : Wi → Sl → Store → DK → Prop} {W : Wi} (h : lT K ((dV v).t W) τ H Q) : lE K (v W) τ H fun x H' => ∀ r, x = .bl r → Q r H' := by
  obtain ⟨σ, G, q, A, B, c, kk⟩ := h
  refine ⟨σ, G, _, A, B, c, fun u x G' H' e s t ⟨r, e1, z⟩ r' eu => ?_⟩
  subst eu
  have ed := tr_bl t
  subst ed
  cases e1
  exact kk r' G' H' e s z
theorem dt_cmp {o : CmpOp} {op : Cm} (ho : OpL X (compareOp o) (cmpD op)) (ha : DE X W a da) (hb : DE X W b db) (hm : behindInMarks o b = false) : DT X W (.Compare a [o] [b] pos) (sCmp op da db) :=
  (pt_cmpR ho ha hb hm).imp fun τ H Q hw =>
    lE_mono (lE_bind2 (k := fun _ x y G2 q => oq (cmpD op (lkc op G2 x) (lk G2 y)) fun d => q d G2) (as_test hw)) fun u H1 hh => lE_mono hh fun v H2 ⟨σ, G2, x, y, q, a, b, t, t2, ⟨d, e, z⟩, k⟩ =>
    ⟨_, _, G2, d, (by unfold lkc; split <;> first | exact t.rb | exact b.rb t), b.rb t2, b, e, fun z' H' e' s t => by
      obtain ⟨r, rfl⟩ := cmp_bl e
      have ez : z' = .bl r := t
      subst ez
      exact ⟨r, rfl, k _ _ G2 H' e' s t z r rfl⟩⟩
theorem dt_in {neg : Bool} (hu : X.A.units + 64 < cLine) (ha : DE X W a da) (hb : DE X W b db) (hm : behindInMarks (if neg then .NotIn else .In) b = false) :
    DT X W (.Compare a [if neg then .NotIn else .In] [b] pos) (sCmp (if neg then .notIn else .in_) da db) := by
  have ho : OpR X (compareOp (if neg then .NotIn else .In)) fun u v H Q => ∃ x y G c, Tr X.K H G x u ∧ Rb X.K H G y v ∧ inD x y = some c ∧ Q (.bl (if neg then !c else c)) H :=
    fun pins s τ H u v a b Q I ra rb ⟨x, y, G, c, hx, hy, e, q⟩ => in_run hu rfl I ra rb hx hy e q
  refine (pt_cmpR ho ha hb hm).imp fun τ H Q hw => lE_mono (lE_bind2 (k := fun _ x y G2 q => oq (cmpD (if neg then .notIn else .in_) (lkc (if neg then .notIn else .in_) G2 x) (lk G2 y)) fun d => q d G2) (as_test hw)) fun u H1 hh => lE_mono hh fun v H2 ⟨σ, G2, x, y, q, a, b, t, t2, ⟨d, e, z⟩, k⟩ => ?_
  cases neg with
  | false =>
    have e' : (inD x (lk G2 y)).map D.bl = some d := e
    cases hc : inD x (lk G2 y) with
    | none => rw [hc] at e'; cases e'
    | some c =>
      rw [hc] at e'
      cases e'
      exact ⟨x, lk G2 y, G2, c, t, b.rb t2, hc, c, rfl, k _ (.bl c) G2 _ (.refl _ _) b rfl z c rfl⟩
  | true =>
    have e' : ((inD x (lk G2 y)).map fun b => D.bl (!b)) = some d := e
    cases hc : inD x (lk G2 y) with
    | none => rw [hc] at e'; cases e'
    | some c =>
      rw [hc] at e'
      cases e'
      exact ⟨x, lk G2 y, G2, c, t, b.rb t2, hc, !c, rfl, k _ (.bl (!c)) G2 _ (.refl _ _) b rfl z _ rfl⟩
/-! is None, is True -/
theorem is_bind {K : PySem.W.Frag} {H : Hp} {τ : L2.St} {op : Cm} {c : D} {Q : VK} (hl : ∀ G x, lkc op G x = lk G x) (h : lE K ((sCmp op da (sC c)).e W) τ H Q) :
    lE K (da.e W) τ H fun u H1 => lE K ((sC c).e W) τ H1 fun v H2 => ∃ σ G2 x y q, Sts K H2 G2 σ τ ∧ Sto K H2 G2 ∧ Tr K H2 G2 x u ∧ Tr K H2 G2 y v ∧ (y = c ∧ oq (cmpD op (lk G2 x) (lk G2 c)) fun d => q d G2) ∧ Kont K G2 H2 q Q := by
  refine lE_bind2 (k := fun _ x y G2 q => y = c ∧ oq (cmpD op (lk G2 x) (lk G2 c)) fun d => q d G2) ?_
  have e : (fun (σ : Sl) (G : Store) (q : DK) => da.e W σ G fun x G1 => (sC c).e W σ G1 fun y G2 => y = c ∧ oq (cmpD op (lk G2 x) (lk G2 c)) fun d => q d G2) = (sCmp op da (sC c)).e W := by
    funext σ G q
    show (da.e W σ G fun x G1 => c = c ∧ oq (cmpD op (lk G1 x) (lk G1 c)) fun d => q d G1) = da.e W σ G fun x G1 => oq (cmpD op (lkc op G1 x) (lk G1 c)) fun d => q d G1
    congr 1
    funext x G1
    rw [hl]
    exact propext ⟨fun h => h.2, fun h => ⟨rfl, h⟩⟩
  rw [e]
  exact h
theorem de_is {o : CmpOp} {op : Cm} {c : D} {r : D → D → Option D} (ho : OpL X (compareOp o) r) (ha : DE X W a da) (hb : DE X W b (sC c)) (hm : behindInMarks o b = false) (hl : ∀ G x, lkc op G x = lk G x) (hc : ∀ G, lk G c = c) (hr : ∀ x, r x c = cmpD op x c) :
    DE X W (.Compare a [o] [b] pos) (sCmp op da (sC c)) :=
  (pe_cmpR ho ha hb hm).imp fun τ H Q hw => lE_mono (is_bind hl hw) fun u H1 hh => lE_mono hh fun v H2 ⟨σ, G2, x, y, q, a, b, t, t2, ⟨ey, ⟨d, e, z⟩⟩, k⟩ => by
    subst ey
    rw [hc] at e
    exact ⟨lk G2 x, y, G2, d, b.rb t, t2.rb, b, by rw [hr]; exact e, fun z' H' e' s t => k z' d G2 H' e' s t z⟩
theorem dt_is {o : CmpOp} {op : Cm} {c : D} {r : D → D → Option D} (ho : OpL X (compareOp o) r) (ha : DE X W a da) (hb : DE X W b (sC c)) (hm : behindInMarks o b = false) (hl : ∀ G x, lkc op G x = lk G x) (hc : ∀ G, lk G c = c) (hr : ∀ x, r x c = cmpD op x c) :
    DT X W (.Compare a [o] [b] pos) (sCmp op da (sC c)) :=
  (pt_cmpR ho ha hb hm).imp fun τ H Q hw => lE_mono (is_bind hl (as_test hw)) fun u H1 hh => lE_mono hh fun v H2 ⟨σ, G2, x, y, q, a, b, t, t2, ⟨ey, ⟨d, e, z⟩⟩, k⟩ => by
    subst ey
    rw [hc] at e
    refine ⟨lk G2 x, y, G2, d, b.rb t, t2.rb, b, by rw [hr]; exact e, fun z' H' e' s t => ?_⟩
    obtain ⟨r', rfl⟩ := cmp_bl e
    have ez : z' = .bl r' := t
    subst ez
    exact ⟨r', rfl, k _ _ G2 H' e' s t z r' rfl⟩
/-! a < b < c -/
theorem chain_bind {K : PySem.W.Frag} {H : Hp} {τ : L2.St} {op op' : Cm} {Q Q2 : VK} {r r' : R2} (hQ : ∀ b H', Q (.bl b) H' → Q2 (.bl b) H')
    (hr : ∀ {H G x y d u v} {P : VK}, Tr K H G x u → Tr K H G y v → Sto K H G → cmpD op (lk G x) (lk G y) = some d → (∀ z H', Ext G H G H' → Sto K H' G → Tr K H' G d z → P z H') → r u v H P)
    (hr' : ∀ {H G x y d u v} {P : VK}, Tr K H G x u → Tr K H G y v → Sto K H G → cmpD op' (lk G x) (lk G y) = some d → (∀ z H', Ext G H G H' → Sto K H' G → Tr K H' G d z → P z H') → r' u v H P)
    (h : lE K ((sChain op op' da db dc).e W) τ H Q) : tChain r r' (lE K (da.e W)) (lE K (db.e W)) (lE K (dc.e W)) τ H Q2 := by
  refine lE_mono (lE_bind2 (k := fun σ x y G2 q => oq (cmpD op (lk G2 x) (lk G2 y)) fun r => oq (blOf r) fun t => if t = true then dc.e W σ G2 fun z G3 => oq (cmpD op' (lk G3 y) (lk G3 z)) fun d => q d G3 else q (.bl false) G2) h) fun u H1 hh => lE_mono hh fun v H2 ⟨σ, G2, x, y, q, A, B, t, t2, ⟨d, e, ⟨bb, eb, z⟩⟩, k⟩ => ?_
  refine hr t t2 B e fun z' H' e' s td => ?_
  cases d with
  | bl b' =>
    cases eb
    have ez : z' = .bl bb := td
    subst ez
    refine ⟨bb, rfl, ?_⟩
    cases bb with
    | true =>
      rw [if_pos rfl] at z ⊢
      refine ⟨σ, G2, _, A.ext e', s, z, fun w' x' G' H'' e2 s2 t3 ⟨d', e3, z3⟩ => ?_⟩
      refine hr' ((t2.ext e').ext e2) t3 s2 e3 fun z4 H4 e4 s4 t4 => ?_
      obtain ⟨b5, rfl⟩ := cmp_bl e3
      have ez4 : z4 = .bl b5 := t4
      subst ez4
      exact hQ _ _ (k _ (.bl b5) G' H4 ((e'.trans e2).trans e4) s4 rfl z3)
    | false =>
      rw [if_neg Bool.false_ne_true] at z ⊢
      exact hQ _ _ (k (.bl false) (.bl false) G2 H' e' s rfl z)
  | _ => cases eb
theorem opl_use {o : CmpOp} {op : Cm} : ∀ {H : Hp} {G : Store} {x y d : D} {u v : V} {P : VK}, Tr X.K H G x u → Tr X.K H G y v → Sto X.K H G → cmpD op (lk G x) (lk G y) = some d → (∀ z H', Ext G H G H' → Sto X.K H' G → Tr X.K H' G d z → P z H') →
    (fun u v H Q => ∃ x y G d, Rb X.K H G x u ∧ Rb X.K H G y v ∧ Sto X.K H G ∧ cmpD op x y = some d ∧ ∀ z H', Ext G H G H' → Sto X.K H' G → Tr X.K H' G d z → Q z H' : R2) u v H P :=
  fun t t2 S e k => ⟨_, _, _, _, S.rb t, S.rb t2, S, e, k⟩
theorem de_chain {o o' : CmpOp} {op op' : Cm} (ho : OpL X (compareOp o) (cmpD op)) (ho' : OpL X (compareOp o') (cmpD op')) (ha : DE X W a da) (hb : DE X W b db) (hc : DE X W c dc) (hm : lastMarks [o, o'] [b, c] = false) :
    DE X W (.Compare a [o, o'] [b, c] pos) (sChain op op' da db dc) :=
  (pe_chain ho ho' ha hb hc hm).imp fun τ H Q hw => chain_bind (fun _ _ h => h) (opl_use (o := o)) (opl_use (o := o')) hw
theorem dt_chain {o o' : CmpOp} {op op' : Cm} (ho : OpL X (compareOp o) (cmpD op)) (ho' : OpL X (compareOp o') (cmpD op')) (ha : DE X W a da) (hb : DE X W b db) (hc : DE X W c dc) (hm : lastMarks [o, o'] [b, c] = false) :
    DT X W (.Compare a [o, o'] [b, c] pos) (sChain op op' da db dc) :=
  (pt_chain ho ho' ha hb hc hm).imp fun τ H Q hw => chain_bind (fun b H' h => ⟨b, rfl, h b rfl⟩) (opl_use (o := o)) (opl_use (o := o')) (as_test hw)
/-! attributes -/
theorem lookup_tr {K : PySem.W.Frag} {H : Hp} {G : Store} {f : Str} : ∀ {fs : List (Str × D)} {gs : List (Str × V)}, fs.map (·.1) = gs.map (·.1) → TrL K H G (fs.map (·.2)) (gs.map (·.2)) →
    (∀ d, fs.lookup f = some d → ∃ v, gs.lookup f = some v ∧ Tr K H G d v) ∧ (fs.lookup f = none → gs.lookup f = none)
  | [], [], _, _ => ⟨fun d e => (by cases e), fun _ => rfl⟩
  | [], _ :: _, e, _ => by cases e
  | _ :: _, [], e, _ => by cases e
  | (k, d) :: r, (k', v) :: r', e, ⟨u, us, eu, t, h⟩ => by
    have e1 : k = k' := (List.cons.inj e).1
    have e2 : r.map (·.1) = r'.map (·.1) := (List.cons.inj e).2
    have e3 : v = u := (List.cons.inj eu).1
    have e4 : r'.map (·.2) = us := (List.cons.inj eu).2
    subst e1; subst e3; subst e4
    have ih := lookup_tr (f := f) e2 h
    rw [List.lookup_cons, List.lookup_cons]
    cases hk : f == k with
    | true => exact ⟨fun d' e => (by cases e; exact ⟨v, rfl, t⟩), fun e => (by cases e)⟩
    | false => exact ih
theorem de_att {Γ : Ctx} {f : Str} (hΓ : ∀ C f, Γ.att C f → Cls X.K C ∧ NoAttr X.K C f) (ha : DE X W a da) (hb : attributeBase a f X.env (eval a X.env) = eval a X.env) : DE X W (.Attribute a f pos) (sAtt Γ da f) :=
  (pe_fld ha hb).imp fun τ H Q hw => lE_mono (lE_bind (k := fun σ x G1 q => oq (insOf G1 x) fun o => Γ.att o.1 f ∧ oq (o.2.lookup f) fun d => q d G1) hw) fun u H1 ⟨σ, G1, x, q, A, B, t, ⟨o, e, ho, ⟨d, e2, z⟩⟩, k⟩ => by
    cases x with
    | ref p =>
      have eu : u = .ref p := t
      subst eu
      cases hp : G1 p with
      | none => simp only [insOf, hp] at e; cases e
      | some m =>
        cases m with
        | ins C fs =>
          simp only [insOf, hp] at e
          cases e
          obtain ⟨dx, gs, hH, hn, ht⟩ := B p _ hp
          obtain ⟨v, hv, tv⟩ := (lookup_tr hn ht).1 d e2
          obtain ⟨hcl, hna⟩ := hΓ C f ho
          exact ⟨p, C, dx, gs, v, rfl, hH, hcl, hna, hv, k v d G1 H1 (.refl _ _) B tv z⟩
        | lst _ => simp only [insOf, hp] at e; cases e
        | dK _ => simp only [insOf, hp] at e; cases e
        | dT _ => simp only [insOf, hp] at e; cases e
    | _ => cases e
/-! and, or -/
theorem and_one {op : BoolOp} (ha : DE X W a da) (ta : DT X W a da) : DE X W (.BoolOp .And [a] pos) (sAnd [da]) ∧ PW X (.BoolOp .And [a] pos) (lT X.K ((sAnd [da]).t W)) := ⟨pe_one ha, pw_and1 ta⟩
theorem or_one (ha : DE X W a da) (ta : DT X W a da) : DE X W (.BoolOp .Or [a] pos) (sOr [da]) ∧ PW X (.BoolOp .Or [a] pos) (lT X.K ((sOr [da]).t W)) := ⟨pe_one ha, pw_or1 ta⟩
theorem and_cons {rest : List Expr} {dr : List Den} (ha : DE X W a da) (ta : DT X W a da) (hb : DE X W (.BoolOp .And (b :: rest) pos) (sAnd (db :: dr))) (tb : PW X (.BoolOp .And (b :: rest) pos) (lT X.K ((sAnd (db :: dr)).t W))) :
    DE X W (.BoolOp .And (a :: b :: rest) pos) (sAnd (da :: db :: dr)) ∧ PW X (.BoolOp .And (a :: b :: rest) pos) (lT X.K ((sAnd (da :: db :: dr)).t W)) := by
  constructor
  · refine (pe_andT ha hb).imp fun τ H Q hw => lE_mono (lE_bind (k := fun σ x G1 q => oq (truth (lk G1 x)) fun t => if t = true then (sAnd (db :: dr)).e W σ G1 q else q x G1) hw) fun u H1 ⟨σ, G1, x, q, A, B, t, ⟨r, e, z⟩, k⟩ => ⟨r, tru_of (B.rb t) e, ?_⟩
    cases r with
    | true => rw [if_pos rfl] at z ⊢; exact ⟨σ, G1, q, A, B, z, k⟩
    | false => rw [if_neg Bool.false_ne_true] at z ⊢; exact k u x G1 H1 (.refl _ _) B t z
  · refine ⟨fun whole pins s τ H Q I hw => (pw_and ta tb).run whole pins s τ H Q I ?_⟩
    obtain ⟨σ, G, q, A, B, c, kk⟩ := hw
    refine ⟨σ, G, _, A, B, c, fun r G' H' e s z => ?_⟩
    cases r with
    | true => rw [if_pos rfl] at z ⊢; exact ⟨σ, G', q, A.ext e, s, z, fun r2 G2 H2 e2 => kk r2 G2 H2 (e.trans e2)⟩
    | false => rw [if_neg Bool.false_ne_true] at z ⊢; exact kk false G' H' e s z
theorem or_cons {rest : List Expr} {dr : List Den} (ha : DE X W a da) (ta : DT X W a da) (hb : DE X W (.BoolOp .Or (b :: rest) pos) (sOr (db :: dr))) (tb : PW X (.BoolOp .Or (b :: rest) pos) (lT X.K ((sOr (db :: dr)).t W))) :
    DE X W (.BoolOp .Or (a :: b :: rest) pos) (sOr (da :: db :: dr)) ∧ PW X (.BoolOp .Or (a :: b :: rest) pos) (lT X.K ((sOr (da :: db :: dr)).t W)) := by
  constructor
  · refine (pe_orT ha hb).imp fun τ H Q hw => lE_mono (lE_bind (k := fun σ x G1 q => oq (truth (lk G1 x)) fun t => if t = true then q x G1 else (sOr (db :: dr)).e W σ G1 q) hw) fun u H1 ⟨σ, G1, x, q, A, B, t, ⟨r, e, z⟩, k⟩ => ⟨r, tru_of (B.rb t) e, ?_⟩
    cases r with
    | true => rw [if_pos rfl] at z ⊢; exact k u x G1 H1 (.refl _ _) B t z
    | false => rw [if_neg Bool.false_ne_true] at z ⊢; exact ⟨σ, G1, q, A, B, z, k⟩
  · refine ⟨fun whole pins s τ H Q I hw => (pw_or ta tb).run whole pins s τ H Q I ?_⟩
    obtain ⟨σ, G, q, A, B, c, kk⟩ := hw
    refine ⟨σ, G, _, A, B, c, fun r G' H' e s z => ?_⟩
    cases r with
    | true => rw [if_pos rfl] at z ⊢; exact kk true G' H' e s z
    | false => rw [if_neg Bool.false_ne_true] at z ⊢; exact ⟨σ, G', q, A.ext e, s, z, fun r2 G2 H2 e2 => kk r2 G2 H2 (e.trans e2)⟩
theorem not_both (ha : DE X W a da) (ta : DT X W a da) : DE X W (.UnaryOp .Not a pos) (sNot da) ∧ DT X W (.UnaryOp .Not a pos) (sNot da) := by
  constructor
  · exact (pe_notT ha).imp fun τ H Q hw => lE_mono (lE_bind (k := fun σ x G1 q => oq (truth (lk G1 x)) fun t => q (.bl (!t)) G1) hw) fun u H1 ⟨σ, G1, x, q, A, B, t, ⟨r, e, z⟩, k⟩ => ⟨r, tru_of (B.rb t) e, k _ (.bl (!r)) G1 H1 (.refl _ _) B rfl z⟩
  · exact (pt_not ta).imp fun τ H Q ⟨σ, G, q, A, B, c, kk⟩ => ⟨σ, G, _, A, B, c, fun r G' H' e s z => kk (!r) G' H' e s z⟩
theorem if_both (tc : DT X W c dc) (ha : DE X W a da) (ta : DT X W a da) (hb : DE X W b db) (tb : DT X W b db) : DE X W (.IfExp c a b pos) (sIfe dc da db) ∧ DT X W (.IfExp c a b pos) (sIfe dc da db) := by
  constructor
  · refine (pe_ifExp tc ha hb).imp fun τ H Q ⟨σ, G, q, A, B, z, kk⟩ => ⟨σ, G, _, A, B, z, fun r G' H' e s z => ?_⟩
    cases r with
    | true => rw [if_pos rfl] at z ⊢; exact ⟨σ, G', q, A.ext e, s, z, kk.ext e⟩
    | false => rw [if_neg Bool.false_ne_true] at z ⊢; exact ⟨σ, G', q, A.ext e, s, z, kk.ext e⟩
  · refine ⟨fun pins s τ H Q I hw => PyProof.Rows.isTrue_IfExp ?_⟩
    obtain ⟨σ, G, q, A, B, z, kk⟩ := hw
    refine thn (tc.run pins s τ H (fun r H1 => if r = true then lT X.K (da.t W) τ H1 Q else lT X.K (db.t W) τ H1 Q) I ⟨σ, G, _, A, B, z, fun r G' H' e s z => ?_⟩) fun r s1 ⟨H1, I1, q1⟩ => ?_
    · cases r with
      | true => rw [if_pos rfl] at z ⊢; exact ⟨σ, G', q, A.ext e, s, z, fun r2 G2 H2 e2 => kk r2 G2 H2 (e.trans e2)⟩
      | false => rw [if_neg Bool.false_ne_true] at z ⊢; exact ⟨σ, G', q, A.ext e, s, z, fun r2 G2 H2 e2 => kk r2 G2 H2 (e.trans e2)⟩
    · cases r with
      | true => rw [if_pos rfl] at q1 ⊢; exact ta.run pins s1 τ H1 Q I1 q1
      | false => rw [if_neg Bool.false_ne_true] at q1 ⊢; exact tb.run pins s1 τ H1 Q I1 q1
end
end T
end
section
set_option Elab.async false
set_option linter.all false
set_option maxRecDepth 100000
set_option maxHeartbeats 1000000
/-! Built-in functions over trees. -/
namespace T
open PySem PySem.Spec L2
section
variable {X : Cx}
def rBi (K : PySem.W.Frag) (b : Bi) : List V → Hp → VK → Prop := fun vs H Q => ∃ ds G d, TrL K H G ds vs ∧ Sto K H G ∧ biD b (ds.map (lk G)) = some d ∧ ∀ z H', Ext G H G H' → Sto K H' G → Tr K H' G d z → Q z H'
theorem wBi_of {b : Bi} (hb : b ≠ .listM) (ds : List D) (G : Store) (q : DK) : wBi b ds G q = oq (biD b (ds.map (lk G))) fun d => q d G := by
  cases b <;> first | rfl | exact absurd rfl hb
theorem bi_bind {K : PySem.W.Frag} {H : Hp} {τ : L2.St} {W : Wi} {n : Nat} {ds : List Den} {b : Bi} (hb : b ≠ .listM) {Q : VK} (h : lE K ((sBi b ds).e W) τ H Q) : tCB (rBi K b) (lAn K n (dA ds W)) τ H Q :=
  lAn_mono (lAn_bind (n := n) (k := fun _ ds G q => wBi b ds G q) h) fun us H1 ⟨σ, G1, xs, q, l, A, B, t, z, k⟩ => by
    rw [wBi_of hb] at z
    obtain ⟨d, e, z⟩ := z
    exact ⟨xs, G1, d, t, B, e, fun z' H' e' s t' => k z' d G1 H' e' s t' z⟩
variable {W : Wi} {e : Expr} {es : List Expr} {n : Nat} {ds : List Den} {x : Str} {p pos : Pos} {b : Bi}
theorem star_plain : ∀ {es : List Expr} {env : Env} {pos : Pos}, es.all noStar = true → (backTo pos (starEach es env)).any (·.1) = false
  | [], _, _, _ => rfl
  | e :: es, env, pos, h => by
    rw [List.all_cons, Bool.and_eq_true] at h
    rw [star_cons h.1]
    show (false || (backTo pos (starEach es env)).any (·.1)) = false
    rw [star_plain h.2]; rfl
theorem de_biB {id : String} (hb : b ≠ .listM) (hc : CallR X (.builtin id) (rBi X.K b)) (hg : Gl X x) (hm : X.mg x = none) (hv : bootBuiltins x = some (.builtin id)) (ha : DA X W (e :: es) n ds) (hs : (e :: es).all noStar = true) (hn : x ≠ "__name__") (hdb : (x == ("__debug__" : Str)) = false) :
    DE X W (.Call (.Name x p) (e :: es) [] pos) (sBi b ds) := (pe_callB hc hg hm hv ha hn hdb (star_cons (by rw [List.all_cons, Bool.and_eq_true] at hs; exact hs.1)) (star_plain (by rw [List.all_cons, Bool.and_eq_true] at hs; exact hs.2))).imp fun τ H Q hw => bi_bind hb hw
theorem de_biT {T : String} (hb : b ≠ .listM) (hc : CallR X (.type T) (rBi X.K b)) (hg : Gl X x) (hm : X.mg x = none) (hv : bootBuiltins x = some (.type T)) (ha : DA X W (e :: es) n ds) (hs : (e :: es).all noStar = true) (hn : x ≠ "__name__") (hdb : (x == ("__debug__" : Str)) = false) :
    DE X W (.Call (.Name x p) (e :: es) [] pos) (sBi b ds) := (pe_callTy hc hg hm hv ha hn hdb (star_cons (by rw [List.all_cons, Bool.and_eq_true] at hs; exact hs.1)) (star_plain (by rw [List.all_cons, Bool.and_eq_true] at hs; exact hs.2))).imp fun τ H Q hw => bi_bind hb hw
/-- one value -/
theorem one_of {K : PySem.W.Frag} {H : Hp} {G : Store} {ds : List D} {vs : List V} {y : D} (t : TrL K H G ds vs) (S : Sto K H G) (h : ds.map (lk G) = [y]) : ∃ d v, ds = [d] ∧ vs = [v] ∧ lk G d = y ∧ Tr K H G d v ∧ Rb K H G y v := by
  cases ds with
  | nil => cases h
  | cons d r =>
    cases r with
    | nil =>
      obtain ⟨v, ws, rfl, td, tr⟩ := t
      cases tr
      have e : lk G d = y := (List.cons.inj h).1
      exact ⟨d, v, rfl, rfl, e, td, e ▸ S.rb td⟩
    | cons _ _ => simp at h
theorem two_of {K : PySem.W.Frag} {H : Hp} {G : Store} {ds : List D} {vs : List V} {y z : D} (t : TrL K H G ds vs) (S : Sto K H G) (h : ds.map (lk G) = [y, z]) : ∃ v w, vs = [v, w] ∧ Rb K H G y v ∧ Rb K H G z w := by
  cases ds with
  | nil => cases h
  | cons d r =>
    cases r with
    | nil => simp at h
    | cons d2 r =>
      cases r with
      | nil =>
        obtain ⟨v, ws, rfl, td, tr⟩ := t
        obtain ⟨v2, ws2, rfl, td2, tr2⟩ := tr
        cases tr2
        have e : lk G d = y := (List.cons.inj h).1
        have e2 : lk G d2 = z := (List.cons.inj (List.cons.inj h).2).1
        exact ⟨v, v2, rfl, e ▸ S.rb td, e2 ▸ S.rb td2⟩
      | cons _ _ => simp at h
theorem mapM_int {K : PySem.W.Frag} {H : Hp} {G : Store} : ∀ {ds : List D} {is : List Int} {vs : List V}, ds.mapM intOf = some is → TrL K H G ds vs → vs = is.map V.int
  | [], is, _, e, h => by cases h; simp at e; subst e; rfl
  | d :: ds, is, _, e, ⟨v, ws, q, t, h⟩ => by
    subst q
    rw [List.mapM_cons] at e
    cases h1 : intOf d with
    | none => rw [h1] at e; cases e
    | some k =>
      cases h2 : ds.mapM intOf with
      | none => rw [h1, h2] at e; cases e
      | some r =>
        rw [h1, h2] at e
        have e' : is = k :: r := by simpa using e.symm
        subst e'
        cases d with
        | int j => cases h1; have ev : v = .int k := t; rw [ev, mapM_int h2 h]; rfl
        | _ => cases h1
theorem mapM_bl {K : PySem.W.Frag} {H : Hp} {G : Store} : ∀ {ds : List D} {is : List Bool} {vs : List V}, ds.mapM blOf = some is → TrL K H G ds vs → vs = is.map V.bl
  | [], is, _, e, h => by cases h; simp at e; subst e; rfl
  | d :: ds, is, _, e, ⟨v, ws, q, t, h⟩ => by
    subst q
    rw [List.mapM_cons] at e
    cases h1 : blOf d with
    | none => rw [h1] at e; cases e
    | some k =>
      cases h2 : ds.mapM blOf with
      | none => rw [h1, h2] at e; cases e
      | some r =>
        rw [h1, h2] at e
        have e' : is = k :: r := by simpa using e.symm
        subst e'
        cases d with
        | bl j => cases h1; have ev : v = .bl k := t; rw [ev, mapM_bl h2 h]; rfl
        | _ => cases h1
theorem bi_len : CallR X (.builtin "len") (rBi X.K .len) := call_len.imp fun vs H Q ⟨ds, G, d, t, S, e, k⟩ => by
  generalize hm : ds.map (lk G) = ms at e
  match ms, e with
  | [.str s], e =>
    obtain ⟨d0, v, rfl, rfl, _, _, hy⟩ := one_of t S hm
    have ev : v = .str s := hy
    subst ev
    simp only [biD] at e
    split at e
    · rename_i hl; cases e
      exact ⟨_, _, rfl, ⟨by rw [ln_eq]; exact hl, rfl⟩, here S k rfl⟩
    · cases e
  | [.tup l], e =>
    obtain ⟨d0, v, rfl, rfl, _, _, a, us, rfl, hq, tq⟩ := one_of t S hm
    cases e
    exact ⟨_, _, rfl, .inr ⟨us, hq.sq, rfl⟩, by rw [← tq.length]; exact here S k rfl⟩
  | [.lst l], e =>
    obtain ⟨d0, v, rfl, rfl, _, _, a, us, rfl, hq, tq⟩ := one_of t S hm
    cases e
    exact ⟨_, _, rfl, .inl ⟨us, .inl hq, rfl⟩, by rw [← tq.length]; exact here S k rfl⟩
  | [.scr l], e =>
    obtain ⟨d0, v, rfl, rfl, _, _, a, rfl, hq⟩ := one_of t S hm
    cases e
    exact ⟨_, _, rfl, .inl ⟨_, hq, rfl⟩, by rw [List.length_map]; exact here S k rfl⟩
  | [.non], e => simp [biD] at e
  | [.bl _], e => simp [biD] at e
  | [.int _], e => simp [biD] at e
  | [.dK _], e => simp [biD] at e
  | [.dT _], e => simp [biD] at e
  | [.ref _], e => simp [biD] at e
  | [.ktup _], e => simp [biD] at e
  | [], e => simp [biD] at e
  | _ :: _ :: _, e => simp [biD] at e
theorem bi_sum (hc : X.calm = true) : CallR X (.builtin "sum") (rBi X.K .sum) := (cr_sum hc).imp fun vs H Q ⟨ds, G, d, t, S, e, k⟩ => by
  generalize hm : ds.map (lk G) = ms at e
  match ms, e with
  | [.lst l], e =>
    obtain ⟨d0, v, rfl, rfl, _, _, a, us, rfl, hq, tq⟩ := one_of t S hm
    cases h : l.mapM intOf with
    | none => simp only [biD, h] at e; cases e
    | some is =>
      simp only [biD, h] at e
      cases e
      exact ⟨a, is, rfl, .inl (by rw [← mapM_int h tq]; exact hq), here S k rfl⟩
  | [.non], e => simp [biD] at e
  | [.bl _], e => simp [biD] at e
  | [.int _], e => simp [biD] at e
  | [.str _], e => simp [biD] at e
  | [.tup _], e => simp [biD] at e
  | [.dK _], e => simp [biD] at e
  | [.dT _], e => simp [biD] at e
  | [.ref _], e => simp [biD] at e
  | [.scr _], e => simp [biD] at e
  | [.ktup _], e => simp [biD] at e
  | [], e => simp [biD] at e
  | _ :: _ :: _, e => simp [biD] at e
theorem bi_all (hc : X.calm = true) : CallR X (.builtin "all") (rBi X.K .all) := (cr_all hc).imp fun vs H Q ⟨ds, G, d, t, S, e, k⟩ => by
  generalize hm : ds.map (lk G) = ms at e
  match ms, e with
  | [.lst l], e =>
    obtain ⟨d0, v, rfl, rfl, _, _, a, us, rfl, hq, tq⟩ := one_of t S hm
    cases h : l.mapM blOf with
    | none => simp only [biD, h] at e; cases e
    | some is =>
      simp only [biD, h] at e
      cases e
      exact ⟨a, is, rfl, .inl (by rw [← mapM_bl h tq]; exact hq), here S k rfl⟩
  | [.non], e => simp [biD] at e
  | [.bl _], e => simp [biD] at e
  | [.int _], e => simp [biD] at e
  | [.str _], e => simp [biD] at e
  | [.tup _], e => simp [biD] at e
  | [.dK _], e => simp [biD] at e
  | [.dT _], e => simp [biD] at e
  | [.ref _], e => simp [biD] at e
  | [.scr _], e => simp [biD] at e
  | [.ktup _], e => simp [biD] at e
  | [], e => simp [biD] at e
  | _ :: _ :: _, e => simp [biD] at e
theorem bi_any (hc : X.calm = true) : CallR X (.builtin "any") (rBi X.K .any) := (cr_any hc).imp fun vs H Q ⟨ds, G, d, t, S, e, k⟩ => by
  generalize hm : ds.map (lk G) = ms at e
  match ms, e with
  | [.lst l], e =>
    obtain ⟨d0, v, rfl, rfl, _, _, a, us, rfl, hq, tq⟩ := one_of t S hm
    cases h : l.mapM blOf with
    | none => simp only [biD, h] at e; cases e
    | some is =>
      simp only [biD, h] at e
      cases e
      exact ⟨a, is, rfl, .inl (by rw [← mapM_bl h tq]; exact hq), here S k rfl⟩
  | [.non], e => simp [biD] at e
  | [.bl _], e => simp [biD] at e
  | [.int _], e => simp [biD] at e
  | [.str _], e => simp [biD] at e
  | [.tup _], e => simp [biD] at e
  | [.dK _], e => simp [biD] at e
  | [.dT _], e => simp [biD] at e
  | [.ref _], e => simp [biD] at e
  | [.scr _], e => simp [biD] at e
  | [.ktup _], e => simp [biD] at e
  | [], e => simp [biD] at e
  | _ :: _ :: _, e => simp [biD] at e
/-- the one-list functions in short -/
theorem lst1 {b : Bi} {ms : List D} {d : D} (h : biD b ms = some d) (hb : b = .min2 ∨ b = .max2) : ∃ i j, ms = [.int i, .int j] := by
  rcases hb with rfl | rfl
  all_goals
    match ms, h with
    | [.int i, .int j], _ => exact ⟨i, j, rfl⟩
theorem bi_min2 (hc : X.calm = true) : CallR X (.builtin "min") (rBi X.K .min2) := (call_min2 hc).imp fun vs H Q ⟨ds, G, d, t, S, e, k⟩ => by
  obtain ⟨i, j, hm⟩ := lst1 e (.inl rfl)
  rw [hm] at e
  obtain ⟨v, w, rfl, h1, h2⟩ := two_of t S hm
  have e1 : v = .int i := h1
  have e2 : w = .int j := h2
  subst e1; subst e2
  cases e
  exact ⟨i, j, rfl, here S k rfl⟩
theorem bi_max2 (hc : X.calm = true) : CallR X (.builtin "max") (rBi X.K .max2) := (call_max2 hc).imp fun vs H Q ⟨ds, G, d, t, S, e, k⟩ => by
  obtain ⟨i, j, hm⟩ := lst1 e (.inr rfl)
  rw [hm] at e
  obtain ⟨v, w, rfl, h1, h2⟩ := two_of t S hm
  have e1 : v = .int i := h1
  have e2 : w = .int j := h2
  subst e1; subst e2
  cases e
  exact ⟨i, j, rfl, here S k rfl⟩
end
end T
end
section
set_option Elab.async false
set_option linter.all false
set_option maxRecDepth 100000
set_option maxHeartbeats 1000000
/-! More built-in functions over trees (printed with rest.py from T9.in). -/
namespace T
open PySem PySem.Spec L2
section
variable {X : Cx}
theorem lst_here {K : PySem.W.Frag} {H : Hp} {G : Store} {ds : List D} {vs : List V} {Q : VK} (S : Sto K H G) (k : ∀ z H', Ext G H G H' → Sto K H' G → Tr K H' G (.lst ds) z → Q z H') (t : TrL K H G ds vs) : ∀ l, H l = none → lQ Q (.ref l) (upd H l (.lst vs)) := fun l n => lst_k S n t k
theorem tup_here {K : PySem.W.Frag} {H : Hp} {G : Store} {ds : List D} {vs : List V} {Q : VK} (S : Sto K H G) (k : ∀ z H', Ext G H G H' → Sto K H' G → Tr K H' G (.tup ds) z → Q z H') (t : TrL K H G ds vs) : ∀ l, H l = none → Q (.ref l) (upd H l (.tup vs)) := fun l n =>
  k _ _ (ext_new n) (S.new n) (tup_new S n t)
theorem bi_tuple : CallR X (.type "tuple") (rBi X.K .tuple) := call_tuple_of.imp fun vs H Q ⟨ds, G, d, t, S, e, k⟩ => by
  generalize hm : ds.map (lk G) = ms at e
  match ms, e with
  | [.lst l], e =>
    obtain ⟨d0, v, rfl, rfl, _, _, a, us, rfl, hq, tq⟩ := one_of t S hm
    cases e
    exact ⟨_, us, rfl, .inl ⟨.inl hq, tup_here S k tq⟩⟩
  | [.tup l], e =>
    obtain ⟨d0, v, rfl, rfl, _, _, a, us, rfl, hq, tq⟩ := one_of t S hm
    cases e
    exact ⟨_, us, rfl, .inr ⟨hq.sq, here S k ⟨a, us, rfl, hq, tq⟩⟩⟩
  | [.non], e => simp [biD] at e
  | [.bl _], e => simp [biD] at e
  | [.int _], e => simp [biD] at e
  | [.str _], e => simp [biD] at e
  | [.dK _], e => simp [biD] at e
  | [.dT _], e => simp [biD] at e
  | [.ref _], e => simp [biD] at e
  | [.scr _], e => simp [biD] at e
  | [.ktup _], e => simp [biD] at e
  | [], e => simp [biD] at e
  | _ :: _ :: _, e => simp [biD] at e
theorem keys_trK {K : PySem.W.Frag} {H : Hp} {G : Store} : ∀ {kvs : List (Key × D)} {kws : List (Key × V)}, TrK K H G kvs kws → TrL K H G (kvs.map fun p => dKey p.1) (kws.map fun p => kV p.1)
  | [], _, h => by cases h; rfl
  | (k, _) :: ds, _, ⟨v, ws, e, _, h⟩ => by
    subst e
    refine .cons ?_ (keys_trK h)
    cases k <;> rfl
theorem kV_tr {K : PySem.W.Frag} {H : Hp} {G : Store} : ∀ (ks : List Key), TrL K H G (ks.map dKey) (ks.map kV)
  | [] => rfl
  | k :: ks => .cons (by cases k <;> rfl) (kV_tr ks)
theorem _root_.T.Sto.tup_free {K : PySem.W.Frag} {H : Hp} {G : Store} (S : Sto K H G) {b : Addr} {vs : List V} (h : H b = some (.tup vs)) : G b = none := by
  cases q : G b with
  | none => rfl
  | some o =>
    have s := S b o q
    cases o with
    | lst ds => obtain ⟨_, e, _⟩ := s; rw [h] at e; cases e
    | dK ds => obtain ⟨_, e, _⟩ := s; rw [h] at e; cases e
    | dT ds => obtain ⟨_, e, _⟩ := s; rw [h] at e; cases e
    | ins C fs => obtain ⟨_, _, e, _⟩ := s; rw [h] at e; cases e
theorem dT_keys {K : PySem.W.Frag} {H : Hp} {G : Store} (S : Sto K H G) : ∀ {kvs : List (List Key × D)} {kws : List (List Key × V)} {bs : List Addr}, TrT K H G kvs kws → IsKeys H kws bs → TrL K H G (kvs.map fun p => dKeys p.1) (bs.map V.ref)
  | [], _, bs, h, q => by cases h; cases q; rfl
  | (k, _) :: ds, _, bs, ⟨v, ws, e, _, h⟩, q => by
    subst e
    cases q with
    | cons a b => exact .cons ⟨_, _, rfl, ⟨S.tup_free a, a⟩, kV_tr k⟩ (dT_keys S h b)
theorem bi_list (hc : X.calm = true) : CallR X (.type "list") (rBi X.K .list) := by
  intro pins s τ H vs us Q I r h
  obtain ⟨ds, G, d, t, S, e, k⟩ := h
  generalize hm : ds.map (lk G) = ms at e
  match ms, e with
  | [.lst l], e =>
    obtain ⟨d0, v, rfl, rfl, _, _, a, ws, rfl, hq, tq⟩ := one_of t S hm
    cases e
    exact call_list_of.lk pins s τ H _ _ Q I r ⟨_, ws, rfl, .inl (.inl hq), lst_here S k tq⟩
  | [.tup l], e =>
    obtain ⟨d0, v, rfl, rfl, _, _, a, ws, rfl, hq, tq⟩ := one_of t S hm
    cases e
    exact call_list_of.lk pins s τ H _ _ Q I r ⟨_, ws, rfl, .inr hq.sq, lst_here S k tq⟩
  | [.ktup l], e =>
    obtain ⟨d0, v, rfl, rfl, _, _, a, ws, rfl, hq, tq⟩ := one_of t S hm
    cases e
    exact call_list_of.lk pins s τ H _ _ Q I r ⟨_, ws, rfl, .inr hq.sq, lst_here S k tq⟩
  | [.dK l], e =>
    obtain ⟨d0, v, rfl, rfl, _, _, a, ws, rfl, hq, tq⟩ := one_of t S hm
    cases e
    exact (call_listD hc).lk pins s τ H _ _ Q I r ⟨_, ws, rfl, hq, lst_here S k (keys_trK tq)⟩
  | [.dT l], e =>
    obtain ⟨d0, v, rfl, rfl, _, _, a, ws, rfl, hq, tq⟩ := one_of t S hm
    cases e
    refine (call_list_dT hc).lk pins s τ H _ _ Q I r ⟨_, ws, rfl, hq, fun p bs n hk => ?_⟩
    refine lst_here S k (ds := l.map fun p => dKeys p.1) ?_ p n
    exact dT_keys S tq hk
  | [.non], e => simp [biD] at e
  | [.bl _], e => simp [biD] at e
  | [.int _], e => simp [biD] at e
  | [.str _], e => simp [biD] at e
  | [.ref _], e => simp [biD] at e
  | [.scr _], e => simp [biD] at e
  | [], e => simp [biD] at e
  | _ :: _ :: _, e => simp [biD] at e
theorem bi_int : CallR X (.type "int") (rBi X.K .int) := call_int1.imp fun vs H Q ⟨ds, G, d, t, S, e, k⟩ => by
  generalize hm : ds.map (lk G) = ms at e
  match ms, e with
  | [.int i], e =>
    obtain ⟨d0, v, rfl, rfl, _, _, hy⟩ := one_of t S hm
    have ev : v = .int i := hy
    subst ev
    cases e
    exact .inl ⟨i, rfl, here S k rfl⟩
  | [.bl b], e =>
    obtain ⟨d0, v, rfl, rfl, _, _, hy⟩ := one_of t S hm
    have ev : v = .bl b := hy
    subst ev
    cases e
    exact .inr ⟨b, rfl, here S k rfl⟩
  | [.non], e => simp [biD] at e
  | [.str _], e => simp [biD] at e
  | [.tup _], e => simp [biD] at e
  | [.lst _], e => simp [biD] at e
  | [.dK _], e => simp [biD] at e
  | [.dT _], e => simp [biD] at e
  | [.ref _], e => simp [biD] at e
  | [.scr _], e => simp [biD] at e
  | [.ktup _], e => simp [biD] at e
  | [], e => simp [biD] at e
  | _ :: _ :: _, e => simp [biD] at e
theorem log2_small {n : Nat} (h : n < 10 ^ 20) : n.log2 < 1920 := by
  by_cases z : n = 0
  · subst z; decide
  · have h2 : n < 2 ^ 67 := Nat.lt_trans h (by decide)
    have := (Nat.log2_lt z).2 h2
    omega
theorem bi_str : CallR X (.type "str") (rBi X.K .str) := call_str_int.imp fun vs H Q ⟨ds, G, d, t, S, e, k⟩ => by
  generalize hm : ds.map (lk G) = ms at e
  match ms, e with
  | [.int i], e =>
    obtain ⟨d0, v, rfl, rfl, _, _, hy⟩ := one_of t S hm
    have ev : v = .int i := hy
    subst ev
    simp only [biD] at e
    split at e
    · rename_i hl; cases e
      exact ⟨i, rfl, log2_small hl, here S k rfl⟩
    · cases e
  | [.non], e => simp [biD] at e
  | [.bl _], e => simp [biD] at e
  | [.str _], e => simp [biD] at e
  | [.tup _], e => simp [biD] at e
  | [.lst _], e => simp [biD] at e
  | [.dK _], e => simp [biD] at e
  | [.dT _], e => simp [biD] at e
  | [.ref _], e => simp [biD] at e
  | [.scr _], e => simp [biD] at e
  | [.ktup _], e => simp [biD] at e
  | [], e => simp [biD] at e
  | _ :: _ :: _, e => simp [biD] at e
theorem bi_abs : CallR X (.builtin "abs") (rBi X.K .abs) := call_abs.imp fun vs H Q ⟨ds, G, d, t, S, e, k⟩ => by
  generalize hm : ds.map (lk G) = ms at e
  match ms, e with
  | [.int i], e =>
    obtain ⟨d0, v, rfl, rfl, _, _, hy⟩ := one_of t S hm
    have ev : v = .int i := hy
    subst ev
    cases e
    exact ⟨i, rfl, here S k rfl⟩
  | [.non], e => simp [biD] at e
  | [.bl _], e => simp [biD] at e
  | [.str _], e => simp [biD] at e
  | [.tup _], e => simp [biD] at e
  | [.lst _], e => simp [biD] at e
  | [.dK _], e => simp [biD] at e
  | [.dT _], e => simp [biD] at e
  | [.ref _], e => simp [biD] at e
  | [.scr _], e => simp [biD] at e
  | [.ktup _], e => simp [biD] at e
  | [], e => simp [biD] at e
  | _ :: _ :: _, e => simp [biD] at e
end
end T
end
section
set_option Elab.async false
set_option linter.all false
set_option maxRecDepth 100000
set_option maxHeartbeats 1000000
/-! What is walked, over trees. -/
namespace T
open PySem PySem.Spec PyProof.Rows L2
/-- the iterator gives the trees, one after another, while gd holds -/
def WalkOk (K : PySem.W.Frag) (gd : Store → Prop) (ds : List D) (J : It) (G1 : Store) (H1 : Hp) : Prop :=
  ∀ (i : Nat) (G : Store) (H : Hp), Ext G1 H1 G H → Sto K H G → gd G →
    (∀ d, ds[i]? = some d → J.go i H ∧ ∀ x H', J.yld i H x H' → Ext G H G H' ∧ Sto K H' G ∧ Tr K H' G d x) ∧ (ds[i]? = none → J.stop i H)
abbrev TWI := Sl → Store → (List D → (Store → Prop) → Store → Prop) → Prop
def lI (K : PySem.W.Frag) (w : TWI) : TI := fun τ H R => ∃ σ G q, Sts K H G σ τ ∧ Sto K H G ∧ w σ G q ∧ ∀ J ds gd G1 H1, Ext G H G1 H1 → Sto K H1 G1 → WalkOk K gd ds J G1 H1 → ds.length ≤ LN → q ds gd G1 → R J H1
section
variable {X : Cx}
abbrev DI (X : Cx) (W : Wi) (tg e : Expr) (d : Den) : Prop := PI X tg e (lI X.K (d.i W))
theorem _root_.L2.PI.imp {tg e : Expr} {t t' : TI} (h : PI X tg e t) (i : ∀ σ H R, t' σ H R → t σ H R) : PI X tg e t' := ⟨fun pins s σ H R I w => h.run pins s σ H R I (i σ H R w)⟩
/-! ### the kinds of iterators -/
theorem walk_seq {K : PySem.W.Frag} {gd : Store → Prop} {ds : List D} {J : It} {G1 : Store} {H1 : Hp}
    (h : ∀ (G : Store) (H : Hp), Ext G1 H1 G H → Sto K H G → gd G → ∃ vs, TrL K H G ds vs ∧ (∀ i x, vs[i]? = some x → J.go i H ∧ ∀ y H', J.yld i H y H' → H' = H ∧ y = x) ∧ ∀ i, vs.length ≤ i → J.stop i H) : WalkOk K gd ds J G1 H1 := fun i G H e S g => by
  obtain ⟨vs, t, h1, h2⟩ := h G H e S g
  refine ⟨fun d hd => ?_, fun hn => h2 i (by rw [← t.length]; exact List.getElem?_eq_none_iff.mp hn)⟩
  obtain ⟨v, hv, tv⟩ := t.get hd
  obtain ⟨h3, h4⟩ := h1 i v hv
  refine ⟨h3, fun y H' hy => ?_⟩
  obtain ⟨rfl, rfl⟩ := h4 y H' hy
  exact ⟨.refl _ _, S, tv⟩
theorem walk_lst {K : PySem.W.Frag} {gd : Store → Prop} {ds : List D} {a : Addr} {G1 : Store} {H1 : Hp}
    (h : ∀ (G : Store) (H : Hp), Ext G1 H1 G H → Sto K H G → gd G → ∃ vs, SqL K H a vs ∧ TrL K H G ds vs) : WalkOk K gd ds (Itl K a) G1 H1 := walk_seq fun G H e S g => by
  obtain ⟨vs, hq, t⟩ := h G H e S g
  exact ⟨vs, t, fun i x hx => ⟨⟨vs, x, hq, hx⟩, fun y H' ⟨e1, e2⟩ => ⟨e1, Option.some.inj ((e2 vs hq).symm.trans hx)⟩⟩, fun i hi => ⟨vs, hq, hi⟩⟩
theorem walk_tup {K : PySem.W.Frag} {gd : Store → Prop} {ds : List D} {a : Addr} {G1 : Store} {H1 : Hp}
    (h : ∀ (G : Store) (H : Hp), Ext G1 H1 G H → Sto K H G → gd G → ∃ vs, SqT K H a vs ∧ TrL K H G ds vs) : WalkOk K gd ds (Itt K a) G1 H1 := walk_seq fun G H e S g => by
  obtain ⟨vs, hq, t⟩ := h G H e S g
  exact ⟨vs, t, fun i x hx => ⟨⟨vs, x, hq, hx⟩, fun y H' ⟨e1, e2⟩ => ⟨e1, Option.some.inj ((e2 vs hq).symm.trans hx)⟩⟩, fun i hi => ⟨vs, hq, hi⟩⟩
theorem trK_get {K : PySem.W.Frag} {H : Hp} {G : Store} : ∀ {kvs : List (Key × D)} {kws : List (Key × V)} {i : Nat} {p : Key × V}, TrK K H G kvs kws → kws[i]? = some p → ∃ q, kvs[i]? = some q ∧ q.1 = p.1 ∧ Tr K H G q.2 p.2
  | [], _, _, _, h, e => by cases h; simp at e
  | (k, d) :: ds, _, 0, p, ⟨v, ws, e, t, h⟩, q => by subst e; simp at q; subst q; exact ⟨(k, d), rfl, rfl, t⟩
  | (k, d) :: ds, _, i + 1, p, ⟨v, ws, e, t, h⟩, q => by
    subst e
    obtain ⟨u, a, b⟩ := trK_get (i := i) h (by simpa using q)
    exact ⟨u, by simpa using a, b⟩
theorem trT_get {K : PySem.W.Frag} {H : Hp} {G : Store} : ∀ {kvs : List (List Key × D)} {kws : List (List Key × V)} {i : Nat} {p : List Key × V}, TrT K H G kvs kws → kws[i]? = some p → ∃ q, kvs[i]? = some q ∧ q.1 = p.1 ∧ Tr K H G q.2 p.2
  | [], _, _, _, h, e => by cases h; simp at e
  | (k, d) :: ds, _, 0, p, ⟨v, ws, e, t, h⟩, q => by subst e; simp at q; subst q; exact ⟨(k, d), rfl, rfl, t⟩
  | (k, d) :: ds, _, i + 1, p, ⟨v, ws, e, t, h⟩, q => by
    subst e
    obtain ⟨u, a, b⟩ := trT_get (i := i) h (by simpa using q)
    exact ⟨u, by simpa using a, b⟩
theorem walk_dK {K : PySem.W.Frag} {gd : Store → Prop} {kvs : List (Key × D)} {kws : List (Key × V)} {d : Addr} {o : Obj} {G1 : Store} {H1 : Hp} (hG : G1 d = none) (hf : H1 d = some (.frz o (.dK kws))) (t : TrK K H1 G1 kvs kws) :
    WalkOk K gd (kvs.map fun p => dKey p.1) (Itk d o kws) G1 H1 := walk_seq fun G H e S g => by
  have hf' := (e.fz d o (.dK kws) trivial hG hf).2
  refine ⟨kws.map fun p => kV p.1, keys_trK (TrK.ext e _ _ t), fun i x hx => ?_, fun i hi => ⟨hf', by simpa using hi⟩⟩
  rw [List.getElem?_map] at hx
  cases hk : kws[i]? with
  | none => rw [hk] at hx; cases hx
  | some p =>
    rw [hk] at hx
    have ex : kV p.1 = x := Option.some.inj hx
    refine ⟨⟨hf', (List.getElem?_eq_some_iff.mp hk).1⟩, fun y H' ⟨e1, k, v, e2, e3⟩ => ⟨e1, ?_⟩⟩
    rw [hk] at e2; cases e2
    rw [e3, ← ex]
theorem walk_dT {K : PySem.W.Frag} {gd : Store → Prop} {kvs : List (List Key × D)} {kws : List (List Key × V)} {d : Addr} {o : Obj} {G1 : Store} {H1 : Hp} (hG : G1 d = none) (hf : H1 d = some (.frz o (.dT kws))) (t : TrT K H1 G1 kvs kws) :
    WalkOk K gd (kvs.map fun p => dKeys p.1) (Itkt d o kws) G1 H1 := fun i G H e S g => by
  have hf' := (e.fz d o (.dT kws) trivial hG hf).2
  have t' := TrT.ext e _ _ t
  refine ⟨fun dd hd => ?_, fun hn => ⟨hf', by rw [← t'.length]; simpa using hn⟩⟩
  rw [List.getElem?_map] at hd
  cases hk : kvs[i]? with
  | none => rw [hk] at hd; cases hd
  | some p =>
    rw [hk] at hd
    have ex : dKeys p.1 = dd := Option.some.inj hd
    have hi : i < kws.length := by rw [← t'.length]; exact (List.getElem?_eq_some_iff.mp hk).1
    refine ⟨⟨hf', hi⟩, fun y H' ⟨e1, k, v, qa, e2, e3, e4⟩ => ?_⟩
    subst e1
    refine ⟨.refl _ _, S, ?_⟩
    obtain ⟨r, hr, er, _⟩ := trT_get t' e2
    rw [hk] at hr; cases hr
    rw [← ex, e3]
    have er' : p.1 = k := er
    rw [er']
    exact ⟨qa, _, rfl, ⟨S.tup_free e4, e4⟩, kV_tr k⟩
theorem walk_str {K : PySem.W.Frag} {gd : Store → Prop} {x : Str} {G1 : Store} {H1 : Hp} : WalkOk K gd (x.cps.toList.map fun c => .str ⟨#[c]⟩) (Its x) G1 H1 := fun i G H e S g => by
  refine ⟨fun dd hd => ?_, fun hn => ?_⟩
  · rw [List.getElem?_map, Array.getElem?_toList] at hd
    cases hk : x.cps[i]? with
    | none => rw [hk] at hd; cases hd
    | some c =>
      rw [hk] at hd
      have ex : D.str ⟨#[c]⟩ = dd := Option.some.inj hd
      refine ⟨(Array.getElem?_eq_some_iff.mp hk).1, fun y H' ⟨e1, c', e2, e3⟩ => ?_⟩
      subst e1
      rw [hk] at e2; cases e2
      subst e3
      rw [← ex]
      exact ⟨.refl _ _, S, rfl⟩
  · rw [List.getElem?_map, Array.getElem?_toList] at hn
    cases hk : x.cps[i]? with
    | none => exact Array.getElem?_eq_none_iff.mp hk
    | some c => rw [hk] at hn; cases hn
/-! ### a value that is walked -/
section
variable {tg : Expr} {pins : List (Addr × Obj)} {s : Shared} {σ : L2.St} {H : Hp} {a : Addr} {R : It → Hp → Prop} {E : Value → Shared → Prop}
theorem it_lst {xs : List V} (I : Inv X pins σ H s) (hq : SqL X.K H a xs) (q : R (Itl X.K a) H) : wpAny (model X.prog X.w) X.A (pyIter (.ref a)) (PIE X pins σ tg R) E s := by
  obtain ⟨its, rv, p, hz⟩ := I.list hq
  exact wpAny_pyIter_list p.isList (pi_one (tk := s.toks) I _ (turn_list a _) ⟨_, Heap.get?_push_size _ rfl, rfl, rfl⟩ q)
theorem it_tup {xs : List V} (I : Inv X pins σ H s) (hq : SqT X.K H a xs) (q : R (Itt X.K a) H) : wpAny (model X.prog X.w) X.A (pyIter (.ref a)) (PIE X pins σ tg R) E s := by
  obtain ⟨its, rv, p, hz⟩ := I.tuple hq
  exact wpAny_pyIter_tuple (show s.heap.IsTuple a its.toArray from p) (pi_one (tk := s.toks) I _ (turn_tuple a _) ⟨_, Heap.get?_push_size _ rfl, rfl, rfl⟩ q)
theorem it_dK {kvs : List (Key × V)} {o : Obj} (I : Inv X pins σ H s) (hd : H a = some (.frz o (.dK kvs))) (q : R (Itk a o kvs) H) : wpAny (model X.prog X.w) X.A (pyIter (.ref a)) (PIE X pins σ tg R) E s := by
  obtain ⟨hs, hgd, hx, es, ep, vs, hdt, hsz, kv, hm⟩ := I.frzK hd
  exact iter_keys hs hgd hx hdt (pi_one (tk := s.toks) I _ (turn_keys _ hdt) ⟨_, Heap.get?_push_size _ rfl, rfl, by rw [hsz] <;> rfl⟩ q)
theorem it_dT {kvs : List (List Key × V)} {o : Obj} (I : Inv X pins σ H s) (hd : H a = some (.frz o (.dT kvs))) (q : R (Itkt a o kvs) H) : wpAny (model X.prog X.w) X.A (pyIter (.ref a)) (PIE X pins σ tg R) E s := by
  obtain ⟨hs, hgd, hx, es, ep, hdt, hsz, ent⟩ := I.frzT hd
  exact iter_keys hs hgd hx hdt (pi_one (tk := s.toks) I _ (turn_keysT _ hdt) ⟨_, Heap.get?_push_size _ rfl, rfl, by rw [hsz] <;> rfl⟩ q)
theorem it_str {x : Str} {t : Tok} (I : Inv X pins σ H s) (q : R (Its x) H) : wpAny (model X.prog X.w) X.A (pyIter (.str x t)) (PIE X pins σ tg R) E s := by
  cases ha : x.cps.all (· < 128)
  · exact wpAny_pyIter_wide ha (pi_one (tk := s.toks) I _ (turn_str _ x t "str_iterator" (.inr rfl)) ⟨_, Heap.get?_push_size _ rfl, rfl, rfl⟩ q)
  · exact wpAny_pyIter_ascii ha (pi_one (tk := s.toks) I _ (turn_str _ x t "str_ascii_iterator" (.inl rfl)) ⟨_, Heap.get?_push_size _ rfl, rfl, rfl⟩ q)
end
theorem di_val {W : Wi} {tg e : Expr} {v : Wi → Sl → Store → DK → Prop} (he : PE X e (lE X.K (v W))) : PI X tg e (lI X.K ((dV v).i W)) := by
  refine ⟨fun pins s τ H R I h => ?_⟩
  obtain ⟨σ, G, q, A, B, c, k⟩ := h
  refine thn (he.run pins s τ H (fun x H1 => ∃ G1 d, Ext G H G1 H1 ∧ Sto X.K H1 G1 ∧ Tr X.K H1 G1 d x ∧ oq (itemsOf G1 d) fun ds => q ds (still G1 d) G1) I ⟨σ, G, _, A, B, c, fun x d G1 H1 e1 s1 t1 z1 => ⟨G1, d, e1, s1, t1, z1⟩⟩) fun u s1 ⟨x, H1, I1, rx, G1, d, e1, S1, t1, ds, hi, z⟩ => ?_
  cases d with
  | ref a =>
    have ex : x = .ref a := t1
    subst ex
    cases rx
    simp only [itemsOf] at hi
    cases hG : G1 a with
    | none => rw [hG] at hi; cases hi
    | some m =>
      rw [hG] at hi
      cases m with
      | lst l =>
        cases hi
        obtain ⟨vs, hH, t0⟩ := S1 a _ hG
        obtain ⟨_, _, _, hz⟩ := I1.list (.of hH)
        refine it_lst I1 (.of hH) (k _ _ _ G1 H1 e1 S1 (walk_lst fun G2 H2 e2 S2 g2 => ?_) (by rw [t0.length, ← ln_eq]; exact hz) z)
        have g : G2 a = some (.lst ds) := by have q := g2; simp only [still] at q; rw [q, hG]
        obtain ⟨ws, hH2, tw⟩ := S2 a _ g
        exact ⟨ws, .of hH2, tw⟩
      | _ => cases hi
  | tup l =>
    obtain ⟨a, vs, rfl, hq, t⟩ := t1
    cases hi
    cases rx
    obtain ⟨_, _, _, hz⟩ := I1.tuple hq.sq
    exact it_tup I1 hq.sq (k _ _ _ G1 H1 e1 S1 (walk_tup fun G2 H2 e2 S2 g2 => ⟨vs, (hq.ext e2).sq, TrL.ext e2 _ _ t⟩) (by rw [t.length, ← ln_eq]; exact hz) z)
  | lst l =>
    obtain ⟨a, vs, rfl, hq, t⟩ := t1
    cases hi
    cases rx
    obtain ⟨_, _, _, hz⟩ := I1.list hq.sq
    exact it_lst I1 hq.sq (k _ _ _ G1 H1 e1 S1 (walk_lst fun G2 H2 e2 S2 g2 => ⟨vs, (hq.ext e2).sq, TrL.ext e2 _ _ t⟩) (by rw [t.length, ← ln_eq]; exact hz) z)
  | ktup l =>
    obtain ⟨a, vs, rfl, hq, t⟩ := t1
    cases hi
    cases rx
    obtain ⟨_, _, _, hz⟩ := I1.tuple hq.sq
    exact it_tup I1 hq.sq (k _ _ _ G1 H1 e1 S1 (walk_tup fun G2 H2 e2 S2 g2 => ⟨vs, hq.sq, TrL.ext e2 _ _ t⟩) (by rw [t.length, ← ln_eq]; exact hz) z)
  | dK l =>
    obtain ⟨a, vs, rfl, ⟨hG, od, hf⟩, t⟩ := t1
    cases hi
    cases rx
    have hz := ((show Rd H1 a (.dK vs) from .inr ⟨od, hf⟩).ok I1.hok).1
    exact it_dK I1 hf (k _ _ _ G1 H1 e1 S1 (walk_dK hG hf t) (by rw [List.length_map, TrK.length t, ← ln_eq]; exact hz) z)
  | dT l =>
    obtain ⟨a, vs, rfl, ⟨hG, od, hf⟩, t⟩ := t1
    cases hi
    cases rx
    have hz := ((show Rd H1 a (.dT vs) from .inr ⟨od, hf⟩).ok I1.hok).1
    exact it_dT I1 hf (k _ _ _ G1 H1 e1 S1 (walk_dT hG hf t) (by rw [List.length_map, TrT.length t, ← ln_eq]; exact hz) z)
  | str y =>
    have ex : x = .str y := t1
    subst ex
    simp only [itemsOf, seqOf] at hi
    split at hi
    · rename_i hl
      cases hi
      obtain ⟨t, rfl⟩ := rx
      exact it_str I1 (k _ _ _ G1 H1 e1 S1 walk_str (by rw [List.length_map]; simpa [Str.length] using hl) z)
    · cases hi
  | _ => cases hi
/-! ### ranges -/
theorem walk_rng {K : PySem.W.Frag} {gd : Store → Prop} {lo : Int} {n : Nat} {G1 : Store} {H1 : Hp} : WalkOk K gd ((List.range n).map fun i : Nat => D.int (lo + (i : Int))) (Itr lo n) G1 H1 := fun i G H e S g => by
  refine ⟨fun dd hd => ?_, fun hn => ?_⟩
  · rw [List.getElem?_map] at hd
    by_cases h : i < n
    · rw [List.getElem?_range h] at hd
      have ex : D.int (lo + (i : Int)) = dd := Option.some.inj hd
      refine ⟨h, fun y H' ⟨e1, e2⟩ => ?_⟩
      subst e1; subst e2
      rw [← ex]
      exact ⟨.refl _ _, S, rfl⟩
    · rw [List.getElem?_eq_none (by simpa using Nat.le_of_not_lt h)] at hd; cases hd
  · have : n ≤ i := by simpa using hn
    exact this
theorem star_one {e : Expr} (h : noStar e = true) : starEach [e] X.env = [(false, eval e X.env)] := star_cons h
theorem di_range1 {W : Wi} {tg a : Expr} {da : Den} {p pos : Pos} (hg : Gl X "range") (hm : X.mg "range" = none) (ha : DE X W a da) (hs : noStar a = true) : DI X W tg (.Call (.Name "range" p) [a] [] pos) (sRange1 da) :=
  (pi_range1 hg hm (pa_cons ha pa_nil (star_cons hs)) (star_one hs)).imp fun τ H R ⟨σ, G, q, A, B, c, k⟩ => by
    refine ⟨σ, G, _, A, B, c, fun x d G1 H1 e1 S1 t1 ⟨n, en, h1, h2, z⟩ => ?_⟩
    cases d with
    | int j =>
      cases en
      have ex : x = .int n := t1
      refine ⟨n, by rw [ex], by omega, by have : LN = 16777216 := rfl; omega, ?_⟩
      refine k _ _ _ G1 H1 e1 S1 ?_ (by rw [List.length_map, List.length_range]; omega) z
      have w := walk_rng (K := X.K) (gd := fun _ => True) (lo := 0) (n := n.toNat) (G1 := G1) (H1 := H1)
      simpa using w
    | _ => cases en
theorem di_range2 {W : Wi} {tg a b : Expr} {da db : Den} {p pos : Pos} (hg : Gl X "range") (hm : X.mg "range" = none) (ha : DE X W a da) (hb : DE X W b db) (hs : noStar a = true) (hs2 : noStar b = true) : DI X W tg (.Call (.Name "range" p) [a, b] [] pos) (sRange2 da db) :=
  (pi_range2 hg hm (pa_cons ha (pa_cons hb pa_nil (star_cons hs2)) (star_cons hs)) (by rw [star_cons hs, star_one hs2]) (star_one hs2)).imp fun τ H R ⟨σ, G, q, A, B, c, k⟩ => by
    refine ⟨σ, G, _, A, B, c, fun x d G1 H1 e1 S1 t1 c1 => ⟨σ, G1, _, A.ext e1, S1, c1, fun y d2 G2 H2 e2 S2 t2 ⟨i, ei, j, ej, ⟨h1, h2, h3, h4, h5⟩, z⟩ => ?_⟩⟩
    cases d with
    | int i' =>
      cases d2 with
      | int j' =>
        cases ei; cases ej
        have ex : x = .int i := t1
        have ey : y = .int j := t2
        refine ⟨i, j, by rw [ex, ey], by omega, ?_⟩
        exact k _ _ _ G2 H2 (e1.trans e2) S2 walk_rng (by rw [List.length_map, List.length_range]; omega) z
      | _ => cases ej
    | _ => cases ei
end
end T
end
section
set_option Elab.async false
set_option linter.all false
set_option maxRecDepth 100000
set_option maxHeartbeats 1000000
/-! Targets, statements, loops, over trees. -/
namespace T
open PySem PySem.Spec PyProof.Rows L2
section
variable {X : Cx} {W : Wi}
/-! ### targets -/
abbrev TWG := Sl → Store → (Sl → Store → Prop) → Prop
/-- what follows with slots -/
def KontS (K : PySem.W.Frag) (G : Store) (H : Hp) (q : Sl → Store → Prop) (Q : L2.St → Hp → Prop) : Prop := ∀ σ τ G' H', Ext G H G' H' → Sts K H' G' σ τ → Sto K H' G' → q σ G' → Q τ H'
theorem KontS.ext {K : PySem.W.Frag} {G G' : Store} {H H' : Hp} {q : Sl → Store → Prop} {Q : L2.St → Hp → Prop} (k : KontS K G H q Q) (e : Ext G H G' H') : KontS K G' H' q Q := fun σ τ G2 H2 e2 => k σ τ G2 H2 (e.trans e2)
/-- .. with slots of which only those at vs may have changed -/
def KontG (K : PySem.W.Frag) (G : Store) (H : Hp) (vs : List Nat) (τ : L2.St) (q : Sl → Store → Prop) (Q : L2.St → Hp → Prop) : Prop := ∀ σ' τ' G' H', Ext G H G' H' → Sts K H' G' σ' τ' → Sto K H' G' → wipe τ' vs = wipe τ vs → q σ' G' → Q τ' H'
theorem KontS.g {K : PySem.W.Frag} {G : Store} {H : Hp} {vs : List Nat} {τ : L2.St} {q : Sl → Store → Prop} {Q : L2.St → Hp → Prop} (k : KontS K G H q Q) : KontG K G H vs τ q Q := fun σ τ G' H' e A B _ c => k σ τ G' H' e A B c
def lG (K : PySem.W.Frag) (vs : List Nat) (w : D → TWG) : TG := fun v τ H Q => ∃ d σ G q, Tr K H G d v ∧ Sts K H G σ τ ∧ Sto K H G ∧ w d σ G q ∧ KontG K G H vs τ q Q
abbrev DG (X : Cx) (W : Wi) (vs : List Nat) (e : Expr) (d : Den) : Prop := PG X e (lG X.K vs (d.p W))
def lGs (K : PySem.W.Frag) (vs : List Nat) (w : List D → TWG) : TGs := fun us τ H Q => ∃ ds σ G q, TrL K H G ds us ∧ Sts K H G σ τ ∧ Sto K H G ∧ w ds σ G q ∧ KontG K G H vs τ q Q
abbrev DGs (X : Cx) (W : Wi) (vs : List Nat) (es : List Expr) (ds : List Den) : Prop := PGs X es (lGs X.K vs (dPs ds W))
theorem wipe_off {i : Nat} {x : Option V} : ∀ {vs : List Nat} {σ : L2.St}, i ∉ vs → wipe (σ.set i x) vs = (wipe σ vs).set i x
  | [], _, _ => rfl
  | v :: r, σ, h => by
    rw [List.mem_cons, not_or] at h
    show (wipe (σ.set i x) r).set v none = ((wipe σ r).set v none).set i x
    rw [wipe_off h.2, List.set_comm _ _ h.1]
theorem wipe_set {i : Nat} {x : Option V} : ∀ {vs : List Nat} {σ : L2.St}, i ∈ vs → wipe (σ.set i x) vs = wipe σ vs
  | v :: r, σ, h => by
    show (wipe (σ.set i x) r).set v none = (wipe σ r).set v none
    by_cases q : i ∈ r
    · rw [wipe_set q]
    · have e : i = v := by
        rcases List.mem_cons.mp h with e | e
        · exact e
        · exact absurd e q
      subst e
      rw [wipe_off q, List.set_set]
theorem sts_set {K : PySem.W.Frag} {H : Hp} {G : Store} {σ : Sl} {τ : L2.St} {i : Nat} {d : D} {v : V} (h : Sts K H G σ τ) (t : Tr K H G d v) : Sts K H G (σ.set i (some d)) (τ.set i (some v)) := by
  refine ⟨by rw [List.length_set, List.length_set]; exact h.1, fun j d' q => ?_⟩
  by_cases e : i = j
  · subst e
    by_cases l : i < σ.length
    · rw [List.getElem?_set_self l] at q
      cases q
      exact ⟨v, List.getElem?_set_self (by rw [← h.1]; exact l), t⟩
    · rw [List.getElem?_eq_none (by rw [List.length_set]; omega)] at q; cases q
  · rw [List.getElem?_set_ne e] at q
    rw [List.getElem?_set_ne e]
    exact h.2 j d' q
theorem dg_name {i : Nat} {x : Str} {pos : Pos} (hN : X.N.Nodup) (hi : X.N[i]? = some x) (hx : Loc X.env.scope x) (hf : X.fn x = true ∨ X.env.scope.names.lookup x = some .local) {vs : List Nat} (hv : i ∈ vs) : DG X W vs (.Name x pos) (sPname i) :=
  ⟨fun pins s τ H v u Q I r h => (pg_name hN hi hx hf).run pins s τ H v u Q I r (by
    obtain ⟨d, σ, G, q, t, A, B, c, k⟩ := h
    exact k _ _ G H (.refl _ _) (sts_set A t) B (wipe_set hv) c)⟩
theorem dgs_nil {vs : List Nat} : DGs X W vs [] [] := ⟨fun pins s τ H ws us Q I r h => pgs_nil.run pins s τ H ws us Q I r (by
  obtain ⟨ds, σ, G, q, t, A, B, ⟨e, c⟩, k⟩ := h
  subst e; cases t
  exact ⟨rfl, k _ _ G H (.refl _ _) A B rfl c⟩)⟩
theorem assign_cons {e : Expr} {es : List Expr} {env : Env} (h : noStar e = true) : assignEach (e :: es) env = (false, assign e env) :: assignEach es env := by
  cases e <;> first | rfl | exact (Bool.noConfusion h)
theorem dgs_cons {e : Expr} {es : List Expr} {d : Den} {ds : List Den} {vs : List Nat} (h1 : DG X W vs e d) (h2 : DGs X W vs es ds) (hs : noStar e = true) : DGs X W vs (e :: es) (d :: ds) :=
  ⟨fun pins s τ H ws us Q I r h => (pgs_cons h1 h2 (by rw [assign_cons hs]; rfl)).run pins s τ H ws us Q I r (by
    obtain ⟨xs, σ, G, q, t, A, B, ⟨x, xr, e, c⟩, k⟩ := h
    subst e
    obtain ⟨v, vr, rfl, tx, tr⟩ := t
    refine ⟨v, vr, rfl, x, σ, G, _, tx, A, B, c, fun σ1 τ1 G1 H1 e1 A1 B1 w1 c1 => ?_⟩
    exact ⟨xr, σ1, G1, q, TrL.ext e1 _ _ tr, A1, B1, c1, fun σ2 τ2 G2 H2 e2 A2 B2 w2 c2 => k σ2 τ2 G2 H2 (e1.trans e2) A2 B2 (w2.trans w1) c2⟩)⟩
theorem assign_star : ∀ {es : List Expr} {env : Env}, es.all noStar = true → (assignEach es env).length = es.length ∧ (assignEach es env).findIdx? (·.1) = none
  | [], _, _ => ⟨rfl, rfl⟩
  | e :: es, env, h => by
    rw [List.all_cons, Bool.and_eq_true] at h
    obtain ⟨h1, h2⟩ := @assign_star es env h.2
    rw [assign_cons h.1]
    exact ⟨by rw [List.length_cons, h1, List.length_cons], by rw [List.findIdx?_cons, h2]; rfl⟩
theorem dg_tup {es : List Expr} {k : Nat} {ds : List Den} {vs : List Nat} {pos : Pos} (hc : X.calm = true) (h : DGs X W vs es ds) (hs : es.all noStar = true) (hn : es.length = ds.length) : DG X W vs (.Tuple es k pos) (sPtup ds) :=
  ⟨fun pins s τ H v u Q I r hw => by
    obtain ⟨d, σ, G, q, t, A, B, ⟨xs, ex, hl, c⟩, kk⟩ := hw
    have hr := B.rb t
    generalize lk G d = y at ex hr
    have hn' : (assignEach es X.env).length = ds.length := by rw [(assign_star hs).1, hn]
    cases y with
    | tup l =>
      cases ex
      obtain ⟨a, ws, rfl, hq, tl⟩ := hr
      exact (pg_tup hc h hn' (assign_star hs).2).run pins s τ H _ u Q I r ⟨a, ws, rfl, hq.sq, by rw [← tl.length, hl], xs, σ, G, q, tl, A, B, c, kk⟩
    | lst l =>
      cases ex
      obtain ⟨a, ws, rfl, hq, tl⟩ := hr
      exact (pg_unl hc h hn' (assign_star hs).2).run pins s τ H _ u Q I r ⟨a, ws, rfl, .inl hq, by rw [← tl.length, hl], xs, σ, G, q, tl, A, B, c, kk⟩
    | _ => cases ex⟩
/-! dicts: stores -/
theorem any_trK {K : PySem.W.Frag} {H : Hp} {G : Store} {k : Key} : ∀ {kvs : List (Key × D)} {kws : List (Key × V)}, TrK K H G kvs kws → (kvs.any fun kv => decide (kv.1 = k)) = kws.any fun kv => decide (kv.1 = k)
  | [], _, h => by cases h; rfl
  | (j, _) :: ds, _, ⟨v, ws, e, _, h⟩ => by subst e; rw [List.any_cons, List.any_cons, any_trK h]
theorem map_trK {K : PySem.W.Frag} {H : Hp} {G : Store} {k : Key} {d : D} {u : V} (t : Tr K H G d u) : ∀ {kvs : List (Key × D)} {kws : List (Key × V)}, TrK K H G kvs kws → TrK K H G (kvs.map fun kv => if kv.1 = k then (kv.1, d) else kv) (kws.map fun kv => if kv.1 = k then (kv.1, u) else kv)
  | [], _, h => by cases h; rfl
  | (j, x) :: ds, _, ⟨v, ws, e, tx, h⟩ => by
    subst e
    rw [List.map_cons, List.map_cons]
    by_cases q : j = k
    · simp only [q, if_true]; exact ⟨u, _, rfl, t, map_trK t h⟩
    · simp only [q, if_false]; exact ⟨v, _, rfl, tx, map_trK t h⟩
theorem snoc_trK {K : PySem.W.Frag} {H : Hp} {G : Store} {k : Key} {d : D} {u : V} (t : Tr K H G d u) : ∀ {kvs : List (Key × D)} {kws : List (Key × V)}, TrK K H G kvs kws → TrK K H G (kvs ++ [(k, d)]) (kws ++ [(k, u)])
  | [], _, h => by cases h; exact ⟨u, [], rfl, t, rfl⟩
  | (j, x) :: ds, _, ⟨v, ws, e, tx, h⟩ => by subst e; exact ⟨v, _, rfl, tx, snoc_trK t h⟩
theorem put_trK {K : PySem.W.Frag} {H : Hp} {G : Store} {k : Key} {d : D} {u : V} (t : Tr K H G d u) {kvs : List (Key × D)} {kws : List (Key × V)} (h : TrK K H G kvs kws) : TrK K H G (putG kvs k d) (putK kws k u) := by
  unfold putG putK
  rw [any_trK h]
  split
  · exact map_trK t h
  · exact snoc_trK t h
theorem any_trT {K : PySem.W.Frag} {H : Hp} {G : Store} {k : List Key} : ∀ {kvs : List (List Key × D)} {kws : List (List Key × V)}, TrT K H G kvs kws → (kvs.any fun kv => decide (kv.1 = k)) = kws.any fun kv => decide (kv.1 = k)
  | [], _, h => by cases h; rfl
  | (j, _) :: ds, _, ⟨v, ws, e, _, h⟩ => by subst e; rw [List.any_cons, List.any_cons, any_trT h]
theorem map_trT {K : PySem.W.Frag} {H : Hp} {G : Store} {k : List Key} {d : D} {u : V} (t : Tr K H G d u) : ∀ {kvs : List (List Key × D)} {kws : List (List Key × V)}, TrT K H G kvs kws → TrT K H G (kvs.map fun kv => if kv.1 = k then (kv.1, d) else kv) (kws.map fun kv => if kv.1 = k then (kv.1, u) else kv)
  | [], _, h => by cases h; rfl
  | (j, x) :: ds, _, ⟨v, ws, e, tx, h⟩ => by
    subst e
    rw [List.map_cons, List.map_cons]
    by_cases q : j = k
    · simp only [q, if_true]; exact ⟨u, _, rfl, t, map_trT t h⟩
    · simp only [q, if_false]; exact ⟨v, _, rfl, tx, map_trT t h⟩
theorem snoc_trT {K : PySem.W.Frag} {H : Hp} {G : Store} {k : List Key} {d : D} {u : V} (t : Tr K H G d u) : ∀ {kvs : List (List Key × D)} {kws : List (List Key × V)}, TrT K H G kvs kws → TrT K H G (kvs ++ [(k, d)]) (kws ++ [(k, u)])
  | [], _, h => by cases h; exact ⟨u, [], rfl, t, rfl⟩
  | (j, x) :: ds, _, ⟨v, ws, e, tx, h⟩ => by subst e; exact ⟨v, _, rfl, tx, snoc_trT t h⟩
theorem put_trT {K : PySem.W.Frag} {H : Hp} {G : Store} {k : List Key} {d : D} {u : V} (t : Tr K H G d u) {kvs : List (List Key × D)} {kws : List (List Key × V)} (h : TrT K H G kvs kws) : TrT K H G (putG kvs k d) (putK kws k u) := by
  unfold putG putK
  rw [any_trT h]
  split
  · exact map_trT t h
  · exact snoc_trT t h
def notSlice : Expr → Bool
  | .Slice _ _ _ _ => false
  | _ => true
theorem assign_sub {o i : Expr} {env : Env} {pos : Pos} (h : notSlice i = true) (v : Value) : assign (.Subscript o i pos) env v = (do
      let ov ← holding [v] (eval o env)
      let iv ← holding [v, ov] (eval i env)
      standAt pos
      holding [v, ov, iv] (setItem ov iv v)
      release [v, ov, iv] []) := by cases i <;> first | rfl | exact Bool.noConfusion h
theorem set_D (hu : X.A.units + 64 < cLine) : PSet X fun o i v H Q => ∃ x y d G k, Tr X.K H G x o ∧ Tr X.K H G y i ∧ Tr X.K H G d v ∧ Sto X.K H G ∧ setI x y d G k ∧ ∀ G' H', Ext G H G' H' → Sto X.K H' G' → k G' → Q H' := by
  intro pins s τ H o i v ov iv u Q I ro ri rv ⟨x, y, d, G, k, tx, ty, td, S, ⟨p, m, e, hG, h⟩, q⟩
  subst e
  have eo : o = .ref p := tx
  subst eo
  cases m with
  | lst l =>
    obtain ⟨n, j, e, hj, hk⟩ := h
    subst e
    have ei : i = .int n := ty
    obtain ⟨vs, hH, tl⟩ := S p _ hG
    refine set_list pins s τ H _ _ v ov iv u Q I ro ri rv ⟨p, vs, n, j, rfl, ei, hH, by rw [← tl.length]; exact hj, ?_⟩
    exact q _ _ (ext_write hG) (S.write (m := .lst (l.set j d)) hG ⟨_, upd_same, TrL.ext (ext_write hG) _ _ (tl.set j td)⟩) hk
  | dK l =>
    obtain ⟨hz, w, e, hk⟩ := h
    obtain ⟨vs, hH, tl⟩ := S p _ hG
    refine set_dict (by omega) pins s τ H _ _ v ov iv u Q I ro ri rv ⟨p, _, rfl, .inl ⟨vs, w, hH, key_V e ty.rb, by rw [← tl.length, ln_eq]; exact hz, rfl⟩, ?_⟩
    exact q _ _ (ext_write hG) (S.write (m := .dK (putG l w d)) hG ⟨_, upd_same, TrK.ext (ext_write hG) _ _ (put_trK td tl)⟩) hk
  | dT l =>
    obtain ⟨hz, w, e, hk⟩ := h
    obtain ⟨vs, hH, tl⟩ := S p _ hG
    cases y with
    | tup ks =>
      obtain ⟨b, us, rfl, hq, tk⟩ := ty
      have e' : ks.mapM keyOf = some w := e
      refine set_dict (by omega) pins s τ H _ _ v ov iv u Q I ro ri rv ⟨p, _, rfl, .inr ⟨vs, w, b, hH, rfl, by rw [hq.2, keys_V e' tk], by rw [← tl.length, ln_eq]; exact hz, rfl⟩, ?_⟩
      exact q _ _ (ext_write hG) (S.write (m := .dT (putG l w d)) hG ⟨_, upd_same, TrT.ext (ext_write hG) _ _ (put_trT td tl)⟩) hk
    | _ => cases e
  | ins C fs => exact h.elim
theorem dg_sub {o i : Expr} {od id : Den} {pos : Pos} (hu : X.A.units + 64 < cLine) (ho : DE X W o od) (hi : DE X W i id) (hs : notSlice i = true) {vs : List Nat} : DG X W vs (.Subscript o i pos) (sPsub od id) :=
  ⟨fun pins s τ H v u Q I r h => (pg_sub ho hi (set_D hu) (assign_sub hs)).run pins s τ H v u Q I r (by
    obtain ⟨d, σ, G, q, t, A, B, c, k⟩ := h
    refine ⟨σ, G, _, A, B, c, fun x dx G1 H1 e1 S1 t1 c1 => ⟨σ, G1, _, A.ext e1, S1, c1, fun y dy G2 H2 e2 S2 t2 c2 => ?_⟩⟩
    refine ⟨dx, dy, d, G2, _, t1.ext e2, t2, t.ext (e1.trans e2), S2, c2, fun G3 H3 e3 S3 c3 => ?_⟩
    exact k _ _ G3 H3 ((e1.trans e2).trans e3) (A.ext ((e1.trans e2).trans e3)) S3 rfl c3)⟩
end
end T
end
section
set_option Elab.async false
set_option linter.all false
set_option maxRecDepth 100000
set_option maxHeartbeats 1000000
/-! Statements and loops over trees. -/
namespace T
open PySem PySem.Spec PyProof.Rows L2
/-- what follows a statement -/
structure KontE (K : PySem.W.Frag) (G : Store) (H : Hp) (E : Ed) (D : Ends) : Prop where
  nx : KontS K G H E.nx D.nx
  bk : KontS K G H E.bk D.bk
  ct : KontS K G H E.ct D.ct
  rt : Kont K G H E.rt D.rt
theorem KontE.ext {K : PySem.W.Frag} {G G' : Store} {H H' : Hp} {E : Ed} {D : Ends} (k : KontE K G H E D) (e : Ext G H G' H') : KontE K G' H' E D := ⟨k.nx.ext e, k.bk.ext e, k.ct.ext e, k.rt.ext e⟩
def lS (K : PySem.W.Frag) (w : Ed → Sl → Store → Prop) : TS := fun D τ H => ∃ σ G E, Sts K H G σ τ ∧ Sto K H G ∧ w E σ G ∧ KontE K G H E D
section
variable {X : Cx} {W : Wi}
abbrev DS (X : Cx) (W : Wi) (s : Stmt) (t : TSt) : Prop := PS X s (lS X.K (t W))
abbrev DSs (X : Cx) (W : Wi) (s : List Stmt) (t : TSt) : Prop := PSs X s (lS X.K (t W))
theorem lS_mono {K : PySem.W.Frag} {w : Ed → Sl → Store → Prop} {D D' : Ends} {τ : L2.St} {H : Hp} (h : lS K w D τ H) (i : ∀ G H σ E, KontE K G H E D → Sts K H G σ τ → Sto K H G → KontE K G H E D') : lS K w D' τ H := by
  obtain ⟨σ, G, E, A, B, c, k⟩ := h
  exact ⟨σ, G, E, A, B, c, i _ _ _ _ k A B⟩
theorem dss_nil : DSs X W [] sPass := ⟨fun pins s τ H D I h => pss_nil.run pins s τ H D I (by
  obtain ⟨σ, G, E, A, B, c, k⟩ := h
  exact k.nx _ _ G H (.refl _ _) A B c)⟩
theorem dss_cons {st : Stmt} {r : List Stmt} {a b : TSt} (h1 : DS X W st a) (h2 : DSs X W r b) : DSs X W (st :: r) (seqW a b) := ⟨fun pins s τ H D I h => (pss_cons h1 h2).run pins s τ H D I (by
  obtain ⟨σ, G, E, A, B, c, k⟩ := h
  exact ⟨σ, G, _, A, B, c, ⟨fun σ1 τ1 G1 H1 e1 A1 B1 c1 => ⟨σ1, G1, E, A1, B1, c1, k.ext e1⟩, k.bk, k.ct, k.rt⟩⟩)⟩
theorem dss_skip {r : List Stmt} {st : Stmt} {b : TSt} (h1 : DS X W st sPass) (h2 : DSs X W r b) : DSs X W (st :: r) b := ⟨fun pins s τ H D I h => (pss_cons h1 h2).run pins s τ H D I (by
  obtain ⟨σ, G, E, A, B, c, k⟩ := h
  exact ⟨σ, G, { E with nx := b W E }, A, B, c, ⟨fun σ1 τ1 G1 H1 e1 A1 B1 c1 => ⟨σ1, G1, E, A1, B1, c1, k.ext e1⟩, k.bk, k.ct, k.rt⟩⟩)⟩
theorem ds_pass {pos : Pos} : DS X W (.Pass pos) sPass := ⟨fun pins s τ H D I h => ps_pass.run pins s τ H D I (by
  obtain ⟨σ, G, E, A, B, c, k⟩ := h
  exact k.nx _ _ G H (.refl _ _) A B c)⟩
theorem ds_cont {pos : Pos} : DS X W (.Continue pos) sCont := ⟨fun pins s τ H D I h => ps_continue.run pins s τ H D I (by
  obtain ⟨σ, G, E, A, B, c, k⟩ := h
  exact k.ct _ _ G H (.refl _ _) A B c)⟩
theorem ds_ret {e : Expr} {d : Den} {pos : Pos} (he : DE X W e d) : DS X W (.Return (some e) pos) (sRet d) := ⟨fun pins s τ H D I h => (ps_ret he).run pins s τ H D I (by
  obtain ⟨σ, G, E, A, B, c, k⟩ := h
  exact ⟨σ, G, _, A, B, c, k.rt⟩)⟩
theorem ds_retN {pos : Pos} : DS X W (.Return none pos) (sRet (sC .non)) := ⟨fun pins s τ H D I h => ps_retN.run pins s τ H D I (by
  obtain ⟨σ, G, E, A, B, c, k⟩ := h
  exact k.rt _ .non G H (.refl _ _) B rfl c)⟩
def noComp : Expr → Bool
  | .ListComp _ _ _ _ | .SetComp _ _ _ _ | .DictComp _ _ _ _ _ => false
  | _ => true
theorem swaps_no {e : Expr} {t : Option Expr} {l : Nat} {env : Env} (h : noComp e = true) : swapsWith e t l env = pure false := by
  cases e <;> first | rfl | exact Bool.noConfusion h
theorem ds_exp {e : Expr} {d : Den} {pos : Pos} (he : DE X W e d) (hn : noComp e = true) : DS X W (.Expr e pos) (sExp d) := ⟨fun pins s τ H D I h => (ps_expr he (swaps_no hn)).run pins s τ H D I (by
  obtain ⟨σ, G, E, A, B, c, k⟩ := h
  exact ⟨σ, G, _, A, B, c, fun v d G1 H1 e1 S1 t1 c1 => k.nx _ _ G1 H1 e1 (A.ext e1) S1 c1⟩)⟩
theorem ds_doc {x : Str} {j : Nat} {p pos : Pos} : DS X W (.Expr (.Constant (.str x) j p) pos) sPass := ⟨fun pins s τ H D I h => ps_doc.run pins s τ H D I (by
  obtain ⟨σ, G, E, A, B, c, k⟩ := h
  exact k.nx _ _ G H (.refl _ _) A B c)⟩
theorem ds_ite {c : Expr} {a b : List Stmt} {dc : Den} {ta tb : TSt} {pos : Pos} (hc : DT X W c dc) (ha : DSs X W a ta) (hb : DSs X W b tb) : DS X W (.If c a b pos) (sIte dc ta tb) := ⟨fun pins s τ H D I h => (ps_if hc ha hb).run pins s τ H D I (by
  obtain ⟨σ, G, E, A, B, c, k⟩ := h
  refine ⟨σ, G, _, A, B, c, fun b G1 H1 e1 S1 c1 => ?_⟩
  cases b with
  | true => exact ⟨σ, G1, E, A.ext e1, S1, c1, k.ext e1⟩
  | false => exact ⟨σ, G1, E, A.ext e1, S1, c1, k.ext e1⟩)⟩
/-! stores -/
theorem lE_asg {K : PySem.W.Frag} {D : Ends} {τ : L2.St} {H : Hp} {de dp : Den} {vs : List Nat} (h : lS K ((sAsg dp de) W) D τ H) : tAsg (lE K (de.e W)) (lG K vs (dp.p W)) D τ H := by
  obtain ⟨σ, G, E, A, B, c, k⟩ := h
  exact ⟨σ, G, _, A, B, c, fun v d G1 H1 e1 S1 t1 c1 => ⟨d, σ, G1, _, t1, A.ext e1, S1, c1, (k.nx.ext e1).g⟩⟩
/-- no tuple display goes straight to a tuple of names -/
def noSwap (tg e : Expr) : Bool := match tg, e with
  | .Tuple _ _ _, .Tuple _ _ _ => false
  | .List _ _, .Tuple _ _ _ => false
  | _, _ => true
theorem ds_asg {tg e : Expr} {de dp : Den} {vs : List Nat} {pos : Pos} (he : DE X W e de) (hg : DG X W vs tg dp) (hn : noComp e = true) (hw : noSwap tg e = true) (hs : noStar tg = true) : DS X W (.Assign [tg] e pos) (sAsg dp de) :=
  (ps_asg he hg (swaps_no hn) (by
    unfold swappedStores
    cases tg <;> cases e <;> first | rfl | exact Bool.noConfusion hw) (by rw [assign_cons hs]; rfl)).imp fun D τ H h => lE_asg h
/-- .. of a comprehension that goes elsewhere than to a plain local name -/
theorem ds_asgQ {tg e : Expr} {de dp : Den} {vs : List Nat} {pos : Pos} (he : DE X W e de) (hg : DG X W vs tg dp) (hn : swapsWith e (some tg) pos.line X.env = pure false) (hw : noSwap tg e = true) (hs : noStar tg = true) : DS X W (.Assign [tg] e pos) (sAsg dp de) :=
  (ps_asg he hg hn (by
    unfold swappedStores
    cases tg <;> cases e <;> first | rfl | exact Bool.noConfusion hw) (by rw [assign_cons hs]; rfl)).imp fun D τ H h => lE_asg h
/-! loops -/
theorem loopW_W {K : PySem.W.Frag} {gd : Store → Prop} {ds : List D} {J : It} {G1 : Store} {H1 : Hp} {step : D → (Sl → Store → Prop) → Sl → Store → Prop} {fin : Sl → Store → Prop} {σ : Sl} {τ : L2.St} {Qx : L2.St → Hp → Prop} {turn : V → L2.St → Hp → (L2.St → Hp → Prop) → Prop}
    (w : WalkOk K gd ds J G1 H1) (A : Sts K H1 G1 σ τ) (B : Sto K H1 G1) (c : loopW gd step fin ds σ G1)
    (hq : ∀ σ τ G H, Ext G1 H1 G H → Sts K H G σ τ → Sto K H G → fin σ G → Qx τ H)
    (ht : ∀ d k σ τ G H v N, Ext G1 H1 G H → Sts K H G σ τ → Sto K H G → Tr K H G d v → step d k σ G → KontS K G H k N → turn v τ H N) :
    ∃ Wn : Nat → Nat → L2.St → Hp → Prop, (∃ m, Wn 0 m τ H1) ∧ ∀ i m τ H, Wn i m τ H → (J.stop i H ∧ Qx τ H) ∨ (J.go i H ∧ ∃ N : L2.St → Hp → Prop, (∀ τ' H', N τ' H' → ∃ m', m' < m ∧ Wn (i + 1) m' τ' H') ∧ ∀ x H', J.yld i H x H' → turn x τ H' N) := by
  refine ⟨fun i m τ H => ∃ σ G, m = ds.length - i ∧ Ext G1 H1 G H ∧ Sts K H G σ τ ∧ Sto K H G ∧ loopW gd step fin (ds.drop i) σ G, ⟨ds.length, σ, G1, rfl, .refl _ _, A, B, c⟩, ?_⟩
  rintro i m τ H ⟨σ, G, rfl, e, A, B, c⟩
  cases hd : ds[i]? with
  | none =>
    rw [List.drop_eq_nil_of_le (List.getElem?_eq_none_iff.mp hd)] at c
    exact .inl ⟨(w i G H e B c.1).2 hd, hq σ τ G H e A B c.2⟩
  | some d =>
    have hi : i < ds.length := (List.getElem?_eq_some_iff.mp hd).1
    have hx : ds.drop i = d :: ds.drop (i + 1) := by
      rw [List.drop_eq_getElem_cons hi]
      rw [List.getElem?_eq_getElem hi] at hd
      rw [Option.some.inj hd]
    rw [hx] at c
    obtain ⟨g1, g2⟩ := (w i G H e B c.1).1 d hd
    refine .inr ⟨g1, fun τ' H' => ∃ σ' G', Ext G1 H1 G' H' ∧ Sts K H' G' σ' τ' ∧ Sto K H' G' ∧ loopW gd step fin (ds.drop (i + 1)) σ' G', ?_, fun x H' y => ?_⟩
    · rintro τ' H' ⟨σ', G', e', A', B', c'⟩
      exact ⟨ds.length - (i + 1), by omega, σ', G', rfl, e', A', B', c'⟩
    · obtain ⟨e2, B2, t2⟩ := g2 x H' y
      refine ht d _ σ τ G H' x _ (e.trans e2) (A.ext e2) B2 t2 c.2 fun σ' τ' G' H2 e3 A3 B3 c3 => ⟨σ', G', (e.trans e2).trans e3, A3, B3, c3⟩
def noSet : Expr → Bool
  | .Set _ _ _ => false
  | _ => true
theorem folded_no {e : Expr} {env : Env} (h : noSet e = true) (x : Value) : foldedSetIterable e env x = pure x := by
  cases e <;> first | rfl | exact Bool.noConfusion h
theorem ds_for {tg it : Expr} {body : List Stmt} {dp di : Den} {tb : TSt} {vs : List Nat} {pos : Pos} (hp : PassesOwn (model X.prog X.w) X.A X.env X.xe) (hc : X.calm = true) (hi : DI X W tg it di) (hg : DG X W vs tg dp) (hb : DSs X W body tb) (hs : noSet it = true) : DS X W (.For tg it body [] pos) (sFor dp di tb) :=
  (ps_for hp hc hi hg hb (folded_no hs)).imp fun D τ H h => by
    obtain ⟨σ, G, E, A, B, c, k⟩ := h
    refine ⟨σ, G, _, A, B, c, fun J ds gd G1 H1 e1 S1 w1 l1 c1 => ?_⟩
    refine loopW_W w1 (A.ext e1) S1 c1 (fun σ τ G2 H2 e2 A2 B2 c2 => k.nx _ _ G2 H2 (e1.trans e2) A2 B2 c2) fun d kk σ2 τ2 G2 H2 v N e2 A2 B2 t2 c2 kN => ?_
    refine ⟨d, σ2, G2, _, t2, A2, B2, c2, fun σ3 τ3 G3 H3 e3 A3 B3 w3 c3 => ?_⟩
    have e23 := (e1.trans e2).trans e3
    exact ⟨σ3, G3, _, A3, B3, c3, ⟨kN.ext e3, k.nx.ext e23, kN.ext e3, k.rt.ext e23⟩⟩
theorem ds_whl {c : Expr} {body : List Stmt} {dc : Den} {tb : TSt} {pos : Pos} (hp : PassesOwn (model X.prog X.w) X.A X.env X.xe) (hc : DT X W c dc) (hb : DSs X W body tb) : DS X W (.While c body [] pos) (sWhl dc tb) :=
  (ps_while hp hc hb).imp fun D τ H0 h => by
    obtain ⟨σ, G, E, A, B, ⟨Iv, ⟨m0, i0⟩, turn⟩, k⟩ := h
    refine ⟨fun m τ H => ∃ σ G', Ext G H0 G' H ∧ Sts X.K H G' σ τ ∧ Sto X.K H G' ∧ Iv m σ G', ⟨m0, σ, G, .refl _ _, A, B, i0⟩, ?_⟩
    rintro m τ1 H1 ⟨σ1, G1, e1, A1, B1, i1⟩
    refine ⟨σ1, G1, _, A1, B1, turn m σ1 G1 i1, fun b G2 H2 e2 S2 c2 => ?_⟩
    cases b with
    | false => exact k.nx _ _ G2 H2 (e1.trans e2) (A1.ext e2) S2 c2
    | true =>
      refine ⟨fun τ' H' => ∃ m', m' < m ∧ ∃ σ' G', Ext G H0 G' H' ∧ Sts X.K H' G' σ' τ' ∧ Sto X.K H' G' ∧ Iv m' σ' G', fun τ' H' ⟨m', hm, σ', G', h⟩ => ⟨m', hm, σ', G', h⟩, ?_⟩
      have e12 := e1.trans e2
      refine ⟨σ1, G2, _, A1.ext e2, S2, c2, ⟨?_, k.nx.ext e12, ?_, k.rt.ext e12⟩⟩
      · exact fun σ3 τ3 G3 H3 e3 A3 B3 ⟨m', hm, c3⟩ => ⟨m', hm, σ3, G3, e12.trans e3, A3, B3, c3⟩
      · exact fun σ3 τ3 G3 H3 e3 A3 B3 ⟨m', hm, c3⟩ => ⟨m', hm, σ3, G3, e12.trans e3, A3, B3, c3⟩
end
end T
end
section
set_option Elab.async false
set_option linter.all false
set_option maxRecDepth 100000
set_option maxHeartbeats 1000000
/-! Views, comprehensions, over trees. -/
namespace T
open PySem PySem.Spec PyProof.Rows L2
/-! ### another view of the state -/
section
variable {K : PySem.W.Frag}
/-- at the addresses of A things are locked, elsewhere nothing has changed -/
def Lkd (A : List Addr) (H H' : Hp) : Prop := (∀ a, a ∉ A → H' a = H a) ∧ ∀ a, a ∈ A → ∀ u, H a = some u → ∃ od, H' a = some (.frz od u)
theorem lock_all {Q : Hp → Prop} {H : Hp} : ∀ {A : List Addr}, (∀ a ∈ A, ∃ u, H a = some u ∧ Mut (some u)) → (∀ H', Lkd A H H' → LockQ Q H') → LockQ Q H
  | [], _, k => k H ⟨fun _ _ => rfl, fun _ h => absurd h (by simp)⟩
  | d :: A, h, k => by
    refine lock_all (A := A) (fun a ha => h a (by simp [ha])) fun H1 l1 => ?_
    by_cases hd : d ∈ A
    · refine k H1 ⟨fun a ha => l1.1 a (fun z => ha (by simp [z])), fun a ha u e => ?_⟩
      rcases List.mem_cons.mp ha with z | z
      · subst z; exact l1.2 _ hd u e
      · exact l1.2 _ z u e
    · obtain ⟨u, e, m⟩ := h d (by simp)
      have e1 : H1 d = some u := (l1.1 d hd).trans e
      refine .lock d u e1 m fun od => k _ ⟨fun a ha => ?_, fun a ha w e2 => ?_⟩
      · rw [List.mem_cons, not_or] at ha
        rw [upd_ne ha.1]; exact l1.1 a ha.2
      · by_cases z : a = d
        · subst z; rw [e] at e2; cases e2; exact ⟨od, upd_same⟩
        · rw [upd_ne z]
          rcases List.mem_cons.mp ha with q | q
          · exact absurd q z
          · exact l1.2 _ q w e2
/-- A may be locked on the way from G to G' -/
def CanLk (A : List Addr) (G G' : Store) : Prop := ∀ a ∈ A, (∃ m, G a = some m) ∧ G' a = none
variable {H H' : Hp} {G G' : Store}
theorem lkd_ext {A : List Addr} (l : Lkd A H H') (c : CanLk A G G') (le : Less G G') : Ext G H G' H' := by
  have nG : ∀ a, G a = none → G' a = none ∧ a ∉ A := fun a h => by
    constructor
    · cases q : G' a with
      | none => rfl
      | some o => rw [le a o q] at h; cases h
    · intro ha
      obtain ⟨⟨m, e⟩, _⟩ := c a ha
      rw [h] at e; cases e
  exact ⟨⟨fun a o u _ h r => ⟨(nG a h).1, by rw [l.1 a (nG a h).2]; exact r⟩, fun a vs h r => ⟨(nG a h).1, by rw [l.1 a (nG a h).2]; exact r⟩⟩, fun a u _ h r => ⟨(nG a h).1, by rw [l.1 a (nG a h).2]; exact r⟩⟩
theorem lkd_sto {A : List Addr} (S : Sto K H G) (l : Lkd A H H') (c : CanLk A G G') (le : Less G G') : Sto K H' G' := fun a o q =>
  (S a o (le a o q)).ext (lkd_ext l c le) (l.1 a fun ha => by rw [(c a ha).2] at q; cases q)
mutual
theorem fz_tr (S : Sto K H G) (le : Less G G') : ∀ {d d' : D}, Fz G G' d d' → ∃ A, CanLk A G G' ∧ ∀ A' H', (∀ a ∈ A, a ∈ A') → CanLk A' G G' → Lkd A' H H' → ∀ v, Tr K H G d v → Tr K H' G' d' v
  | _, _, .same d => ⟨[], fun _ h => absurd h (by simp), fun A' H' _ c l v t => t.ext (lkd_ext l c le)⟩
  | _, _, .lst (a := a) (ds := ds) e n => ⟨[a], fun b hb => by rw [List.mem_singleton.mp hb]; exact ⟨⟨_, e⟩, n⟩, fun A' H' hs c l v t => by
      obtain ⟨vs, h, tv⟩ := S a _ e
      obtain ⟨od, ho⟩ := l.2 a (hs a (by simp)) _ h
      exact ⟨a, vs, t, ⟨n, od, ho⟩, TrL.ext (lkd_ext l c le) _ _ tv⟩⟩
  | _, _, .dK (a := a) e n => ⟨[a], fun b hb => by rw [List.mem_singleton.mp hb]; exact ⟨⟨_, e⟩, n⟩, fun A' H' hs c l v t => by
      obtain ⟨vs, h, tv⟩ := S a _ e
      obtain ⟨od, ho⟩ := l.2 a (hs a (by simp)) _ h
      exact ⟨a, vs, t, ⟨n, od, ho⟩, TrK.ext (lkd_ext l c le) _ _ tv⟩⟩
  | _, _, .dT (a := a) e n => ⟨[a], fun b hb => by rw [List.mem_singleton.mp hb]; exact ⟨⟨_, e⟩, n⟩, fun A' H' hs c l v t => by
      obtain ⟨vs, h, tv⟩ := S a _ e
      obtain ⟨od, ho⟩ := l.2 a (hs a (by simp)) _ h
      exact ⟨a, vs, t, ⟨n, od, ho⟩, TrT.ext (lkd_ext l c le) _ _ tv⟩⟩
  | _, _, .tup h => let ⟨A, c0, k⟩ := fz_trL S le h
    ⟨A, c0, fun A' H' hs c l v ⟨a, vs, e, hq, t⟩ => ⟨a, vs, e, hq.ext (lkd_ext l c le), k A' H' hs c l vs t⟩⟩
theorem fz_trL (S : Sto K H G) (le : Less G G') : ∀ {ds ds' : List D}, FzAll G G' ds ds' → ∃ A, CanLk A G G' ∧ ∀ A' H', (∀ a ∈ A, a ∈ A') → CanLk A' G G' → Lkd A' H H' → ∀ vs, TrL K H G ds vs → TrL K H' G' ds' vs
  | _, _, .nil => ⟨[], fun _ h => absurd h (by simp), fun A' H' _ c l v t => t⟩
  | _, _, .cons h1 h2 => let ⟨A, c0, k⟩ := fz_tr S le h1
    let ⟨B, c1, k1⟩ := fz_trL S le h2
    ⟨A ++ B, fun a ha => (List.mem_append.mp ha).elim (c0 a) (c1 a), fun A' H' hs c l vs ⟨v, ws, e, t1, t2⟩ => ⟨v, ws, e, k A' H' (fun a ha => hs a (by simp [ha])) c l v t1, k1 A' H' (fun a ha => hs a (by simp [ha])) c l ws t2⟩⟩
end
theorem can_mut {A : List Addr} (S : Sto K H G) (c : CanLk A G G') : ∀ a ∈ A, ∃ u, H a = some u ∧ Mut (some u) := fun a ha => by
  obtain ⟨⟨m, e⟩, _⟩ := c a ha
  have x := S a m e
  cases m with
  | lst ds => obtain ⟨vs, h, _⟩ := x; exact ⟨_, h, trivial⟩
  | dK ds => obtain ⟨vs, h, _⟩ := x; exact ⟨_, h, trivial⟩
  | dT ds => obtain ⟨vs, h, _⟩ := x; exact ⟨_, h, trivial⟩
  | ins C fs => obtain ⟨dx, vs, h, _⟩ := x; exact ⟨_, h, trivial⟩
/-- all slots -/
theorem view_all (S : Sto K H G) (le : Less G G') {τ : L2.St} : ∀ (n : Nat) {σ σ' : Sl}, (∀ (i : Nat) d', i < n → σ'[i]? = some (some d') → ∃ d, σ[i]? = some (some d) ∧ Fz G G' d d') → (∀ (i : Nat) d, σ[i]? = some (some d) → ∃ v, τ[i]? = some (some v) ∧ Tr K H G d v) →
    ∃ A, CanLk A G G' ∧ ∀ A' H', (∀ a ∈ A, a ∈ A') → CanLk A' G G' → Lkd A' H H' → ∀ (i : Nat) d', i < n → σ'[i]? = some (some d') → ∃ v, τ[i]? = some (some v) ∧ Tr K H' G' d' v
  | 0, _, _, _, _ => ⟨[], fun _ h => absurd h (by simp), fun _ _ _ _ _ i d' hi => absurd hi (Nat.not_lt_zero i)⟩
  | n + 1, σ, σ', hv, ht => by
    obtain ⟨A, c0, k⟩ := view_all S le n (fun i d' hi e => hv i d' (by omega) e) ht
    have last : ∃ B, CanLk B G G' ∧ ∀ A' H', (∀ a ∈ B, a ∈ A') → CanLk A' G G' → Lkd A' H H' → ∀ d', σ'[n]? = some (some d') → ∃ v, τ[n]? = some (some v) ∧ Tr K H' G' d' v := by
      cases q : σ'[n]? with
      | none => exact ⟨[], fun _ h => absurd h (by simp), fun _ _ _ _ _ d' e => by cases e⟩
      | some o =>
        cases o with
        | none => exact ⟨[], fun _ h => absurd h (by simp), fun _ _ _ _ _ d' e => by cases e⟩
        | some d' =>
          obtain ⟨d, e, f⟩ := hv n d' (by omega) q
          obtain ⟨v, ev, t⟩ := ht n d e
          obtain ⟨B, c1, k1⟩ := fz_tr S le f
          exact ⟨B, c1, fun A' H' hs c l d2 e2 => by cases e2; exact ⟨v, ev, k1 A' H' hs c l v t⟩⟩
    obtain ⟨B, c1, k1⟩ := last
    refine ⟨A ++ B, fun a ha => (List.mem_append.mp ha).elim (c0 a) (c1 a), fun A' H' hs c l i d' hi e => ?_⟩
    by_cases z : i = n
    · subst z; exact k1 A' H' (fun a ha => hs a (by simp [ha])) c l d' e
    · exact k A' H' (fun a ha => hs a (by simp [ha])) c l i d' (by omega) e
theorem view_lock {σ σ' : Sl} {τ : L2.St} (A : Sts K H G σ τ) (S : Sto K H G) (v : View σ G σ' G') : LockQ (fun H' => Ext G H G' H' ∧ Sts K H' G' σ' τ ∧ Sto K H' G') H := by
  obtain ⟨le, hl, hv⟩ := v
  obtain ⟨B, c, k⟩ := view_all S le (τ := τ) σ'.length (fun i d' _ e => hv i d' e) A.2
  refine lock_all (can_mut S c) fun H' l => .done ⟨lkd_ext l c le, ⟨by rw [← hl]; exact A.1, fun i d' e => ?_⟩, lkd_sto S l c le⟩
  exact k B H' (fun _ h => h) c l i d' (List.getElem?_eq_some_iff.mp e).1 e
theorem viewD_lock {d d' : D} {v : V} (t : Tr K H G d v) (S : Sto K H G) (w : ViewD d G d' G') : LockQ (fun H' => Ext G H G' H' ∧ Tr K H' G' d' v ∧ Sto K H' G') H := by
  obtain ⟨le, f⟩ := w
  obtain ⟨B, c, k⟩ := fz_tr S le f
  exact lock_all (can_mut S c) fun H' l => .done ⟨lkd_ext l c le, k B H' (fun _ h => h) c l v t, lkd_sto S l c le⟩
theorem LockQ.mono {Q Q' : Hp → Prop} (i : ∀ H, Q H → Q' H) : ∀ {H : Hp}, LockQ Q H → LockQ Q' H := by
  intro H h
  induction h with
  | done q => exact .done (i _ q)
  | lock d u e m _ ih => exact .lock d u e m ih
end
section
variable {X : Cx} {W : Wi}
theorem dss_view {r : List Stmt} {b : TSt} (h : DSs X W r b) : DSs X W r (seqW sView b) := ⟨fun pins s τ H D I q => by
  obtain ⟨σ, G, E, A, S, ⟨σ', G', v, c⟩, k⟩ := q
  obtain ⟨H', I', e, A', S'⟩ := (view_lock A S v).run I
  exact h.run pins s τ H' D I' ⟨σ', G', E, A', S', c, k.ext e⟩⟩
/-- what a return gives may be locked -/
theorem _root_.L2.PSs.lkR {sts : List Stmt} {t : TS} (h : PSs X sts t) : PSs X sts (fun D τ H => t { D with rt := lQ D.rt } τ H) := ⟨fun pins s τ H D I q => thn (h.run pins s τ H _ I q) fun f s1 z => by
  cases f with
  | ret u => obtain ⟨v, σ1, H1, I1, r1, q1⟩ := z; obtain ⟨H2, I2, q2⟩ := q1.run I1; exact ⟨v, σ1, H2, I2, r1, q2⟩
  | next => exact z
  | brk => exact z
  | cont => exact z⟩
/-! ### name op= e, names = values -/
theorem slot_tr {K : PySem.W.Frag} {H : Hp} {G : Store} {σ : Sl} {τ : L2.St} {i : Nat} {d : D} (A : Sts K H G σ τ) (h : slot σ i = some d) : ∃ v, τ[i]? = some (some v) ∧ Tr K H G d v := by
  refine A.2 i d ?_
  unfold slot at h
  cases q : σ[i]? with
  | none => rw [q] at h; cases h
  | some o => rw [q] at h; cases o with
    | none => cases h
    | some d' => cases h; rfl
theorem ds_aug {i : Nat} {x : Str} {e : Expr} {d : Den} {o : Operator} {op : Op} {p pos : Pos} (ho : (o = .Add ∧ op = .add) ∨ (o = .Sub ∧ op = .sub)) (hN : X.N.Nodup) (hi : X.N[i]? = some x) (hx : Loc X.env.scope x) (hf : X.fn x = true ∨ X.env.scope.names.lookup x = some .local) (he : DE X W e d) :
    DS X W (.AugAssign (.Name x p) o e pos) (sAug i op d) := by
  rcases ho with ⟨rfl, rfl⟩ | ⟨rfl, rfl⟩
  · exact (ps_aug hN hi hx he ip_add hf).imp fun D τ H ⟨σ, G, E, A, S, ⟨x, ex, c⟩, k⟩ => by
      obtain ⟨v, hv, tv⟩ := slot_tr A ex
      refine ⟨v, hv, σ, G, _, A, S, c, fun u y G1 H1 e1 S1 t1 ⟨a, ea, b, eb, c1⟩ => ?_⟩
      cases x with
      | int a' =>
        cases y with
        | int b' =>
          cases ea; cases eb
          exact ⟨a, b, tv, t1, k.nx _ _ G1 H1 e1 (sts_set (d := .int (a + b)) (A.ext e1) rfl) S1 c1⟩
        | _ => cases eb
      | _ => cases ea
  · exact (ps_aug hN hi hx he ip_sub hf).imp fun D τ H ⟨σ, G, E, A, S, ⟨x, ex, c⟩, k⟩ => by
      obtain ⟨v, hv, tv⟩ := slot_tr A ex
      refine ⟨v, hv, σ, G, _, A, S, c, fun u y G1 H1 e1 S1 t1 ⟨a, ea, b, eb, c1⟩ => ?_⟩
      cases x with
      | int a' =>
        cases y with
        | int b' =>
          cases ea; cases eb
          exact ⟨a, b, tv, t1, k.nx _ _ G1 H1 e1 (sts_set (d := .int (a - b)) (A.ext e1) rfl) S1 c1⟩
        | _ => cases eb
      | _ => cases ea
theorem ds_par {i j : Nat} {x y : Str} {a b : Expr} {ds : List Den} {px py pt pos : Pos} {kt k2 : Nat} {pt2 : Pos} (hc : X.calm = true) (hN : X.N.Nodup) (hi : X.N[i]? = some x) (hj : X.N[j]? = some y) (hij : i ≠ j)
    (hx : X.env.scope.names.lookup x = some .local) (hy : X.env.scope.names.lookup y = some .local) (ha : DA X W [a, b] 2 ds) (hl : ds.length = 2)
    (hw : swappedStores [.Tuple [.Name x px, .Name y py] kt pt] (.Tuple [a, b] k2 pt2) X.env = pure (some [x, y])) : DS X W (.Assign [.Tuple [.Name x px, .Name y py] kt pt] (.Tuple [a, b] k2 pt2) pos) (sPar [i, j] ds) :=
  (ps_par hc hN hi hj hij hx hy ha hw rfl).imp fun D τ H ⟨σ, G, E, A, S, c, k⟩ => by
    refine ⟨σ, G, _, A, S, c, fun vs xs G1 H1 l1 e1 S1 t1 c1 => ?_⟩
    match xs, l1 with
    | [d1, d2], _ =>
      obtain ⟨v1, ws, rfl, t2, v2, ws2, rfl, t3, rfl⟩ := t1
      exact ⟨v1, v2, rfl, k.nx _ _ G1 H1 e1 (sts_set (sts_set (A.ext e1) t2) t3) S1 c1⟩
theorem ds_par3 {i j l : Nat} {x y z : Str} {a b c : Expr} {ds : List Den} {px py pz pt pos : Pos} {kt k2 : Nat} {pt2 : Pos} (hc : X.calm = true) (hN : X.N.Nodup) (hi : X.N[i]? = some x) (hj : X.N[j]? = some y) (hl : X.N[l]? = some z) (hij : i ≠ j) (hil : i ≠ l) (hjl : j ≠ l)
    (hx : X.env.scope.names.lookup x = some .local) (hy : X.env.scope.names.lookup y = some .local) (hz : X.env.scope.names.lookup z = some .local) (ha : DA X W [a, b, c] 3 ds)
    (hw : swappedStores [.Tuple [.Name x px, .Name y py, .Name z pz] kt pt] (.Tuple [a, b, c] k2 pt2) X.env = pure (some [x, y, z])) : DS X W (.Assign [.Tuple [.Name x px, .Name y py, .Name z pz] kt pt] (.Tuple [a, b, c] k2 pt2) pos) (sPar [i, j, l] ds) :=
  (ps_par3 hc hN hi hj hl hij hil hjl hx hy hz ha hw rfl).imp fun D τ H ⟨σ, G, E, A, S, c, k⟩ => by
    refine ⟨σ, G, _, A, S, c, fun vs xs G1 H1 l1 e1 S1 t1 c1 => ?_⟩
    match xs, l1 with
    | [d1, d2, d3], _ =>
      obtain ⟨v1, ws, rfl, t2, v2, ws2, rfl, t3, v3, ws3, rfl, t4, rfl⟩ := t1
      exact ⟨v1, v2, v3, rfl, k.nx _ _ G1 H1 e1 (sts_set (sts_set (sts_set (A.ext e1) t2) t3) t4) S1 c1⟩
end
end T
end
section
set_option Elab.async false
set_option linter.all false
set_option maxRecDepth 100000
set_option maxHeartbeats 1000000
/-! Comprehensions over trees. -/
namespace T
open PySem PySem.Spec PyProof.Rows L2
section
variable {X : Cx} {W : Wi}
theorem wipeD_len : ∀ (σ : Sl) (vs : List Nat), (wipeD σ vs).length = σ.length
  | _, [] => rfl
  | σ, v :: vs => by show ((wipeD σ vs).set v none).length = _; rw [List.length_set, wipeD_len]
theorem wipeD_some {σ : Sl} {i : Nat} {d : D} : ∀ {vs : List Nat}, (wipeD σ vs)[i]? = some (some d) → σ[i]? = some (some d) ∧ i ∉ vs
  | [], h => ⟨h, by simp⟩
  | v :: vs, h => by
    have h' : ((wipeD σ vs).set v none)[i]? = some (some d) := h
    by_cases e : v = i
    · subst e
      by_cases l : v < (wipeD σ vs).length
      · rw [List.getElem?_set_self l] at h'; cases h'
      · rw [List.getElem?_eq_none (by rw [List.length_set]; omega)] at h'; cases h'
    · rw [List.getElem?_set_ne e] at h'
      obtain ⟨a, b⟩ := wipeD_some h'
      exact ⟨a, by rw [List.mem_cons, not_or]; exact ⟨Ne.symm e, b⟩⟩
theorem wipe_get {τ : L2.St} {i : Nat} {v : V} : ∀ {vs : List Nat}, τ[i]? = some (some v) → i ∉ vs → (wipe τ vs)[i]? = some (some v)
  | [], h, _ => h
  | w :: vs, h, n => by
    rw [List.mem_cons, not_or] at n
    show ((wipe τ vs).set w none)[i]? = _
    rw [List.getElem?_set_ne (Ne.symm n.1)]
    exact wipe_get h n.2
theorem sts_wipe {K : PySem.W.Frag} {H : Hp} {G : Store} {σ : Sl} {τ : L2.St} (A : Sts K H G σ τ) (vs : List Nat) : Sts K H G (wipeD σ vs) (wipe τ vs) := by
  refine ⟨by rw [wipeD_len, wipe_length]; exact A.1, fun i d h => ?_⟩
  obtain ⟨h1, h2⟩ := wipeD_some h
  obtain ⟨v, hv, t⟩ := A.2 i d h1
  exact ⟨v, wipe_get hv h2, t⟩
theorem wipe_comm {i : Nat} : ∀ {vs : List Nat} {τ : L2.St}, (wipe τ vs).set i none = wipe (τ.set i none) vs
  | [], _ => rfl
  | v :: r, τ => by
    show ((wipe τ r).set v none).set i none = (wipe (τ.set i none) r).set v none
    rw [← wipe_comm]
    by_cases e : v = i
    · rw [e]
    · rw [List.set_comm _ _ e]
theorem wipe_wipe : ∀ {vs : List Nat} {τ : L2.St}, wipe (wipe τ vs) vs = wipe τ vs
  | [], _ => rfl
  | v :: r, τ => by
    show (wipe ((wipe τ r).set v none) r).set v none = (wipe τ r).set v none
    rw [← wipe_comm, wipe_wipe, List.set_set]
/-- a comprehension's tests -/
theorem pts_D {ifs : List Expr} {ds : List Den} (h : (ifs = [] ∧ ds = []) ∨ ∃ c d, ifs = [c] ∧ ds = [d] ∧ DT X W c d) : PTs X ifs (lT X.K (dTs ds W)) := by
  rcases h with ⟨rfl, rfl⟩ | ⟨c, d, rfl, rfl, h⟩
  · exact ⟨fun pins s τ H Q I ⟨σ, G, q, A, S, c, k⟩ => pts_nil.run pins s τ H Q I (k _ G H (.refl _ _) S c)⟩
  · refine pts_one (h.imp fun τ H Q ⟨σ, G, q, A, S, c, k⟩ => ⟨σ, G, _, A, S, c, fun b G1 H1 e1 S1 c1 => ?_⟩)
    cases b with
    | true => exact k _ G1 H1 e1 S1 c1
    | false => exact k _ G1 H1 e1 S1 c1
/-- the new list grows -/
theorem ext_grow {G G1 : Store} {H1 H2 : Hp} {D : Addr} {o : HO} (e : Ext G H1 G1 H2) (n : H1 D = none) : Ext G H1 G1 (upd H2 D o) :=
  ⟨⟨fun a x u d h r => ⟨(e.fz a x u d h r).1, by rw [upd_ne (ne_of_none r n)]; exact (e.fz a x u d h r).2⟩, fun a vs h r => ⟨(e.ts a vs h r).1, by rw [upd_ne (ne_of_none r n)]; exact (e.ts a vs h r).2⟩⟩,
    fun a u m h r => ⟨(e.un a u m h r).1, by rw [upd_ne (ne_of_none r n)]; exact (e.un a u m h r).2⟩⟩
theorem ext_growM {G G1 : Store} {H1 H2 : Hp} {D : Addr} {o : MO} (e : Ext G H1 G1 H2) (n : H1 D = none) : Ext G H1 (put G1 D o) H2 :=
  ⟨⟨fun a x u d h r => ⟨by rw [put_ne (ne_of_none r n)]; exact (e.fz a x u d h r).1, (e.fz a x u d h r).2⟩, fun a vs h r => ⟨by rw [put_ne (ne_of_none r n)]; exact (e.ts a vs h r).1, (e.ts a vs h r).2⟩⟩,
    fun a u m h r => ⟨by rw [put_ne (ne_of_none r n)]; exact (e.un a u m h r).1, (e.un a u m h r).2⟩⟩
/-- a turn of a list comprehension -/
def lcStep (elt pat : Den) (ifs : List Den) (σ : Sl) (own : List Nat) (d : D) (k : Option D → Store → Prop) (G2 : Store) : Prop :=
  pat.p W0 d (wipeD σ own) G2 fun σ1 G3 => dTs ifs W0 σ1 G3 fun t G4 => if t = true then elt.e W0 σ1 G4 fun y G5 => k (some y) G5 else k none G4
theorem lc_bind {K : PySem.W.Frag} {m : Bool} {elt pat it : Den} {ifs : List Den} {own : List Nat} {τ : L2.St} {H : Hp} {Q : VK} (h : lE K ((sLc m elt pat it ifs own).e W) τ H Q) :
    tLc (lI K (it.i W)) (lG K own (pat.p W0)) (lT K (dTs ifs W0)) (lE K (elt.e W0)) own τ H (lQ Q) := by
  obtain ⟨σ, G, q, A, S, c, k⟩ := h
  refine ⟨σ, G, _, A, S, c, fun J ds gd G1 H1 e1 S1 w1 l1 c1 D nD => ?_⟩
  have c1 : compW gd (lcStep elt pat ifs σ own) (fun l G2 => mkO m (.lst l) (.lst l) G2 q) ds [] G1 := c1
  have g1 : G1 D = none := S1.no nD
  refine ⟨fun i m' Hh => ∃ accd acc G2, m' = ds.length - i ∧ Hh D = some (.lst acc) ∧ Ext G1 H1 G2 Hh ∧ Sto K Hh G2 ∧ G2 D = none ∧ TrL K Hh G2 accd acc ∧ acc.length ≤ i ∧ compW gd (lcStep elt pat ifs σ own) (fun l G2 => mkO m (.lst l) (.lst l) G2 q) (ds.drop i) accd G2,
    ⟨ds.length, [], [], G1, rfl, upd_same, ext_new nD, S1.new nD, g1, rfl, Nat.le_refl _, c1⟩, ?_⟩
  rintro i m' Hh ⟨accd, acc, G2, rfl, hD, e2, S2, g2, t2, la, c2⟩
  cases hd : ds[i]? with
  | none =>
    rw [List.drop_eq_nil_of_le (List.getElem?_eq_none_iff.mp hd)] at c2
    refine .inl ⟨(w1 i G2 Hh e2 S2 c2.1).2 hd, ?_⟩
    have z := c2.2
    cases m with
    | true =>
      have z : ∀ p, G2 p = none → q (.ref p) (put G2 p (.lst accd)) := z
      refine .done (k _ (.ref D) _ Hh (e1.trans (ext_growM e2 nD)) ?_ rfl (z D g2))
      have ex : Ext0 G2 Hh (put G2 D (.lst accd)) Hh := ⟨fun a o u _ h r => ⟨by rw [put_ne (fun e => by subst e; rw [hD] at r; cases r)]; exact h, r⟩, fun a vs h r => ⟨by rw [put_ne (fun e => by subst e; rw [hD] at r; cases r)]; exact h, r⟩⟩
      intro a o qa
      by_cases e : a = D
      · subst e; rw [put_same] at qa; cases qa; exact ⟨acc, hD, TrL.ext0 ex _ _ t2⟩
      · rw [put_ne e] at qa
        exact (S2 a o qa).ext0 ex rfl
    | false =>
      refine .lock D (.lst acc) hD trivial fun od => .done (k _ (.lst accd) G2 _ (e1.trans (ext_grow e2 nD)) (S2.any g2 hD trivial) ?_ z)
      exact ⟨D, acc, rfl, ⟨g2, od, upd_same⟩, TrL.ext0 (ext_any hD trivial) _ _ t2⟩
  | some d =>
    have hi : i < ds.length := (List.getElem?_eq_some_iff.mp hd).1
    have hx : ds.drop i = d :: ds.drop (i + 1) := by
      rw [List.drop_eq_getElem_cons hi]
      rw [List.getElem?_eq_getElem hi] at hd
      rw [Option.some.inj hd]
    rw [hx] at c2
    obtain ⟨go, yl⟩ := (w1 i G2 Hh e2 S2 c2.1).1 d hd
    refine .inr ⟨go, fun H' => ∃ accd acc G2, H' D = some (.lst acc) ∧ Ext G1 H1 G2 H' ∧ Sto K H' G2 ∧ G2 D = none ∧ TrL K H' G2 accd acc ∧ acc.length ≤ i + 1 ∧ compW gd (lcStep elt pat ifs σ own) (fun l G2 => mkO m (.lst l) (.lst l) G2 q) (ds.drop (i + 1)) accd G2, ?_, fun x H' y => ?_⟩
    · rintro H' ⟨accd, acc, G3, h1, h2, h3, h4, h5, h6, h7⟩
      exact ⟨ds.length - (i + 1), by omega, accd, acc, G3, rfl, h1, h2, h3, h4, h5, h6, h7⟩
    · obtain ⟨e3, S3, t3⟩ := yl x H' y
      refine ⟨d, wipeD σ own, G2, _, t3, sts_wipe (A.ext ((e1.trans e2).trans e3)) own, S3, c2.2, fun σ4 τ4 G4 H4 e4 A4 S4 w4 c4 => ⟨by rw [w4, wipe_wipe], ?_⟩⟩
      refine ⟨σ4, G4, _, A4, S4, c4, fun b G5 H5 e5 S5 c5 => ?_⟩
      have e35 := (e3.trans e4).trans e5
      have eD : ∀ {G6 : Store} {H6 : Hp}, Ext G2 Hh G6 H6 → G6 D = none ∧ H6 D = some (.lst acc) := fun e => e.un D _ trivial g2 hD
      cases b with
      | false =>
        exact ⟨accd, acc, G5, (eD e35).2, e2.trans e35, S5, (eD e35).1, TrL.ext e35 _ _ t2, by omega, by simpa using c5⟩
      | true =>
        refine ⟨σ4, G5, _, A4.ext e5, S5, c5, fun yv yd G6 H6 e6 S6 t6 c6 => ?_⟩
        have e36 := e35.trans e6
        have hD6 := (eD e36).2
        refine ⟨acc, hD6, by rw [ln_eq]; omega, accd ++ [yd], acc ++ [yv], G6, upd_same, ext_grow (e2.trans e36) nD, S6.any (eD e36).1 hD6 trivial, (eD e36).1, ?_, by rw [List.length_append]; simp; omega, c6⟩
        exact TrL.ext0 (ext_any hD6 trivial) _ _ ((TrL.ext e36 _ _ t2).append (.one t6))
end
end T
end
section
set_option Elab.async false
set_option linter.all false
set_option maxRecDepth 100000
set_option maxHeartbeats 1000000
/-! Comprehensions as values and statements. -/
namespace T
open PySem PySem.Spec PyProof.Rows L2
section
variable {X : Cx} {W : Wi} {elt tg iter kx vx : Expr} {ifs : List Expr} {scope : Scope} {own : List (Str × Nat)} {pos spos : Pos} {de dp dit dk : Den} {difs : List Den}
theorem de_lc {m : Bool} (hc : X.calm = true) (hN : X.N.Nodup) (hi : DI X W tg iter dit) (ok : BlkOk X.N X.env.scope scope own)
    (hg : ∀ (s : Shared) (H : Hp) (C : Addr) (cl : List (Str × Addr)) (fp : List Addr), DG (X.blk s H scope (compEnvC scope cl C X.env) fp) W0 (own.map (·.2)) tg dp)
    (ht : ∀ (s : Shared) (H : Hp) (C : Addr) (cl : List (Str × Addr)) (fp : List Addr), (ifs = [] ∧ difs = []) ∨ ∃ c d, ifs = [c] ∧ difs = [d] ∧ DT (X.blk s H scope (compEnvC scope cl C X.env) fp) W0 c d)
    (he : ∀ (s : Shared) (H : Hp) (C : Addr) (cl : List (Str × Addr)) (fp : List Addr), DE (X.blk s H scope (compEnvC scope cl C X.env) fp) W0 elt de) (hs : noSet iter = true) :
    DE X W (.ListComp elt [⟨tg, iter, ifs, 0⟩] scope pos) (sLc m de dp dit difs (own.map (·.2))) :=
  (pe_lc hc hN hi ok hg (fun s H C cl fp => pts_D (ht s H C cl fp)) he (folded_no hs)).lk.imp fun τ H Q h => lc_bind h
theorem _root_.L2.PS.lkN {st : Stmt} {t : TS} (h : PS X st t) : PS X st (fun D τ H => t { D with nx := fun σ H => LockQ (D.nx σ) H } τ H) := ⟨fun pins s τ H D I q => thn (h.run pins s τ H _ I q) fun f s1 z => by
  cases f with
  | next => obtain ⟨σ1, H1, I1, q1⟩ := z; obtain ⟨H2, I2, q2⟩ := q1.run I1; exact ⟨σ1, H2, I2, q2⟩
  | ret v => exact z
  | brk => exact z
  | cont => exact z⟩
/-- name = [..], the name a local of the def, on one line -/
theorem ds_setLc {m : Bool} {i : Nat} {y : Str} {py : Pos} (hc : X.calm = true) (hN : X.N.Nodup) (hy : X.N[i]? = some y) (hyl : X.env.scope.names.lookup y = some .local)
    (hsw : swapsWith (.ListComp elt [⟨tg, iter, ifs, 0⟩] scope pos) (some (.Name y py)) spos.line X.env = pure true) (hi : DI X W tg iter dit) (ok : BlkOk X.N X.env.scope scope own)
    (hg : ∀ (s : Shared) (H : Hp) (C : Addr) (cl : List (Str × Addr)) (fp : List Addr), DG (X.blk s H scope (compEnvC scope cl C X.env) fp) W0 (own.map (·.2)) tg dp)
    (ht : ∀ (s : Shared) (H : Hp) (C : Addr) (cl : List (Str × Addr)) (fp : List Addr), (ifs = [] ∧ difs = []) ∨ ∃ c d, ifs = [c] ∧ difs = [d] ∧ DT (X.blk s H scope (compEnvC scope cl C X.env) fp) W0 c d)
    (he : ∀ (s : Shared) (H : Hp) (C : Addr) (cl : List (Str × Addr)) (fp : List Addr), DE (X.blk s H scope (compEnvC scope cl C X.env) fp) W0 elt de) (hs : noSet iter = true) :
    DS X W (.Assign [.Name y py] (.ListComp elt [⟨tg, iter, ifs, 0⟩] scope pos) spos) (sAsg (sPname i) (sLc m de dp dit difs (own.map (·.2)))) :=
  (ps_setLc hc hN hy hyl hsw hi ok hg (fun s H C cl fp => pts_D (ht s H C cl fp)) he (folded_no hs)).lkN.imp fun D τ H h => by
    obtain ⟨σ, G, E, A, S, c, k⟩ := h
    have z : tLc (lI X.K (dit.i W)) (lG X.K (own.map (·.2)) (dp.p W0)) (lT X.K (dTs difs W0)) (lE X.K (de.e W0)) (own.map (·.2)) τ H (lQ fun v H1 => D.nx (τ.set i (some v)) H1) :=
      lc_bind (m := m) ⟨σ, G, _, A, S, c, fun v d G1 H1 e1 S1 t1 c1 => k.nx _ _ G1 H1 e1 (sts_set (A.ext e1) t1) S1 c1⟩
    exact z
/-! dict comprehensions, keys numbers or texts -/
def dcStep (kx vx pat : Den) (σ : Sl) (own : List Nat) (d : D) (k : Key → D → Store → Prop) (G2 : Store) : Prop :=
  pat.p W0 d (wipeD σ own) G2 fun σ1 G3 => kx.e W0 σ1 G3 fun x G4 => vx.e W0 σ1 G4 fun y G5 => oq (keyOf x) fun x => k x y G5
theorem putG_len {κ : Type} [DecidableEq κ] (kvs : List (κ × D)) (k : κ) (d : D) : (putG kvs k d).length ≤ kvs.length + 1 := by
  unfold putG
  split <;> simp
theorem putK_len {κ : Type} [DecidableEq κ] (kvs : List (κ × V)) (k : κ) (d : V) : (putK kvs k d).length ≤ kvs.length + 1 := by
  unfold putK
  split <;> simp
theorem dc_bind {K : PySem.W.Frag} {m : Bool} {kx vx pat it : Den} {own : List Nat} {τ : L2.St} {H : Hp} {Q : VK} (h : lE K ((sDc false m kx vx pat it own).e W) τ H Q) :
    tDc (lI K (it.i W)) (lG K own (pat.p W0)) tYes (lE K (kx.e W0)) (lE K (vx.e W0)) own τ H (lQ Q) := by
  obtain ⟨σ, G, q, A, S, c, k⟩ := h
  refine ⟨σ, G, _, A, S, c, fun J ds gd G1 H1 e1 S1 w1 l1 c1 D nD => ?_⟩
  have c1 : dcompW gd (dcStep kx vx pat σ own) (fun l G2 => mkO m (.dK l) (.dK l) G2 q) ds [] G1 := c1
  have g1 : G1 D = none := S1.no nD
  refine ⟨fun i m' Hh => ∃ accd acc G2, m' = ds.length - i ∧ Hh D = some (.dK acc) ∧ Ext G1 H1 G2 Hh ∧ Sto K Hh G2 ∧ G2 D = none ∧ TrK K Hh G2 accd acc ∧ acc.length ≤ i ∧ dcompW gd (dcStep kx vx pat σ own) (fun l G2 => mkO m (.dK l) (.dK l) G2 q) (ds.drop i) accd G2,
    ⟨ds.length, [], [], G1, rfl, upd_same, ext_new nD, S1.new nD, g1, rfl, Nat.le_refl _, c1⟩, ?_⟩
  rintro i m' Hh ⟨accd, acc, G2, rfl, hD, e2, S2, g2, t2, la, c2⟩
  cases hd : ds[i]? with
  | none =>
    rw [List.drop_eq_nil_of_le (List.getElem?_eq_none_iff.mp hd)] at c2
    refine .inl ⟨(w1 i G2 Hh e2 S2 c2.1).2 hd, ?_⟩
    have z := c2.2
    cases m with
    | true =>
      have z : ∀ p, G2 p = none → q (.ref p) (put G2 p (.dK accd)) := z
      refine .done (k _ (.ref D) _ Hh (e1.trans (ext_growM e2 nD)) ?_ rfl (z D g2))
      have ex : Ext0 G2 Hh (put G2 D (.dK accd)) Hh := ⟨fun a o u _ h r => ⟨by rw [put_ne (fun e => by subst e; rw [hD] at r; cases r)]; exact h, r⟩, fun a vs h r => ⟨by rw [put_ne (fun e => by subst e; rw [hD] at r; cases r)]; exact h, r⟩⟩
      intro a o qa
      by_cases e : a = D
      · subst e; rw [put_same] at qa; cases qa; exact ⟨acc, hD, TrK.ext0 ex _ _ t2⟩
      · rw [put_ne e] at qa
        exact (S2 a o qa).ext0 ex rfl
    | false =>
      refine .lock D (.dK acc) hD trivial fun od => .done (k _ (.dK accd) G2 _ (e1.trans (ext_grow e2 nD)) (S2.any g2 hD trivial) ?_ z)
      exact ⟨D, acc, rfl, ⟨g2, od, upd_same⟩, TrK.ext0 (ext_any hD trivial) _ _ t2⟩
  | some d =>
    have hi : i < ds.length := (List.getElem?_eq_some_iff.mp hd).1
    have hx : ds.drop i = d :: ds.drop (i + 1) := by
      rw [List.drop_eq_getElem_cons hi]
      rw [List.getElem?_eq_getElem hi] at hd
      rw [Option.some.inj hd]
    rw [hx] at c2
    obtain ⟨go, yl⟩ := (w1 i G2 Hh e2 S2 c2.1).1 d hd
    refine .inr ⟨go, fun H' => ∃ accd acc G2, H' D = some (.dK acc) ∧ Ext G1 H1 G2 H' ∧ Sto K H' G2 ∧ G2 D = none ∧ TrK K H' G2 accd acc ∧ acc.length ≤ i + 1 ∧ dcompW gd (dcStep kx vx pat σ own) (fun l G2 => mkO m (.dK l) (.dK l) G2 q) (ds.drop (i + 1)) accd G2, ?_, fun x H' y => ?_⟩
    · rintro H' ⟨accd, acc, G3, h1, h2, h3, h4, h5, h6, h7⟩
      exact ⟨ds.length - (i + 1), by omega, accd, acc, G3, rfl, h1, h2, h3, h4, h5, h6, h7⟩
    · obtain ⟨e3, S3, t3⟩ := yl x H' y
      refine ⟨d, wipeD σ own, G2, _, t3, sts_wipe (A.ext ((e1.trans e2).trans e3)) own, S3, c2.2, fun σ4 τ4 G4 H4 e4 A4 S4 w4 c4 => ⟨by rw [w4, wipe_wipe], ?_⟩⟩
      unfold tYes
      simp only [if_true]
      refine ⟨σ4, G4, _, A4, S4, c4, fun xv xd G5 H5 e5 S5 t5 c5 => ⟨σ4, G5, _, A4.ext e5, S5, c5, fun yv yd G6 H6 e6 S6 t6 ⟨ky, ek, c6⟩ => ?_⟩⟩
      have e36 := ((e3.trans e4).trans e5).trans e6
      obtain ⟨gD, hD6⟩ := e36.un D (.dK acc) trivial g2 hD
      refine ⟨acc, ky, key_V ek t5.rb, hD6, by rw [ln_eq]; omega, putG accd ky yd, putK acc ky yv, G6, upd_same, ext_grow (e2.trans e36) nD, S6.any gD hD6 trivial, gD, ?_, Nat.le_trans (putK_len acc ky yv) (by omega), c6⟩
      exact TrK.ext0 (ext_any hD6 trivial) _ _ (put_trK t6 (TrK.ext e36 _ _ t2))
theorem de_dc {m : Bool} (hc : X.calm = true) (hN : X.N.Nodup) (hi : DI X W tg iter dit) (ok : BlkOk X.N X.env.scope scope own)
    (hg : ∀ (s : Shared) (H : Hp) (C : Addr) (cl : List (Str × Addr)) (fp : List Addr), DG (X.blk s H scope (compEnvC scope cl C X.env) fp) W0 (own.map (·.2)) tg dp)
    (hk : ∀ (s : Shared) (H : Hp) (C : Addr) (cl : List (Str × Addr)) (fp : List Addr), DE (X.blk s H scope (compEnvC scope cl C X.env) fp) W0 kx dk)
    (he : ∀ (s : Shared) (H : Hp) (C : Addr) (cl : List (Str × Addr)) (fp : List Addr), DE (X.blk s H scope (compEnvC scope cl C X.env) fp) W0 vx de) (hs : noSet iter = true) :
    DE X W (.DictComp kx vx [⟨tg, iter, [], 0⟩] scope pos) (sDc false m dk de dp dit (own.map (·.2))) :=
  (pe_dc hc hN hi ok hg (fun _ _ _ _ _ => pts_nil) hk he (folded_no hs)).lk.imp fun τ H Q h => dc_bind h
end
end T
end
section
set_option Elab.async false
set_option linter.all false
set_option maxRecDepth 100000
set_option maxHeartbeats 1000000
/-! sorted, over trees. -/
namespace T
open PySem PySem.Spec PyProof.Rows PySem.W L2
/-- a tree and what stands for it -/
abbrev PV := D × V
abbrev encP (p : PV) : PyData := p.1.py
section
variable {X : Cx} {pins : List (Addr × Obj)} {s : Shared} {τ : L2.St} {H : Hp} {G : Store}
def PvR (X : Cx) (H : Hp) (G : Store) (u : Value) (p : PV) : Prop := RelV p.2 u ∧ Tr X.K H G p.1 p.2
theorem pv_of : ∀ {ds : List D} {vs : List V} {us : List Value}, TrL X.K H G ds vs → Vals vs us → EachIs (PvR X H G) us (ds.zip vs)
  | [], _, _, t, r => by cases t; cases r; exact .nil
  | d :: ds, _, _, ⟨v, ws, e, t, tr⟩, r => by
    subst e
    cases r with
    | cons r1 r2 => exact .cons ⟨r1, t⟩ (pv_of tr r2)
theorem pv_back : ∀ {ps : List PV} {us : List Value}, EachIs (PvR X H G) us ps → TrL X.K H G (ps.map (·.1)) (ps.map (·.2)) ∧ Vals (ps.map (·.2)) us
  | [], _, .nil => ⟨rfl, .nil⟩
  | p :: ps, _, .cons h t => ⟨.cons h.2 (pv_back t).1, .cons h.1 (pv_back t).2⟩
theorem each_mono {α β : Type} {R R' : α → β → Prop} : ∀ {l : List α} {m : List β}, EachIs R l m → (∀ a b, b ∈ m → R a b → R' a b) → EachIs R' l m
  | _, _, .nil, _ => .nil
  | _, _, .cons h t, i => .cons (i _ _ (by simp) h) (each_mono t fun a b m => i a b (by simp [m]))
theorem pureL_mem : ∀ {ds : List D} {d : D}, D.pureL ds = true → d ∈ ds → d.pure = true
  | d :: ds, x, h, m => by
    rw [D.pureL, Bool.and_eq_true] at h
    rcases List.mem_cons.mp m with e | e
    · rw [e]; exact h.1
    · exact pureL_mem h.2 e
theorem depL_mem : ∀ {ds : List D} {d : D}, d ∈ ds → d.dep ≤ D.depL ds
  | d :: ds, x, m => by
    rw [D.depL]
    rcases List.mem_cons.mp m with e | e
    · rw [e]; exact Nat.le_max_left _ _
    · exact Nat.le_trans (depL_mem e) (Nat.le_max_right _ _)
/-- what sortOk says -/
theorem sortOk_says {ds : List D} (h : sortOk ds = true) : D.pureL ds = true ∧ D.depL ds ≤ 30 ∧ (∀ x ∈ ds, ∀ y ∈ ds, alike x.py y.py = true) ∧
    ((∀ d ∈ ds, ∃ x r, d.py = .tuple (x :: r)) ∨ ∀ d ∈ ds, d.py ≠ .none ∧ ∀ xs, d.py ≠ .tuple xs) := by
  unfold sortOk at h
  simp only [Bool.and_eq_true, Bool.or_eq_true, decide_eq_true_eq, List.all_eq_true] at h
  obtain ⟨⟨⟨h1, h2⟩, h3⟩, h4⟩ := h
  refine ⟨h1, h2, h3, h4.imp (fun h d hd => ?_) fun h d hd => ?_⟩
  · have q := h d hd
    cases d with
    | tup l => cases l with
      | nil => cases q
      | cons x r => exact ⟨x.py, D.pyL r, rfl⟩
    | _ => cases q
  · have q := h d hd
    have p := pureL_mem h1 hd
    cases d with
    | non => cases q
    | tup l => cases q
    | bl b => exact ⟨by simp [D.py], fun xs => by simp [D.py]⟩
    | int b => exact ⟨by simp [D.py], fun xs => by simp [D.py]⟩
    | str b => exact ⟨by simp [D.py], fun xs => by simp [D.py]⟩
    | lst b => exact ⟨by simp [D.py], fun xs => by simp [D.py]⟩
    | _ => cases p
theorem zip_mem {ds : List D} {vs : List V} {p : PV} (h : p ∈ ds.zip vs) : p.1 ∈ ds := (List.of_mem_zip h).1
theorem zip_fst : ∀ {ds : List D} {vs : List V}, ds.length = vs.length → (ds.zip vs).map (·.1) = ds
  | [], [], _ => rfl
  | _ :: ds, _ :: vs, h => by
    have z := zip_fst (ds := ds) (vs := vs) (by simpa using h)
    simp [z]
  | [], _ :: _, h => by simp at h
  | _ :: _, [], h => by simp at h
theorem sort_fst (ps : List PV) : (ps.mergeSort (dataLe false encP)).map (·.1) = sortD (ps.map (·.1)) := by
  unfold sortD
  refine List.map_mergeSort (r := dataLe false encP) (s := leD) fun a _ b _ => ?_
  rw [dataLe_eq]
  rfl
theorem pv_reads (I : Inv X pins τ H s) {us : List Value} {ps : List PV} (e : EachIs (PvR X H G) us ps) (hp : ∀ p ∈ ps, p.1.pure = true) : EachIs (fun u b => ∃ as, Reads s.heap u (encP b) as) us ps :=
  each_mono e fun u p m h => (tr_dp p.1 p.2 (hp p m) h.2).reads I _ _ _ h.1
end
mutual
/-- the lists that data is read off are there -/
theorem rd_there {h : Heap} : ∀ (d : PyData) (u : Value) (as : List Addr), alike d d = true → Reads h u d as → ∀ a ∈ as, ∃ o, h.get? a = some o
  | .none, _, _, _, r, a, m => by cases r; cases m
  | .bool _, _, _, _, r, a, m => by cases r; cases m
  | .int _, _, _, _, r, a, m => by cases r; cases m
  | .str _, _, _, _, r, a, m => by cases r; cases m
  | .list xs, _, _, k, r, a, m => by
    cases r with
    | list h1 h2 h3 h4 =>
      rcases List.mem_cons.mp m with e | e
      · subst e; exact ⟨_, h1⟩
      · exact rd_thereAll xs _ _ (by simpa [alike] using k) h4 a e
  | .tuple xs, _, _, k, r, a, m => by
    cases r with
    | tuple h1 h2 h3 h4 => exact rd_thereAll xs _ _ (by simpa [alike] using k) h4 a m
  | .dict _, _, _, k, _, _, _ => absurd k (by simp [alike])
theorem rd_thereAll {h : Heap} : ∀ (ds : List PyData) (us : List Value) (as : List Addr), alikeAll ds ds = true → ReadsAll h us ds as → ∀ a ∈ as, ∃ o, h.get? a = some o
  | [], _, _, _, r, a, m => by cases r; cases m
  | d :: ds, _, _, k, r, a, m => by
    cases r with
    | cons h1 h2 =>
      rcases List.mem_append.mp m with e | e
      · exact rd_there d _ _ (alike_all_cons k).1 h1 a e
      · exact rd_thereAll ds _ _ (alike_all_cons k).2 h2 a e
end
section
variable {X : Cx} {pins : List (Addr × Obj)} {s : Shared} {τ : L2.St} {H : Hp} {G : Store}
/-- a new list, sorted: what stands for it -/
theorem srt_post {ps : List PV} {out : List Value} {h' : Heap} {p c tk : Nat} {ds : List D} {Q : VK} (I : Inv X pins τ H s) (S : Sto X.K H G) (kp : ∀ b u, s.heap.get? b = some u → h'.get? b = some u) (hp : s.heap.objs.size ≤ p) (ho : h'.get? p = some (seqObj "list" out.toArray c))
    (hz : ps.length ≤ sizeLine) (e : EachIs (PvR X H G) out (ps.mergeSort (dataLe false encP))) (hd : ps.map (·.1) = ds)
    (k : ∀ vs n, H n = none → TrL X.K H G (sortD ds) vs → lQ Q (.ref n) (upd H n (.lst vs))) : EP X pins τ Q (.ref p) { s with heap := h', toks := tk } := by
  obtain ⟨t, r⟩ := pv_back e
  rw [sort_fst, hd] at t
  have hn := I.hok.fresh hp
  refine ep_lk ⟨.ref p, upd H p (.lst _), I.laid (t' := tk) kp hp ⟨?_, out, c, r, ho⟩, rfl, k _ p hn t⟩
  rw [List.length_map, List.length_mergeSort]; exact hz
theorem sortS_says {ds : List D} (h : sortOkS ds = true) : sortOk ds = true ∨ ds.length ≤ 1 := by
  unfold sortOkS at h
  simpa [Bool.or_eq_true, decide_eq_true_eq] using h
theorem ms_one {α : Type} {r : α → α → Bool} : ∀ {l : List α}, l.length ≤ 1 → l.mergeSort r = l
  | [], _ => by simp
  | [x], _ => by simp
  | _ :: _ :: _, h => by simp at h
theorem perm_one {α : Type} {l m : List α} (h : m.length ≤ 1) (p : l.Perm m) : l = m := by
  match m, h with
  | [], _ => exact p.eq_nil
  | [x], _ => exact List.perm_singleton.mp p
  | _ :: _ :: _, h => simp at h
/-- l.sort(): the items alone, or data -/
theorem sort_step {A : Around} {E : Value → Shared → Prop} {s' : Shared} {a : Addr} {us : List Value} {ps : List PV} {Q : Value → Shared → Prop} (ho : s'.heap.get? a = some (seqObj "list" us.toArray 0)) (e : EachIs (PvR X H G) us ps) (hz : ps.length ≤ sizeLine) (h1 : ps.length ≤ 1)
    (h : ∀ out : List Value, out.length = ps.length → EachIs (PvR X H G) out (ps.mergeSort (dataLe false encP)) → Q .none { s' with heap := sortedHeap s'.heap a us out.toArray }) : wpAny (model X.prog X.w) A (call (.builtin "list.sort") [.ref a]) Q E s' := by
  have hl : us.length = ps.length := e.length
  refine wpAny_call_entry slot_list_sort ⟨_, ho, rfl⟩ entry_list_sort (Srt.list_sort_any ho (by rw [hl]; exact hz) (fun h2 => absurd h2 (by omega)) fun out hp => ⟨_, rfl, ?_⟩) (args_list_sort _)
  have eo : out = us := perm_one (by omega) hp
  subst eo
  exact h out hl (by rw [ms_one h1]; exact e)
/-- sorted of a list -/
theorem srt_lst {a : Addr} {vs : List V} {ds : List D} {Q : VK} (hu : X.A.units + 64 < cLine) (I : Inv X pins τ H s) (S : Sto X.K H G) (hq : SqL X.K H a vs) (t : TrL X.K H G ds vs) (ok : sortOkS ds = true)
    (k : ∀ vs n, H n = none → TrL X.K H G (sortD ds) vs → lQ Q (.ref n) (upd H n (.lst vs))) : wpAny (model X.prog X.w) X.A (call (.builtin "sorted") [.ref a]) (EP X pins τ Q) X.xe s := by
  obtain ⟨its, rv, pl, hz⟩ := I.list hq
  have hl := t.length
  have e := pv_of t rv
  have hm : (ds.zip vs).map (·.1) = ds := zip_fst hl
  have hlen : (ds.zip vs).length = vs.length := by rw [List.length_zip, hl, Nat.min_self]
  rcases sortS_says ok with ok | one
  case inr =>
    have hui : its.length = vs.length := rv.length.symm
    refine Srt.sorted_any pl.isList (by rw [hui]; exact hz) (fun h2 => absurd h2 (by omega)) fun out hp => ?_
    have eo : out = its := perm_one (by omega) hp
    subst eo
    obtain ⟨c, hc⟩ := sortedAll_at s.heap out out.toArray
    exact srt_post (tk := s.toks) I S (fun _ _ q => sortedAll_old q) (Nat.le_succ _) hc (by rw [hlen]; exact hz) (by rw [ms_one (by omega)]; exact e) hm k
  obtain ⟨h1, h2, h3, h4⟩ := sortOk_says ok
  refine sorted_data (enc := encP) (bs := ds.zip vs) pl.isList e (pv_reads I e fun p hp => pureL_mem h1 (zip_mem hp)) ?_ ?_ (by rw [hlen]; exact hz) (fun p hp => ?_) fun out ho eo => ?_
  · intro d hd d' hd'
    obtain ⟨p, hp, rfl⟩ := List.mem_map.mp hd
    obtain ⟨p', hp', rfl⟩ := List.mem_map.mp hd'
    exact h3 _ (zip_mem hp) _ (zip_mem hp')
  · refine h4.imp (fun h d hd => ?_) fun h d hd => ?_
    · obtain ⟨p, hp, rfl⟩ := List.mem_map.mp hd
      exact h _ (zip_mem hp)
    · obtain ⟨p, hp, rfl⟩ := List.mem_map.mp hd
      exact h _ (zip_mem hp)
  · have := depL_mem (zip_mem hp)
    show X.A.units + 2 + p.1.py.depth < cLine
    rw [dep_py p.1 (pureL_mem h1 (zip_mem hp))]; omega
  · obtain ⟨c, hc⟩ := sortedAll_at s.heap its out.toArray
    exact srt_post (tk := s.toks) I S (fun _ _ q => sortedAll_old q) (Nat.le_succ _) hc (by rw [hlen]; exact hz) eo hm k
/-- sorted of anything whose items are known -/
theorem srt_col {r : Addr} {ps : List PV} {ds : List D} {Q : VK} (hu : X.A.units + 64 < cLine) (I : Inv X pins τ H s) (S : Sto X.K H G) (hd : ps.map (·.1) = ds) (hz : ps.length ≤ sizeLine) (ok : sortOkS ds = true)
    (hcol : ∀ (R : List Value → Shared → Prop), (∀ (h' : Heap) (tk : Nat) (us : List Value), (∀ b o, s.heap.get? b = some o → h'.get? b = some o) → EachIs (PvR X H G) us ps → R us { s with heap := h', toks := tk }) → wpAny (model X.prog X.w) X.A.in1 (collect (.ref r)) R X.xe s)
    (k : ∀ vs n, H n = none → TrL X.K H G (sortD ds) vs → lQ Q (.ref n) (upd H n (.lst vs))) : wpAny (model X.prog X.w) X.A (call (.builtin "sorted") [.ref r]) (EP X pins τ Q) X.xe s := by
  rcases sortS_says ok with ok | one
  case inr =>
    have hps : ps.length ≤ 1 := by rw [← hd, List.length_map] at one; exact one
    refine Calls.call_function_entry kind_sorted plain_sorted entry_sorted (args_sorted1 _) ?_
    unfold Builtin.«sorted»
    refine wpAny_bind (m := checkCount "sorted" 1 1 _) (wpAny_pure ?_)
    refine wpAny_bind (hcol _ fun h' tk us kp e => ?_)
    have I1 : Inv X pins τ H { s with heap := h', toks := tk } := I.kept kp
    have hul : us.length = ps.length := e.length
    refine wpAny_bind (wpAny_newList ?_ (by rw [hul]; exact hz))
    have hoL : (h'.push (seqObj "list" us.toArray 0)).get? h'.objs.size = some (seqObj "list" us.toArray 0) := Heap.get?_push_size _ rfl
    show wpAny _ _ _ _ _ { s with heap := h'.push (seqObj "list" us.toArray 0), toks := tk }
    refine wpAny_bind (wpAny_holding (sort_step (s' := { s with heap := h'.push (seqObj "list" us.toArray 0), toks := tk }) hoL e hz hps fun out ho eo => ?_))
    obtain ⟨c, hc⟩ := sortedHeap_at (vs := us) (out := out.toArray) hoL
    refine wpAny_pure ⟨_, rfl, ?_⟩
    refine srt_post (s := { s with heap := h', toks := tk }) (h' := sortedHeap (h'.push (seqObj "list" us.toArray 0)) h'.objs.size us out.toArray) (tk := tk) I1 S (fun b u q => ?_) (Nat.le_refl _) hc hz eo hd k
    have hb : b < h'.objs.size := Heap.lt_size q
    rw [sortedHeap_old (Nat.ne_of_lt hb) (by rw [size_push']; exact Nat.lt_succ_of_lt hb)]
    exact Heap.get?_push_of_some _ q
  obtain ⟨h1, h2, h3, h4⟩ := sortOk_says ok
  have hmem : ∀ p ∈ ps, p.1 ∈ ds := fun p hp => by rw [← hd]; exact List.mem_map.mpr ⟨p, hp, rfl⟩
  have hal : AllAlike (ps.map encP) := by
    intro d hd1 d' hd'
    obtain ⟨p, hp, rfl⟩ := List.mem_map.mp hd1
    obtain ⟨p', hp', rfl⟩ := List.mem_map.mp hd'
    exact h3 _ (hmem p hp) _ (hmem p' hp')
  refine Calls.call_function_entry kind_sorted plain_sorted entry_sorted (args_sorted1 _) ?_
  unfold Builtin.«sorted»
  refine wpAny_bind (m := checkCount "sorted" 1 1 _) (wpAny_pure ?_)
  refine wpAny_bind (hcol _ fun h' tk us kp e => ?_)
  have I1 : Inv X pins τ H { s with heap := h', toks := tk } := I.kept kp
  have hul : us.length = ps.length := e.length
  refine wpAny_bind (wpAny_newList ?_ (by rw [hul]; exact hz))
  have hoL : (h'.push (seqObj "list" us.toArray 0)).get? h'.objs.size = some (seqObj "list" us.toArray 0) := Heap.get?_push_size _ rfl
  show wpAny _ _ _ _ _ { s with heap := h'.push (seqObj "list" us.toArray 0), toks := tk }
  have er : EachIs (fun u b => ∃ as, Reads h' u (encP b) as) us ps := pv_reads I1 e fun p hp => pureL_mem h1 (hmem p hp)
  refine wpAny_bind (wpAny_holding (list_sort_data (s := { s with heap := h'.push (seqObj "list" us.toArray 0), toks := tk }) (enc := encP) (bs := ps) hoL e ?_ hal ?_ hz (fun p hp => ?_) fun out ho eo => ?_))
  · refine each_mono er fun u p m ⟨as, q⟩ => ⟨as, PyProof.Rows.Reads.keeps (fun _ _ z => Heap.get?_push_of_some _ z) q, fun z => ?_⟩
    obtain ⟨o, ho⟩ := rd_there _ _ _ (hal _ (List.mem_map.mpr ⟨p, m, rfl⟩) _ (List.mem_map.mpr ⟨p, m, rfl⟩)) q _ z
    exact absurd (Heap.lt_size ho) (Nat.lt_irrefl _)
  · refine h4.imp (fun h d hd1 => ?_) fun h d hd1 => ?_
    · obtain ⟨p, hp, rfl⟩ := List.mem_map.mp hd1
      exact h _ (hmem p hp)
    · obtain ⟨p, hp, rfl⟩ := List.mem_map.mp hd1
      exact h _ (hmem p hp)
  · have := depL_mem (hmem p hp)
    have hx : X.A.in1.units = X.A.units + 1 := rfl
    rw [hx]
    show X.A.units + 1 + 1 + p.1.py.depth < cLine
    rw [dep_py p.1 (pureL_mem h1 (hmem p hp))]; omega
  · obtain ⟨c, hc⟩ := sortedHeap_at (vs := us) (out := out.toArray) hoL
    refine wpAny_pure ⟨_, rfl, ?_⟩
    refine srt_post (s := { s with heap := h', toks := tk }) (h' := sortedHeap (h'.push (seqObj "list" us.toArray 0)) h'.objs.size us out.toArray) (tk := tk) I1 S (fun b u q => ?_) (Nat.le_refl _) hc hz eo hd k
    have hb : b < h'.objs.size := Heap.lt_size q
    rw [sortedHeap_old (Nat.ne_of_lt hb) (by rw [size_push']; exact Nat.lt_succ_of_lt hb)]
    exact Heap.get?_push_of_some _ q
end
end T
end
section
set_option Elab.async false
set_option linter.all false
set_option maxRecDepth 100000
set_option maxHeartbeats 1000000
/-! sorted(..), isinstance, list(..) that will change, methods. -/
namespace T
open PySem PySem.Spec PyProof.Rows PySem.W L2
section
variable {X : Cx}
theorem each_idx {α β : Type} {R : α → β → Prop} : ∀ {l : List α} {m : List β}, l.length = m.length → (∀ (j : Nat) a b, l[j]? = some a → m[j]? = some b → R a b) → EachIs R l m
  | [], [], _, _ => .nil
  | a :: l, b :: m, h, k => .cons (k 0 a b rfl rfl) (each_idx (by simpa using h) fun j x y e f => k (j + 1) x y (by simpa using e) (by simpa using f))
  | [], _ :: _, h, _ => by simp at h
  | _ :: _, [], h, _ => by simp at h
theorem trK_keys {K : PySem.W.Frag} {H : Hp} {G : Store} : ∀ {kvs : List (Key × D)} {kws : List (Key × V)}, TrK K H G kvs kws → kvs.map (·.1) = kws.map (·.1)
  | [], _, h => by cases h; rfl
  | (k, _) :: ds, _, ⟨v, ws, e, _, h⟩ => by subst e; simp [trK_keys h]
theorem trT_keys {K : PySem.W.Frag} {H : Hp} {G : Store} : ∀ {kvs : List (List Key × D)} {kws : List (List Key × V)}, TrT K H G kvs kws → kvs.map (·.1) = kws.map (·.1)
  | [], _, h => by cases h; rfl
  | (k, _) :: ds, _, ⟨v, ws, e, _, h⟩ => by subst e; simp [trT_keys h]
theorem paired_get {α β : Type} {F : α → β → Prop} : ∀ {l : List α} {m : List β} {j : Nat} {a : α}, Paired F l m → l[j]? = some a → ∃ b, m[j]? = some b ∧ F a b
  | _, _, 0, _, .cons h _, e => by cases e; exact ⟨_, rfl, h⟩
  | _, _, j + 1, _, .cons _ t, e => paired_get (j := j) t (by simpa using e)
/-- a tuple's items, gathered -/
theorem collect_tup {prog : Program} {w : World} {A : Around} {E : Value → Shared → Prop} {s : Shared} {l : Addr} {o : Obj} {n : Nat} {vs : List Value} {Q : List Value → Shared → Prop} (ho : s.heap.get? l = some o) (hc : o.cls = .type "tuple") (hd : o.data = .seq vs.toArray n) (hsz : vs.length ≤ sizeLine)
    (h : Q vs { s with heap := (s.heap.push (seqObj "list" #[] 0)).update s.heap.objs.size (Obj.mapSeq (· ++ vs.toArray)) }) : wpAny (model prog w) A (collect (.ref l)) Q E s := by
  unfold collect
  refine wpAny_bind (wpAny_runValue (codeAny_builtin entry_proto_collect' ?_))
  show wpAny _ _ (newList [] >>= fun x => again (.builtin "list.__iadd__" ⟨[x, .ref l], []⟩)) _ _ s
  refine wpAny_bind (wpAny_newList (wpAny_pure ⟨Code.quiet_builtin _ (by decide +kernel), codeAny_builtin entry_list_iadd' ?_⟩))
  show wpAny _ _ (Builtin.List.listExtendWith (.ref s.heap.objs.size) (.ref l) (.ref s.heap.objs.size)) _ _ _
  unfold Builtin.List.listExtendWith
  have h1 : (s.heap.push (seqObj "list" #[] 0)).get? l = some o := Heap.get?_push_of_some _ ho
  have h2 : (s.heap.push (seqObj "list" #[] 0)).get? s.heap.objs.size = some (seqObj "list" #[] 0) := Heap.get?_push_size _ rfl
  refine wpAny_bind (wpAny_typeOf (T := "tuple") ⟨o, h1, hc⟩ ?_)
  rw [if_pos (by simp)]
  refine wpAny_bind (listItems_at h1 hd (wpAny_bind (listItems_at (xs := #[]) (n := 0) h2 rfl ?_)))
  rw [if_neg (by simp)]
  refine wpAny_bind (listUpdate_at (xs := #[]) (n := 0) h2 rfl (wpAny_pure ?_) (Nat.zero_le _) (by show (#[] ++ vs.toArray).size ≤ sizeLine + 1; simp only [Array.size_append, List.size_toArray, List.length_nil]; omega))
  refine wpAny_bind (wpAny_load (get?_update_seq h2 _) ?_)
  show wpAny _ _ (pure ((#[] : Array Value) ++ vs.toArray).toList) Q E _
  rw [show ((#[] : Array Value) ++ vs.toArray).toList = vs by simp]
  exact wpAny_pure h
theorem upd_keeps {h : Heap} {vs : List Value} {b : Addr} {u : Obj} (e : h.get? b = some u) : ((h.push (seqObj "list" #[] 0)).update h.objs.size (Obj.mapSeq (· ++ vs.toArray))).get? b = some u :=
  (Heap.get?_update_other _ _ (Nat.ne_of_gt (Heap.lt_size e))).trans (Heap.get?_push_of_some _ e)
def rSrt (K : PySem.W.Frag) (m : Bool) : List V → Hp → VK → Prop := fun vs H Q => ∃ x d G ds q, vs = [x] ∧ Tr K H G d x ∧ Sto K H G ∧ srtOf (lk G d) = some ds ∧ sortOkS ds = true ∧ mkO m (.lst (sortD ds)) (.lst (sortD ds)) G q ∧ Kont K G H q Q
theorem cr_srt {m : Bool} (hc : X.calm = true) (hu : X.A.units + 64 < cLine) : CallR X (.builtin "sorted") (rSrt X.K m) := by
  intro pins s τ H vs us Q I r ⟨x, d, G, ds, q, ev, t, S, es, ok, hq, kk⟩
  subst ev
  obtain ⟨u, rfl, ru⟩ := vals1 r
  have hr := S.rb t
  generalize lk G d = y at es hr
  cases y with
  | lst l =>
    cases es
    obtain ⟨a, vs, rfl, hl, tl⟩ := hr
    cases ru
    exact srt_lst hu I S (.inl hl) tl ok fun ws n hn tw => mk_lst S hn tw hq kk
  | tup l =>
    cases es
    obtain ⟨a, vs, rfl, hl, tl⟩ := hr
    cases ru
    obtain ⟨its, rv, ⟨o, ho, hc', n, hd⟩, hz⟩ := I.tuple hl.sq
    have hl2 := tl.length
    refine srt_col (ps := ds.zip vs) hu I S (zip_fst hl2) (by rw [List.length_zip, hl2, Nat.min_self]; exact hz) ok (fun R hR => ?_) fun ws n hn tw => mk_lst S hn tw hq kk
    exact collect_tup ho hc' hd (by rw [← rv.length]; exact hz) (hR _ s.toks its (fun b u e => upd_keeps e) (pv_of tl rv))
  | dK l =>
    cases es
    obtain ⟨a, kws, rfl, hl, tl⟩ := hr
    cases ru
    obtain ⟨z, lo, kus, rel, dd⟩ := dk_rd I.hok hl
    obtain ⟨ep, hat⟩ := dd.dictAt
    have hlen : kus.length = kws.length := (Paired.length rel).symm
    refine srt_col (ps := kws.map fun p => (dKey p.1, kV p.1)) hu I S ?_ (by rw [List.length_map]; exact z) ok (fun R hR => ?_) fun ws n hn tw => mk_lst S hn tw hq kk
    · rw [List.map_map]
      have e := trK_keys tl
      have e2 : (kws.map fun p => dKey p.1) = (kws.map (·.1)).map dKey := by rw [List.map_map]; rfl
      have e3 : (l.map fun p => dKey p.1) = (l.map (·.1)).map dKey := by rw [List.map_map]; rfl
      show (kws.map fun p => dKey p.1) = l.map fun p => dKey p.1
      rw [e2, e3, e]
    · refine kdu_collect (A := X.A.in1) (kdl_dict (knd := mixKind X.prog X.w) (kvs := kus) (ep := ep) lo) (I.ok.hd hc) hat (by rw [hlen]; exact z) fun h' tk acc kp hacc => hR h' tk _ kp ?_
      refine each_idx (by rw [Array.length_toList, hacc.1, hlen, List.length_map]) fun j v p e1 e2 => ?_
      obtain ⟨k, x, f1, f2⟩ := hacc.2 j v (by rw [← Array.getElem?_toList]; exact e1)
      rw [List.getElem?_map] at e2
      cases e3 : kws[j]? with
      | none => rw [e3] at e2; cases e2
      | some pr =>
        rw [e3] at e2
        have e4 : (dKey pr.1, kV pr.1) = p := Option.some.inj e2
        have ek : pr.1 = k := by
          have g1 : (kws.map (·.1))[j]? = some pr.1 := by rw [List.getElem?_map, e3]; rfl
          have g2 : (kus.map (·.1))[j]? = some k := by rw [List.getElem?_map, f1]; rfl
          rw [rel.keys, g2] at g1
          exact (Option.some.inj g1).symm
        rw [← e4, ek]
        exact ⟨relV_key f2, by cases k <;> rfl⟩
  | dT l =>
    cases es
    obtain ⟨a, kws, rfl, hl, tl⟩ := hr
    cases ru
    obtain ⟨z, lo, ks, pr, o, es, ep, ho, hx, hdt, he, hn⟩ := (show ObjOk X.prog X.w H s.heap a (.dT kws) from hl.ok I.hok)
    have l1 : es.size = ks.length := size_of_entries he
    have l2 : kws.length = ks.length := Paired.length pr
    refine srt_col (ps := ks.map fun x => (dKeys x.1, V.ref x.2.1)) hu I S ?_ (by rw [List.length_map, ← l2]; exact z) ok (fun R hR => ?_) fun ws n hn tw => mk_lst S hn tw hq kk
    · rw [List.map_map]
      have e := trT_keys tl
      have e0 : kws.map (·.1) = ks.map (·.1) := by
        clear he hn hdt hx ho l1 l2 tl e z hl
        induction pr with
        | nil => rfl
        | cons a _ ih => simp [a.1, ih]
      have e2 : (ks.map fun p => dKeys p.1) = (ks.map (·.1)).map dKeys := by rw [List.map_map]; rfl
      have e3 : (l.map fun p => dKeys p.1) = (l.map (·.1)).map dKeys := by rw [List.map_map]; rfl
      show (ks.map fun p => dKeys p.1) = l.map fun p => dKeys p.1
      rw [e2, e3, e, e0]
    · refine kdu_collect (A := X.A.in1) (kdl_raw lo hx hdt) (I.ok.hd hc) ho (by rw [l1, ← l2]; exact z) fun h' tk acc kp hacc => hR h' tk _ kp ?_
      refine each_idx (by rw [Array.length_toList, hacc.1, l1, List.length_map]) fun j v p e1 e2 => ?_
      obtain ⟨en, f1, f2⟩ := hacc.2 j v (by rw [← Array.getElem?_toList]; exact e1)
      have f3 := entry_at he j
      rw [f1] at f3
      rw [List.getElem?_map] at e2
      cases e3 : ks[j]? with
      | none => rw [e3] at e2; cases e2
      | some b =>
        rw [e3] at e2 f3
        have e4 : (dKeys b.1, V.ref b.2.1) = p := Option.some.inj e2
        have e5 : en = entryOfKey (tupleKind (mixKind X.prog X.w)) b := Option.some.inj f3
        obtain ⟨pk, _, h1, h2, _⟩ : ∃ pk, kws[j]? = some pk ∧ pk.1 = b.1 ∧ H b.2.1 = some (.tup (pk.1.map kV)) ∧ True := by
          have gl : j < kws.length := by rw [l2]; exact (List.getElem?_eq_some_iff.mp e3).1
          obtain ⟨y, hy, q1, q2, _⟩ := paired_get pr (List.getElem?_eq_getElem gl)
          rw [e3] at hy; cases hy
          exact ⟨_, List.getElem?_eq_getElem gl, q1, q2, trivial⟩
        rw [← e4]
        refine ⟨by rw [f2, e5]; rfl, b.2.1, b.1.map kV, rfl, ⟨S.tup_free h2, by rw [h2, h1]⟩, kV_tr _⟩
  | _ => cases es
end
end T
end
section
set_option Elab.async false
set_option linter.all false
set_option maxRecDepth 100000
set_option maxHeartbeats 1000000
/-! sorted as a value, isinstance, list(..) that will change, methods, calls (printed with rest.py from T18.in). -/
namespace T
open PySem PySem.Spec PyProof.Rows L2
section
variable {X : Cx} {W : Wi} {e e2 : Expr} {d d2 : Den} {p pos : Pos}
theorem all_one (h : noStar e = true) : [e].all noStar = true := by simp [h]
theorem de_srt {m : Bool} (hc : X.calm = true) (hu : X.A.units + 64 < cLine) (hg : Gl X "sorted") (hm : X.mg "sorted" = none) (he : DE X W e d) (hs : noStar e = true) : DE X W (.Call (.Name "sorted" p) [e] [] pos) (sSorted m d) :=
  (pe_callB (cr_srt (m := m) hc hu) hg hm boot_sorted (pa_cons he pa_nil (star_cons hs)) (by decide) (by decide) (star_cons hs) (star_plain (by rfl))).imp fun τ H Q ⟨σ, G, q, A, S, c, k⟩ =>
    ⟨σ, G, _, A, S, c, fun v x G1 H1 e1 S1 t1 ⟨ds, es, ok, z⟩ => ⟨v, x, G1, ds, q, rfl, t1, S1, es, ok, z, k.ext e1⟩⟩
/-! list(..), a new list that may change -/
def rLm (K : PySem.W.Frag) : List V → Hp → VK → Prop := fun vs H Q => ∃ x d G y l q, vs = [x] ∧ Tr K H G d x ∧ Sto K H G ∧ biD .list [lk G d] = some y ∧ seqD y = some l ∧ (∀ p, G p = none → q (.ref p) (put G p (.lst l))) ∧ Kont K G H q Q
theorem lm_k {K : PySem.W.Frag} {H : Hp} {G : Store} {n : Addr} {vs : List V} {ds : List D} {q : DK} {Q : VK} (S : Sto K H G) (t : TrL K H G ds vs) (z : ∀ p, G p = none → q (.ref p) (put G p (.lst ds))) (k : Kont K G H q Q) (hn : H n = none) : Q (.ref n) (upd H n (.lst vs)) :=
  k _ (.ref n) _ _ (ext_newM hn) (S.newM (m := .lst ds) hn ⟨vs, upd_same, TrL.ext (ext_newM hn) _ _ t⟩) rfl (z n (S.no hn))
theorem cr_lm (hc : X.calm = true) : CallR X (.type "list") (rLm X.K) := by
  intro pins s τ H vs us Q I r ⟨x, d, G, y, l, q, ev, t, S, e, el, z, k⟩
  subst ev
  have hr := S.rb t
  generalize lk G d = m at e hr
  cases m with
  | lst ds =>
    obtain ⟨a, ws, rfl, hq, tq⟩ := hr
    cases e; cases el
    exact call_list_of pins s τ H _ _ Q I r ⟨_, ws, rfl, .inl (.inl hq), fun n => lm_k S tq z k⟩
  | tup ds =>
    obtain ⟨a, ws, rfl, hq, tq⟩ := hr
    cases e; cases el
    exact call_list_of pins s τ H _ _ Q I r ⟨_, ws, rfl, .inr hq.sq, fun n => lm_k S tq z k⟩
  | ktup ds =>
    obtain ⟨a, ws, rfl, hq, tq⟩ := hr
    cases e; cases el
    exact call_list_of pins s τ H _ _ Q I r ⟨_, ws, rfl, .inr hq.sq, fun n => lm_k S tq z k⟩
  | dK ds =>
    obtain ⟨a, ws, rfl, hq, tq⟩ := hr
    cases e; cases el
    exact call_listD hc pins s τ H _ _ Q I r ⟨_, ws, rfl, hq, fun n => lm_k S (keys_trK tq) z k⟩
  | dT ds =>
    obtain ⟨a, ws, rfl, hq, tq⟩ := hr
    cases e; cases el
    exact call_list_dT hc pins s τ H _ _ Q I r ⟨_, ws, rfl, hq, fun n bs hn hk => lm_k S (dT_keys S tq hk) z k hn⟩
  | _ => cases e
theorem de_listM (hc : X.calm = true) (hg : Gl X "list") (hm : X.mg "list" = none) (hv : bootBuiltins "list" = some (.type "list")) (he : DE X W e d) (hs : noStar e = true) : DE X W (.Call (.Name "list" p) [e] [] pos) (sBi .listM [d]) :=
  (pe_callTy (cr_lm hc) hg hm hv (pa_cons he pa_nil (star_cons hs)) (by decide) (by decide) (star_cons hs) (star_plain (by rfl))).imp fun τ H Q ⟨σ, G, q, A, S, c, k⟩ =>
    ⟨σ, G, _, A, S, c, fun v x G1 H1 e1 S1 t1 ⟨y, ey, l, el, z⟩ => ⟨v, x, G1, y, l, q, rfl, t1, S1, ey, el, z, k.ext e1⟩⟩
/-! isinstance(x, T) -/
/-- the built-in type of a tree -/
def tyD : D → Option String
  | .non => some "NoneType"
  | .bl _ => some "bool"
  | .int _ => some "int"
  | .str _ => some "str"
  | .tup _ => some "tuple"
  | .lst _ => some "list"
  | .dK _ => some "dict"
  | _ => none
theorem tyD_ok {K : PySem.W.Frag} {H : Hp} {G : Store} {y : D} {v : V} {T : String} (h : Rb K H G y v) (e : tyD y = some T) : TyX K H v (.type T) := by
  cases y with
  | non => cases e; have ev : v = .non := h; rw [ev]; exact .base .non
  | bl b => cases e; have ev : v = .bl b := h; rw [ev]; exact .base (.bl b)
  | int b => cases e; have ev : v = .int b := h; rw [ev]; exact .base (.int b)
  | str b => cases e; have ev : v = .str b := h; rw [ev]; exact .base (.str b)
  | tup l => cases e; obtain ⟨a, vs, rfl, q, _⟩ := h; exact .base (.tup q.2)
  | lst l =>
    cases e; obtain ⟨a, vs, rfl, q, _⟩ := h
    rcases q with q | ⟨o, q⟩
    · exact .base (.lst q)
    · exact .base (.frz q)
  | dK l =>
    cases e; obtain ⟨a, vs, rfl, q, _⟩ := h
    rcases q with q | ⟨o, q⟩
    · exact .base (.dK q)
    · exact .fDict q
  | _ => cases e
/-- which type a test is for -/
def isTy : Bi → Option String
  | .isInt => some "int"
  | .isBool => some "bool"
  | .isStr => some "str"
  | .isTup => some "tuple"
  | .isLst => some "list"
  | _ => none
theorem is_kit {b : Bi} {T : String} {y r : D} (hb : isTy b = some T) (h : biD b [y] = some r) : ∃ S k, tyD y = some S ∧ r = .bl k ∧ kitB S T = some k := by
  cases b <;> first | (cases hb; done) | skip
  all_goals
    cases hb
    cases y <;> first
      | (cases h; done)
      | (cases h; exact ⟨_, _, rfl, rfl, by decide +kernel⟩)
theorem cr_is {b : Bi} {T : String} (hb : isTy b = some T) : CallR X (.builtin "isinstance") (fun vs H Q => ∃ x d G r, vs = [x, .ty T] ∧ Tr X.K H G d x ∧ Sto X.K H G ∧ biD b [lk G d] = some r ∧ ∀ z, Tr X.K H G r z → Q z H) := call_isi.imp fun vs H Q ⟨x, d, G, r, ev, t, S, e, k⟩ => by
  obtain ⟨T0, v, h1, h2, h3⟩ := is_kit hb e
  subst h2
  exact ⟨x, .ty T, .type T0, .type T, v, ev, .ty T, tyD_ok (S.rb t) h1, kit_ty h3, k _ rfl⟩
theorem pa_ty {T : String} {x : Str} {q : Pos} (hg : Gl X x) (hm : X.mg x = none) (hv : bootBuiltins x = some (.type T)) (hn : x ≠ "__name__") (hd : (x == ("__debug__" : Str)) = false) : PE X (.Name x q) (tC (.ty T)) := pe_bltn hg hm hv rfl hn hd
theorem de_is2 {b : Bi} {T : String} {x : Str} {q : Pos} (hb : isTy b = some T) (hg : Gl X "isinstance") (hm : X.mg "isinstance" = none) (hgx : Gl X x) (hmx : X.mg x = none) (hv : bootBuiltins x = some (.type T)) (hn : x ≠ "__name__") (hd : (x == ("__debug__" : Str)) = false)
    (he : DE X W e d) (hs : noStar e = true) : DE X W (.Call (.Name "isinstance" p) [e, .Name x q] [] pos) (sBi b [d]) := by
  have hw : b ≠ .listM := fun z => by subst z; cases hb
  exact (pe_callB (cr_is hb) hg hm boot_isinstance (pa_cons he (pa_cons (pa_ty hgx hmx hv hn hd) pa_nil (star_cons rfl)) (star_cons hs)) (by decide) (by decide) (star_cons hs) (star_plain (by rfl))).imp fun τ H Q ⟨σ, G, q, A, S, c, k⟩ =>
    ⟨σ, G, _, A, S, c, fun v x G1 H1 e1 S1 t1 z => by
      have z : wBi b [x] G1 q := z
      rw [wBi_of hw] at z
      obtain ⟨r, er, z⟩ := z
      exact ⟨v, x, G1, r, rfl, t1, S1, er, fun u tu => k u r G1 H1 e1 S1 tu z⟩⟩
/-! methods -/
def noSuper : Expr → Bool
  | .Call _ _ _ _ => false
  | _ => true
theorem base_no {o : Expr} {f : Str} {env : Env} {w : Sem Value} (h : noSuper o = true) : attributeBase o f env w = w := by
  cases o <;> first | rfl | exact Bool.noConfusion h
theorem few_ok {e : Expr} {es : List Expr} {env : Env} {q : Pos} (h : (e :: es).all noStar = true) (hl : (e :: es).length < 29) :
    ((backTo q (starEach (e :: es) env)).all (fun x => !x.1) && (backToKw q (keywordEach [] env)).all (fun x => x.1.isSome) && decide ((e :: es).length + ([] : List Keyword).length + (if ([] : List Keyword).isEmpty then 0 else 1) < 30)) = true := by
  have h1 : (backTo q (starEach (e :: es) env)).all (fun x => !x.1) = true := by
    have z := star_plain (env := env) (pos := q) h
    rw [List.all_eq_not_any_not]
    simp only [Bool.not_not]
    rw [z]; rfl
  rw [h1]
  simp only [Bool.true_and, Bool.and_eq_true, decide_eq_true_eq]
  exact ⟨rfl, by simp; simpa using (show (e :: es).length < 30 by omega)⟩
/-- what a call of a method that changes a list needs -/
def rBmW (K : PySem.W.Frag) (b : Bm) (low : Bool) : V → List V → Hp → VK → Prop := fun x vs H Q => ∃ a ds G o r q, x = .ref a ∧ TrL K H G ds vs ∧ Sto K H G ∧ G a = some o ∧ bmW b o (if low then ds else ds.map (lk G)) = some r ∧ q r.1 (put G a r.2) ∧ Kont K G H q Q
theorem bm_append : MtR X "list.append" (rBmW X.K .append true) := fun pins s τ H x vs v us Q I rx rvs ⟨a, ds, G, o, r, q, ex, t, S, g, e, z, k⟩ => by
  subst ex
  simp only [if_true] at e
  cases o with
  | lst l =>
    match ds, e with
    | [d], e =>
      obtain ⟨v1, ws, rfl, t1, rfl⟩ := t
      simp only [bmW] at e
      split at e
      · rename_i hl
        cases e
        obtain ⟨xs, hH, tl⟩ := S a _ g
        refine mt_append pins s τ H _ _ v us Q I rx rvs ⟨a, xs, v1, rfl, rfl, hH, by rw [ln_eq, ← tl.length]; exact hl, ?_⟩
        exact k _ .non _ _ (ext_write g) (S.write (m := .lst (l ++ [d])) g ⟨_, upd_same, TrL.ext (ext_write g) _ _ (tl.append (.one t1))⟩) rfl z
      · cases e
    | [], e => cases e
    | _ :: _ :: _, e => simp [bmW] at e
  | _ => exact absurd e (by cases ds <;> simp [bmW])
theorem tyL_ok {K : PySem.W.Frag} {H : Hp} {G : Store} {x : D} {v : V} {b : Bm} (S : Sto K H G) (t : Tr K H G x v) (h : bmTy b (lk G x) = true) (hb : ∀ y, bmTy b y = true → ∃ l, y = .lst l) : tyV K "list" v H := by
  obtain ⟨l, hl⟩ := hb _ h
  have hr := S.rb t
  rw [hl] at hr
  obtain ⟨a, vs, rfl, hq, _⟩ := hr
  exact .inl ⟨rfl, vs, .inl hq⟩
theorem de_append {o e : Expr} {od ed : Den} {apos cpos : Pos} (ho : DE X W o od) (he : DE X W e ed) (hb : noSuper o = true) (hl : (apos.endLine == cpos.line) = true) (hs : noStar e = true) :
    DE X W (.Call (.Attribute o "append" apos) [e] [] cpos) (sBm od .append [ed]) :=
  (pe_bm PySem.F.plainAttrs_list PySem.F.slot_list_append PySem.F.type_list_append bm_append ho (pa_cons he pa_nil (star_cons hs)) (base_no hb) (few_ok (by simp [hs]) (by simp)) hl (star_cons hs) (star_plain rfl)).imp fun τ H Q ⟨σ, G, q, A, S, c, k⟩ => by
    refine ⟨σ, G, _, A, S, c, fun v x G1 H1 e1 S1 t1 ⟨ht, c1⟩ => ⟨tyL_ok S1 t1 ht (fun y hy => by cases y <;> first | exact ⟨_, rfl⟩ | cases hy), ?_⟩⟩
    refine ⟨σ, G1, _, A.ext e1, S1, c1, fun u y G2 H2 e2 S2 t2 ⟨a, m, ex, g, r, er, z⟩ => ?_⟩
    subst ex
    exact ⟨a, [y], G2, m, r, q, t1.ext e2, .one t2, S2, g, er, z, k.ext (e1.trans e2)⟩
end
end T
end
section
set_option Elab.async false
set_option linter.all false
set_option maxRecDepth 100000
set_option maxHeartbeats 3200000
/-! set(..) of a list of texts, gathered. -/
namespace T
open PySem PySem.Spec PyProof.Rows PySem.W PySem.Froz L2
section
variable {P : Program} {w : World} {A : Around} {E : Value → Shared → Prop} {s : Shared}
/-- the set at a has the texts l -/
structure TxR (P : Program) (w : World) (h : Heap) (a : Addr) (D : SD) (l : List Str) : Prop where
  ob : h.get? a = some (sObj "set" D)
  ok : TxOk P w D l
  ris : Ris D.2.2.place.toList
  led : w.params.followText "set-order" = true ∨ D.2.2.led = true
  nd : l.Nodup
theorem tail_ris {ep : Nat} {es : Array (Int × Value)} {t : SetTable} {wd : Bool} (r : Ris t.place.toList) : Ris (tailTx ep es t wd).2.2.place.toList := by
  unfold tailTx
  by_cases c : (!wd && t.tooFull) = true
  · rw [if_pos c]; exact relayAll_ris _ _ _
  · rw [if_neg c]; exact r
theorem tail_led {ep : Nat} {es : Array (Int × Value)} {t : SetTable} {wd : Bool} : (tailTx ep es t wd).2.2.led = t.led := by
  unfold tailTx
  by_cases c : (!wd && t.tooFull) = true
  · rw [if_pos c]; exact relayAll_led _ _ _
  · rw [if_neg c]
theorem plain_tab (t : SetTable) : (if t.plain = true then { t with plain := false } else t).place = t.place ∧ (if t.plain = true then { t with plain := false } else t).led = t.led := by
  by_cases c : t.plain = true
  · rw [if_pos c]; exact ⟨rfl, rfl⟩
  · rw [if_neg c]; exact ⟨rfl, rfl⟩
theorem addTx_ris {D : SD} {h : Int} {v : Value} (r : Ris D.2.2.place.toList) : Ris (addTx h v D).2.2.place.toList := by
  unfold addTx
  refine tail_ris ?_
  rw [(plain_tab _).1]
  exact layNew_ris _ _ _ _ r
theorem addTx_led {D : SD} {h : Int} {v : Value} : (addTx h v D).2.2.led = D.2.2.led := by
  unfold addTx
  rw [tail_led, (plain_tab _).2]
  exact layNew_led _ _ _ _
/-- a text is added, or it was there -/
theorem txt_addH {a : Addr} {D : SD} {l : List Str} {k : Str} {u : Tok} {Q : Bool → Shared → Prop} (R : TxR P w s.heap a D l) (hb : l.length + 1 < scanBound)
    (h1 : k ∈ l → Q false s) (h2 : k ∉ l → ∀ h' D', (∀ b, b ≠ a → h'.get? b = s.heap.get? b) → TxR P w h' a D' (k :: l) → Q true { s with heap := h' }) :
    wpAny (model P w) A (setAddHashed a (.str k u) (hashStr w k)) Q E s := by
  by_cases hk : k ∈ l
  · obtain ⟨es, ep, t⟩ := D
    have hd : (sObj "set" (es, ep, t)).data = .set es ep t := rfl
    have hsz : es.size = l.length := R.ok.sz
    have hel : ElemsOf (strKind P w) es.toList := R.ok.el
    unfold setAddHashed setAddHashedIn
    refine wpAny_holding (wpAny_bind (wpAny_setState_of R.ob hd R.ok.fit ?_))
    dsimp only
    rw [byScan_of rfl (by omega) hel]
    simp only [↓reduceIte]
    unfold setAddByScan
    refine wpAny_bind (wpAny_bind (wpAny_rule (wpAny_bind (wpAny_setScan_of (knd := strKind P w) (k := k) (is_str k u) R.ob hd R.ok.fit hel ?_))))
    obtain ⟨e, he, hp⟩ := (R.ok.mem k).mp hk
    cases hf : List.findIdx? (fun e => (strKind P w).is k e.2) es.toList with
    | none =>
      have c := List.findIdx?_eq_none_iff.mp hf e he
      rw [hp] at c; cases c
    | some j =>
      dsimp only
      exact wpAny_pure (wpAny_pure (h1 hk))
  · refine add_x R.ob R.ok hk hb (h2 hk _ _ (fun b hne => Heap.get?_update_other _ _ (Ne.symm hne)) ⟨get_upd _ R.ob rfl, add_ok u R.ok, addTx_ris R.ris, R.led.imp id fun z => by rw [addTx_led]; exact z, List.nodup_cons.mpr ⟨hk, R.nd⟩⟩)
/-- what has been met of xs -/
structure MetT (xs : List Str) (i : Nat) (l : List Str) : Prop where
  sub : ∀ k ∈ l, k ∈ xs.take i
  all : ∀ k ∈ xs.take i, k ∈ l
  len : l.length ≤ i
theorem MetT.zero (xs : List Str) : MetT xs 0 [] := ⟨fun _ h => (by cases h), fun _ h => (by simp at h), Nat.le_refl _⟩
theorem take_nx {xs : List Str} {i : Nat} {x : Str} (h : xs[i]? = some x) : xs.take (i + 1) = xs.take i ++ [x] := by
  rw [List.take_add_one, h]; rfl
theorem MetT.same {xs l : List Str} {i : Nat} {x : Str} (g : MetT xs i l) (h : xs[i]? = some x) (m : x ∈ l) : MetT xs (i + 1) l := by
  refine ⟨fun k hk => ?_, fun k hk => ?_, Nat.le_succ_of_le g.len⟩
  · rw [take_nx h]; exact List.mem_append_left _ (g.sub k hk)
  · rw [take_nx h] at hk
    rcases List.mem_append.mp hk with q | q
    · exact g.all k q
    · rw [List.mem_singleton.mp q]; exact m
theorem MetT.more {xs l : List Str} {i : Nat} {x : Str} (g : MetT xs i l) (h : xs[i]? = some x) : MetT xs (i + 1) (x :: l) := by
  refine ⟨fun k hk => ?_, fun k hk => ?_, by rw [List.length_cons]; exact Nat.succ_le_succ g.len⟩
  · rw [take_nx h]
    rcases List.mem_cons.mp hk with q | q
    · rw [q]; simp
    · exact List.mem_append_left _ (g.sub k q)
  · rw [take_nx h] at hk
    rcases List.mem_append.mp hk with q | q
    · exact List.mem_cons_of_mem _ (g.all k q)
    · rw [List.mem_singleton.mp q]; exact List.mem_cons_self
/-- the loop that fills the set -/
theorem txt_loop {I : Addr} {fp wr : List Addr} {Gs : Array GenState → Array GenState → Prop} {n : Nat} {Pv : Nat → Value → Prop} {St : Nat → Shared → Prop} {R : Result → Shared → Prop}
    (Wk : WalksS P w A.in1 I fp wr Gs n Pv St) (S : Addr) (hSf : S ∉ fp) (xs : List Str) (hn : n = xs.length) (hfew : xs.length < 4000) (hval : ∀ i v, Pv i v → ∃ x t, xs[i]? = some x ∧ v = .str x t)
    (h0 : Heap) (hS0 : h0.get? S = none) (hw0 : ∀ b ∈ wr, h0.get? b = none) :
    ∀ (k i : Nat) (s : Shared), n - i = k → i ≤ n → St i s → (∀ b o, h0.get? b = some o → s.heap.get? b = some o) → (∃ D l, TxR P w s.heap S D l ∧ MetT xs i l) →
      (∀ s' D l, Moved (S :: wr) Gs s s' → TxR P w s'.heap S D l → MetT xs n l → (∀ b o, h0.get? b = some o → s'.heap.get? b = some o) → R (.ok (.ret .none)) s') →
      codeAny (model P w) A (.builtin "set.update.loop" ⟨[.ref S, .ref I], []⟩) R s := by
  have hSw : S ∉ wr := fun h => hSf (Wk.sub _ h)
  have hsub : ∀ b ∈ wr, b ∈ S :: wr := fun b hb => List.mem_cons_of_mem _ hb
  have kp : ∀ {s s' : Shared}, Moved wr Gs s s' → (∀ b o, h0.get? b = some o → s.heap.get? b = some o) → ∀ b o, h0.get? b = some o → s'.heap.get? b = some o := fun hm q b o e =>
    hm.heap b o (fun hb => by rw [hw0 b hb] at e; cases e) (q b o e)
  have kR : ∀ {s s' : Shared} {D : SD} {l : List Str}, Moved wr Gs s s' → TxR P w s.heap S D l → TxR P w s'.heap S D l := fun hm r => ⟨hm.heap S _ hSw r.ob, r.ok, r.ris, r.led, r.nd⟩
  intro k
  induction k with
  | zero =>
    intro i s hk hi st hkp ⟨D, l, r, g⟩ hR
    have e : i = n := by omega
    subst e
    refine codeAny_builtin PyProof.Rows.F.entry_set_update_loop ?_
    rw [Around.under_plainId PyProof.Rows.F.plain_set_update_loop _]
    show wpAny _ A.in1 (pyNext (.ref I) >>= _) _ _ s
    refine wpAny_bind (Wk.done s _ _ st fun s' hm => ?_)
    show wpAny _ A.in1 (ret Value.none) _ _ s'
    exact wpAny_pure (hR s' D l (hm.mono hsub) (kR hm r) g (kp hm hkp))
  | succ k ih =>
    intro i s hk hi st hkp ⟨D, l, r, g⟩ hR
    have lt : i < n := by omega
    refine codeAny_builtin PyProof.Rows.F.entry_set_update_loop ?_
    rw [Around.under_plainId PyProof.Rows.F.plain_set_update_loop _]
    show wpAny _ A.in1 (pyNext (.ref I) >>= _) _ _ s
    refine wpAny_bind (Wk.item i s _ _ lt st fun v s1 hP st1 hm => ?_)
    obtain ⟨x, t, hx, rfl⟩ := hval i v hP
    have hkp1 := kp hm hkp
    have r1 := kR hm r
    show wpAny _ A.in1 (holding [Value.str x t] (setAdd S (.str x t)) >>= _) _ _ s1
    refine wpAny_bind (wpAny_holding ?_)
    unfold setAdd
    refine wpAny_holding (wpAny_bind ((strKind P w).pyHash (is_str x t) ?_))
    have r2 : TxR P w ({ s1 with toks := s1.toks + 1 } : Shared).heap S D l := r1
    refine txt_addH (s := { s1 with toks := s1.toks + 1 }) r2 (by have := g.len; unfold scanBound; omega) (fun m => ?_) fun m h' D' hs r3 => ?_
    · refine wpAny_pure ⟨plainId_quiet PyProof.Rows.F.plain_set_update_loop _, ih (i + 1) _ (by omega) lt (Wk.frame _ s1 _ _ st1 (Nat.le_add_right _ _) fun b hb o e => e) hkp1 ⟨D, l, r2, g.same hx m⟩ fun s2 D2 l2 hm2 q1 q2 q3 => ?_⟩
      exact hR s2 D2 l2 (Moved.trans Wk.gtrans ((hm.mono hsub).then_heap (Nat.le_add_right _ _) fun b o hb e => e) hm2) q1 q2 q3
    · have hkp2 : ∀ b o, h0.get? b = some o → h'.get? b = some o := fun b o e => (hs b (fun z => by rw [z, hS0] at e; cases e)).trans (hkp1 b o e)
      refine wpAny_pure ⟨plainId_quiet PyProof.Rows.F.plain_set_update_loop _, ih (i + 1) _ (by omega) lt (Wk.frame _ s1 _ _ st1 (Nat.le_add_right _ _) fun b hb o e => ?_) hkp2 ⟨D', x :: l, r3, g.more hx⟩ fun s2 D2 l2 hm2 q1 q2 q3 => ?_⟩
      · rw [hs b (fun h : b = S => hSf (by rw [← h]; exact hb))]; exact e
      · exact hR s2 D2 l2 (Moved.trans Wk.gtrans ((hm.mono hsub).then_heap (Nat.le_add_right _ _) fun b o hb e => by rw [hs b (fun h : b = S => hb (by rw [h]; exact List.mem_cons_self))]; exact e) hm2) q1 q2 q3
end
end T
end
section
set_option Elab.async false
set_option linter.all false
set_option maxRecDepth 100000
set_option maxHeartbeats 6400000
/-! set(xs), xs a list of texts; sorted(set(..)). -/
namespace T
open PySem PySem.Spec PyProof.Rows PySem.W PySem.Froz L2
abbrev freshSet (w : World) : Obj := { cls := .type "set", dict := none, data := .set #[] 0 (.fresh 0 0 (!w.params.followText "set-order")) }
section
variable {P : Program} {w : World} {A : Around} {E : Value → Shared → Prop} {s : Shared}
theorem txt_fresh {h : Heap} {a : Addr} (e : h.get? a = some (freshSet w)) : TxR P w h a (#[], 0, .fresh 0 0 (!w.params.followText "set-order")) [] where
  ob := e
  ok := .nil (by rfl)
  ris := List.Pairwise.nil
  led := by
    cases q : w.params.followText "set-order" with
    | true => exact .inl rfl
    | false => exact .inr rfl
  nd := .nil
/-- set(xs) -/
theorem txt_set {l : Addr} {items : Array Value} {xs : List Str} {Q : Value → Shared → Prop} (hh : A.handled = none) (hl : s.heap.IsList l items) (hi : StrsAre items.toList xs) (hfew : xs.length < 4000)
    (h : ∀ (h' : Heap) (tk : Nat) D m, TxR P w h' s.heap.objs.size D m → MetT xs xs.length m → (∀ b o, s.heap.get? b = some o → h'.get? b = some o) → Q (.ref s.heap.objs.size) { s with heap := h', toks := tk }) :
    wpAny (model P w) A (call (.type "set") [.ref l]) Q E s := by
  have hsz : xs.length = items.size := by rw [← StrsAre.len_eq hi, Array.length_toList]
  obtain ⟨c, tl, hmro⟩ := PySem.F.called_set.mro
  have hmade := PySem.F.called_set.made
  have hsub := PySem.F.called_set.sub
  refine wpAny_call (codeAny_of_tree ?_)
  show wpAny _ _ (callAny (.type "set") _) _ _ _
  refine wpAny_pure ⟨Code.quiet_builtin _ (by decide +kernel), codeAny_builtin PySem.F.entry_type_call ?_⟩
  rw [Around.under_plain (weight_type_call_type "set" [.ref l] []) rfl]
  have h1 := PySem.F.called_set.notType
  have h2 := PySem.F.called_set.canCreate
  have hct := PySem.F.typeCall_set_1 (.ref l)
  repeat (any_goals (first | assumption | wp_step))
  refine codeAny_mono (code_set_led1 (.ref l) (E := E) (Q₁ := fun obj t => obj = .ref s.heap.objs.size ∧ t = { s with heap := s.heap.push (freshSet w) }) ⟨rfl, rfl⟩) fun r t hr => ?_
  cases r with
  | error e => exact hr
  | ok fl =>
    cases fl with
    | ret obj =>
      obtain ⟨rfl, rfl⟩ := hr
      have hS : (s.heap.push (freshSet w)).get? s.heap.objs.size = some (freshSet w) := Heap.get?_push_size _ rfl
      have hT : Shared.TypeIs { s with heap := s.heap.push (freshSet w) } (.ref s.heap.objs.size) "set" := ⟨_, hS, rfl⟩
      have hli := PySem.F.called_set.init.lookup
      have hbi := PySem.F.called_set.init.bind (.ref s.heap.objs.size)
      repeat (any_goals (first | assumption | wp_step))
      refine codeAny_mono (codeAny_call_builtin (R := wants (fun r t => r = .none ∧ ∃ h' tk D m, t = { s with heap := h', toks := tk } ∧ TxR P w h' s.heap.objs.size D m ∧ MetT xs xs.length m ∧ ∀ b o, s.heap.get? b = some o → h'.get? b = some o) E)
        PySem.F.called_set.init.plain PySem.F.entry_set_init (check_set_init_1 hT ?_)) fun r2 t2 hr2 => ?_
      · obtain ⟨⟨oc, od, ox, os⟩, hol, hcl, nl, hdl⟩ := hl
        simp only at hcl hdl
        subst hcl; subst hdl
        have hol' : (s.heap.push (freshSet w)).get? l = some { cls := .type "list", dict := od, data := .seq items nl, slots := os } := Heap.get?_push_of_some _ hol
        have f1 := PySem.F.sub_list_set
        have f2 := PySem.F.sub_list_frozenset
        have f3 : (Value.type "list" == Value.type "dict") = false := by decide
        have hl1 : (s.heap.push (freshSet w)).IsList l items := ⟨_, hol', rfl, nl, rfl⟩
        unfold Builtin.«set.__init__» noKeywords Builtin.Frozenset.updateFrom
        generalize hPI : pyIter = PI
        wp_walk
        subst hPI
        refine wpAny_pyIter_list hl1 (wpAny_bind (wpAny_runValue ?_))
        have hlS : l < s.heap.objs.size := Heap.lt_size hol
        have hh3 : A.in1.in1.in1.handled = none := by simp [hh]
        have hz : (s.heap.push (freshSet w)).objs.size = s.heap.objs.size + 1 := Heap.size_push ..
        have hneI : l ≠ (s.heap.push (freshSet w)).objs.size := by rw [hz]; exact Nat.ne_of_lt (Nat.lt_succ_of_lt hlS)
        have hSf : s.heap.objs.size ∉ [(s.heap.push (freshSet w)).objs.size, l] := by
          rw [hz]
          simp only [List.mem_cons, List.not_mem_nil, or_false, not_or]
          exact ⟨Nat.ne_of_lt (Nat.lt_succ_self _), Nat.ne_of_gt hlS⟩
        have none_of : ∀ b, s.heap.objs.size ≤ b → s.heap.get? b = none := fun b hb => by
          cases q : s.heap.get? b with
          | none => rfl
          | some o => exact absurd (Nat.lt_of_lt_of_le (Heap.lt_size q) hb) (Nat.lt_irrefl _)
        have hval : ∀ (i : Nat) (v : Value), items[i]? = some v → ∃ x t, xs[i]? = some x ∧ v = .str x t := fun i v hv => by
          have hv' : items.toList[i]? = some v := by rw [Array.getElem?_toList]; exact hv
          obtain ⟨t, ht⟩ := SS.strs_at hi i v hv'
          have hlt : i < xs.length := by rw [hsz]; exact (Array.getElem?_eq_some_iff.mp hv).1
          exact ⟨_, t, List.getElem?_eq_getElem hlt, by rw [ht, List.getD_eq_getElem?_getD, List.getElem?_eq_getElem hlt]; rfl⟩
        refine txt_loop ((Walks.list hh3 _ l hneI items).toS) s.heap.objs.size hSf xs hsz.symm hfew hval s.heap (none_of _ (Nat.le_refl _)) (fun b hb => none_of b (by rw [List.mem_singleton.mp hb, hz]; exact Nat.le_succ _)) (items.size - 0) 0 _ (by omega) (Nat.zero_le _)
          ⟨⟨_, Heap.get?_push_size _ rfl, rfl, rfl⟩, hl1.push _⟩ (fun b o e => Heap.get?_push_of_some _ (Heap.get?_push_of_some _ e)) ⟨_, [], txt_fresh (Heap.get?_push_of_some _ hS), .zero xs⟩ fun t D m hm r g hk => ?_
        obtain ⟨h', g2, d2, tk, o2⟩ := t
        have eg : g2 = s.gens := hm.gens
        have ed : d2 = s.drawn := hm.drawn
        have eo : o2 = s.os := hm.os
        subst eg; subst ed; subst eo
        show wpAny _ _ _ _ _ _
        refine wpAny_pure ?_
        show wpAny _ _ (ret Value.none) _ _ _
        rw [← hsz] at g
        exact wpAny_pure ⟨rfl, h', tk, D, m, rfl, r, g, hk⟩
      · cases r2 with
        | error e => exact hr2
        | ok fl2 =>
          cases fl2 with
          | ret r =>
            obtain ⟨rfl, h', tk, D, m, rfl, r, g, hk⟩ := hr2
            repeat (any_goals (first | assumption | wp_step))
            exact h _ _ _ _ r g hk
          | _ => exact hr2.elim
    | _ => exact hr.elim
end
end T
end
section
set_option Elab.async false
set_option linter.all false
set_option maxRecDepth 100000
set_option maxHeartbeats 3200000
/-! sorted(set(..)) over trees. -/
namespace T
open PySem PySem.Spec PyProof.Rows PySem.W PySem.Froz L2
section
variable {X : Cx} {W : Wi} {pins : List (Addr × Obj)} {s : Shared} {τ : L2.St} {H : Hp} {G : Store}
theorem mapM_strs {K : PySem.W.Frag} {H : Hp} {G : Store} : ∀ {ds : List D} {xs : List Str} {vs : List V}, ds.mapM strOf = some xs → TrL K H G ds vs → vs = xs.map V.str
  | [], is, _, e, h => by cases h; simp at e; subst e; rfl
  | d :: ds, is, _, e, ⟨v, ws, q, t, h⟩ => by
    subst q
    rw [List.mapM_cons] at e
    cases h1 : strOf d with
    | none => rw [h1] at e; cases e
    | some k =>
      cases h2 : ds.mapM strOf with
      | none => rw [h1, h2] at e; cases e
      | some r =>
        rw [h1, h2] at e
        have e' : is = k :: r := by simpa using e.symm
        subst e'
        cases d with
        | str j => cases h1; have ev : v = .str k := t; rw [ev, mapM_strs h2 h]; rfl
        | _ => cases h1
theorem strs_of : ∀ {ys : List Str} {us : List Value}, Vals (ys.map V.str) us → StrsAre us ys
  | [], _, .nil => .nil
  | y :: ys, _, .cons r t => by obtain ⟨k, rfl⟩ := r; exact .cons y k (strs_of t)
theorem pure_strs : ∀ ys : List Str, D.pureL (ys.map D.str) = true ∧ D.depL (ys.map D.str) = 0
  | [] => ⟨rfl, rfl⟩
  | y :: ys => by
    obtain ⟨a, b⟩ := pure_strs ys
    constructor
    · rw [List.map_cons, D.pureL, a]; rfl
    · rw [List.map_cons, D.depL, b]; rfl
theorem sortOk_strs (ys : List Str) : sortOk (ys.map D.str) = true := by
  unfold sortOk
  simp only [Bool.and_eq_true, Bool.or_eq_true, decide_eq_true_eq, List.all_eq_true]
  refine ⟨⟨⟨(pure_strs ys).1, by rw [(pure_strs ys).2]; omega⟩, fun x hx y hy => ?_⟩, .inr fun x hx => ?_⟩
  · obtain ⟨a, _, rfl⟩ := List.mem_map.mp hx
    obtain ⟨b, _, rfl⟩ := List.mem_map.mp hy
    simp [D.py, alike]
  · obtain ⟨a, _, rfl⟩ := List.mem_map.mp hx
    rfl
theorem perm_of_sub {α : Type} [BEq α] [LawfulBEq α] : ∀ {l m : List α}, l.Nodup → (∀ x ∈ l, x ∈ m) → m.length = l.length → m.Perm l
  | [], m, _, _, h => by
    have e : m = [] := List.length_eq_zero_iff.mp (by simpa using h)
    subst e; exact .nil
  | a :: l, m, nd, hs, hl => by
    rw [List.nodup_cons] at nd
    have ha := hs a (by simp)
    refine (List.perm_cons_erase ha).trans (.cons a (perm_of_sub nd.2 (fun x hx => ?_) ?_))
    · exact (List.mem_erase_of_ne (fun e => nd.1 (by rw [← e]; exact hx))).mpr (hs x (by simp [hx]))
    · rw [List.length_erase_of_mem ha, hl]; rfl
/-- the texts that stand in a set's rows -/
theorem rows_strs {P : Program} {w : World} : ∀ {es : List (Int × Value)}, ElemsOf (strKind P w) es → ∃ ks : List Str, StrsAre (es.map (·.2)) ks ∧ (∀ k, k ∈ ks ↔ ∃ e ∈ es, (strKind P w).is k e.2 = true)
  | [], _ => ⟨[], .nil, fun k => by simp⟩
  | e :: es, h => by
    obtain ⟨ks, r, m⟩ := rows_strs (es := es) fun x hx => h x (by simp [hx])
    obtain ⟨⟨k, hk, _⟩, _⟩ := h e (by simp)
    obtain ⟨t, ht⟩ := Value.isStrOf_shape (x := k) (v := e.2) hk
    refine ⟨k :: ks, by rw [List.map_cons, ht]; exact .cons k t r, fun j => ?_⟩
    rw [List.mem_cons, m j]
    constructor
    · rintro (rfl | ⟨x, hx, q⟩)
      · exact ⟨e, by simp, hk⟩
      · exact ⟨x, by simp [hx], q⟩
    · rintro ⟨x, hx, q⟩
      rcases List.mem_cons.mp hx with z | z
      · subst z; exact .inl ((strKind P w).inj _ _ _ q hk)
      · exact .inr ⟨x, z, q⟩
theorem strs_perm {us vs : List Value} {ks : List Str} (r : StrsAre us ks) (p : vs.Perm us) : ∃ js, StrsAre vs js ∧ js.Perm ks := by
  induction p generalizing ks with
  | nil => cases r; exact ⟨[], .nil, .nil⟩
  | cons x _ ih =>
    cases r with
    | cons y t r => obtain ⟨js, a, b⟩ := ih r; exact ⟨_, .cons y t a, .cons y b⟩
  | swap x y l =>
    cases r with
    | cons a t r => cases r with
      | cons b t2 r => exact ⟨_, .cons b t2 (.cons a t r), .swap _ _ _⟩
  | trans _ _ ih1 ih2 =>
    obtain ⟨js, a, b⟩ := ih2 r
    obtain ⟨is, c, d⟩ := ih1 a
    exact ⟨is, c, d.trans b⟩
theorem each_strs : ∀ {us : List Value} {ks : List Str}, StrsAre us ks → EachIs (PvR X H G) us (ks.map fun k => (D.str k, V.str k))
  | _, _, .nil => .nil
  | _, _, .cons x t r => .cons ⟨⟨t, rfl⟩, rfl⟩ (each_strs r)
/-- sorted of a set of texts -/
theorem srt_txt {a : Addr} {D0 : SD} {l : List Str} {Q : VK} (hc : X.A.handled = none) (hu : X.A.units + 64 < cLine) (I : Inv X pins τ H s) (S : Sto X.K H G) (R : TxR X.prog X.w s.heap a D0 l) (hz : l.length < 4000)
    (k : ∀ (ys : List Str) vs n, ys.Nodup → (∀ k, k ∈ ys ↔ k ∈ l) → H n = none → TrL X.K H G (sortD (ys.map D.str)) vs → lQ Q (.ref n) (upd H n (.lst vs))) : wpAny (model X.prog X.w) X.A (call (.builtin "sorted") [.ref a]) (EP X pins τ Q) X.xe s := by
  have hsz : D0.1.size = l.length := R.ok.sz
  obtain ⟨ks, r1, m1⟩ := rows_strs R.ok.el
  have kl : ks.length = l.length := by rw [← hsz, ← r1.len_eq, List.length_map, Array.length_toList]
  have pk : ks.Perm l := perm_of_sub R.nd (fun x hx => (m1 x).mpr ((R.ok.mem x).mp hx)) kl
  refine Calls.call_function_entry kind_sorted plain_sorted entry_sorted (args_sorted1 _) ?_
  unfold Builtin.«sorted»
  refine wpAny_bind (m := checkCount "sorted" 1 1 _) (wpAny_pure ?_)
  refine wpAny_bind (collect_set (A := X.A.in1) hc ⟨_, R.ob, rfl, rfl⟩ R.ok.fit (by unfold scanBound; omega) R.ris R.led fun s' us kp hle hg ho pm => ?_)
  obtain ⟨ys, ry, py⟩ := strs_perm r1 pm
  have I1 : Inv X pins τ H s' := I.call' (ch := []) ho (Un.kept kp) (I.hok.kept kp) (by rw [hg]; exact I.bare) (fun _ z => nomatch z)
  have pl : ys.Perm l := py.trans pk
  have e : EachIs (PvR X H G) us (ys.map fun k => (D.str k, V.str k)) := each_strs ry
  have hm : (ys.map fun k => (D.str k, V.str k)).map (·.1) = ys.map D.str := by rw [List.map_map]; rfl
  obtain ⟨h1, h2, h3, h4⟩ := sortOk_says (sortOk_strs ys)
  have hz' : (ys.map fun k => ((D.str k, V.str k) : PV)).length ≤ sizeLine := by rw [List.length_map, pl.length_eq, sizeLine_eq]; omega
  have hal : AllAlike ((ys.map fun k => ((D.str k, V.str k) : PV)).map encP) := by
    intro d hd1 d' hd'
    simp only [List.map_map, List.mem_map] at hd1 hd'
    obtain ⟨p, hp, rfl⟩ := hd1
    obtain ⟨p', hp', rfl⟩ := hd'
    exact h3 _ (List.mem_map.mpr ⟨p, hp, rfl⟩) _ (List.mem_map.mpr ⟨p', hp', rfl⟩)
  have hul : us.length = ys.length := by rw [ry.len_eq]
  have hus : us.length ≤ sizeLine := by rw [hul]; rw [List.length_map] at hz'; exact hz'
  refine wpAny_bind (wpAny_newList ?_ hus)
  have hoL : (s'.heap.push (seqObj "list" us.toArray 0)).get? s'.heap.objs.size = some (seqObj "list" us.toArray 0) := Heap.get?_push_size _ rfl
  show wpAny _ _ _ _ _ { s' with heap := s'.heap.push (seqObj "list" us.toArray 0) }
  have er := pv_reads I1 e fun p hp => by
    obtain ⟨q, _, rfl⟩ := List.mem_map.mp hp
    rfl
  refine wpAny_bind (wpAny_holding (list_sort_data (s := { s' with heap := s'.heap.push (seqObj "list" us.toArray 0) }) (enc := encP) (bs := ys.map fun k => (D.str k, V.str k)) hoL e ?_ hal ?_ hz' (fun p hp => ?_) fun out ho' eo => ?_))
  · refine each_mono er fun u p m ⟨as, q⟩ => ⟨as, PyProof.Rows.Reads.keeps (fun _ _ z => Heap.get?_push_of_some _ z) q, fun z => ?_⟩
    obtain ⟨o, ho2⟩ := rd_there _ _ _ (hal _ (List.mem_map.mpr ⟨p, m, rfl⟩) _ (List.mem_map.mpr ⟨p, m, rfl⟩)) q _ z
    exact absurd (Heap.lt_size ho2) (Nat.lt_irrefl _)
  · refine .inr fun d hd => ?_
    simp only [List.map_map, List.mem_map] at hd
    obtain ⟨p, hp, rfl⟩ := hd
    exact ⟨by simp [encP, D.py], fun xs => by simp [encP, D.py]⟩
  · obtain ⟨q, _, rfl⟩ := List.mem_map.mp hp
    have hx : X.A.in1.units = X.A.units + 1 := rfl
    rw [hx]
    show X.A.units + 1 + 1 + 0 < cLine
    omega
  · obtain ⟨c, hcc⟩ := sortedHeap_at (vs := us) (out := out.toArray) hoL
    refine wpAny_pure ⟨_, rfl, ?_⟩
    refine srt_post (s := s') (h' := sortedHeap (s'.heap.push (seqObj "list" us.toArray 0)) s'.heap.objs.size us out.toArray) (tk := s'.toks) I1 S (fun b u q => ?_) (Nat.le_refl _) hcc hz' eo hm fun vs n hn t => k ys vs n (pl.nodup_iff.mpr R.nd) (fun k => pl.mem_iff) hn t
    have hb : b < s'.heap.objs.size := Heap.lt_size q
    rw [sortedHeap_old (Nat.ne_of_lt hb) (by rw [size_push']; exact Nat.lt_succ_of_lt hb)]
    exact Heap.get?_push_of_some _ q
theorem de_srtSet {m : Bool} {e : Expr} {d : Den} {p p2 pos pos2 : Pos} (hc : X.calm = true) (hu : X.A.units + 64 < cLine) (hg : Gl X "sorted") (hm : X.mg "sorted" = none) (hg2 : Gl X "set") (hm2 : X.mg "set" = none) (he : DE X W e d) (hs : noStar e = true) :
    DE X W (.Call (.Name "sorted" p) [.Call (.Name "set" p2) [e] [] pos2] [] pos) (sSortedSet m d) := by
  refine ⟨fun pins s τ H Q I ⟨σ, G, q, A, S, c, k⟩ => ?_⟩
  refine Call_ (ld_blt I hg hm boot_sorted ?_)
  refine PyProof.Rows.callWith_builtin1 (PyProof.Rows.args_cons ?_ rfl) rfl rfl
  refine Call_ (ld_blt I hg2 hm2 (show bootBuiltins "set" = some (.type "set") by decide +kernel) ?_)
  refine PyProof.Rows.callWith_type1 (PyProof.Rows.args_cons (thn (he.run pins s τ H (fun x H1 => ∃ G1 d1, Ext G H G1 H1 ∧ Sto X.K H1 G1 ∧ Tr X.K H1 G1 d1 x ∧ oq (lstOf (lk G1 d1)) fun ds => oq (ds.mapM strOf) fun xs => xs.length < 4000 ∧
    ∀ ys : List Str, ys.Nodup → (∀ k, k ∈ ys ↔ k ∈ xs) → mkO m (.lst (sortD (ys.map D.str))) (.lst (sortD (ys.map D.str))) G1 q) I ⟨σ, G, _, A, S, c, fun v x G1 H1 e1 S1 t1 z => ⟨G1, x, e1, S1, t1, z⟩⟩) fun v s1 ⟨x, H1, I1, r1, G1, d1, e1, S1, t1, ds, h1, xs, h2, h3, z⟩ => PyProof.Rows.args_nil ?_) (star_cons hs)) (star_cons hs) rfl
  have hr := S1.rb t1
  generalize lk G1 d1 = y at h1 hr
  cases y with
  | lst l =>
    cases h1
    obtain ⟨a, vs, rfl, hq, tl⟩ := hr
    cases r1
    obtain ⟨its, rv, pl, hz⟩ := I1.list (.inl hq)
    have ev := mapM_strs h2 tl
    subst ev
    refine txt_set (I1.ok.hd hc) pl.isList (by simpa using strs_of rv) h3 fun h' tk D0 l' R g kp => ?_
    refine PyProof.Rows.args_nil ?_
    have I2 : Inv X pins τ H1 { s1 with heap := h', toks := tk } := I1.kept kp
    have hlen : l'.length < 4000 := Nat.lt_of_le_of_lt g.len h3
    refine srt_txt (I1.ok.hd hc) hu I2 S1 R hlen fun ys ws n nd hm' hn t => mk_lst S1 hn t (z ys nd fun k => (hm' k).trans ⟨fun q => ?_, fun q => ?_⟩) (k.ext e1)
    · have := g.sub k q; rwa [List.take_length] at this
    · exact g.all k (by rw [List.take_length]; exact q)
  | _ => cases h1
end
end T
end
section
set_option Elab.async false
set_option linter.all false
set_option maxRecDepth 100000
set_option maxHeartbeats 1000000
/-! dict(..) of pairs; d.get(k, z). -/
namespace T
open PySem PySem.Spec PyProof.Rows L2
section
variable {K : PySem.W.Frag} {H : Hp} {G : Store}
theorem keyOf_dV {d : D} {k : Key} {v : V} (e : keyOf d = some k) (t : Tr K H G d v) : v = kV k := key_V e t.rb
theorem dict_pairs : ∀ {l : List D} {kvs : List (Key × D)} {vs : List V}, dictOf l = some kvs → TrL K H G l vs → ∃ (ps : List Addr) (kws : List (Key × V)), vs = ps.map V.ref ∧ Paired (fun p kv => SqT K H p [kV kv.1, kv.2]) ps kws ∧ TrK K H G kvs kws
  | [], _, _, e, t => by
    cases e; cases t
    exact ⟨[], [], rfl, .nil, rfl⟩
  | d :: r, kvs, _, e, ⟨v, ws, rfl, td, tr⟩ => by
    match d, e, td with
    | .tup [k, x], e, td =>
      simp only [dictOf] at e
      cases hk : keyOf k with
      | none => rw [hk] at e; cases e
      | some j =>
        rw [hk] at e
        cases hr : dictOf r with
        | none => rw [hr] at e; cases e
        | some more =>
          rw [hr] at e
          cases e
          obtain ⟨ps, kws, rfl, hp, ht⟩ := dict_pairs hr tr
          obtain ⟨a, us, rfl, hq, v1, w1, rfl, t1, v2, w2, rfl, t2, rfl⟩ := td
          have e1 := keyOf_dV hk t1
          subst e1
          exact ⟨a :: ps, (j, v2) :: kws, rfl, .cons hq.sq hp, v2, kws, rfl, t2, ht⟩
theorem merge_trK : ∀ {more : List (Key × D)} {mws : List (Key × V)} {kvs : List (Key × D)} {kws : List (Key × V)}, TrK K H G more mws → TrK K H G kvs kws → TrK K H G (merge kvs more) (mergeK kws mws)
  | [], _, _, _, h, t => by cases h; exact t
  | (k, d) :: r, _, kvs, kws, ⟨v, ws, e, td, tr⟩, t => by
    subst e
    exact merge_trK (more := r) (mws := ws) (kvs := putG kvs k d) (kws := putK kws k v) tr (put_trK td t)
end
section
variable {X : Cx} {W : Wi}
theorem bi_dict (hc : X.calm = true) : CallR X (.type "dict") (rBi X.K .dict) := by
  intro pins s τ H vs us Q I r h
  obtain ⟨ds, G, d, t, S, e, k⟩ := h
  generalize hm : ds.map (lk G) = ms at e
  match ms, e with
  | [.lst l], e =>
    obtain ⟨d0, v, rfl, rfl, _, _, a, ws, rfl, hq, tq⟩ := one_of t S hm
    cases hd : dictOf l with
    | none => simp only [biD, hd] at e; cases e
    | some kvs =>
      simp only [biD, hd] at e
      cases e
      obtain ⟨ps, kws, rfl, hp, ht⟩ := dict_pairs hd tq
      refine (call_dictP hc).lk pins s τ H _ _ Q I r ⟨a, ps, kws, rfl, .inl hq, hp, fun p hn => ?_⟩
      exact .new trivial fun od => k _ _ (ext_new hn) (S.new hn) ⟨p, _, rfl, ⟨S.no hn, od, upd_same⟩, TrK.ext (ext_new hn) _ _ (merge_trK ht (show TrK X.K H G [] [] from rfl))⟩
theorem de_get2 {o e f : Expr} {od ed fd : Den} {apos cpos : Pos} (hu : X.A.units + 64 < cLine) (ho : DE X W o od) (he : DE X W e ed) (hf : DE X W f fd) (hb : noSuper o = true) (hl : (apos.endLine == cpos.line) = true) (hs : noStar e = true) (hs2 : noStar f = true) :
    DE X W (.Call (.Attribute o "get" apos) [e, f] [] cpos) (sBm od .get2 [ed, fd]) :=
  (pe_dget2 (by omega) ho he hf ⟨base_no hb, few_ok (by simp [hs, hs2]) (by simp), hl, by rw [star_cons hs, star_cons hs2]; rfl⟩).imp fun τ H Q ⟨σ, G, q, A, S, c, k⟩ => by
    refine ⟨σ, G, _, A, S, c, fun v x G1 H1 e1 S1 t1 ⟨ht, c1⟩ => ?_⟩
    have isd : ∃ a, v = .ref a ∧ IsD H1 a := by
      have hr := S1.rb t1
      generalize hy : lk G1 x = y at hr ht
      match y, ht with
      | .dK kvs, _ => obtain ⟨a, kws, rfl, hd, _⟩ := hr; exact ⟨a, rfl, .inl ⟨_, hd⟩⟩
      | .dT kvs, _ => obtain ⟨a, kws, rfl, hd, _⟩ := hr; exact ⟨a, rfl, .inr ⟨_, hd⟩⟩
    obtain ⟨a, rfl, hd⟩ := isd
    refine ⟨a, rfl, hd, σ, G1, _, A.ext e1, S1, c1, fun u y G2 H2 e2 S2 t2 c2 => ?_⟩
    refine ⟨σ, G2, _, (A.ext e1).ext e2, S2, c2, fun u2 y2 G3 H3 e3 S3 t3 c3 => ?_⟩
    have t1' := (t1.ext e2).ext e3
    have t2' := t2.ext e3
    have k' := k.ext ((e1.trans e2).trans e3)
    replace c3 : oq (bmD .get2 (lk G3 x) [y, y2]) (fun d => q d G3) := c3
    obtain ⟨d, hz, c3⟩ := c3
    have hr := S3.rb t1'
    generalize lk G3 x = m at hr hz
    match m, hz with
    | .dK kvs, hz =>
      obtain ⟨a', kws, ea, hd', tk⟩ := hr
      cases ea
      cases hk : keyOf y with
      | none => simp [bmD, hk] at hz
      | some j =>
        simp [bmD, hk] at hz
        refine ⟨valV kws j, .inl ⟨kws, j, hd', key_V hk t2'.rb, rfl⟩, ?_⟩
        cases hl' : look kvs j with
        | none =>
          have e4 : valV kws j = none := by have := look_isSome (k := j) tk; rw [hl'] at this; simpa using this
          rw [hl'] at hz
          rw [e4]; cases hz
          exact k' _ _ _ _ (.refl _ _) S3 t3 c3
        | some x1 =>
          obtain ⟨z, hz2, tz⟩ := (valG_val tk).1 x1 hl'
          rw [hl'] at hz
          rw [hz2]; cases hz
          exact k' _ _ _ _ (.refl _ _) S3 tz c3
    | .dT kvs, hz =>
      obtain ⟨a', kws, ea, hd', tk⟩ := hr
      cases ea
      cases y with
      | tup ds =>
        cases hk : ds.mapM keyOf with
        | none => simp [bmD, keysOf, hk] at hz
        | some j =>
          simp [bmD, keysOf, hk] at hz
          obtain ⟨bq, us, eu, hq, tq⟩ := t2'
          refine ⟨valV kws j, .inr ⟨kws, j, bq, hd', eu, by rw [hq.2, keys_V hk tq], rfl⟩, ?_⟩
          cases hl' : look kvs j with
          | none =>
            have e4 : valV kws j = none := by have := look_isSomeT (k := j) tk; rw [hl'] at this; simpa using this
            rw [hl'] at hz
            rw [e4]; cases hz
            exact k' _ _ _ _ (.refl _ _) S3 t3 c3
          | some x1 =>
            obtain ⟨z, hz2, tz⟩ := (valG_valT tk).1 x1 hl'
            rw [hl'] at hz
            rw [hz2]; cases hz
            exact k' _ _ _ _ (.refl _ _) S3 tz c3
      | _ => simp [bmD, keysOf] at hz
end
end T
end
section
set_option Elab.async false
set_option linter.all false
set_option maxRecDepth 100000
set_option maxHeartbeats 1000000
/-! enumerate(..) of a list. -/
namespace T
open PySem PySem.Spec PyProof.Rows L2
theorem walk_enum {K : PySem.W.Frag} {gd : Store → Prop} {ds : List D} {a : Addr} {G1 : Store} {H1 : Hp}
    (h : ∀ (G : Store) (H : Hp), Ext G1 H1 G H → Sto K H G → gd G → ∃ vs, SqL K H a vs ∧ TrL K H G ds vs) : WalkOk K gd (ds.zipIdx.map fun p => .tup [.int (p.2 : Nat), p.1]) (Ite K a) G1 H1 := fun i G H e S g => by
  obtain ⟨vs, hq, t⟩ := h G H e S g
  refine ⟨fun d hd => ?_, fun hn => ⟨vs, hq, ?_⟩⟩
  · rw [List.getElem?_map, List.getElem?_zipIdx, Option.map_map] at hd
    cases hk : ds[i]? with
    | none => rw [hk] at hd; cases hd
    | some d0 =>
      rw [hk] at hd
      cases hd
      obtain ⟨v, hv, tv⟩ := t.get hk
      refine ⟨⟨vs, v, hq, hv⟩, fun y H' ⟨p, x, e1, e2, e3, e4⟩ => ?_⟩
      subst e1; subst e3
      have ex : x = v := Option.some.inj ((e4 vs hq).symm.trans hv)
      subst ex
      refine ⟨ext_new e2, S.new e2, tup_new S e2 ?_⟩
      exact ⟨.int (i : Nat), [x], rfl, by show V.int _ = V.int _; simp, x, [], rfl, tv, rfl⟩
  · rw [List.getElem?_map, List.getElem?_zipIdx, Option.map_map] at hn
    cases hk : ds[i]? with
    | none => rw [← t.length]; exact List.getElem?_eq_none_iff.mp hk
    | some d0 => rw [hk] at hn; cases hn
section
variable {X : Cx} {W : Wi}
theorem lst_still {K : PySem.W.Frag} {H1 : Hp} {G1 : Store} {x : D} {v : V} {ds : List D} (S1 : Sto K H1 G1) (t : Tr K H1 G1 x v) (h : lk G1 x = .lst ds) :
    ∃ a vs, v = .ref a ∧ SqL K H1 a vs ∧ ∀ (G : Store) (H : Hp), Ext G1 H1 G H → Sto K H G → still G1 x G → ∃ vs, SqL K H a vs ∧ TrL K H G ds vs := by
  have hr := S1.rb t
  rw [h] at hr
  obtain ⟨a, vs, rfl, hq, tq⟩ := hr
  refine ⟨a, vs, rfl, .inl hq, fun G H e S g => ?_⟩
  cases x with
  | ref b =>
    have eb : V.ref a = .ref b := t
    cases eb
    have g' : G a = G1 a := g
    have hl : lk G (.ref a) = lk G1 (.ref a) := by simp only [lk, g']
    have hr2 := S.rb (show Tr K H G (.ref a) (.ref a) from rfl)
    rw [hl, h] at hr2
    obtain ⟨a2, vs2, e2, hq2, tq2⟩ := hr2
    cases e2
    exact ⟨vs2, .inl hq2, tq2⟩
  | lst l =>
    have el : l = ds := by simpa [lk] using h
    subst el
    obtain ⟨a2, vs2, e2, hq2, tq2⟩ := Tr.ext e _ _ t
    cases e2
    exact ⟨vs2, hq2.sq, tq2⟩
  | _ => cases h
end
end T
end
section
set_option Elab.async false
set_option linter.all false
set_option maxRecDepth 100000
set_option maxHeartbeats 1000000
/-! Calls; the world of a def. -/
namespace T
open PySem PySem.Spec PyProof.Rows L2
/-- a promise, by values -/
abbrev Pm := List D → Store → DK → Prop
/-- a def's promise, as the hand layer has it -/
def spOf (K : PySem.W.Frag) (n : Nat) (P : Pm) : Sp := fun vs H Q _ => ∃ ds G q, ds.length = n ∧ TrL K H G ds vs ∧ Sto K H G ∧ P ds G q ∧ Kont K G H q Q
/-- a def, called with keywords ks: by values alone (defaults behind them), or by n values and these keywords -/
inductive Callee (Pr : Program) (w : World) (K : PySem.W.Frag) (mg : Str → Option Value) (base : Heap) (k : Nat) (f : Str) : List Str → SpD → Prop
  | plain {sp : SpD} {a : Addr} {fd : FuncData} {ps : List Str} {P : Pm} : mg f = some (.ref a) → PySem.W.keepIn K (.ref a) = true → FnOk Pr w K mg base CX0 k a fd ps (spOf K ps.length P) →
    (∀ n, ∃ (dvs : List V) (dv : List Value) (dd : List D), Binds K fd ps dv ∧ Vals dvs dv ∧ (∀ H G, TrL K H G dd dvs) ∧ ∀ ds es G q r, ds.length = n → sp ds es G q r → n + dd.length = ps.length ∧ P (ds ++ dd) G q) → Callee Pr w K mg base k f [] sp
  | kw {sp : SpD} {ks : List Str} {a : Addr} {fd : FuncData} {ps : List Str} {P : Pm} {n : Nat} {g : List Value → List Value → List Value} {gV : List V → List V → List V} {gD : List D → List D → List D} :
    ks ≠ [] → mg f = some (.ref a) → PySem.W.keepIn K (.ref a) = true → FnOk Pr w K mg base CX0 k a fd ps (spOf K ps.length P) → KBn K fd ps n ks g gV → (∀ H G ds vs es zs, TrL K H G ds vs → TrL K H G es zs → TrL K H G (gD ds es) (gV vs zs)) →
    (∀ ds es G q r, sp ds es G q r → ds.length = n ∧ es.length = ks.length ∧ (gD ds es).length = ps.length ∧ P (gD ds es) G q) → Callee Pr w K mg base k f ks sp
theorem Callee.ofNil {Pr : Program} {w : World} {K : PySem.W.Frag} {mg : Str → Option Value} {base : Heap} {k : Nat} {f : Str} {sp : SpD} (c : Callee Pr w K mg base k f [] sp) :
    ∃ (a : Addr) (fd : FuncData) (ps : List Str) (P : Pm), mg f = some (.ref a) ∧ PySem.W.keepIn K (.ref a) = true ∧ FnOk Pr w K mg base CX0 k a fd ps (spOf K ps.length P) ∧
    ∀ n, ∃ (dvs : List V) (dv : List Value) (dd : List D), Binds K fd ps dv ∧ Vals dvs dv ∧ (∀ H G, TrL K H G dd dvs) ∧ ∀ ds es G q r, ds.length = n → sp ds es G q r → n + dd.length = ps.length ∧ P (ds ++ dd) G q := by
  cases c with
  | plain a b c d => exact ⟨_, _, _, _, a, b, c, d⟩
  | kw h => exact absurd rfl h
/-- built-in names -/
def bNames : List Str := ["len", "sum", "all", "any", "min", "max", "sorted", "tuple", "list", "set", "dict", "int", "str", "abs", "isinstance", "range", "enumerate", "zip", "bool"]
structure Wld (Γ : Ctx) (Pr : Program) (w : World) (K : PySem.W.Frag) (mg : Str → Option Value) (base : Heap) (k : Nat) : Prop where
  nob : ∀ x ∈ bNames, mg x = none
  glob : ∀ x d, Γ.glob x = some d → ∃ v u, mg x = some u ∧ RelV v u ∧ Cst K d v
  fns : ∀ f ks sp, Γ.fn f ks = some sp → Callee Pr w K mg base k f ks sp
/-- a context in which texts are walked; nothing is raised -/
structure Good (Γ : Ctx) (X : Cx) (N : List Str) (sc : Scope) (fc : Str → Bool) (k : Nat) : Prop where
  nm : X.N = N
  nd : N.Nodup
  sc : X.env.scope = sc
  calm : X.calm = true
  wld : Wld Γ X.prog X.w X.K X.mg X.base k
  room : Room (k + 1) X.A
  fn : ∀ x, fc x = true → X.fn x = true
  nox : X.xe = fun _ _ => False
section
variable {Γ : Ctx} {X : Cx} {N : List Str} {sc : Scope} {fc : Str → Bool} {k : Nat}
theorem Good.hu (g : Good Γ X N sc fc k) : X.A.units + 64 < cLine := by have := g.room.un; omega
theorem Good.own (g : Good Γ X N sc fc k) : PassesOwn (model X.prog X.w) X.A X.env X.xe := by rw [g.nox]; exact PassesOwn.never
theorem Good.ndX (g : Good Γ X N sc fc k) : X.N.Nodup := by rw [g.nm]; exact g.nd
def fcB (scope : Scope) (x : Str) : Bool := match scope.names.lookup x with | some .cell => true | _ => false
theorem Good.blk (g : Good Γ X N sc fc k) (s : Shared) (H : Hp) (scope : Scope) (C : Addr) (cl : List (Str × Addr)) (fp : List Addr) : Good Γ (X.blk s H scope (compEnvC scope cl C X.env) fp) N (relS scope sc) (fcB scope) k where
  nm := g.nm
  nd := g.nd
  sc := by rw [← g.sc]; rfl
  calm := g.calm
  wld := g.wld
  room := g.room
  fn := fun x h => by
    unfold fcB at h
    show (scope.names.lookup x == some .cell) = true
    split at h
    · rename_i e; rw [e]; rfl
    · cases h
  nox := rfl
/-! ### calls -/
variable {W : Wi} {e : Expr} {es : List Expr} {ds : List Den} {n : Nat} {f : Str} {p pos : Pos}
theorem call_bind {sp : SpD} {ps : List Str} {P : Pm} {dvs : List V} {dd : List D} {τ : L2.St} {H : Hp} {Q : VK} (hΓ : Γ.fn f [] = some sp) (hT : ∀ H G, TrL X.K H G dd dvs) (hP : ∀ ds es G q r, ds.length = n → sp ds es G q r → n + dd.length = ps.length ∧ P (ds ++ dd) G q)
    (h : lE X.K ((sCall Γ f ds [] []).e W) τ H Q) : tCall (spOf X.K ps.length P) dvs E0 (lAn X.K n (dA ds W)) τ H Q := by
  obtain ⟨σ, G, q, A, S, c, k⟩ := h
  refine ⟨σ, G, _, A, S, c, fun vs xs G1 H1 l1 e1 S1 t1 ⟨sp', e', z⟩ => ?_⟩
  rw [hΓ] at e'; cases e'
  obtain ⟨h1, h2⟩ := hP xs [] G1 q _ l1 z
  exact ⟨xs ++ dd, G1, q, by rw [List.length_append, l1, h1], t1.append (hT H1 G1), S1, h2, k.ext e1⟩
/-- the values of keywords -/
def DKw (X : Cx) (W : Wi) (kws : List Keyword) (n : Nat) (ds : List Den) : Prop := PK X kws (lAn X.K n (dA ds W))
theorem _root_.L2.PK.imp {kws : List Keyword} {t t' : TA} (h : PK X kws t) (i : ∀ σ H Q, t' σ H Q → t σ H Q) : PK X kws t' := ⟨fun pos pins s σ H Q I w => h.run pos pins s σ H Q I (i σ H Q w)⟩
theorem dkw_nil : DKw X W [] 0 [] := pk_nil.imp fun τ H Q ⟨σ, G, q, a, b, c, k⟩ => k [] [] G H rfl (.refl G H) b .nil c
theorem dkw_cons {kws : List Keyword} {nm : Option Str} {kp : Pos} {d : Den} (ha : DE X W e d) (hr : DKw X W kws n ds) : DKw X W (⟨nm, e, kp⟩ :: kws) (n + 1) (d :: ds) :=
  (pk_cons ha hr).imp fun τ H Q ⟨σ, G, q, a, b, c, k⟩ => by
    refine ⟨σ, G, _, a, b, c, fun v x G1 H1 e s t z => ?_⟩
    refine ⟨σ, G1, _, a.ext e, s, z, fun vs xs G2 H2 l e2 s2 t2 z2 => ?_⟩
    exact k (v :: vs) (x :: xs) G2 H2 (by rw [List.length_cons, l]) (e.trans e2) s2 (.cons (t.ext e2) t2) z2
/-- the names of keywords -/
def kwNames : List Keyword → List Str
  | [] => []
  | ⟨some x, _, _⟩ :: r => x :: kwNames r
  | ⟨none, _, _⟩ :: r => kwNames r
def kwNamed : List Keyword → Bool
  | [] => true
  | ⟨some _, _, _⟩ :: r => kwNamed r
  | ⟨none, _, _⟩ :: _ => false
theorem kw_facts {pos : Pos} {env : Env} : ∀ {kws : List Keyword}, kwNamed kws = true → (backToKw pos (keywordEach kws env)).all (·.1.isSome) = true ∧ (backToKw pos (keywordEach kws env)).filterMap (·.1) = kwNames kws ∧ (backToKw pos (keywordEach kws env)).any (·.1.isNone) = false
  | [], _ => ⟨rfl, rfl, rfl⟩
  | ⟨some x, e, p⟩ :: r, h => by
    obtain ⟨h1, h2, h3⟩ := kw_facts (pos := pos) (env := env) (kws := r) h
    refine ⟨?_, ?_, ?_⟩
    · show (true && (backToKw pos (keywordEach r env)).all (·.1.isSome)) = true
      rw [h1]; rfl
    · show x :: (backToKw pos (keywordEach r env)).filterMap (·.1) = x :: kwNames r
      rw [h2]
    · show (false || (backToKw pos (keywordEach r env)).any (·.1.isNone)) = false
      rw [h3]; rfl
  | ⟨none, _, _⟩ :: _, h => by cases h
theorem de_callK (g : Good Γ X N sc fc k) {sp : SpD} {kws : List Keyword} {kds : List Den} {m : Nat} (hΓ : Γ.fn f (kwNames kws) = some sp) (hk : kwNamed kws = true) (hne : kws ≠ []) (hg : Gl X f) (hd : (f == ("__debug__" : Str)) = false) (ha : DA X W (e :: es) n ds) (hs : (e :: es).all noStar = true)
    (hw : DKw X W kws m kds) : DE X W (.Call (.Name f p) (e :: es) kws pos) (sCall Γ f ds (kwNames kws) kds) := by
  have hs' : noStar e = true ∧ es.all noStar = true := by rw [List.all_cons, Bool.and_eq_true] at hs; exact hs
  obtain ⟨k1, k2, k3⟩ := kw_facts (pos := pos) (env := X.env) hk
  have c := g.wld.fns f _ sp hΓ
  generalize hks : kwNames kws = ks at c hΓ k2
  cases c with
  | plain =>
    exfalso
    cases kws with
    | nil => exact hne rfl
    | cons kw r =>
      obtain ⟨nm, x, q⟩ := kw
      cases nm with
      | none => cases hk
      | some y => cases hks
  | @kw _ _ a fd ps P n' gg gV gD _ hm hkp F hb hT hP =>
    have hpl : ((backTo pos (starEach (e :: es) X.env)).any (·.1) || (backToKw pos (keywordEach kws X.env)).any (·.1.isNone)) = false := by
      rw [k3, Bool.or_false]; exact star_plain hs
    refine (pe_callN F (g.room.mono (Nat.le_succ k)) hg hm hkp hb (show Passes CX0 X E0 from fun _ _ _ _ _ _ _ h => h.elim) ha hw k1 k2 hd (star_cons hs'.1) hpl).imp fun τ H Q h => ?_
    obtain ⟨σ, G, q, A, S, c, kk⟩ := h
    refine ⟨σ, G, _, A, S, c, fun vs xs G1 H1 l1 e1 S1 t1 z => ?_⟩
    refine ⟨σ, G1, _, A.ext e1, S1, z, fun zs ys G2 H2 l2 e2 S2 t2 ⟨sp', e', z2⟩ => ?_⟩
    rw [hΓ] at e'; cases e'
    obtain ⟨h1, h2, h3, h4⟩ := hP _ _ _ _ _ z2
    refine ⟨by rw [← (t1.ext e2).length]; exact h1, by rw [← t2.length]; exact h2, gD xs ys, G2, q, h3, hT H2 G2 xs vs ys zs (t1.ext e2) t2, S2, h4, kk.ext (e1.trans e2)⟩
theorem de_call (g : Good Γ X N sc fc k) {sp : SpD} (hΓ : Γ.fn f [] = some sp) (hg : Gl X f) (hd : (f == ("__debug__" : Str)) = false) (ha : DA X W (e :: es) n ds) (hs : (e :: es).all noStar = true) :
    DE X W (.Call (.Name f p) (e :: es) [] pos) (sCall Γ f ds [] []) := by
  have hs' : noStar e = true ∧ es.all noStar = true := by rw [List.all_cons, Bool.and_eq_true] at hs; exact hs
  have c := g.wld.fns f _ sp hΓ
  cases c with
  | plain hm hk F hb =>
    obtain ⟨dvs, dv, dd, b1, b2, b3, b4⟩ := hb n
    exact (pe_call F (g.room.mono (Nat.le_succ k)) hg hm hk b1 b2 (show Passes CX0 X E0 from fun _ _ _ _ _ _ _ h => h.elim) ha hd (star_cons hs'.1) (star_plain hs'.2)).imp fun τ H Q h => call_bind hΓ b3 b4 h
  | kw h => exact absurd rfl h
theorem de_call0 (g : Good Γ X N sc fc k) {sp : SpD} (hΓ : Γ.fn f [] = some sp) (hg : Gl X f) (hd : (f == ("__debug__" : Str)) = false) : DE X W (.Call (.Name f p) [] [] pos) (sCall Γ f [] [] []) := by
  have c := g.wld.fns f _ sp hΓ
  cases c with
  | plain hm hk F hb =>
    obtain ⟨dvs, dv, dd, b1, b2, b3, b4⟩ := hb 0
    refine (pe_call0 F (g.room.mono (Nat.le_succ k)) hg hm hk b1 b2 (show Passes CX0 X E0 from fun _ _ _ _ _ _ _ h => h.elim) hd).imp fun τ H Q h => ?_
    obtain ⟨σ, G, q, A, S, c, k⟩ := h
    obtain ⟨sp', e', z⟩ := c
    rw [hΓ] at e'; cases e'
    obtain ⟨h1, h2⟩ := b4 [] [] G q _ rfl z
    exact ⟨dd, G, q, by omega, b3 H G, S, h2, k⟩
  | kw h => exact absurd rfl h
/-! ### a def by its text -/
theorem sts_start {K : PySem.W.Frag} {H : Hp} {G : Store} {N : List Str} {ds : List D} {vs : List V} (t : TrL K H G ds vs) (hl : ds.length ≤ N.length) : Sts K H G (ds.map some ++ List.replicate (N.length - ds.length) none) (L2.start N vs) := by
  have l := t.length
  unfold L2.start
  refine ⟨by simp [l], fun i d h => ?_⟩
  by_cases hi : i < ds.length
  · rw [List.getElem?_append_left (by rw [List.length_map]; exact hi), List.getElem?_map] at h
    cases e : ds[i]? with
    | none => rw [e] at h; cases h
    | some x =>
      rw [e] at h
      obtain ⟨v, hv, tv⟩ := t.get e
      have ex : x = d := by simpa using h
      subst ex
      exact ⟨v, by rw [List.getElem?_append_left (by rw [List.length_map, ← l]; exact hi), List.getElem?_map, hv]; rfl, tv⟩
  · rw [List.getElem?_append_right (by rw [List.length_map]; omega)] at h
    exfalso
    cases e : (List.replicate (N.length - ds.length) (none : Option D))[i - (ds.map some).length]? with
    | none => rw [e] at h; cases h
    | some x =>
      rw [e] at h
      have := List.mem_of_getElem? e
      rw [List.eq_of_mem_replicate this] at h; cases h
/-- the body, walked: its promise -/
theorem body_ok {K : PySem.W.Frag} {body : List Stmt} {ir : List S} {P : Pm} {np : Nat} {vs : List V} {H : Hp} {Q : VK} (hK : X.K = K) (hX : DSs X W0 body (sSs Γ ir)) (hN : X.N = N) (hnp : np ≤ N.length)
    (hP : ∀ ds G q, ds.length = np → P ds G q → run Γ N.length ir (fun _ _ => False) ds G q) (h : spOf K np P vs H Q E0) :
    ∃ t, PSs X body t ∧ t { nx := fun _ H' => Q .non H', rt := Q } (L2.start N vs) H := by
  subst hK
  obtain ⟨ds, G, q, l, t, S, p, kk⟩ := h
  refine ⟨_, hX.lkR, ds.map some ++ List.replicate (N.length - ds.length) none, G, _, sts_start t (by omega), S, hP ds G q l p, ⟨?_, ?_, ?_, ?_⟩⟩
  · exact fun σ τ G1 H1 e1 A1 S1 z => kk _ .non G1 H1 e1 S1 rfl z
  · exact fun σ τ G1 H1 e1 A1 S1 z => z.elim
  · exact fun σ τ G1 H1 e1 A1 S1 z => z.elim
  · exact fun v d G1 H1 e1 S1 t1 ⟨d', G2, w, z⟩ => (viewD_lock t1 S1 w).mono fun H2 ⟨e2, t2, S2⟩ => kk v d' G2 H2 (e1.trans e2) S2 t2 z
end
end T
end
section
set_option Elab.async false
set_option linter.all false
set_option maxRecDepth 100000
set_option maxHeartbeats 4000000
/-! sorted(.., key=f), f a def of the program. -/
namespace T
open PySem PySem.Spec PyProof.Rows PySem.W L2
/-- the heap without the object at a -/
def without (h : Heap) (a : Addr) : Heap := h.update a fun o => { o with data := .freed }
theorem without_self {h : Heap} {a : Addr} : (without h a).get? a = none := by
  obtain ⟨objs, l⟩ := h
  simp only [without, Heap.update, Heap.get?, Array.getElem?_modify, if_true]
  cases objs[a]? with
  | none => rfl
  | some o => rfl
theorem without_ne {h : Heap} {a b : Addr} (n : b ≠ a) : (without h a).get? b = h.get? b := Heap.get?_update_other h _ (Ne.symm n)
section
variable {X : Cx} {pins : List (Addr × Obj)} {s : Shared} {τ : L2.St} {H : Hp} {G : Store}
theorem fp_of {b : Addr} {H' : Hp} (f : FpOk X pins H b) (n : H' b = none) : FpOk X pins H' b := ⟨n, f.2⟩
/-- a call within a built-in function's work: what stands outside the abstract heap stays -/
theorem call_in {k : Nat} {fa : Addr} {fd : FuncData} {ps : List Str} {P : Pm} {dvs : List V} {dv : List Value} {dd : List D} {A' : Around} {v : V} {u : Value} {d : D} {q : DK}
    (F : FnOk X.prog X.w X.K X.mg X.base CX0 k fa fd ps (spOf X.K ps.length P)) (hr : Room k A') (hA : A'.frames = some X.stack) (hb : Binds X.K fd ps dv) (hd : Vals dvs dv) (hdd : ∀ H G, TrL X.K H G dd dvs)
    (I : Inv X pins τ H s) (S : Sto X.K H G) (r : RelV v u) (t : Tr X.K H G d v) (hl : 1 + dd.length = ps.length) (hP : P (d :: dd) G q) {R : Value → Shared → Prop} {E' : Value → Shared → Prop}
    (h : ∀ u' s' v' d' G' H', Inv X pins τ H' s' → Ext G H G' H' → Sto X.K H' G' → RelV v' u' → Tr X.K H' G' d' v' → q d' G' → s'.os = s.os → (∀ b o, FpOk X pins H b → s.heap.get? b = some o → s'.heap.get? b = some o ∧ H' b = none) → R u' s') :
    wpAny (model X.prog X.w) A' (call (.ref fa) [u]) R E' s := by
  have e0 : Env0 X.prog X.w X.K X.mg X.base A' X.stack s H := ⟨hA, I.env0.mod, I.env0.bs, I.env0.bsz, I.env0.funs, I.env0.frf, I.env0.hok, I.env0.bare⟩
  have ht : TrL X.K H G (d :: dd) (v :: dvs) := .cons t (hdd H G)
  have hlen : ([u] ++ dv).length = ps.length := by rw [List.length_append, ← hd.length, ← (hdd H G).length, ← hl]; rfl
  refine wpAny_call (codeAny_mono (F.run A' X.stack s H ⟨[u], []⟩ ([u] ++ dv) (v :: dvs) (fun v' H' => ∃ d' G', Ext G H G' H' ∧ Sto X.K H' G' ∧ Tr X.K H' G' d' v' ∧ q d' G') (fun _ _ _ => False) hr e0 (hb s [u] I.kIn hlen) (.cons r hd)
    ⟨d :: dd, G, q, by rw [List.length_cons, ← hl]; omega, ht, S, hP, fun v' d' G' H' e S' t' z => ⟨d', G', e, S', t', z⟩⟩) fun res s' hq => ?_)
  cases res with
  | error e => exact hq.elim
  | ok fl =>
    cases fl with
    | ret u' =>
      obtain ⟨v', H', os, bare, un, hok, r', d', G', e, S', t', z⟩ := hq
      refine h u' s' v' d' G' H' (I.call' (ch := []) os un hok bare (fun b z => absurd z (by simp))) e S' r' t' z os fun b o f eb => ⟨un.keep b o eb f.1 (fun hb => ?_) (by simp), un.free b o eb f.1 (by simp)⟩
      rcases List.mem_cons.mp (I.stkSub b hb) with x | x
      · exact f.2.1 x
      · exact f.2.2.1 x
    | next => exact hq.elim
    | brk => exact hq.elim
    | cont => exact hq.elim

theorem reads_of (I : Inv X pins τ H s) : ∀ {ks : List D} {vk : List V} {us : List Value}, TrL X.K H G ks vk → Vals vk us → D.pureL ks = true → EachIs (fun u d => ∃ as, Reads s.heap u d as) us (ks.map D.py)
  | [], _, _, t, r, _ => by cases t; cases r; exact .nil
  | d :: ks, _, _, ⟨v, ws, e, t, tr⟩, r, p => by
    subst e
    rw [D.pureL, Bool.and_eq_true] at p
    cases r with
    | cons r1 r2 => exact .cons ((tr_dp d v p.1 t).reads I _ _ _ r1) (reads_of I tr r2 p.2)
abbrev PK3 := PV × D
def Pk3R (X : Cx) (H : Hp) (G : Store) (u : Value) (p : PK3) : Prop := RelV p.1.2 u ∧ Tr X.K H G p.1.1 p.1.2
theorem pk3_of : ∀ {ds ks : List D} {vs : List V} {us : List Value}, TrL X.K H G ds vs → Vals vs us → ks.length = ds.length → EachIs (Pk3R X H G) us ((ds.zip vs).zip ks)
  | [], _, _, _, t, r, _ => by cases t; cases r; exact .nil
  | d :: ds, [], _, _, _, _, l => by simp at l
  | d :: ds, k :: ks, _, _, ⟨v, ws, e, t, tr⟩, r, l => by
    subst e
    cases r with
    | cons r1 r2 => exact .cons ⟨r1, t⟩ (pk3_of tr r2 (by simpa using l))
theorem pk3_back : ∀ {ps : List PK3} {us : List Value}, EachIs (Pk3R X H G) us ps → TrL X.K H G (ps.map (·.1.1)) (ps.map (·.1.2)) ∧ Vals (ps.map (·.1.2)) us
  | [], _, .nil => ⟨rfl, .nil⟩
  | p :: ps, _, .cons h t => ⟨.cons h.2 (pk3_back t).1, .cons h.1 (pk3_back t).2⟩
theorem pk3_keys : ∀ {ds ks : List D} {vs : List V}, ds.length = vs.length → ks.length = ds.length → (((ds.zip vs).zip ks).map fun b => b.2.py) = ks.map D.py
  | [], [], [], _, _ => rfl
  | _ :: ds, _ :: ks, _ :: vs, l, m => by
    have z := pk3_keys (ds := ds) (ks := ks) (vs := vs) (by simpa using l) (by simpa using m)
    simp [z]
  | [], _ :: _, _, _, m => by simp at m
  | _ :: _, [], _, _, m => by simp at m
  | [], _, _ :: _, l, _ => by simp at l
  | _ :: _, _, [], l, _ => by simp at l
theorem pk3_pairs : ∀ {ds ks : List D} {vs : List V}, ds.length = vs.length → ks.length = ds.length → (((ds.zip vs).zip ks).map fun b => (b.1.1, b.2)) = ds.zip ks
  | [], [], [], _, _ => rfl
  | _ :: ds, _ :: ks, _ :: vs, l, m => by
    have z := pk3_pairs (ds := ds) (ks := ks) (vs := vs) (by simpa using l) (by simpa using m)
    simp [z]
  | [], _ :: _, _, _, m => by simp at m
  | _ :: _, [], _, _, m => by simp at m
  | [], _, _ :: _, l, _ => by simp at l
  | _ :: _, _, [], l, _ => by simp at l
theorem pk3_sort {ds ks : List D} {vs : List V} (l : ds.length = vs.length) (m : ks.length = ds.length) : ((((ds.zip vs).zip ks).mergeSort (dataLe false fun b : PK3 => b.2.py)).map (·.1.1)) = sortByD ds ks := by
  unfold sortByD
  have e := List.map_mergeSort (l := (ds.zip vs).zip ks) (f := fun b : PK3 => (b.1.1, b.2)) (r := dataLe false fun b : PK3 => b.2.py) (s := fun a b => leD a.2 b.2) (fun a _ b _ => by rw [dataLe_eq]; rfl)
  rw [pk3_pairs l m] at e
  rw [← e, List.map_map]
  rfl
theorem srtBy_run {l fa : Addr} {k : Nat} {fd : FuncData} {ps : List Str} {P : Pm} {dvs : List V} {dv : List Value} {dd : List D} {vs : List V} {ds ks : List D} {Q : VK} (hu : X.A.units + 64 < cLine)
    (F : FnOk X.prog X.w X.K X.mg X.base CX0 k fa fd ps (spOf X.K ps.length P)) (hr : Room k X.A.in1.in1) (hb : Binds X.K fd ps dv) (hd : Vals dvs dv) (hdd : ∀ H G, TrL X.K H G dd dvs)
    (I : Inv X pins τ H s) (S : Sto X.K H G) (hq : SqL X.K H l vs) (t : TrL X.K H G ds vs) (hk : ks.length = ds.length)
    (hP : ∀ (i : Nat) d k, ds[i]? = some d → ks[i]? = some k → 1 + dd.length = ps.length ∧ P (d :: dd) G (fun y G2 => y = k ∧ G2 = G)) (ok : sortOk ks = true)
    (kQ : ∀ vs n H', Ext G H G H' → Sto X.K H' G → H' n = none → TrL X.K H' G (sortByD ds ks) vs → lQ Q (.ref n) (upd H' n (.lst vs))) :
    wpAny (model X.prog X.w) X.A (call (.builtin "sorted") [.ref l] [(Str.ofString "key", .ref fa)]) (EP X pins τ Q) X.xe s := by
  obtain ⟨h1, h2, h3, h4⟩ := sortOk_says ok
  obtain ⟨its, rv, pl, hz⟩ := I.list hq
  have l1 := t.length
  have l2 := rv.length
  have hz' : its.length ≤ sizeLine := by rw [← l2]; exact hz
  refine sorted_of_sort pl.isList hz' (ksk_s1 _ _) (fun _ => ksk_l1 _ _) fun E' => ?_
  rw [ksk_t1]
  have ho := copyHeap_at s.heap its
  generalize hD : s.heap.objs.size + 1 = D0 at ho ⊢
  have hDlt : D0 < (copyHeap s.heap its).objs.size := Heap.lt_size ho
  obtain ⟨e1, ho1⟩ : ∃ e1, ((copyHeap s.heap its).update D0 (Obj.mapSeq fun _ => (#[] : Array Value))).get? D0 = some (seqObj "list" #[] e1) := ⟨_, get?_update_seq ho fun _ => #[]⟩
  generalize hh2 : (copyHeap s.heap its).update D0 (Obj.mapSeq fun _ => (#[] : Array Value)) = hp2 at ho1
  have hsz2 : hp2.objs.size = (copyHeap s.heap its).objs.size := by rw [← hh2, Heap.size_update]
  unfold ksk_tree
  refine wpAny_bind (listItems_at ho rfl (wpAny_bind (listUpdate_at ho rfl (wpAny_bind (seqEpoch_at (by rw [hh2]; exact ho1) rfl ?_)) (by rw [List.size_toArray]; exact hz') (Nat.zero_le _))))
  rw [hh2]
  refine wpAny_bind (wpAny_newTuple (wpAny_bind (wpAny_newList (wpAny_holding ?_) (Nat.zero_le _))) (by show its.length ≤ _; exact hz'))
  have hkS : (hp2.push (seqObj "tuple" its.toArray 0)).objs.size = (copyHeap s.heap its).objs.size + 1 := by rw [size_push', hsz2]
  show wpAny _ _ (ksk_rest D0 (.ref fa) false its.toArray e1 (.ref (hp2.push (seqObj "tuple" its.toArray 0)).objs.size)) _ _ { s with heap := (hp2.push (seqObj "tuple" its.toArray 0)).push (seqObj "list" #[] 0) }
  have nkS : ((hp2.push (seqObj "tuple" its.toArray 0)).push (seqObj "list" #[] 0)).get? (hp2.push (seqObj "tuple" its.toArray 0)).objs.size = some (seqObj "list" #[] 0) := Heap.get?_push_size _ rfl
  have nD0 : ((hp2.push (seqObj "tuple" its.toArray 0)).push (seqObj "list" #[] 0)).get? D0 = some (seqObj "list" #[] e1) := Heap.get?_push_of_some _ (Heap.get?_push_of_some _ ho1)
  generalize hkeq : (hp2.push (seqObj "tuple" its.toArray 0)).objs.size = kS at hkS nkS ⊢
  have kpt : ∀ b u, s.heap.get? b = some u → ((hp2.push (seqObj "tuple" its.toArray 0)).push (seqObj "list" #[] 0)).get? b = some u := fun b u e => by
    have hlt := Heap.lt_size e
    refine Heap.get?_push_of_some _ (Heap.get?_push_of_some _ ?_)
    rw [← hh2, Heap.get?_update_other _ _ (Nat.ne_of_gt (Nat.lt_trans hlt (Nat.lt_of_lt_of_eq (Nat.lt_succ_self _) hD)))]
    exact copyHeap_old e
  generalize (hp2.push (seqObj "tuple" its.toArray 0)).push (seqObj "list" #[] 0) = hp4 at nkS nD0 kpt ⊢
  have I4 : Inv X pins τ H { s with heap := hp4, toks := s.toks } := I.kept kpt
  have fD : FpOk X pins H D0 := I.fpOk (by omega) (I.hok.fresh (by omega))
  have fK : FpOk X pins H kS := I.fpOk (by omega) (I.hok.fresh (by omega))
  have hne : kS ≠ D0 := by omega
  unfold ksk_rest
  refine wpAny_bind (wpAny_rule ?_)
  rw [List.forIn_toArray]
  refine wpAny_bind (ksk_fold (fun i s' => ∃ Hi kA e vk, Inv X pins τ Hi s' ∧ Ext G H G Hi ∧ Sto X.K Hi G ∧ Hi D0 = none ∧ Hi kS = none ∧ s'.heap.get? kS = some (seqObj "list" kA e) ∧ s'.heap.get? D0 = some (seqObj "list" #[] e1) ∧ TrL X.K Hi G (ks.take i) vk ∧ Vals vk kA.toList) its 0 _
    ⟨H, #[], 0, [], I4, .refl _ _, S, fD.1, fK.1, nkS, nD0, by rw [List.take_zero]; exact .nil, .nil⟩ ?step ?done)
  case step =>
    rintro j x s' hx ⟨Hi, kA, e, vk, Ii, ei, Si, nDi, nKi, oK, oD, tk, rk⟩
    simp only [Nat.zero_add] at tk ⊢
    have hj : j < its.length := (List.getElem?_eq_some_iff.mp hx).1
    have gd : ds[j]? = some ds[j] := List.getElem?_eq_getElem (by omega)
    have gk : ks[j]? = some ks[j] := List.getElem?_eq_getElem (by omega)
    obtain ⟨vj, gv, tj⟩ := t.get gd
    obtain ⟨uj, gu, rj⟩ := rv.get gv
    rw [hx] at gu
    cases gu
    have hkz : kA.size = j := by
      have a1 := rk.length
      have a2 := tk.length
      rw [List.length_take, Nat.min_eq_left (by omega)] at a2
      have a3 : kA.toList.length = kA.size := Array.length_toList
      omega
    refine wpAny_bind (wpAny_attempt (call_in F hr I.env0.frames hb hd hdd Ii Si rj (Tr.ext ei _ _ tj) (hP j _ _ gd gk).1 (hP j _ _ gd gk).2 fun u' s'' v' d' G' H'' I'' e'' S'' r'' t'' z os keep => ?_))
    obtain ⟨ed, eG⟩ := z
    rw [eG] at e'' S'' t''
    rw [ed] at t''
    have fK' : FpOk X pins Hi kS := fp_of fK nKi
    have fD' : FpOk X pins Hi D0 := fp_of fD nDi
    obtain ⟨oK2, nK2⟩ := keep kS _ fK' oK
    obtain ⟨oD2, nD2⟩ := keep D0 _ fD' oD
    obtain ⟨c2, hc2⟩ : ∃ c2, (s''.heap.update kS (Obj.mapSeq (·.push u'))).get? kS = some (seqObj "list" (kA.push u') c2) := ⟨_, get?_update_seq oK2 (·.push u')⟩
    have ez : (kA.push u').size = j + 1 := by rw [Array.size_push, hkz]
    show wpAny _ _ (do Builtin.List.listUpdate (.ref kS) (·.push u'); pure (ForInStep.yield PUnit.unit)) _ _ _
    refine wpAny_bind (listUpdate_at oK2 rfl (wpAny_pure ⟨rfl, H'', kA.push u', c2, vk ++ [v'], ?_, ei.trans e'', S'', nD2, nK2, hc2, ?_, ?_, ?_⟩) (by omega) (by omega))
    · exact I''.turnedL (t' := s''.toks) (ch := [kS]) (fun b o hb' eb => by rw [Heap.get?_update_other _ _ (fun q => hb' (by simp [q]))]; exact eb) (fun b hb' => by
        have q : b = kS := by simpa using hb'
        subst q
        exact fp_of fK nK2)
    · rw [Heap.get?_update_other _ _ hne]; exact oD2
    · have ek : ks.take (j + 1) = ks.take j ++ [ks[j]] := by rw [List.take_add_one, gk]; rfl
      rw [ek]
      exact (tk.ext e'').append (.one t'')
    · rw [Array.toList_push]
      exact rk.append (.cons r'' .nil)
  case done =>
    rintro s' ⟨Hi, kA, e, vk, Ii, ei, Si, nDi, nKi, oK, oD, tk, rk⟩
    rw [List.take_of_length_le (by omega)] at tk
    refine wpAny_bind (listItems_at oK rfl ?_)
    have ti : TrL X.K Hi G ds vs := t.ext ei
    have er := reads_of Ii tk rk h1
    have hal : AllAlike (((ds.zip vs).zip ks).map fun b : PK3 => b.2.py) := by
      rw [pk3_keys l1 hk]
      intro d hd1 d' hd'
      obtain ⟨p, hp, rfl⟩ := List.mem_map.mp hd1
      obtain ⟨p', hp', rfl⟩ := List.mem_map.mp hd'
      exact h3 _ hp _ hp'
    have hsk : Sortable (((ds.zip vs).zip ks).map fun b : PK3 => b.2.py) := by
      rw [pk3_keys l1 hk]
      refine h4.imp (fun h d hd1 => ?_) fun h d hd1 => ?_
      · obtain ⟨p, hp, rfl⟩ := List.mem_map.mp hd1
        exact h _ hp
      · obtain ⟨p, hp, rfl⟩ := List.mem_map.mp hd1
        exact h _ hp
    have er' : EachIs (fun v d => ∃ as, Reads s'.heap v d as) kA.toList (((ds.zip vs).zip ks).map fun b : PK3 => b.2.py) := by rw [pk3_keys l1 hk]; exact er
    have hks : kA.size = its.length := by
      have a1 := rk.length
      have a2 := tk.length
      have a3 : kA.toList.length = kA.size := Array.length_toList
      omega
    refine keyH_end (κ := dataKind s'.heap (((ds.zip vs).zip ks).map fun b : PK3 => b.2.py)) (h₁ := without s'.heap kS) (fun b o hb' eb => ?_) without_self oK oD hne (SortsAt.data er' hal hsk fun d hd1 => ?_) hks hz' fun h' tok c kb hc => ⟨rfl, ?_⟩
    · by_cases hbk : b = kS
      · rw [hbk, without_self] at eb; cases eb
      · rw [without_ne hbk] at eb; exact eb
    · rw [pk3_keys l1 hk] at hd1
      obtain ⟨p, hp, rfl⟩ := List.mem_map.mp hd1
      have := depL_mem hp
      have hx : X.A.in1.in1.units = X.A.units + 2 := rfl
      rw [hx, dep_py p (pureL_mem h1 hp)]
      omega
    · have ko : KeyedOut false (((ds.zip vs).zip ks).map fun b : PK3 => b.2.py) its (sortVals (dataKind s'.heap (((ds.zip vs).zip ks).map fun b : PK3 => b.2.py)) false kA.toList its) := ⟨s'.heap, kA.toList, hal, rfl, er'⟩
      have eo := keyedOut_each (fun b : PK3 => b.2.py) ko (pk3_of ti rv hk)
      obtain ⟨tf, rf⟩ := pk3_back eo
      rw [pk3_sort l1 hk] at tf
      have I5 : Inv X pins τ Hi { s' with heap := h', toks := tok } := Ii.turnedL (ch := [kS, D0]) (fun b o hb' eb => kb b o (fun q => hb' (by simp [q])) (by rw [without_ne (fun q => hb' (by simp [q]))]; exact eb)) (fun b hb' => by
        simp at hb'
        rcases hb' with q | q
        · subst q; exact fp_of fK nKi
        · subst q; exact fp_of fD nDi)
      refine ep_lk ⟨.ref D0, upd Hi D0 (.lst _), I5.take (t' := tok) (h' := h') (fun _ _ _ q => q) (fp_of fD nDi) ⟨?_, _, c, rf, hc⟩, rfl, kQ _ D0 Hi ei Si nDi tf⟩
      rw [List.length_map, List.length_mergeSort, List.length_zip, List.length_zip]
      omega
end
section
variable {Γ : Ctx} {X : Cx} {N : List Str} {sc : Scope} {fc : Str → Bool} {k : Nat} {W : Wi}
def rSrtBy (K : PySem.W.Frag) (m : Bool) (fa : Addr) (n : Nat) (dd : List D) (P : Pm) : List V → List V → Hp → VK → Prop := fun vs zs H Q => ∃ x d G ds ks q, vs = [x] ∧ zs = [.ref fa] ∧ Tr K H G d x ∧ Sto K H G ∧ lstOf (lk G d) = some ds ∧ ks.length = ds.length ∧
  (∀ (i : Nat) d k, ds[i]? = some d → ks[i]? = some k → 1 + dd.length = n ∧ P (d :: dd) G (fun y G2 => y = k ∧ G2 = G)) ∧ sortOk ks = true ∧ mkO m (.lst (sortByD ds ks)) (.lst (sortByD ds ks)) G q ∧ Kont K G H q Q
theorem cr_srtBy {m : Bool} {fa : Addr} {fd : FuncData} {ps : List Str} {P : Pm} {dvs : List V} {dv : List Value} {dd : List D} (hu : X.A.units + 64 < cLine)
    (F : FnOk X.prog X.w X.K X.mg X.base CX0 k fa fd ps (spOf X.K ps.length P)) (hr : Room k X.A.in1.in1) (hb : Binds X.K fd ps dv) (hd : Vals dvs dv) (hdd : ∀ H G, TrL X.K H G dd dvs) : CallRK X (.builtin "sorted") [Str.ofString "key"] (rSrtBy X.K m fa ps.length dd P) := by
  intro pins s τ H vs zs us ws Q I r rz ⟨x, d, G, ds, ks, q, ev, ez, t, S, es, hk, hP, ok, hq, kk⟩
  subst ev
  subst ez
  obtain ⟨u, rfl, ru⟩ := vals1 r
  obtain ⟨w1, rfl, e1⟩ := vals1 rz
  obtain rfl : w1 = Value.ref fa := e1
  have hr' := S.rb t
  generalize lk G d = y at es hr'
  cases y with
  | lst l =>
    cases es
    obtain ⟨a, vs, rfl, hl, tl⟩ := hr'
    cases ru
    exact srtBy_run hu F hr hb hd hdd I S (.inl hl) tl hk hP ok fun ws n H' e S' hn tw => mk_lst S' hn tw hq (kk.ext e)
  | _ => cases es
theorem de_srtBy (g : Good Γ X N sc fc k) {m : Bool} {f : Str} {e : Expr} {d : Den} {sp : SpD} {p fp kp pos : Pos} (hΓ : Γ.fn f [] = some sp) (hg : Gl X "sorted") (hm : X.mg "sorted" = none) (hf : Gl X f) (hdb : (f == ("__debug__" : Str)) = false) (he : DE X W e d) (hs : noStar e = true) :
    DE X W (.Call (.Name "sorted" p) [e] [⟨some (Str.ofString "key"), .Name f fp, kp⟩] pos) (sSortedBy Γ m f d) := by
  obtain ⟨a, fd, ps, P, hmf, hk, F, hb⟩ := (g.wld.fns f [] sp hΓ).ofNil
  obtain ⟨dvs, dv, dd, b1, b2, b3, b4⟩ := hb 1
  have hr : Room k X.A.in1.in1 := ⟨g.room.hd, by have := g.room.dp; show X.A.depth + 3 * k + 5 < _; omega, by have := g.room.un; show X.A.units + 2 + 16 * k + 200 < _; omega⟩
  refine (pe_callBK (cr_srtBy (m := m) g.hu F hr b1 b2 b3) hg hm boot_sorted (pa_cons he pa_nil (star_cons hs)) (pk_cons (pe_glob hf hmf (v := .ref a) rfl hdb) pk_nil) (by decide) (by decide) (by rw [star_cons hs]; rfl) (star_plain (by simp [hs]))).imp fun τ H Q hw => ?_
  obtain ⟨σ, G, q, A, S, c, kk⟩ := hw
  refine ⟨σ, G, _, A, S, c, fun v x G1 H1 e1 S1 t1 ⟨ds, es, sp', hΓ', ks, hkl, hP, ok, z⟩ => ?_⟩
  rw [hΓ] at hΓ'
  cases hΓ'
  exact ⟨v, x, G1, ds, ks, q, rfl, rfl, t1, S1, es, hkl, fun i d' k' g1 g2 => b4 [d'] [] G1 _ _ rfl (hP i d' k' g1 g2), ok, z, kk.ext e1⟩
end
end T
end
section
set_option Elab.async false
set_option linter.all false
set_option maxRecDepth 100000
set_option maxHeartbeats 4000000
/-! name = {.. for ..}, the name a local of the def. -/
namespace T
open PySem PySem.Spec PyProof.Rows PySem.W L2
section
variable {X : Cx} {W : Wi} {kx vx tg iter : Expr} {ifs : List Expr} {scope : Scope} {own : List (Str × Nat)} {pos spos : Pos}
theorem ps_setDc {i : Nat} {y : Str} {py : Pos} {wi : TI} {g : TG} {tt : TT} {tk tv : TE} (hc : X.calm = true) (hN : X.N.Nodup) (hy : X.N[i]? = some y) (hyl : X.env.scope.names.lookup y = some .local)
    (hsw : swapsWith (.DictComp kx vx [⟨tg, iter, ifs, 0⟩] scope pos) (some (.Name y py)) spos.line X.env = pure true) (hi : PI X tg iter wi) (ok : BlkOk X.N X.env.scope scope own)
    (pg : ∀ (s : Shared) (H : Hp) (C : Addr) (cl : List (Str × Addr)) (fp : List Addr), PG (X.blk s H scope (compEnvC scope cl C X.env) fp) tg g) (pt : ∀ (s : Shared) (H : Hp) (C : Addr) (cl : List (Str × Addr)) (fp : List Addr), PTs (X.blk s H scope (compEnvC scope cl C X.env) fp) ifs tt)
    (pk : ∀ (s : Shared) (H : Hp) (C : Addr) (cl : List (Str × Addr)) (fp : List Addr), PE (X.blk s H scope (compEnvC scope cl C X.env) fp) kx tk)
    (pv : ∀ (s : Shared) (H : Hp) (C : Addr) (cl : List (Str × Addr)) (fp : List Addr), PE (X.blk s H scope (compEnvC scope cl C X.env) fp) vx tv) (hs : ∀ x, foldedSetIterable iter X.env x = pure x) :
    PS X (.Assign [.Name y py] (.DictComp kx vx [⟨tg, iter, ifs, 0⟩] scope pos) spos) (tAsg (tDc wi g tt tk tv (own.map (·.2))) (gName i)) := by
  refine ⟨fun pins s σ H D I h => ?_⟩
  rw [exec_Assign_Name_used _ _ _ _ hsw]
  refine wpAny_bind (wpAny_standAt (wpAny_bind ?_))
  have h : tDc wi g tt tk tv (own.map (·.2)) σ H (fun x H1 => gName i x σ H1 D.nx) := h
  show wpAny _ X.A (do let _ ← comprehension (.DictComp kx vx [⟨tg, iter, ifs, 0⟩] scope pos) scope X.env (firstIterPos [⟨tg, iter, ifs, 0⟩] pos) newDict false (eval iter X.env) (some (assign (.Name y py) X.env))) _ _ s
  refine wpAny_bind (thn (dc_core (Qf := fun _ s' => SP X pins D .next s') hc hN I hi ok pg pt pk pv hs h fun D2 C s' m H' I' q hn f => ?_) fun _ s' hq => wpAny_pure (wpAny_pure hq))
  obtain ⟨f0, f1, f2, f3, f4, f5⟩ := f
  exact wpAny_assign_Name (store_ok2 (v := V.ref D2) I' hN hy (.inl hyl) rfl (fun s2 I2 ⟨a, sb, ha⟩ => ⟨m, hn.sameBut sb (fun e => ha.elim (fun z => f1 (e.trans z)) fun z => f4 y a z e.symm), fun h3 sb3 =>
    ⟨_, H', I2.turned (t' := s2.toks) (fun b o hb e => (sb3.2 b hb).trans e) f0 f1 f3 f4 f5, q⟩⟩) (.inr hyl))
variable {dk dv dp dit : Den}
theorem ds_setDc {m : Bool} {i : Nat} {y : Str} {py : Pos} (hc : X.calm = true) (hN : X.N.Nodup) (hy : X.N[i]? = some y) (hyl : X.env.scope.names.lookup y = some .local)
    (hsw : swapsWith (.DictComp kx vx [⟨tg, iter, [], 0⟩] scope pos) (some (.Name y py)) spos.line X.env = pure true) (hi : DI X W tg iter dit) (ok : BlkOk X.N X.env.scope scope own)
    (hg : ∀ (s : Shared) (H : Hp) (C : Addr) (cl : List (Str × Addr)) (fp : List Addr), DG (X.blk s H scope (compEnvC scope cl C X.env) fp) W0 (own.map (·.2)) tg dp)
    (hk : ∀ (s : Shared) (H : Hp) (C : Addr) (cl : List (Str × Addr)) (fp : List Addr), DE (X.blk s H scope (compEnvC scope cl C X.env) fp) W0 kx dk)
    (he : ∀ (s : Shared) (H : Hp) (C : Addr) (cl : List (Str × Addr)) (fp : List Addr), DE (X.blk s H scope (compEnvC scope cl C X.env) fp) W0 vx dv) (hs : noSet iter = true) :
    DS X W (.Assign [.Name y py] (.DictComp kx vx [⟨tg, iter, [], 0⟩] scope pos) spos) (sAsg (sPname i) (sDc false m dk dv dp dit (own.map (·.2)))) :=
  (ps_setDc hc hN hy hyl hsw hi ok hg (fun _ _ _ _ _ => pts_nil) hk he (folded_no hs)).lkN.imp fun D τ H h => by
    obtain ⟨σ, G, E, A, S, c, k⟩ := h
    have z : tDc (lI X.K (dit.i W)) (lG X.K (own.map (·.2)) (dp.p W0)) tYes (lE X.K (dk.e W0)) (lE X.K (dv.e W0)) (own.map (·.2)) τ H (lQ fun v H1 => D.nx (τ.set i (some v)) H1) :=
      dc_bind (m := m) ⟨σ, G, _, A, S, c, fun v d G1 H1 e1 S1 t1 c1 => k.nx _ _ G1 H1 e1 (sts_set (A.ext e1) t1) S1 c1⟩
    exact z
end
end T
end
section
set_option Elab.async false
set_option linter.all false
set_option maxRecDepth 100000
set_option maxHeartbeats 4000000
/-! More methods: pop, insert, extend, count, join. -/
namespace T
open PySem PySem.Spec PyProof.Rows L2
section
variable {X : Cx} {W : Wi}
theorem mapM_strV {K : PySem.W.Frag} {H : Hp} {G : Store} {ds : List D} {xs : List Str} {vs : List V} (e : ds.mapM strOf = some xs) (t : TrL K H G ds vs) : vs = xs.map V.str := mapM_strs e t
theorem few0 {b : Bm} (h : b = .append ∨ b = .pop ∨ b = .popAt ∨ b = .insert ∨ b = .count ∨ b = .extend) {y : D} (hb : bmTy b y = true) : ∃ l, y = .lst l := by
  rcases h with rfl | rfl | rfl | rfl | rfl | rfl <;> cases y <;> first | exact ⟨_, rfl⟩ | cases hb
theorem bm_popAt : MtR X "list.pop" (rBmW X.K .popAt false) := fun pins s τ H x vs v us Q I rx rvs ⟨a, ds, G, o, r, q, ex, t, S, g, e, z, k⟩ => by
  subst ex
  simp only [Bool.false_eq_true, if_false] at e
  cases o with
  | lst l =>
    generalize hm : ds.map (lk G) = ms at e
    match ms, e with
    | [.int i], e =>
      obtain ⟨d0, v1, rfl, rfl, _, _, hy⟩ := one_of t S hm
      have ev : v1 = .int i := hy
      subst ev
      simp only [bmW] at e
      cases hj : ixN l.length i with
      | none => rw [hj] at e; cases e
      | some j =>
        rw [hj] at e
        simp only [Option.bind_some] at e
        cases hd : l[j]? with
        | none => rw [hd] at e; cases e
        | some d =>
          rw [hd] at e; cases e
          obtain ⟨xs, hH, tl⟩ := S a _ g
          have hl := tl.length
          rw [hl] at hj
          obtain ⟨s1, s2, s3, s4⟩ := ixN_seq hj
          obtain ⟨y, hy1, ty⟩ := tl.get hd
          have hz : xs.length ≤ 16777216 := (I.list (.inl (.inl hH))).elim fun its h => by have := h.2.2; rw [ln_eq] at this; exact this
          refine mt_popAt pins s τ H _ _ v us Q I rx rvs ⟨a, xs, i, j, y, rfl, rfl, hH, by omega, by omega, s1, hy1, ?_⟩
          refine k _ d _ _ (ext_write g) (S.write (m := .lst (l.eraseIdx j)) g ⟨_, upd_same, TrL.ext (ext_write g) _ _ (tl.eraseIdx j)⟩) (Tr.ext (ext_write g) _ _ ty) z
    | [.non], e => simp [bmW] at e
    | [.bl _], e => simp [bmW] at e
    | [.str _], e => simp [bmW] at e
    | [.tup _], e => simp [bmW] at e
    | [.lst _], e => simp [bmW] at e
    | [.dK _], e => simp [bmW] at e
    | [.dT _], e => simp [bmW] at e
    | [.ref _], e => simp [bmW] at e
    | [.scr _], e => simp [bmW] at e
    | [.ktup _], e => simp [bmW] at e
    | [], e => simp [bmW] at e
    | _ :: _ :: _, e => simp [bmW] at e
  | dK l => simp [bmW] at e
  | dT l => simp [bmW] at e
  | ins C fs => simp [bmW] at e
theorem bm_insert : MtR X "list.insert" (rBmW X.K .insert true) := fun pins s τ H x vs v us Q I rx rvs ⟨a, ds, G, o, r, q, ex, t, S, g, e, z, k⟩ => by
  subst ex
  simp only [if_true] at e
  cases o with
  | lst l =>
    match ds, e with
    | [.int i, d], e =>
      obtain ⟨v1, ws, rfl, t1, t2⟩ := t
      obtain ⟨v2, ws2, rfl, t2, t3⟩ := t2
      cases t3
      have ev : v1 = .int i := t1
      subst ev
      simp only [bmW] at e
      split at e
      · rename_i hl
        simp only [Bool.and_eq_true, decide_eq_true_eq] at hl
        cases e
        obtain ⟨xs, hH, tl⟩ := S a _ g
        have hlen := tl.length
        refine mt_insert pins s τ H _ _ v us Q I rx rvs ⟨a, xs, i, v2, rfl, rfl, hH, by rw [ln_eq]; omega, hl.1.1, by have := hl.2; have : LN = 16777216 := rfl; omega, ?_⟩
        refine k _ .non _ _ (ext_write g) (S.write (m := .lst (l.take i.toNat ++ d :: l.drop i.toNat)) g ⟨_, upd_same, TrL.ext (ext_write g) _ _ ?_⟩) rfl z
        rw [List.append_assoc]
        exact (tl.take _).append (.cons t2 (tl.drop _))
      · cases e
    | [], e => simp [bmW] at e
    | [_], e => simp [bmW] at e
    | _ :: _ :: _ :: _, e => simp [bmW] at e
    | [.non, _], e => simp [bmW] at e
    | [.bl _, _], e => simp [bmW] at e
    | [.str _, _], e => simp [bmW] at e
    | [.tup _, _], e => simp [bmW] at e
    | [.lst _, _], e => simp [bmW] at e
    | [.dK _, _], e => simp [bmW] at e
    | [.dT _, _], e => simp [bmW] at e
    | [.ref _, _], e => simp [bmW] at e
    | [.scr _, _], e => simp [bmW] at e
    | [.ktup _, _], e => simp [bmW] at e
  | dK l => simp [bmW] at e
  | dT l => simp [bmW] at e
  | ins C fs => simp [bmW] at e
theorem de_popAt {o e : Expr} {od ed : Den} {apos cpos : Pos} (ho : DE X W o od) (he : DE X W e ed) (hb : noSuper o = true) (hl : (apos.endLine == cpos.line) = true) (hs : noStar e = true) :
    DE X W (.Call (.Attribute o "pop" apos) [e] [] cpos) (sBm od .popAt [ed]) :=
  (pe_bm PySem.F.plainAttrs_list PySem.F.slot_list_pop PySem.F.type_list_pop bm_popAt ho (pa_cons he pa_nil (star_cons hs)) (base_no hb) (few_ok (by simp [hs]) (by simp)) hl (star_cons hs) (star_plain rfl)).imp fun τ H Q ⟨σ, G, q, A, S, c, k⟩ => by
    refine ⟨σ, G, _, A, S, c, fun v x G1 H1 e1 S1 t1 ⟨ht, c1⟩ => ⟨tyL_ok S1 t1 ht (fun y hy => few0 (.inr (.inr (.inl rfl))) hy), ?_⟩⟩
    refine ⟨σ, G1, _, A.ext e1, S1, c1, fun u y G2 H2 e2 S2 t2 ⟨a, m, ex, g, r, er, z⟩ => ?_⟩
    subst ex
    exact ⟨a, [y], G2, m, r, q, t1.ext e2, .one t2, S2, g, er, z, k.ext (e1.trans e2)⟩
theorem de_insert {o e f : Expr} {od ed fd : Den} {apos cpos : Pos} (ho : DE X W o od) (he : DE X W e ed) (hf : DE X W f fd) (hb : noSuper o = true) (hl : (apos.endLine == cpos.line) = true) (hs : noStar e = true) (hs2 : noStar f = true) :
    DE X W (.Call (.Attribute o "insert" apos) [e, f] [] cpos) (sBm od .insert [ed, fd]) :=
  (pe_bm PySem.F.plainAttrs_list PySem.F.slot_list_insert PySem.F.type_list_insert bm_insert ho (pa_cons he (pa_cons hf pa_nil (star_cons hs2)) (star_cons hs)) (base_no hb) (few_ok (by simp [hs, hs2]) (by simp)) hl (star_cons hs) (star_plain (by simp [hs2]))).imp fun τ H Q ⟨σ, G, q, A, S, c, k⟩ => by
    refine ⟨σ, G, _, A, S, c, fun v x G1 H1 e1 S1 t1 ⟨ht, c1⟩ => ⟨tyL_ok S1 t1 ht (fun y hy => few0 (.inr (.inr (.inr (.inl rfl)))) hy), ?_⟩⟩
    refine ⟨σ, G1, _, A.ext e1, S1, c1, fun u y G2 H2 e2 S2 t2 c2 => ?_⟩
    refine ⟨σ, G2, _, (A.ext e1).ext e2, S2, c2, fun u3 y3 G3 H3 e3 S3 t3 ⟨a, m, ex, g, r, er, z⟩ => ?_⟩
    subst ex
    exact ⟨a, [y, y3], G3, m, r, q, (t1.ext e2).ext e3, .cons (t2.ext e3) (.one t3), S3, g, er, z, k.ext ((e1.trans e2).trans e3)⟩
theorem de_extend {o e : Expr} {od ed : Den} {apos cpos : Pos} (ho : DE X W o od) (he : DE X W e ed) (hb : noSuper o = true) (hl : (apos.endLine == cpos.line) = true) (hs : noStar e = true) :
    DE X W (.Call (.Attribute o "extend" apos) [e] [] cpos) (sBm od .extend [ed]) :=
  (pe_bm PySem.F.plainAttrs_list PySem.F.slot_list_extend PySem.F.type_list_extend mt_extend ho (pa_cons he pa_nil (star_cons hs)) (base_no hb) (few_ok (by simp [hs]) (by simp)) hl (star_cons hs) (star_plain rfl)).imp fun τ H Q ⟨σ, G, q, A, S, c, k⟩ => by
    refine ⟨σ, G, _, A, S, c, fun v x G1 H1 e1 S1 t1 ⟨ht, c1⟩ => ⟨tyL_ok S1 t1 ht (fun y hy => few0 (.inr (.inr (.inr (.inr (.inr rfl))))) hy), ?_⟩⟩
    refine ⟨σ, G1, _, A.ext e1, S1, c1, fun u y G2 H2 e2 S2 t2 ⟨p, l, b, l2, ex, g, ey, g2, hz, z⟩ => ?_⟩
    subst ex
    have ey' : y = .ref b := by simpa using ey
    subst ey'
    have tv : v = .ref p := t1
    have tu : u = .ref b := t2
    subst tv; subst tu
    obtain ⟨xs, hH, tl⟩ := S2 p _ g
    obtain ⟨zs, hH2, tl2⟩ := S2 b _ g2
    refine ⟨p, b, xs, zs, rfl, rfl, hH, hH2, by rw [ln_eq, ← tl.length, ← tl2.length]; exact hz, ?_⟩
    exact (k.ext (e1.trans e2)) _ .non _ _ (ext_write g) (S2.write (m := .lst (l ++ l2)) g ⟨_, upd_same, TrL.ext (ext_write g) _ _ (tl.append tl2)⟩) rfl z
theorem de_count {o e : Expr} {od ed : Den} {apos cpos : Pos} (ho : DE X W o od) (he : DE X W e ed) (hb : noSuper o = true) (hl : (apos.endLine == cpos.line) = true) (hs : noStar e = true) :
    DE X W (.Call (.Attribute o "count" apos) [e] [] cpos) (sBm od .count [ed]) :=
  (pe_bm PySem.F.plainAttrs_list PySem.F.slot_list_count PySem.F.type_list_count mt_lcount ho (pa_cons he pa_nil (star_cons hs)) (base_no hb) (few_ok (by simp [hs]) (by simp)) hl (star_cons hs) (star_plain rfl)).imp fun τ H Q ⟨σ, G, q, A, S, c, k⟩ => by
    refine ⟨σ, G, _, A, S, c, fun v x G1 H1 e1 S1 t1 ⟨ht, c1⟩ => ⟨tyL_ok S1 t1 ht (fun y hy => few0 (.inr (.inr (.inr (.inr (.inl rfl))))) hy), ?_⟩⟩
    refine ⟨σ, G1, _, A.ext e1, S1, c1, fun u y G2 H2 e2 S2 t2 c2 => ?_⟩
    replace c2 : oq (bmD .count (lk G2 x) [lk G2 y]) (fun d => q d G2) := c2
    obtain ⟨d, hd, c2⟩ := c2
    have hr := S2.rb (t1.ext e2)
    have hr2 := S2.rb t2
    generalize lk G2 x = m at hr hd
    generalize lk G2 y = m2 at hr2 hd
    cases m <;> first | (simp [bmD] at hd; done) | skip
    rename_i l
    cases m2 <;> first | (simp [bmD] at hd; done) | skip
    rename_i i
    simp only [bmD] at hd
    cases hm : l.mapM intOf with
    | none => rw [hm] at hd; cases hd
    | some ns =>
      rw [hm] at hd; cases hd
      obtain ⟨a, vs, rfl, hq, tl⟩ := hr
      have eu : u = .int i := hr2
      subst eu
      have ev := mapM_int hm tl
      subst ev
      exact ⟨a, ns, i, rfl, rfl, .inl hq, (k.ext (e1.trans e2)) _ (.int ((ns.count i : Nat) : Int)) _ _ (.refl _ _) S2 rfl c2⟩
theorem de_join {o e : Expr} {od ed : Den} {apos cpos : Pos} (ho : DE X W o od) (he : DE X W e ed) (hb : noSuper o = true) (hl : (apos.endLine == cpos.line) = true) (hs : noStar e = true) :
    DE X W (.Call (.Attribute o "join" apos) [e] [] cpos) (sBm od .join [ed]) :=
  (pe_bm PySem.F.plainAttrs_str PySem.F.slot_str_join PySem.F.type_str_join mt_join ho (pa_cons he pa_nil (star_cons hs)) (base_no hb) (few_ok (by simp [hs]) (by simp)) hl (star_cons hs) (star_plain rfl)).imp fun τ H Q ⟨σ, G, q, A, S, c, k⟩ => by
    refine ⟨σ, G, _, A, S, c, fun v x G1 H1 e1 S1 t1 ⟨ht, c1⟩ => ?_⟩
    have hr := S1.rb t1
    generalize hm : lk G1 x = m at hr ht
    cases m <;> first | (cases ht; done) | skip
    rename_i s0
    have ev : v = .str s0 := hr
    subst ev
    refine ⟨rfl, ?_⟩
    refine ⟨σ, G1, _, A.ext e1, S1, c1, fun u y G2 H2 e2 S2 t2 c2 => ?_⟩
    replace c2 : oq (bmD .join (lk G2 x) [lk G2 y]) (fun d => q d G2) := c2
    obtain ⟨d, hd, c2⟩ := c2
    have hx : lk G2 x = .str s0 := by
      have t1' := S2.rb (t1.ext e2)
      cases x with
      | str s1 => have : s1 = s0 := by simpa [lk] using hm
                  rw [this]; rfl
      | ref a => have : V.str s0 = .ref a := t1
                 cases this
      | _ => cases hm
    rw [hx] at hd
    have hr2 := S2.rb t2
    generalize lk G2 y = m2 at hr2 hd
    cases m2 <;> first | (simp [bmD] at hd; done) | skip
    all_goals
      rename_i l
      simp only [bmD] at hd
      cases hm2 : l.mapM strOf with
      | none => rw [hm2] at hd; cases hd
      | some ys =>
        rw [hm2] at hd
        simp only [Option.bind_some] at hd
        split at hd
        · rename_i hz
          cases hd
          obtain ⟨a, vs, rfl, hq, tl⟩ := hr2
          have ev := mapM_strV hm2 tl
          subst ev
          refine ⟨s0, a, ys, rfl, rfl, ?_, hz, ?_⟩
          · first | exact .inl (.inl hq) | exact .inr hq.sq
          · rw [TL.join_eq]
            exact (k.ext (e1.trans e2)) _ (.str (Str.join s0 ys)) _ _ (.refl _ _) S2 rfl c2
        · cases hd
end
end T
end
section
set_option Elab.async false
set_option linter.all false
set_option maxRecDepth 100000
set_option maxHeartbeats 4000000
/-! min of a list, items(), f-strings, [::-1], dict displays. -/
namespace T
open PySem PySem.Spec PyProof.Rows L2
/-! ### data and what it is read as -/
mutual
theorem py_inj : ∀ x y : D, x.pure = true → y.pure = true → x.py = y.py → x = y
  | .non, y, _, q, e => by cases y <;> first | rfl | (cases q; done) | (cases e; done)
  | .bl _, y, _, q, e => by cases y <;> first | (cases e; rfl) | (cases q; done) | (cases e; done)
  | .int _, y, _, q, e => by cases y <;> first | (cases e; rfl) | (cases q; done) | (cases e; done)
  | .str _, y, _, q, e => by cases y <;> first | (cases e; rfl) | (cases q; done) | (cases e; done)
  | .tup xs, y, p, q, e => by
    cases y with
    | tup ys => rw [pyL_inj xs ys p q (by simpa [D.py] using e)]
    | _ => first | (cases q; done) | (cases e; done)
  | .lst xs, y, p, q, e => by
    cases y with
    | lst ys => rw [pyL_inj xs ys p q (by simpa [D.py] using e)]
    | _ => first | (cases q; done) | (cases e; done)
  | .dK _, _, p, _, _ => by cases p
  | .dT _, _, p, _, _ => by cases p
  | .ref _, _, p, _, _ => by cases p
  | .scr _, _, p, _, _ => by cases p
  | .ktup _, _, p, _, _ => by cases p
theorem pyL_inj : ∀ xs ys : List D, D.pureL xs = true → D.pureL ys = true → D.pyL xs = D.pyL ys → xs = ys
  | [], [], _, _, _ => rfl
  | [], _ :: _, _, _, e => by cases e
  | _ :: _, [], _, _, e => by cases e
  | x :: xs, y :: ys, p, q, e => by
    have p' : x.pure = true ∧ D.pureL xs = true := by simpa [D.pureL] using p
    have q' : y.pure = true ∧ D.pureL ys = true := by simpa [D.pureL] using q
    have e' : x.py = y.py ∧ D.pyL xs = D.pyL ys := by simpa [D.pyL] using e
    rw [py_inj x y p'.1 q'.1 e'.1, pyL_inj xs ys p'.2 q'.2 e'.2]
end
theorem minD_py : ∀ (d : D) (ds : List D), (minD d ds).py = PySem.W.minD d.py (D.pyL ds)
  | d, [] => rfl
  | d, x :: ds => by
    rw [minD, minD_py, D.pyL]
    unfold PySem.W.minD
    rw [List.foldl_cons]
    congr 1
    split <;> rfl
theorem minD_mem : ∀ (d : D) (ds : List D), minD d ds ∈ d :: ds
  | d, [] => by simp [minD]
  | d, x :: ds => by
    rw [minD]
    split
    · exact List.mem_cons_of_mem _ (minD_mem x ds)
    · rcases List.mem_cons.mp (minD_mem d ds) with e | e
      · rw [e]; simp
      · simp [e]
section
variable {X : Cx} {W : Wi}
theorem min_run {pins : List (Addr × Obj)} {s : Shared} {τ : L2.St} {H : Hp} {G : Store} {a : Addr} {vs : List V} {d : D} {ds : List D} {its : List Value} {Q : VK} (hu : X.A.units + 64 < cLine) (I : Inv X pins τ H s) (S : Sto X.K H G) (rv : Vals vs its)
    (t : TrL X.K H G (d :: ds) vs) (ok : sortOk (d :: ds) = true) (hc : s.heap.IsList a its.toArray ∨ s.heap.IsTuple a its.toArray) (hh : X.A.handled = none) (k : ∀ v, Tr X.K H G (minD d ds) v → Q v H) :
    wpAny (model X.prog X.w) X.A (call (.builtin "min") [.ref a]) (EP X pins τ Q) X.xe s := by
  obtain ⟨h1, h2, h3, h4⟩ := sortOk_says ok
  obtain ⟨as, hr⟩ := Dp.readsAll I _ _ _ (trL_dp _ _ h1 t) rv
  have emap : d.py :: D.pyL ds = (d :: ds).map D.py := by rw [pyL_map]; rfl
  have hal : PySem.W.AlikeAll (d.py :: D.pyL ds) := by
    rw [emap]
    refine ⟨fun x hx y hy => ?_, fun x hx => ?_⟩
    · obtain ⟨x', hx', rfl⟩ := List.mem_map.mp hx
      obtain ⟨y', hy', rfl⟩ := List.mem_map.mp hy
      exact h3 _ hx' _ hy'
    · obtain ⟨x', hx', rfl⟩ := List.mem_map.mp hx
      rcases h4 with h4 | h4
      · obtain ⟨a, b, e⟩ := h4 _ hx'
        rw [e]; exact nofun
      · exact (h4 _ hx').1
  have hun : X.A.units + 1 + PyData.depthAll (d.py :: D.pyL ds) < cLine := by
    have : PyData.depthAll (d.py :: D.pyL ds) = D.depL (d :: ds) := depL_py (d :: ds) h1
    omega
  have fin : ∀ (i : Nat) v h' tk bs, its.toArray[i]? = some v → Reads h' v (PySem.W.minD d.py (D.pyL ds)) bs → (∀ b o, s.heap.get? b = some o → h'.get? b = some o) → EP X pins τ Q v { s with heap := h', toks := tk } := fun i v h' tk bs hi hrd kp => by
    have hi' : its[i]? = some v := by simpa using hi
    have il : i < its.length := (List.getElem?_eq_some_iff.mp hi').1
    have il2 : i < vs.length := by rw [rv.length]; exact il
    have hv : vs[i]? = some vs[i] := List.getElem?_eq_getElem il2
    obtain ⟨x, hx, tx⟩ := t.getV hv
    obtain ⟨u, hu', ru⟩ := rv.get hv
    rw [hi'] at hu'; cases hu'
    have I2 : Inv X pins τ H { s with heap := h', toks := tk } := I.kept kp
    have hxm := List.mem_of_getElem? hx
    obtain ⟨cs, rx⟩ := (tr_dp x _ (pureL_mem h1 hxm) tx).reads I2 _ _ _ ru
    rw [← minD_py] at hrd
    have e := PySem.W.alike_unique _ _ _ _ _ (h3 _ hxm _ (minD_mem d ds)) rx hrd
    have e2 := py_inj _ _ (pureL_mem h1 hxm) (pureL_mem h1 (minD_mem d ds)) e
    rw [e2] at tx
    exact ⟨_, H, I2, ru, k _ tx⟩
  rcases hc with hc | hc
  · exact PySem.W.min_list_data hh hc hr hal hun fin
  · exact PySem.W.min_tuple_data hh hc hr hal hun fin
theorem bi_minL (hc : X.calm = true) (hu : X.A.units + 64 < cLine) : CallR X (.builtin "min") (rBi X.K .minL) := by
  intro pins s τ H vs us Q I r ⟨ds, G, d, t, S, e, k⟩
  generalize hm : ds.map (lk G) = ms at e
  match ms, e with
  | [.lst (x :: l)], e =>
    obtain ⟨d0, v, rfl, rfl, _, _, hy⟩ := one_of t S hm
    simp only [biD] at e
    split at e
    · rename_i ok
      cases e
      obtain ⟨a, ws, rfl, hq, tl⟩ := hy
      cases r with
      | cons r1 r2 =>
        cases r2
        cases r1
        obtain ⟨its, rv, pl, _⟩ := I.list (.inl hq)
        exact min_run hu I S rv tl ok (.inl pl.isList) (I.ok.hd hc) fun v tv => k v H (.refl _ _) S tv
    · cases e
  | [.tup (x :: l)], e =>
    obtain ⟨d0, v, rfl, rfl, _, _, hy⟩ := one_of t S hm
    simp only [biD] at e
    split at e
    · rename_i ok
      cases e
      obtain ⟨a, ws, rfl, hq, tl⟩ := hy
      cases r with
      | cons r1 r2 =>
        cases r2
        cases r1
        obtain ⟨its, rv, pl, _⟩ := I.tuple hq.sq
        exact min_run hu I S rv tl ok (.inr pl) (I.ok.hd hc) fun v tv => k v H (.refl _ _) S tv
    · cases e
  | [.lst []], e => simp [biD] at e
  | [.tup []], e => simp [biD] at e
  | [.non], e => simp [biD] at e
  | [.bl _], e => simp [biD] at e
  | [.int _], e => simp [biD] at e
  | [.str _], e => simp [biD] at e
  | [.dK _], e => simp [biD] at e
  | [.dT _], e => simp [biD] at e
  | [.ref _], e => simp [biD] at e
  | [.scr _], e => simp [biD] at e
  | [.ktup _], e => simp [biD] at e
  | [], e => simp [biD] at e
  | _ :: _ :: _, e => simp [biD] at e
theorem de_minL {e : Expr} {d : Den} {p pos : Pos} (hc : X.calm = true) (hu : X.A.units + 64 < cLine) (hg : Gl X "min") (hm : X.mg "min" = none) (he : DE X W e d) (hs : noStar e = true) : DE X W (.Call (.Name "min" p) [e] [] pos) (sBi .minL [d]) :=
  de_biB (by decide) (bi_minL hc hu) hg hm boot_min (da_cons he da_nil hs) (by simp [hs]) (by decide) (by decide)
/-! ### items -/
theorem walk_items {K : PySem.W.Frag} {a : Addr} {o : Obj} {kvs : List (Key × D)} {kws : List (Key × V)} {G1 : Store} {H1 : Hp} (hG : G1 a = none) (hd : H1 a = some (.frz o (.dK kws))) (tk : TrK K H1 G1 kvs kws) :
    WalkOk K (fun _ => True) (kvs.map fun p => .tup [dKey p.1, p.2]) (Iti a o kws) G1 H1 := fun i G H e S _ => by
  obtain ⟨hG2, hd2⟩ := e.fz a o (.dK kws) trivial hG hd
  have tk2 := TrK.ext e _ _ tk
  have hl := tk2.length
  have get : ∀ {ds : List (Key × D)} {ws : List (Key × V)} {i : Nat} {p : Key × D}, TrK K H G ds ws → ds[i]? = some p → ∃ v, ws[i]? = some (p.1, v) ∧ Tr K H G p.2 v := by
    intro ds
    induction ds with
    | nil => intro ws i p _ e; simp at e
    | cons x ds ih =>
      intro ws i p t e
      obtain ⟨x1, x2⟩ := x
      obtain ⟨v, ws, rfl, t1, t2⟩ := t
      cases i with
      | zero => simp at e; subst e; exact ⟨v, rfl, t1⟩
      | succ i => simp at e; obtain ⟨u, a, b⟩ := ih t2 e; exact ⟨u, by simpa using a, b⟩
  refine ⟨fun d hd3 => ?_, fun hn => ⟨hd2, ?_⟩⟩
  · rw [List.getElem?_map] at hd3
    cases hk : kvs[i]? with
    | none => rw [hk] at hd3; cases hd3
    | some p =>
      rw [hk] at hd3; cases hd3
      obtain ⟨v, hv, tv⟩ := get tk2 hk
      refine ⟨⟨hd2, (List.getElem?_eq_some_iff.mp hv).1⟩, fun y H' ⟨T, k', v', e1, e2, e3, e4⟩ => ?_⟩
      subst e2; subst e4
      rw [hv] at e1; cases e1
      refine ⟨ext_new e3, S.new e3, tup_new S e3 (.cons ?_ (.one tv))⟩
      cases hk2 : p.1 <;> rfl
  · rw [List.getElem?_map] at hn
    cases hk : kvs[i]? with
    | none => rw [← hl]; exact List.getElem?_eq_none_iff.mp hk
    | some p => rw [hk] at hn; cases hn
theorem di_items {e : Expr} {da : Den} {apos cpos tpos : Pos} {elts : List Expr} {kk : Nat} (ha : DE X W e da) (hb : ∀ w, attributeBase e "items" X.env w = w) (hl : (apos.endLine == cpos.line) = true) :
    DI X W (.Tuple elts kk tpos) (.Call (.Attribute e "items" apos) [] [] cpos) (sItems da) :=
  (pi_items ha (hb _) hl).imp fun τ H R ⟨σ, G, q, A, B, c, k⟩ => by
    refine ⟨σ, G, _, A, B, c, fun x d G1 H1 e1 S1 t1 z => ?_⟩
    cases d <;> first | (exact z.elim) | skip
    rename_i kvs
    obtain ⟨a, kws, rfl, ⟨hG, o, hd⟩, tk⟩ := t1
    exact ⟨a, o, kws, rfl, hd, k _ _ _ G1 H1 e1 S1 (walk_items hG hd tk) (by rw [List.length_map]; exact z.1) z.2⟩
/-! ### f-strings -/
inductive PJD (X : Cx) (W : Wi) : List Expr → List Den → Prop where
  | nil : PJD X W [] []
  | str {s : Str} {j : Nat} {p : Pos} {es : List Expr} {ds : List Den} (r : PJD X W es ds) : PJD X W (.Constant (.str s) j p :: es) (sC (.str s) :: ds)
  | fmt {e : Expr} {d : Den} {p : Pos} {es : List Expr} {ds : List Den} (h : DE X W e d) (r : PJD X W es ds) : PJD X W (.FormattedValue e (-1) none p :: es) (d :: ds)
theorem pjd_run {es : List Expr} {ds : List Den} (h : PJD X W es ds) : ∃ ts, PJ X es ts ∧ ∀ (acc : Str) (τ : L2.St) (H : Hp) (R : Str → Hp → Prop) (σ : Sl) (G : Store) (q : Str → Store → Prop), Sts X.K H G σ τ → Sto X.K H G → dJ ds acc W σ G q →
    (∀ t G' H', Ext G H G' H' → Sto X.K H' G' → q t G' → R t H') → tJs ts acc τ H R := by
  induction h with
  | nil => exact ⟨[], .nil, fun acc τ H R σ G q A S c k => k acc G H (.refl _ _) S c⟩
  | @str s j p es ds r ih =>
    obtain ⟨ts, h1, h2⟩ := ih
    refine ⟨_ :: ts, .cons pe_str h1, fun acc τ H R σ G q A S c k => ?_⟩
    obtain ⟨y, hy, hz, c⟩ := c
    have ey : y = s := by
      simp only [partD] at hy
      split at hy
      · exact (Option.some.inj hy).symm
      · cases hy
    subst ey
    exact ⟨y, rfl, by rw [ln_eq]; exact hz, h2 _ τ H R σ G q A S c k⟩
  | @fmt e d p es ds h r ih =>
    obtain ⟨ts, h1, h2⟩ := ih
    refine ⟨_ :: ts, .cons (pe_fmt h) h1, fun acc τ H R σ G q A S c k => ?_⟩
    refine ⟨σ, G, _, A, S, c, fun v x G1 H1 e1 S1 t1 ⟨y, hy, hz, c1⟩ => ?_⟩
    have go : tJs ts (acc ++ y) τ H1 R := h2 _ τ H1 R σ G1 q (A.ext e1) S1 c1 fun t G' H' e2 S' z => k t G' H' (e1.trans e2) S' z
    cases x with
    | str s0 =>
      simp only [partD] at hy
      split at hy
      · rename_i hz2
        have ey : s0 = y := Option.some.inj hy
        have ev : v = .str s0 := t1
        exact .inl ⟨y, by rw [ev, ey], by rw [ln_eq, ← ey]; exact hz2, y, rfl, by rw [ln_eq]; exact hz, go⟩
      · cases hy
    | int i =>
      simp only [partD] at hy
      split at hy
      · rename_i hz2
        cases hy
        have ev : v = .int i := t1
        exact .inr ⟨i, ev, log2_small hz2, _, rfl, by rw [ln_eq]; exact hz, go⟩
      · cases hy
    | _ => simp [partD] at hy
theorem de_fstr {v1 v2 : Expr} {rest : List Expr} {ds : List Den} {pos : Pos} (h : PJD X W (v1 :: v2 :: rest) ds) : DE X W (.JoinedStr (v1 :: v2 :: rest) pos) (sFstr ds) := by
  obtain ⟨ts, h1, h2⟩ := pjd_run h
  exact (pe_joined h1).imp fun τ H Q ⟨σ, G, q, A, S, c, k⟩ => h2 _ τ H _ σ G _ A S c fun t G' H' e S' z => k (.str t) (.str t) G' H' e S' rfl z
/-! ### {k: v, ..} -/
inductive PD (X : Cx) (W : Wi) : List (Option Expr) → List Expr → List Den → Prop where
  | nil : PD X W [] [] []
  | cons {k v : Expr} {dk dv : Den} {ks : List (Option Expr)} {vs : List Expr} {ds : List Den} (hk : DE X W k dk) (hv : DE X W v dv) (r : PD X W ks vs ds) : PD X W (some k :: ks) (v :: vs) (dk :: dv :: ds)
def TrP (K : PySem.W.Frag) (H : Hp) (G : Store) : List D → List (V × V) → Prop
  | x :: y :: xs, p :: ps => Tr K H G x p.1 ∧ Tr K H G y p.2 ∧ TrP K H G xs ps
  | [], [] => True
  | _, _ => False
theorem pd_run {pos : Pos} {ks : List (Option Expr)} {vs : List Expr} {ds : List Den} (h : PD X W ks vs ds) : ∃ trs, PPs X pos ks vs trs ∧ ∀ (τ : L2.St) (H : Hp) (R : List (V × V) → Hp → Prop) (σ : Sl) (G : Store) (q : List D → Store → Prop), Sts X.K H G σ τ → Sto X.K H G → dA ds W σ G q →
    (∀ xs ps G' H', xs.length = ds.length → Ext G H G' H' → Sto X.K H' G' → TrP X.K H' G' xs ps → q xs G' → R ps H') → tPairs trs τ H R := by
  induction h with
  | nil => exact ⟨[], pps_nil, fun τ H R σ G q A S c k => k [] [] G H rfl (.refl _ _) S trivial c⟩
  | @cons k v dk dv ks vs ds hk hv r ih =>
    obtain ⟨trs, h1, h2⟩ := ih
    refine ⟨_, pps_cons hk hv h1, fun τ H R σ G q A S c kk => ?_⟩
    refine ⟨σ, G, _, A, S, c, fun u x G1 H1 e1 S1 t1 c1 => ?_⟩
    refine ⟨σ, G1, _, A.ext e1, S1, c1, fun u2 x2 G2 H2 e2 S2 t2 c2 => ?_⟩
    refine h2 τ H2 _ σ G2 _ ((A.ext e1).ext e2) S2 c2 fun xs ps G3 H3 l3 e3 S3 t3 c3 => ?_
    exact kk (x :: x2 :: xs) ((u, u2) :: ps) G3 H3 (by simp [l3]) ((e1.trans e2).trans e3) S3 ⟨(t1.ext e2).ext e3, t2.ext e3, t3⟩ c3
theorem trP_len {K : PySem.W.Frag} {H : Hp} {G : Store} : ∀ {xs : List D} {ps : List (V × V)}, TrP K H G xs ps → xs.length = 2 * ps.length
  | [], [], _ => rfl
  | [], _ :: _, t => t.elim
  | [_], [], t => t.elim
  | [_], _ :: _, t => t.elim
  | _ :: _ :: _, [], t => t.elim
  | _ :: _ :: xs, _ :: ps, t => by
    have := trP_len t.2.2
    simp [this]; omega
theorem pairsK_tr {K : PySem.W.Frag} {H : Hp} {G : Store} : ∀ {xs : List D} {l : List (Key × D)} {ps : List (V × V)}, pairsK xs = some l → TrP K H G xs ps → ∃ kws : List (Key × V), ps = kws.map (fun kv => (kV kv.1, kv.2)) ∧ TrK K H G l kws
  | [], l, ps, e, t => by
    cases ps with
    | nil => cases e; exact ⟨[], rfl, rfl⟩
    | cons _ _ => exact t.elim
  | [x], l, ps, e, t => by cases e
  | x :: y :: xs, l, ps, e, t => by
    cases ps with
    | nil => exact t.elim
    | cons p ps =>
      obtain ⟨t1, t2, t3⟩ := t
      rw [pairsK] at e
      cases hk : keyOf x with
      | none => rw [hk] at e; cases e
      | some k =>
        rw [hk] at e
        simp only [Option.bind_some] at e
        cases hr : pairsK xs with
        | none => rw [hr] at e; cases e
        | some l2 =>
          rw [hr] at e; cases e
          obtain ⟨kws, rfl, tk⟩ := pairsK_tr hr t3
          refine ⟨(k, p.2) :: kws, ?_, p.2, kws, rfl, t2, tk⟩
          rw [List.map_cons]
          congr 1
          exact Prod.ext (keyOf_dV hk t1) rfl
theorem de_dsp {m : Bool} {ks : List (Option Expr)} {vs : List Expr} {ds : List Den} {pos : Pos} (h : PD X W ks vs ds) (hall : ks.all (·.isSome) = true) (hl : ks.length = vs.length) (h0 : ks ≠ []) (h15 : ks.length ≤ 15) : DE X W (.Dict ks vs pos) (sDsp false m ds) := by
  obtain ⟨trs, h1, h2⟩ := pd_run (pos := pos) h
  have pl : ∀ {ks : List (Option Expr)} {vs : List Expr} {ds : List Den}, PD X W ks vs ds → ds.length = 2 * ks.length := by
    intro ks vs ds h
    induction h with
    | nil => rfl
    | cons _ _ _ ih => simp [ih]; omega
  refine (pe_disp h1 hall hl h0 h15).lk.imp fun τ H Q ⟨σ, G, q, A, S, c, k⟩ p np => ?_
  have nG := S.no np
  refine h2 τ _ _ σ G (fun xs G1 => oq (pairsK xs) fun l => mkO m (.dK (merge [] l)) (.dK (merge [] l)) G1 q) (A.ext (ext_new np)) (S.new np) c fun xs ps G' H' hlen e S' tp ⟨l, hp, z⟩ => ?_
  obtain ⟨gp, hp'⟩ := e.un p (.dK []) trivial nG upd_same
  obtain ⟨kws, rfl, tk⟩ := pairsK_tr hp tp
  have e1 := trP_len tp
  rw [List.length_map] at e1
  have e2 := pl h
  refine ⟨hp', kws, rfl, by omega, ?_⟩
  have tm : TrK X.K H' G' (merge [] l) (mergeK [] kws) := merge_trK tk (show TrK X.K H' G' [] [] from rfl)
  have eg : Ext G H G' (upd H' p (.dK (mergeK [] kws))) := ext_grow ((ext_new np).trans e) np
  cases m with
  | true =>
    refine .done (k _ (.ref p) (put G' p (.dK (merge [] l))) _ (ext_growM eg np) ?_ rfl (z p gp))
    have ex : Ext0 G' H' (put G' p (.dK (merge [] l))) (upd H' p (.dK (mergeK [] kws))) := ⟨fun a o u d h r => ⟨by rw [put_ne (fun e => by subst e; rw [hp'] at r; cases r)]; exact h, by rw [upd_ne (fun e => by subst e; rw [hp'] at r; cases r)]; exact r⟩,
      fun a vs h r => ⟨by rw [put_ne (fun e => by subst e; rw [hp'] at r; cases r)]; exact h, by rw [upd_ne (fun e => by subst e; rw [hp'] at r; cases r)]; exact r⟩⟩
    intro a o qa
    by_cases ea : a = p
    · subst ea; rw [put_same] at qa; cases qa; exact ⟨_, upd_same, TrK.ext0 ex _ _ tm⟩
    · rw [put_ne ea] at qa
      exact (S' a o qa).ext0 ex (upd_ne ea)
  | false =>
    refine .lock p (.dK (mergeK [] kws)) upd_same trivial fun od => .done ?_
    rw [upd_upd]
    exact k _ (.dK (merge [] l)) G' _ (ext_grow ((ext_new np).trans e) np) (S'.any gp hp' trivial) ⟨p, _, rfl, ⟨gp, od, upd_same⟩, TrK.ext0 (ext_any hp' trivial) _ _ tm⟩ z
end
end T
end
section
set_option Elab.async false
set_option linter.all false
set_option maxRecDepth 100000
set_option maxHeartbeats 4000000
/-! x[::-1], of lists and tuples; t[:n].count(k); displays of dicts keyed by tuples. -/
namespace T
open PySem PySem.Spec PyProof.Rows L2 HT
section
variable {P : Program} {w : World} {A : Around} {E : Value → Shared → Prop} {s : Shared}
theorem fm_some {α β : Type} {f : α → Option β} {g : α → β} : ∀ {l : List α}, (∀ k ∈ l, f k = some (g k)) → l.filterMap f = l.map g
  | [], _ => rfl
  | x :: l, h => by rw [List.filterMap_cons_some (h x (by simp)), List.map_cons, fm_some fun k hk => h k (by simp [hk])]
theorem rev_places (xs : Array Value) : ((List.range xs.size).filterMap fun (k : Nat) => xs[((xs.size : Int) - 1 + (k : Int) * (-1)).toNat]?).toArray = xs.toList.reverse.toArray := by
  congr 1
  have e : ∀ k ∈ List.range xs.size, xs[((xs.size : Int) - 1 + (k : Int) * (-1)).toNat]? = some (xs.toList.reverse.getD k .none) := fun k hk => by
    have hk' : k < xs.size := List.mem_range.mp hk
    have e1 : ((xs.size : Int) - 1 + (k : Int) * (-1)).toNat = xs.size - 1 - k := by omega
    rw [e1, Array.getElem?_eq_getElem (by omega)]
    congr 1
    rw [List.getD_eq_getElem?_getD, List.getElem?_reverse (by simpa using hk')]
    simp only [Array.length_toList]
    rw [Array.getElem?_toList, Array.getElem?_eq_getElem (by omega)]; rfl
  rw [fm_some e]
  refine List.ext_getElem? fun i => ?_
  rw [List.getElem?_map]
  by_cases hi : i < xs.size
  · rw [List.getElem?_range hi]
    show some (xs.toList.reverse.getD i .none) = _
    rw [List.getD_eq_getElem?_getD, List.getElem?_eq_getElem (by simpa using hi)]; rfl
  · rw [List.getElem?_eq_none (by simpa using hi), List.getElem?_eq_none (by simpa using hi)]; rfl
theorem rev_apply {sl : Addr} {u : Tok} {n : Nat} {Q : Int × Int × Nat → Shared → Prop} (hs : s.heap.IsSliceOf sl .none .none (.int (-1) u)) (h : Q ((n : Int) - 1, -1, n) s) : wpAny (model P w) A (Builtin.Slice.sliceApplied (.ref sl) (pure (n : Int))) Q E s := by
  obtain ⟨o, ho, hc, hd⟩ := id hs
  unfold Builtin.Slice.sliceApplied Builtin.Slice.sliceFields
  refine wpAny_bind (wpAny_bind (wpAny_field ho hd (x := .none) rfl (wpAny_bind (wpAny_field ho hd (x := .none) rfl (wpAny_bind (wpAny_field ho hd (x := .int (-1) u) rfl (wpAny_pure ?_)))))))
  refine wpAny_bind (slicePart_ (.int _ _) ?_)
  show wpAny _ _ (if ((-1 : Int) == 0) = true then _ else _) _ _ s
  rw [if_neg (by decide)]
  refine wpAny_bind (slicePart_ .none (wpAny_bind (slicePart_ .none (wpAny_bind (wpAny_pure ?_)))))
  have e : Builtin.Slice.slicePlaces ((n : Int) - 1) (-1) (-1) = n := by
    unfold Builtin.Slice.slicePlaces
    simp only [show ¬ ((-1 : Int) > 0) by omega, if_false]
    split
    · first | (simp; done) | (simp; omega)
    · first | (simp; done) | (simp; omega)
  show wpAny _ _ (pure ((n : Int) - 1, (-1 : Int), Builtin.Slice.slicePlaces ((n : Int) - 1) (-1) (-1))) _ _ s
  rw [e]
  exact wpAny_pure h
theorem tup_rev {t sl : Addr} {its : Array Value} {u : Tok} {Q : Value → Shared → Prop} (ht : IsTup s.heap t its) (hs : s.heap.IsSliceOf sl .none .none (.int (-1) u)) (hz : its.size ≤ sizeLine)
    (h : Q (.ref s.heap.objs.size) { s with heap := s.heap.push { cls := .type "tuple", data := .seq its.toList.reverse.toArray } }) : wpAny (model P w) A (getItem (.ref t) (.ref sl)) Q E s := by
  obtain ⟨o, ho, hc, hd⟩ := id hs
  have hT : s.TypeIs (.ref sl) "slice" := ⟨o, ho, hc⟩
  unfold getItem
  try with_reducible refine wpAny_holding ?_
  first | refine wpAny_bind (wpAny_pure ?_) | skip
  refine wpAny_bind (wpAny_sequenceKey ht.typeIs (by decide) (wpAny_bind (wpAny_callSpecial?_slot (name := Str.ofString "__getitem__") ht.typeIs PyProof.Rows.slot_tuple_getitem
    (wpAny_call_entry PyProof.Rows.slot_tuple_getitem ht.typeIs entry_tuple_getitem ?_ (args_tuple_getitem _ _)))))
  show wpAny _ _ (Builtin.Tuple.tupleItemsOf (.ref t) >>= _) _ _ s
  refine wpAny_bind (tupleItemsOf_ ht (wpAny_bind (wpAny_typeOf hT ?_)))
  rw [if_pos (by decide)]
  refine wpAny_bind (rev_apply hs ?_)
  show wpAny _ _ (if ((its.size : Int) - 1 == 0 && (-1 : Int) == 1 && its.size == its.size) = true then _ else _) _ _ s
  rw [if_neg (by simp), rev_places]
  have hsz : sizeOk (.seq its.toList.reverse.toArray) := by
    show its.toList.reverse.toArray.size ≤ sizeLine
    rw [List.size_toArray, List.length_reverse, Array.length_toList]; exact hz
  first
    | exact wpAny_bind (m := Builtin.Tuple.tupleExact _) (wpAny_newObj_type (wpAny_pure ⟨_, rfl, wpAny_pure h⟩) hsz)
    | exact wpAny_bind (m := Builtin.Tuple.tupleExact _) (wpAny_newObj_type (wpAny_bind (wpAny_pure (wpAny_pure ⟨_, rfl, wpAny_pure h⟩))) hsz)
end
section
variable {X : Cx} {W : Wi}
def tRev (K : PySem.W.Frag) (te : TE) : TE := fun τ H Q => te τ H fun x H1 => (∃ a xs, x = .ref a ∧ SqL K H1 a xs ∧ ∀ p, H1 p = none → Q (.ref p) (upd H1 p (.lst xs.reverse))) ∨ ∃ a xs, x = .ref a ∧ SqT K H1 a xs ∧ ∀ p, H1 p = none → Q (.ref p) (upd H1 p (.tup xs.reverse))
theorem pe_rev {e : Expr} {te : TE} {k : Nat} {p1 p2 p3 pos : Pos} (he : PE X e te) : PE X (.Subscript e (.Slice none none (some (.UnaryOp .USub (.Constant (.int 1) k p1) p2)) p3) pos) (tRev X.K te) := by
  refine ⟨fun pins s τ H Q I h => ?_⟩
  refine Subscript_ (thn (he.run pins s τ H _ I h) fun v s1 ⟨x, H1, I1, r1, q1⟩ => ?_)
  have hst : PO X (some (.UnaryOp .USub (.Constant (.int 1) k p1) p2)) (tPart (tUn (rU fun i => .int (-i)) (tC (.int 1)))) := po_some (pe_un un_neg pe_int)
  refine wpAny_Slice (thn (po_none.run pins s1 τ H1 (fun o K1 => o = none ∧ K1 = H1) I1 ⟨rfl, rfl⟩) fun vl s2 ⟨l, H2, I2, pl, el, e2⟩ => ?_)
  subst el e2
  refine thn (po_none.run pins s2 τ H2 (fun o K1 => o = none ∧ K1 = H2) I2 ⟨rfl, rfl⟩) fun vu s3 ⟨u, H3, I3, pu, eu, e3⟩ => ?_
  subst eu e3
  refine thn (hst.run pins s3 τ H3 (fun o K1 => o = some (-1) ∧ K1 = H3) I3 ⟨1, rfl, -1, rfl, rfl, rfl⟩) fun vs s4 ⟨o, H4, I4, ps, eo, e4⟩ => ?_
  subst eo e4
  have I5 : Inv X pins τ H4 { s4 with heap := s4.heap.push { cls := .type "slice", data := .fields #[vl, vu, vs] } } := I4.kept (t' := s4.toks) fun b ob q => Heap.get?_push_of_some _ q
  rcases q1 with ⟨a, xs, rfl, hx, q⟩ | ⟨a, xs, rfl, hx, q⟩
  · cases r1
    obtain ⟨its, r, ht, hz⟩ := I5.list hx
    have hlen := r.length
    show wpAny (model X.prog X.w) X.A (subscriptTail e (.Slice none none (some (.UnaryOp .USub (.Constant (.int 1) k p1) p2)) p3) (.ref a) (.ref s4.heap.objs.size)) (EP X pins τ Q) X.xe _
    refine tail_any (ops := [.ref a, .ref s4.heap.objs.size]) ht.isList.typeIs (PySem.slot_list_getitem.lookup) ?_ (by with_unfolding_all rfl)
    refine wpAny_getItem_list_slice ht.isList (Heap.IsSliceOf.new _ vl vu vs) pl pu ps (by decide) ?_ (by rw [List.size_toArray]; omega)
    rw [PySem.W.krv_pick]
    refine ⟨.ref _, _, I5.laid (t' := s4.toks) (o := .lst xs.reverse) (fun b ob z => Heap.get?_push_of_some _ z) (Nat.le_refl _) ⟨by rw [List.length_reverse]; exact hz, _, 0, r.reverse, Heap.get?_push_size _ rfl⟩, rfl, q _ (I5.hok.fresh (Nat.le_refl _))⟩
  · cases r1
    obtain ⟨its, r, ht, hz⟩ := I5.tuple hx
    have hlen := r.length
    cases pl
    cases pu
    cases ps
    show wpAny (model X.prog X.w) X.A (subscriptTail e (.Slice none none (some (.UnaryOp .USub (.Constant (.int 1) k p1) p2)) p3) (.ref a) (.ref s4.heap.objs.size)) (EP X pins τ Q) X.xe _
    refine tail_any (ops := [.ref a, .ref s4.heap.objs.size]) ht.typeIs (PyProof.Rows.slot_tuple_getitem.lookup) ?_ (by with_unfolding_all rfl)
    refine tup_rev ht (Heap.IsSliceOf.new _ _ _ _) (by rw [List.size_toArray]; omega) ?_
    refine ⟨.ref _, _, I5.laid (t' := s4.toks) (o := .tup xs.reverse) (fun b ob z => Heap.get?_push_of_some _ z) (Nat.le_refl _) ⟨by rw [List.length_reverse]; exact hz, _, r.reverse, ⟨_, Heap.get?_push_size _ rfl, rfl, 0, rfl⟩⟩, rfl, q _ (I5.hok.fresh (Nat.le_refl _))⟩
theorem de_rev {e : Expr} {d : Den} {k : Nat} {p1 p2 p3 pos : Pos} (he : DE X W e d) : DE X W (.Subscript e (.Slice none none (some (.UnaryOp .USub (.Constant (.int 1) k p1) p2)) p3) pos) (sRev d) :=
  (pe_rev he).lk.imp fun τ H Q ⟨σ, G, q, A, S, c, kk⟩ => by
    refine ⟨σ, G, _, A, S, c, fun v x G1 H1 e1 S1 t1 ⟨d', hd, z⟩ => ?_⟩
    have hr := S1.rb t1
    generalize lk G1 x = y at hr hd
    cases y with
    | lst l =>
      cases hd
      obtain ⟨a, vs, rfl, hq, tl⟩ := hr
      exact .inl ⟨a, vs, rfl, .inl hq, fun p np => mk_lst (m := false) S1 np tl.reverse z (kk.ext e1)⟩
    | tup l =>
      cases hd
      obtain ⟨a, vs, rfl, hq, tl⟩ := hr
      exact .inr ⟨a, vs, rfl, hq.sq, fun p np => .done (kk.ext e1 _ _ G1 _ (ext_new np) (S1.new np) (tup_new S1 np tl.reverse) z)⟩
    | _ => cases hd
/-! a display of one pair, its key a tuple -/
def tDisp1 (tk tv : TE) : TE := fun τ H Q => ∀ p, H p = none → tk τ (upd H p (.dT [])) fun x H1 => tv τ H1 fun y H2 => H2 p = some (.dT []) ∧ ∃ (b : Addr) (ks : List Key), x = .ref b ∧ H2 b = some (.tup (ks.map kV)) ∧ Q (.ref p) (upd H2 p (.dT [(ks, y)]))
theorem pe_disp1 {ke ve : Expr} {tk tv : TE} {pos : Pos} (hu : X.A.units + 64 < cLine) (hk : PE X ke tk) (hv : PE X ve tv) : PE X (.Dict [some ke] [ve] pos) (tDisp1 tk tv) := by
  refine ⟨fun pins s τ H Q I q => ?_⟩
  have hn := I.hok.fresh (Nat.le_refl s.heap.objs.size)
  have I1 := I.laid (a := s.heap.objs.size) (o := .dT []) (h' := s.heap.push { cls := .type "dict", data := .dict #[] }) (t' := s.toks) (fun _ _ z => Heap.get?_push_of_some _ z) (Nat.le_refl _) (dt_empty s.heap I.big)
  rw [arm_eval_Dict, zip_pairTrees [some ke] [ve] X.env pos rfl rfl, dictDisplay_pairs (pairTrees [some ke] [ve] X.env pos) (by intro z; have := pairTrees_length [some ke] [ve] X.env pos rfl rfl; rw [z] at this; cases this) (by rw [pairTrees_length [some ke] [ve] X.env pos rfl rfl]; show 1 < 17; decide)]
  refine wpAny_bind (wpAny_standAt (wpAny_bind ?_))
  unfold subDict
  refine wpAny_bind (wpAny_alloc (wpAny_bind (wpAny_holding ?_)))
  rw [if_pos (by rw [pairTrees_length [some ke] [ve] X.env pos rfl rfl]; show 1 ≤ 15; decide)]
  refine wpAny_bind (pairTrees_cons_walk (thn (hk.run pins _ τ _ _ I1 (q _ hn)) fun u s1 ⟨x, H1, I2, rx, q1⟩ => thn (hv.run pins s1 τ H1 _ I2 q1) fun w2 s2 ⟨y, H2, I3, ry, q2⟩ => pairTrees_nil_walk ?_))
  obtain ⟨e, b, ks, rfl, eb, q3⟩ := q2
  cases rx
  obtain ⟨z, hd, xs, rel, dd⟩ := dt_of I3.hok e
  have hx0 : xs = [] := by cases rel; rfl
  subst hx0
  refine wpAny_holding (wpAny_bind ?_)
  rw [List.forIn_cons]
  refine wpAny_bind (wpAny_bind (wpAny_dictSet_heap (hsz := Nat.zero_le _) (show X.A.units < cLine by omega) (key_of I3.hok eb) dd fun h' dd' hs => wpAny_pure ?_))
  show wpAny _ _ (forIn ([] : List (Value × Value)) PUnit.unit _) _ _ _
  rw [List.forIn_nil]
  obtain ⟨o, es, ep, ho, h2, h3, h4, _, h5⟩ := dd'
  have I4 := d_write (t' := s2.toks + (tupleKind (mixKind X.prog X.w)).draws ks) I3 (ob := .dT (putK [] ks y)) (by rw [e]; exact True.intro) hs ⟨o, ho⟩ ⟨by show 1 ≤ sizeLine; decide, hd, _, (rel.put ks eb ry).keeps fun c ys ec => by
    rw [upd_ne (ne_of ec e (fun z => nomatch z))]
    exact ec, o, es, ep, ho, h2, h3, h4, h5⟩
  exact wpAny_pure (wpAny_pure (wpAny_pure (wpAny_pure ⟨.ref _, _, I4, rfl, q3⟩)))
theorem de_disp1 {ke ve : Expr} {dk dv : Den} {pos : Pos} {m : Bool} (hu : X.A.units + 64 < cLine) (hk : DE X W ke dk) (hv : DE X W ve dv) : DE X W (.Dict [some ke] [ve] pos) (sDsp true m [dk, dv]) :=
  (pe_disp1 hu hk hv).lk.imp fun τ H Q ⟨σ, G, q, A, S, c, k⟩ p np => by
    have nG := S.no np
    refine ⟨σ, G, _, A.ext (ext_new np), S.new np, c, fun v x G1 H1 e1 S1 t1 c1 => ?_⟩
    refine ⟨σ, G1, _, (A.ext (ext_new np)).ext e1, S1, c1, fun w y G2 H2 e2 S2 t2 c2 => ?_⟩
    obtain ⟨l, hp, z⟩ := c2
    have e := e1.trans e2
    obtain ⟨gp, hp'⟩ := e.un p (.dT []) trivial nG upd_same
    refine ⟨hp', ?_⟩
    cases x <;> first | (cases hp; done) | skip
    rename_i ds
    rw [pairsT] at hp
    have hk0 : keysOf (.tup ds) = ds.mapM keyOf := rfl
    rw [hk0] at hp
    cases hm : ds.mapM keyOf with
    | none => rw [hm] at hp; cases hp
    | some ks =>
      rw [hm] at hp
      cases hp
      obtain ⟨b, us, rfl, ⟨gb, hb⟩, tl⟩ := Tr.ext e2 _ _ t1
      have eu := keys_V hm tl
      subst eu
      refine ⟨b, ks, rfl, hb, ?_⟩
      have tm : TrT X.K H2 G2 [(ks, y)] [(ks, w)] := ⟨w, [], rfl, t2, rfl⟩
      cases m with
      | true =>
        refine .done (k _ (.ref p) (put G2 p (.dT [(ks, y)])) _ (ext_growM (ext_grow ((ext_new np).trans e) np) np) ?_ rfl (z p gp))
        have ex : Ext0 G2 H2 (put G2 p (.dT [(ks, y)])) (upd H2 p (.dT [(ks, w)])) := ⟨fun a o u d h r => ⟨by rw [put_ne (fun e => by subst e; rw [hp'] at r; cases r)]; exact h, by rw [upd_ne (fun e => by subst e; rw [hp'] at r; cases r)]; exact r⟩,
          fun a vs h r => ⟨by rw [put_ne (fun e => by subst e; rw [hp'] at r; cases r)]; exact h, by rw [upd_ne (fun e => by subst e; rw [hp'] at r; cases r)]; exact r⟩⟩
        intro a o qa
        by_cases ea : a = p
        · subst ea; rw [put_same] at qa; cases qa; exact ⟨_, upd_same, TrT.ext0 ex _ _ tm⟩
        · rw [put_ne ea] at qa
          exact (S2 a o qa).ext0 ex (upd_ne ea)
      | false =>
        refine .lock p (.dT [(ks, w)]) upd_same trivial fun od => .done ?_
        rw [upd_upd]
        exact k _ (.dT [(ks, y)]) G2 _ (ext_grow ((ext_new np).trans e) np) (S2.any gp hp' trivial) ⟨p, _, rfl, ⟨gp, od, upd_same⟩, TrT.ext0 (ext_any hp' trivial) _ _ tm⟩ z
/-! t[:n].count(k) -/
def cntQ (K : PySem.W.Frag) (tk : TE) (τ : L2.St) (x : V) (Q : VK) : Option Int → Hp → Prop
  | some i, H2 => ∃ (a : Addr) (ns : List Int) (n : Nat), x = .ref a ∧ i = n ∧ SqT K H2 a (ns.map V.int) ∧ n < ns.length ∧ ∀ p, H2 p = none → tk τ (upd H2 p (.tup ((ns.take n).map V.int))) fun z H3 => ∃ k : Int, z = .int k ∧ SqT K H3 p ((ns.take n).map V.int) ∧ Q (.int ((ns.take n).count k : Nat)) H3
  | none, _ => False
def tCnt (K : PySem.W.Frag) (ta th tk : TE) : TE := fun τ H Q => ta τ H fun x H1 => th τ H1 fun y H2 => ∃ i, y = .int i ∧ cntQ K tk τ x Q (some i) H2
theorem call_tcount {pins : List (Addr × Obj)} {s : Shared} {τ : L2.St} {H : Hp} {p : Addr} {ns : List Int} {k : Int} {t : Tok} {Q : VK} (I : Inv X pins τ H s) (h : SqT X.K H p (ns.map V.int)) (q : Q (.int (ns.count k : Nat)) H) :
    wpAny (model X.prog X.w) X.A (call (.builtin "tuple.count") [.ref p, .int k t]) (EP X pins τ Q) X.xe s := by
  obtain ⟨its, rv, ⟨⟨cls, dd, data, sl⟩, ho, hc, n, hd⟩, _⟩ := I.tuple h
  simp only at hc hd
  subst hc hd
  have hi := ints_of_vals rv
  refine call_meets PySem.F.slot_tuple_count ⟨_, ho, rfl⟩ PySem.F.entry_tuple_count (PySem.F.args_tuple_count_2 _ _) (SeqAt.tuple_countAt p its.toArray n dd sl (.int k t) (eqk k)) ⟨ho, fun y hy => (eqk_gives hi y (by simpa using hy)).at _ _, ?_⟩
  have e : its.toArray.toList.countP (eqk k) = ns.count k := eqk_count hi
  refine ⟨.int (ns.count k : Nat), H, I.tok _, ⟨s.toks, ?_⟩, q⟩
  rw [e]
theorem pe_cnt {a h x : Expr} {ta th tk : TE} {p1 p2 apos cpos : Pos} (ha : PE X a ta) (hh : PE X h th) (hx : PE X x tk) (hl : (apos.endLine == cpos.line) = true) (hs : noStar x = true) :
    PE X (.Call (.Attribute (.Subscript a (.Slice none (some h) none p1) p2) "count" apos) [x] [] cpos) (tCnt X.K ta th tk) := by
  refine ⟨fun pins s τ H Q I w => ?_⟩
  refine wpAny_Call_method_late rfl (few_ok (by simp [hs]) (by simp)) hl rfl ?_
  refine Subscript_ (thn (ha.run pins s τ H _ I w) fun v s1 ⟨x1, H1, I1, r1, q1⟩ => ?_)
  refine wpAny_Slice (thn (po_none.run pins s1 τ H1 (fun o K1 => o = none ∧ K1 = H1) I1 ⟨rfl, rfl⟩) fun vl s2 ⟨l, H2, I2, pl, el, e2⟩ => ?_)
  subst el e2
  refine thn ((po_some hh).run pins s2 τ H2 (cntQ X.K tk τ x1 Q) I2 q1) fun vu s3 ⟨u, H3, I3, pu, c⟩ => ?_
  cases u with
  | none => exact c.elim
  | some i =>
    obtain ⟨c, ns, n, rfl, rfl, hc, hn, q3⟩ := c
    refine thn (po_none.run pins s3 τ H3 (fun o K1 => o = none ∧ K1 = H3) I3 ⟨rfl, rfl⟩) fun vs s4 ⟨o, H4, I4, ps, eo, e4⟩ => ?_
    subst eo e4
    have I5 : Inv X pins τ H4 { s4 with heap := s4.heap.push { cls := .type "slice", data := .fields #[vl, vu, vs] } } := I4.kept (t' := s4.toks) fun b ob q => Heap.get?_push_of_some _ q
    cases r1
    obtain ⟨its, r, ht, hz⟩ := I5.tuple hc
    have hlen := r.length
    rw [List.length_map] at hlen
    cases ps
    have hpos : sIx its.toArray.size its.toArray.size (some (n : Int)) = n := by rw [HT.sIx_nat, List.size_toArray]; omega
    show wpAny (model X.prog X.w) X.A (subscriptTail a (.Slice none (some h) none p1) (.ref c) (.ref s4.heap.objs.size)) _ X.xe _
    refine tail_any (ops := [.ref s4.heap.objs.size, .ref c]) ht.typeIs (PyProof.Rows.slot_tuple_getitem.lookup) ?_ (by with_unfolding_all rfl)
    refine HT.getItem_tuple_cut ht (Heap.IsSliceOf.new _ _ _ _) pl pu (by rw [hpos, List.size_toArray]; omega) ?_ (by rw [List.size_toArray]; have := hz; rw [List.length_map] at this; omega)
    rw [hpos, HT.sIx_none, Nat.sub_zero, List.drop_zero]
    have rt : Vals ((ns.take n).map V.int) (its.take n) := by rw [List.map_take]; exact r.take n
    have lt : ((ns.take n).map V.int).length ≤ sizeLine := by rw [List.length_map, List.length_take]; rw [List.length_map] at hz; omega
    have I6 := I5.laid (o := .tup ((ns.take n).map V.int)) (a := (s4.heap.push { cls := .type "slice", data := .fields #[vl, vu, .none] }).objs.size) (t' := s4.toks) (h' := (s4.heap.push { cls := .type "slice", data := .fields #[vl, vu, .none] }).push { cls := .type "tuple", data := .seq (its.take n).toArray }) (fun b ob z => Heap.get?_push_of_some _ z) (Nat.le_refl _)
      ⟨lt, _, rt, ⟨_, Heap.get?_push_size _ rfl, rfl, 0, rfl⟩⟩
    have fr := I5.hok.fresh (Nat.le_refl (s4.heap.push { cls := .type "slice", data := .fields #[vl, vu, .none] }).objs.size)
    refine ⟨"tuple", "tuple.count", PySem.F.plainAttrs_tuple, PySem.F.slot_tuple_count, PySem.F.type_tuple_count, ⟨_, Heap.get?_push_size _ rfl, rfl⟩, fun b e => ?_, ?_⟩
    · cases e
      exact ⟨_, Heap.get?_push_size _ rfl, rfl⟩
    · have hA := (pa_cons hx pa_nil (star_cons hs) : PA X [x] _).run cpos pins _ τ _ (fun vs K1 => match vs with | [z] => ∃ k : Int, z = .int k ∧ SqT X.K K1 (s4.heap.push { cls := .type "slice", data := .fields #[vl, vu, .none] }).objs.size ((ns.take n).map V.int) ∧ Q (.int ((ns.take n).count k : Nat)) K1 | _ => False) I6 (q3 _ fr)
      rw [star_cons hs] at hA ⊢
      refine Calls.callWith_builtin (by rfl) (Calls.evalArgs_plain ?_)
      refine thn hA fun us s5 ⟨vs, H5, I7, r5, z⟩ => ?_
      match vs, r5, z with
      | [z1], r5, ⟨k, ev, hk, q5⟩ =>
        subst ev
        obtain ⟨u, rfl, t, rfl⟩ := r5.one
        exact call_tcount I7 hk q5
theorem de_cnt {a h x : Expr} {da dh dx : Den} {p1 p2 apos cpos : Pos} (ha : DE X W a da) (hh : DE X W h dh) (hx : DE X W x dx) (hl : (apos.endLine == cpos.line) = true) (hs : noStar x = true) :
    DE X W (.Call (.Attribute (.Subscript a (.Slice none (some h) none p1) p2) "count" apos) [x] [] cpos) (sCnt da dh dx) :=
  (pe_cnt ha hh hx hl hs).imp fun τ H Q ⟨σ, G, q, A, S, c, kk⟩ => by
    refine ⟨σ, G, _, A, S, c, fun v d1 G1 H1 e1 S1 t1 c1 => ?_⟩
    refine ⟨σ, G1, _, A.ext e1, S1, c1, fun u d2 G2 H2 e2 S2 t2 ⟨l, ns, n, g1, g2, g3, g4, c2⟩ => ?_⟩
    subst g3
    have hr := S2.rb (t1.ext e2)
    rw [g1] at hr
    obtain ⟨a, vs, rfl, hq, tl⟩ := hr
    have ev := mapM_int g2 tl
    subst ev
    refine ⟨(n : Int), t2, a, ns, n, rfl, rfl, hq.sq, g4, fun p np => ?_⟩
    have nG := S2.no np
    refine ⟨σ, G2, _, ((A.ext e1).ext e2).ext (ext_new np), S2.new np, c2, fun w d3 G3 H3 e3 S3 t3 ⟨i, ei, z⟩ => ?_⟩
    subst ei
    exact ⟨i, t3, .of (e3.ts p _ nG upd_same).2, kk.ext ((e1.trans e2).trans ((ext_new np).trans e3)) _ (.int ((ns.take n).count i : Nat)) G3 H3 (.refl _ _) S3 rfl z⟩
end
end T
end
section
set_option Elab.async false
set_option linter.all false
set_option maxRecDepth 100000
set_option maxHeartbeats 4000000
/-! x[a:c] = y, y another list, c past the end too. -/
namespace T
open PySem PySem.Spec PyProof.Rows L2 HT
section
variable {P : Program} {w : World} {A : Around} {E : Value → Shared → Prop} {s : Shared}
theorem bounds_cut (a c n : Nat) : sliceBounds (some (a : Int)) (some (c : Int)) none n = (((min a n : Nat) : Int), ((min c n : Nat) : Int), 1) := by
  obtain ⟨h1, h2, h3⟩ := slice_bounds (some (a : Int)) (some (c : Int)) n
  rw [HT.sIx_nat] at h1 h2
  exact Prod.ext h1 (Prod.ext h2 h3)
theorem setItem_cut {l b sl : Addr} {items new : Array Value} {n : Nat} {vl vu : Value} {a c : Nat} {Q : Unit → Shared → Prop} (e : s.heap.get? l = some { cls := .type "list", data := .seq items n }) (hb : s.heap.IsList b new) (hne : l ≠ b)
    (hs : s.heap.IsSliceOf sl vl vu .none) (pl : IsPart vl (some (a : Int))) (pu : IsPart vu (some (c : Int))) (hac : a ≤ c) (hsz : items.size + new.size ≤ sizeLine)
    (h : Q () { s with heap := s.heap.update l (Obj.mapSeq fun xs => xs.extract 0 (min a items.size) ++ new ++ xs.extract (min c items.size) xs.size) }) :
    wpAny (model P w) A (setItem (.ref l) (.ref sl) (.ref b)) Q E s := by
  have hl : s.heap.IsList l items := PySem.IsL.isList e
  obtain ⟨ob, hob, hcb, nb, hdb⟩ := id hb
  obtain ⟨os, hos, hcs, hds⟩ := id hs
  have tsl : s.TypeIs (.ref sl) "slice" := ⟨os, hos, hcs⟩
  have other : Builtin.List.listSameRef (.ref l) (.ref b) = false := beq_eq_false_iff_ne.mpr hne
  have top : (max (((min a items.size : Nat) : Int)) ((min c items.size : Nat) : Int)).toNat = min c items.size := by omega
  have room : ((fun xs : Array Value => xs.extract 0 (min a items.size) ++ new ++ xs.extract (min c items.size) xs.size) items).size ≤ sizeLine + 1 := by
    simp only [Array.size_append, Array.size_extract]
    omega
  unfold setItem
  try with_reducible refine wpAny_holding ?_
  first | refine wpAny_bind (wpAny_pure ?_) | skip
  refine wpAny_bind (wpAny_sequenceKey hl.typeIs (by decide) ?_)
  refine wpAny_bind (wpAny_callSpecial?_slot (name := Str.ofString "__setitem__") hl.typeIs slot_list_setitem
    (wpAny_call_entry slot_list_setitem hl.typeIs entry_list_setitem ?_ (args_list_setitem _ _ _)))
  show wpAny _ _ (Builtin.List.listSubscript? (.ref sl) >>= _) _ _ s
  refine wpAny_bind ?_
  unfold Builtin.List.listSubscript?
  refine wpAny_bind (wpAny_specialOf tsl slice_no_index ?_)
  simp only [Option.isNone_none, if_true]
  refine wpAny_pure ?_
  show wpAny _ _ (typeOf (.ref sl) >>= _) _ _ s
  refine wpAny_bind (wpAny_typeOf tsl ?_)
  rw [if_neg (by decide), listSliceParts_eq]
  refine wpAny_bind (wpAny_bind (wpAny_field hos hds (x := .none) rfl (wpAny_bind (wpAny_listPart .none ?_))))
  rw [if_neg (show ¬ ((rawPart none == rawInt 0) = true) from Bool.false_ne_true)]
  refine wpAny_bind (wpAny_field hos hds (x := vl) rfl (wpAny_bind (wpAny_listPart pl ?_)))
  refine wpAny_bind (wpAny_field hos hds (x := vu) rfl (wpAny_bind (wpAny_listPart pu (wpAny_pure ?_))))
  dsimp only
  rw [if_neg (by rw [other]; exact Bool.false_ne_true)]
  refine wpAny_bind (m := Builtin.List.listAllItems (.ref b) "must assign iterable to extended slice") ?_
  unfold Builtin.List.listAllItems
  refine wpAny_bind (wpAny_typeOf hb.typeIs ?_)
  rw [if_pos (by decide)]
  unfold Builtin.List.listItems
  refine wpAny_bind (wpAny_seqItems hob hdb (wpAny_pure ?_))
  refine wpAny_bind (wpAny_bind (wpAny_seqItems e rfl (wpAny_pure ?_)))
  refine wpAny_bind (wpAny_of_eq ((sliceIndices_raw (some (a : Int)) (some (c : Int)) none items.size (by simp)).trans (congrArg (pure : Int × Int × Int → Sem (Int × Int × Int)) (bounds_cut a c items.size))) ?_)
  show wpAny _ _ (if ((1 : Int) == 1) = true then _ else _) _ _ s
  rw [if_pos (by decide)]
  refine wpAny_bind (wpAny_rule ?_)
  rw [if_neg (by rw [notLongL hsz]; exact Bool.false_ne_true)]
  show wpAny _ _ (updateSeq l (fun xs => xs.extract 0 (((min a items.size : Nat) : Int)).toNat ++ new ++ xs.extract (max (((min a items.size : Nat) : Int)) ((min c items.size : Nat) : Int)).toNat xs.size) >>= _) _ _ s
  rw [top, Int.toNat_natCast]
  refine wpAny_bind (wpAny_updateSeq (hz := Nat.le_trans (Nat.le_add_right _ _) hsz) (_hz' := room) e rfl ?_)
  refine wpAny_bind (wpAny_letGo ?_)
  first
    | exact wpAny_bind (wpAny_pure (wpAny_pure ⟨.none, rfl, wpAny_pure h⟩))
    | exact wpAny_pure ⟨.none, rfl, wpAny_pure h⟩
end
section
variable {X : Cx} {W : Wi}
/-- what xs[lo:hi] = v does, at the value level -/
def rCutSet (K : PySem.W.Frag) : V → Option Int → Option Int → V → Hp → (Hp → Prop) → Prop := fun o lo hi v H Q => ∃ p xs b ys a c, o = .ref p ∧ v = .ref b ∧ lo = some a ∧ hi = some c ∧ H p = some (.lst xs) ∧ SqL K H b ys ∧ p ≠ b ∧ 0 ≤ a ∧ a ≤ c ∧ xs.length + ys.length ≤ sizeLine ∧
  Q (upd H p (.lst (xs.take (min a.toNat xs.length) ++ ys ++ xs.drop (min c.toNat xs.length))))
def gCut (K : PySem.W.Frag) (to : TE) (tl th : TO) : TG := fun v σ H Q => to σ H fun o H1 => tl σ H1 fun l H2 => th σ H2 fun u H3 => rCutSet K o l u v H3 fun H4 => Q σ H4
theorem pg_cut {o : Expr} {lo hi : Option Expr} {to : TE} {tl th : TO} {pos p2 : Pos} (ho : PE X o to) (hl : PO X lo tl) (hu : PO X hi th) : PG X (.Subscript o (.Slice lo hi none p2) pos) (gCut X.K to tl th) := by
  refine ⟨fun pins s σ H v u Q I r h => ?_⟩
  have e : assign (.Subscript o (.Slice lo hi none p2) pos) X.env u = (do
      let ov ← holding [u] (eval o X.env)
      let iv ← holding [u, ov] (eval (.Slice lo hi none p2) X.env)
      standAt pos
      holding [u, ov, iv] (setItem ov iv u)
      release [iv, u, ov] []) := rfl
  rw [e]
  refine wpAny_bind (wpAny_holding (thn (ho.run pins s σ H _ I h) fun ov s1 ⟨x, H1, I1, r1, q1⟩ => ?_))
  refine wpAny_bind (wpAny_holding (wpAny_Slice (thn (hl.run pins s1 σ H1 _ I1 q1) fun vl s2 ⟨l, H2, I2, pl, q2⟩ => thn (hu.run pins s2 σ H2 _ I2 q2) fun vu s3 ⟨z, H3, I3, pu, q3⟩ => ?_)))
  rw [evalPart_none]
  refine wpAny_pure ?_
  have I4 : Inv X pins σ H3 { s3 with heap := s3.heap.push { cls := .type "slice", data := .fields #[vl, vu, .none] } } := I3.kept (t' := s3.toks) fun b ob q => Heap.get?_push_of_some _ q
  obtain ⟨p, xs, b, ys, a, c, rfl, rfl, rfl, rfl, hp, hb, hne, h0, hac, hz, q⟩ := q3
  cases r1
  cases r
  obtain ⟨z1, its, n, rx, hlx, ex⟩ := I4.lstM hp
  obtain ⟨its2, ry, pb, _⟩ := I4.list hb
  obtain ⟨a', rfl⟩ := Int.eq_ofNat_of_zero_le h0
  obtain ⟨c', rfl⟩ := Int.eq_ofNat_of_zero_le (Int.le_trans h0 hac)
  have hly := ry.length
  refine wpAny_bind (wpAny_standAt (wpAny_bind (wpAny_holding (setItem_cut (a := a') (c := c') ex pb.isList hne (Heap.IsSliceOf.new ..) pl pu (by omega) (by rw [List.size_toArray, List.size_toArray]; omega) ?_))))
  refine wpAny_release ⟨σ, _, ?_, q⟩
  simp only [Int.toNat_natCast]
  refine I4.lset (its' := its.take (min a' xs.length) ++ its2 ++ its.drop (min c' xs.length)) (t' := _) hp ex ?_ (Vals.append (Vals.append (rx.take _) ry) (rx.drop _)) ?_
  · have e9 := splice_eq its its2 (min a' xs.length) (min c' xs.length)
    rw [List.size_toArray, ← hlx] at e9 ⊢
    exact e9
  · rw [List.length_append, List.length_append, List.length_take, List.length_drop]
    omega
theorem dg_cut {o : Expr} {lo hi : Option Expr} {od dl dh : Den} {pos p2 : Pos} (ho : DE X W o od) (hl : DO X W lo dl) (hh : DO X W hi dh) {vs : List Nat} : DG X W vs (.Subscript o (.Slice lo hi none p2) pos) (sPcut od dl dh) :=
  ⟨fun pins s τ H v u Q I r h => (pg_cut ho hl hh).run pins s τ H v u Q I r (by
    obtain ⟨d, σ, G, q, t, A, B, c, k⟩ := h
    refine ⟨σ, G, _, A, B, c, fun x dx G1 H1 e1 S1 t1 c1 => ⟨σ, G1, _, A.ext e1, S1, c1, fun l G2 H2 e2 S2 c2 => ⟨σ, G2, _, (A.ext e1).ext e2, S2, c2, fun z G3 H3 e3 S3 c3 => ?_⟩⟩⟩
    obtain ⟨p, xs, ys, a, b, rfl, hp, rfl, rfl, rfl, h0, hac, hc, hz, kk⟩ := c3
    have t3 := t.ext ((e1.trans e2).trans e3)
    obtain ⟨bp, us, rfl, hq, tl⟩ := t3
    have ep : x = .ref p := t1
    subst ep
    obtain ⟨ws, hH, tw⟩ := S3 p _ hp
    have l1 := tw.length
    have l2 := tl.length
    refine ⟨p, ws, bp, us, a, b, rfl, rfl, rfl, rfl, hH, hq.sq, fun e => ?_, h0, hac, by rw [← l1, ← l2, ln_eq]; exact hz, ?_⟩
    · subst e
      rw [hq.1] at hp; cases hp
    · have e4 : Ext G3 H3 _ _ := ext_write (m := .lst (xs.take (min a.toNat xs.length) ++ ys ++ xs.drop (min b.toNat xs.length))) (o := .lst (ws.take (min a.toNat ws.length) ++ us ++ ws.drop (min b.toNat ws.length))) hp
      refine k _ _ _ _ (((e1.trans e2).trans e3).trans e4) (A.ext (((e1.trans e2).trans e3).trans e4)) (S3.write hp ⟨_, upd_same, TrL.ext e4 _ _ ?_⟩) rfl kk
      rw [← l1]
      exact ((tw.take _).append tl).append (tw.drop _))⟩
end
end T
end
section
set_option Elab.async false
set_option linter.all false
set_option maxRecDepth 100000
set_option maxHeartbeats 4000000
/-! zip(..) of two or three, lists and tuples as they come. -/
namespace T
open PySem PySem.Spec PyProof.Rows L2
def SqA (K : PySem.W.Frag) (s : Bool) (H : Hp) (a : Addr) (xs : List V) : Prop := match s with | true => SqT K H a xs | false => SqL K H a xs
def itS (s : Bool) (h : Heap) (it t : Addr) (i : Nat) : Prop := match s with | true => h.IsTupleIter it t i | false => h.IsListIter it t i
def hasS (s : Bool) (h : Heap) (t : Addr) (items : Array Value) : Prop := match s with | true => h.IsTuple t items | false => h.IsList t items
def obS (s : Bool) (t : Addr) : Obj := match s with | true => { cls := .type "tuple_iterator", data := .fields #[.ref t, .int 0 0] } | false => { cls := .type "list_iterator", data := .fields #[.ref t, .int 0 0] }
theorem itS.at {s : Bool} {h h' : Heap} {it t : Addr} {i : Nat} (x : itS s h it t i) (k : ∀ o, h.get? it = some o → h'.get? it = some o) : itS s h' it t i := by
  cases s with
  | true => exact Heap.IsTupleIter.at x fun o q => k o q
  | false => exact Heap.IsListIter.at x fun o q => k o q
theorem hasS.at {s : Bool} {h h' : Heap} {t : Addr} {its : Array Value} (x : hasS s h t its) (k : ∀ o, h.get? t = some o → h'.get? t = some o) : hasS s h' t its := by
  cases s with
  | true => exact Heap.IsTuple.at x fun o q => k o q
  | false => exact Heap.IsList.at x fun o q => k o q
theorem itS.ob {s : Bool} {h : Heap} {it t : Addr} {i : Nat} (x : itS s h it t i) : ∃ o, h.get? it = some o ∧ ∀ v, o.data ≠ .cell v := by
  cases s with
  | true => obtain ⟨o, e, _, d⟩ := x; exact ⟨o, e, fun v q => by rw [d] at q; cases q⟩
  | false => obtain ⟨o, e, _, d⟩ := x; exact ⟨o, e, fun v q => by rw [d] at q; cases q⟩
theorem itS.start {s : Bool} {h : Heap} {it t : Addr} (x : h.get? it = some (obS s t)) : itS s h it t 0 := by
  cases s with
  | true => exact ⟨_, x, rfl, rfl⟩
  | false => exact ⟨_, x, rfl, rfl⟩
theorem hasS.lt {s : Bool} {h : Heap} {t : Addr} {its : Array Value} (x : hasS s h t its) : t < h.objs.size := by
  cases s with
  | true => obtain ⟨o, e, _⟩ := x; exact Heap.lt_size e
  | false => obtain ⟨o, e, _⟩ := x; exact Heap.lt_size e
theorem beginsS (s : Bool) (t : Addr) (its : Array Value) : Begins (.ref t) (obS s t) fun h => hasS s h t its := by
  cases s with
  | true => exact begins_tuple t its
  | false => exact begins_list t its
section
variable {prog : Program} {w : World} {A : Around}
theorem draws_go (s : Bool) (hh : A.handled = none) {it t : Addr} (ne : t ≠ it) (its : Array Value) : Draws prog w A it [it, t] its.size (fun i v => its[i]? = some v) (fun i h => itS s h it t i ∧ hasS s h t its) := by
  cases s with
  | true => exact .tuple hh it t ne its
  | false => exact .list hh it t ne its
theorem draws_end (s : Bool) (hh : A.handled = none) {it t : Addr} {its : Array Value} {i : Nat} (hx : its[i]? = none) : Draws prog w A it [it, t] i (fun _ _ => False) (fun j h => j = i ∧ itS s h it t i ∧ hasS s h t its) where
  live := fun _ _ st => let ⟨o, ho, _⟩ := st.2.1.ob; ⟨o, ho⟩
  frame := fun _ _ _ st hk => ⟨st.1, st.2.1.at fun o e => hk it (by simp) o e, st.2.2.at fun o e => hk t (by simp) o e⟩
  item := fun j s Q E hj st _ => absurd st.1 (Nat.ne_of_lt hj)
  done := fun s0 Q E st hE => by
    cases s with
    | true => exact wpAny_nextOf_tuple_end hh st.2.1 st.2.2 hx hE
    | false => exact wpAny_nextOf_list_end hh st.2.1 st.2.2 hx hE
end
theorem inv_sqA {X : Cx} {pins : List (Addr × Obj)} {σ : L2.St} {H : Hp} {s : Shared} {b : Bool} {a : Addr} {xs : List V} (I : Inv X pins σ H s) (h : SqA X.K b H a xs) : ∃ its : List Value, Vals xs its ∧ hasS b s.heap a its.toArray ∧ xs.length ≤ sizeLine := by
  cases b with
  | true => obtain ⟨its, r, p, z⟩ := I.tuple h; exact ⟨its, r, p, z⟩
  | false => obtain ⟨its, r, p, z⟩ := I.list h; exact ⟨its, r, p.isList, z⟩
theorem inj_sqA {X : Cx} {pins : List (Addr × Obj)} {σ : L2.St} {H : Hp} {s : Shared} {b : Bool} {a : Addr} {xs ys : List V} (I : Inv X pins σ H s) (h : SqA X.K b H a xs) (h' : SqA X.K b H a ys) : xs = ys := by
  cases b with
  | true => exact I.tuple_inj h h'
  | false => exact I.list_inj h h'
/-! ### two -/
def Itz2 (K : PySem.W.Frag) (s1 s2 : Bool) (a b : Addr) : It :=
  ⟨fun i H => ∃ (xs ys : List V) (x y : V), SqA K s1 H a xs ∧ SqA K s2 H b ys ∧ xs[i]? = some x ∧ ys[i]? = some y,
    fun i H v H' => ∃ T x y, v = .ref T ∧ H T = none ∧ H' = upd H T (.tup [x, y]) ∧ (∀ xs, SqA K s1 H a xs → xs[i]? = some x) ∧ ∀ ys, SqA K s2 H b ys → ys[i]? = some y,
    fun i H => ∃ xs ys : List V, SqA K s1 H a xs ∧ SqA K s2 H b ys ∧ (xs.length ≤ i ∨ ys.length ≤ i)⟩
def tn2 (N : Nat) (s1 s2 : Bool) (a b : Addr) (i : Nat) (h : Heap) : Prop :=
  IsZip h (N + 4) (N + 2) (N + 3) .none ∧ IsTupOf2 h (N + 2) (.ref N) (.ref (N + 1)) ∧ (∃ x y, IsTupOf2 h (N + 3) x y) ∧ itS s1 h N a i ∧ itS s2 h (N + 1) b i
theorem turn_zip2 {P : Program} {w : World} {K : PySem.W.Frag} {elts : List Expr} {kk : Nat} {tpos : Pos} {N : Nat} {s1 s2 : Bool} {a b : Addr} (ha : a < N) (hb : b < N) :
    Turn P w K (.Tuple elts kk tpos) (Itz2 K s1 s2 a b) [N + 4, N + 2, N + 3, N, N + 1] (N + 4) (tn2 N s1 s2 a b) where
  mem := by simp
  obj := fun i h st c hc => by
    obtain ⟨hz, hTI, ⟨x, y, hTO⟩, h1, h2⟩ := st
    have e' : c = N + 4 ∨ c = N + 2 ∨ c = N + 3 ∨ c = N ∨ c = N + 1 := by simpa using hc
    rcases e' with q | q | q | q | q
    · rw [q]; exact ⟨_, hz, fun v q => nomatch q⟩
    · rw [q]; exact ⟨_, hTI, fun v q => nomatch q⟩
    · rw [q]; exact ⟨_, hTO, fun v q => nomatch q⟩
    · rw [q]; exact h1.ob
    · rw [q]; exact h2.ob
  keep := fun i h h' st k => by
    obtain ⟨hz, hTI, ⟨x, y, hTO⟩, h1, h2⟩ := st
    exact ⟨k _ (by simp) _ hz, k _ (by simp) _ hTI, ⟨x, y, k _ (by simp) _ hTO⟩, h1.at fun o q => k _ (by simp) o q, h2.at fun o q => k _ (by simp) o q⟩
  item := by
    intro X hP hw hK hc i pins s σ H E I hf st hg
    subst hP hw hK
    obtain ⟨hz, hTI, ⟨x0, y0, hTO⟩, h1, h2⟩ := st
    obtain ⟨xs, ys, x, y, hqx, hqy, hx, hy⟩ := hg
    obtain ⟨its, rv, p, _⟩ := inv_sqA I hqx
    obtain ⟨its2, rv2, p2, _⟩ := inv_sqA I hqy
    obtain ⟨u, hu, ru⟩ := rv.get hx
    obtain ⟨u2, hu2, ru2⟩ := rv2.get hy
    have hzl : N + 4 < s.heap.objs.size := Heap.lt_size hz
    have S := zip_sep2 (N := N) (fp1 := [a]) (fp2 := [b]) (by simpa using ha) (by simpa using hb)
    have hh : X.A.in1.handled = none := I.ok.hd hc
    refine wpAny_pyNext_zipD2_item S (draws_go s1 hh (Nat.ne_of_lt ha) its.toArray) (draws_go s2 hh (Nat.ne_of_lt (Nat.lt_succ_of_lt hb)) its2.toArray) hz hTI hTO ⟨h1, p⟩ ⟨h2, p2⟩
      (by simpa using (List.getElem?_eq_some_iff.mp hu).1) (by simpa using (List.getElem?_eq_some_iff.mp hu2).1) fun x1 x2 h' tk e1 e2 z' TO' st1 st2 hT hsz hk => ?_
    have e1' : x1 = u := by simpa [hu] using e1.symm
    have e2' : x2 = u2 := by simpa [hu2] using e2.symm
    subst e1' e2'
    refine ⟨_, rfl, wpAny_letOwnedTupleGo_zip (s := { s with heap := h', toks := tk }) z' fun h'' z'' sb => ?_⟩
    have hT2 : h''.get? s.heap.objs.size = some { cls := .type "tuple", data := .seq #[x1, x2] } := (sb.2 _ (Nat.ne_of_gt hzl)).trans hT
    have new : ObjOk X.prog X.w (upd H s.heap.objs.size (.tup [x, y])) h'' s.heap.objs.size (.tup [x, y]) :=
      ⟨by show 2 ≤ sizeLine; decide, [x1, x2], .cons ru (.cons ru2 .nil), ⟨_, hT2, rfl, _, rfl⟩⟩
    have I1 : Inv X pins σ (upd H s.heap.objs.size (.tup [x, y])) { s with heap := h'', toks := tk } :=
      I.turnedNew (t' := tk) (ch := [N + 4, N + 2, N + 3, N, N + 1]) (fun c o hb q => (sb.2 c (fun q' => hb (by simp [q']))).trans (hk c o (fun q' => hb (by simp [q'])) (fun q' => hb (by simp [q'])) (fun q' => hb (by simp [q'])) (fun q' => hb (by simp [q'])) q)) hf (Nat.le_refl _) new
    refine ⟨.ref s.heap.objs.size, _, I1, rfl, ⟨_, x, y, rfl, I.hok.fresh (Nat.le_refl _), rfl, fun l hl => by rw [inj_sqA I hl hqx]; exact hx, fun l hl => by rw [inj_sqA I hl hqy]; exact hy⟩, ⟨z'', ?_, ⟨x1, x2, ?_⟩, ?_, ?_⟩, fun c hcm => ?_⟩
    · exact (sb.2 _ S.TIz).trans (hk _ _ S.TIz S.TITO S.TIi1 S.TIi2 hTI)
    · exact (sb.2 _ S.TOz).trans TO'
    · exact st1.1.at fun o q => (sb.2 _ S.zi1.symm).trans q
    · exact st2.1.at fun o q => (sb.2 _ S.zi2.symm).trans q
    · have hlt : c < s.heap.objs.size := by
        have e' : c = N + 4 ∨ c = N + 2 ∨ c = N + 3 ∨ c = N ∨ c = N + 1 := by simpa using hcm
        have h4 : N + 4 < s.heap.objs.size := hzl
        rcases e' with q | q | q | q | q
        · rw [q]; exact h4
        · rw [q]; exact Nat.lt_trans (Nat.lt_of_lt_of_le (Nat.lt_succ_self _) (Nat.le_succ _)) h4
        · rw [q]; exact Nat.lt_trans (Nat.lt_succ_self _) h4
        · rw [q]; exact Nat.lt_of_le_of_lt (Nat.le_add_right _ _) h4
        · rw [q]; exact Nat.lt_of_le_of_lt (Nat.add_le_add_left (by decide) _) h4
      rw [upd_ne (Nat.ne_of_lt hlt)]
      exact (hf c hcm).1
  done := by
    intro X hP hw hK hc i pins s σ H E I hf st hg
    subst hP hw hK
    obtain ⟨hz, hTI, ⟨x0, y0, hTO⟩, h1, h2⟩ := st
    obtain ⟨xs, ys, hqx, hqy, hend⟩ := hg
    obtain ⟨its, rv, p, _⟩ := inv_sqA I hqx
    obtain ⟨its2, rv2, p2, _⟩ := inv_sqA I hqy
    have l1 := rv.length
    have l2 := rv2.length
    have S := zip_sep2 (N := N) (fp1 := [a]) (fp2 := [b]) (by simpa using ha) (by simpa using hb)
    have hh : X.A.in1.handled = none := I.ok.hd hc
    have fin : ∀ h' tk, (∀ c o, c ≠ N + 4 → c ≠ N + 3 → c ≠ N → c ≠ N + 1 → s.heap.get? c = some o → h'.get? c = some o) → (none : Option Value) = none ∧ Inv X pins σ H { s with heap := h', toks := tk } := fun h' tk hk =>
      ⟨rfl, I.turnedL (t' := tk) (ch := [N + 4, N + 2, N + 3, N, N + 1]) (fun c o hb q => hk c o (fun q' => hb (by simp [q'])) (fun q' => hb (by simp [q'])) (fun q' => hb (by simp [q'])) (fun q' => hb (by simp [q'])) q) hf⟩
    have no : ∀ {l : List Value}, l.length ≤ i → l.toArray[i]? = none := fun h => by simpa using h
    by_cases hlx : its.length ≤ i
    · by_cases hly : its2.length ≤ i
      · exact wpAny_pyNext_zipD2_end S (draws_end s1 hh (no hlx)) (draws_end s2 hh (no hly)) hz hTI hTO ⟨rfl, h1, p⟩ ⟨rfl, h2, p2⟩ (Nat.le_refl _) (Nat.le_refl _) (.inl rfl) fin
      · exact wpAny_pyNext_zipD2_end S (draws_end s1 hh (no hlx)) (draws_go s2 hh (Nat.ne_of_lt (Nat.lt_succ_of_lt hb)) its2.toArray) hz hTI hTO ⟨rfl, h1, p⟩ ⟨h2, p2⟩ (Nat.le_refl _) (by simp; omega) (.inl rfl) fin
    · exact wpAny_pyNext_zipD2_end S (draws_go s1 hh (Nat.ne_of_lt ha) its.toArray) (draws_end s2 hh (no (by omega))) hz hTI hTO ⟨h1, p⟩ ⟨rfl, h2, p2⟩ (by simp; omega) (Nat.le_refl _) (.inr rfl) fin
  self := fun A i s Q E st h => wpAny_pyIter_zip st.1 h
def iZip2 (K : PySem.W.Frag) (ta : TA) : TI := fun σ H R => ta σ H fun vs H1 => ∃ a b s1 s2 xs ys, vs = [.ref a, .ref b] ∧ SqA K s1 H1 a xs ∧ SqA K s2 H1 b ys ∧ (xs.length ≤ sizeLine → ys.length ≤ sizeLine → R (Itz2 K s1 s2 a b) H1)
theorem pi_zip2 {X : Cx} {e e2 : Expr} {ta : TA} {p pos tpos : Pos} {elts : List Expr} {kk : Nat} (hg : Gl X "zip") (hm : X.mg "zip" = none) (ha : PA X [e, e2] ta)
    (hs : starEach [e, e2] X.env = (false, eval e X.env) :: starEach [e2] X.env) (hpl : (backTo pos (starEach [e2] X.env)).any (·.1) = false) :
    PI X (.Tuple elts kk tpos) (.Call (.Name "zip" p) [e, e2] [] pos) (iZip2 X.K ta) := by
  refine ⟨fun pins s σ H R I h => ?_⟩
  refine Call_ (ld_blt I hg hm PyProof.Rows.boot_zip (PyProof.Rows.callWith_type1 (thn (ha.run pos pins s σ H _ I h) fun us s1 ⟨vs, H1, I1, r1, q1⟩ => ?_) hs hpl))
  obtain ⟨a, b, b1, b2, xs, ys, ex, hqx, hqy, q⟩ := q1
  subst ex
  cases r1 with
  | cons r rr =>
    cases rr with
    | cons r' rr =>
      cases rr
      cases r
      cases r'
      obtain ⟨its, rv, p1, z1⟩ := inv_sqA I1 hqx
      obtain ⟨its2, rv2, p2, z2⟩ := inv_sqA I1 hqy
      refine zip_begins2 (beginsS b1 a its.toArray) (beginsS b2 b its2.toArray) p1 p2 fun h' hz hTI hTO h1 h2 hsz hk => wpAny_pyIter_zip hz ?_
      have I2 : Inv X pins σ H1 { s1 with heap := h' } := I1.kept (t' := s1.toks) hk
      refine ⟨s1.heap.objs.size + 4, [s1.heap.objs.size + 4, s1.heap.objs.size + 2, s1.heap.objs.size + 3, s1.heap.objs.size, s1.heap.objs.size + 1], _, _, H1, rfl, I2, turn_zip2 p1.lt p2.lt, ⟨hz, hTI, ⟨_, _, hTO⟩, .start h1, .start h2⟩, fun c hcm => ?_, q z1 z2⟩
      have e' : c = s1.heap.objs.size + 4 ∨ c = s1.heap.objs.size + 2 ∨ c = s1.heap.objs.size + 3 ∨ c = s1.heap.objs.size ∨ c = s1.heap.objs.size + 1 := by simpa using hcm
      have hle : s1.heap.objs.size ≤ c := by
        rcases e' with z | z | z | z | z
        · rw [z]; exact Nat.le_add_right _ _
        · rw [z]; exact Nat.le_add_right _ _
        · rw [z]; exact Nat.le_add_right _ _
        · rw [z]; exact Nat.le_refl _
        · rw [z]; exact Nat.le_add_right _ _
      exact I1.fpOk hle (I1.hok.fresh hle)
/-! ### what the loop sees -/
theorem sqA_still {K : PySem.W.Frag} {H1 : Hp} {G1 : Store} {x : D} {v : V} {ds : List D} (S1 : Sto K H1 G1) (t : Tr K H1 G1 x v) (h : seqD (lk G1 x) = some ds) :
    ∃ a b vs, v = .ref a ∧ SqA K b H1 a vs ∧ vs.length = ds.length ∧ ∀ (G : Store) (H : Hp), Ext G1 H1 G H → Sto K H G → still G1 x G → ∃ vs, SqA K b H a vs ∧ TrL K H G ds vs := by
  generalize hy : lk G1 x = y at h
  cases y with
  | lst l =>
    have e : l = ds := by simpa [seqD] using h
    subst e
    obtain ⟨a, vs, rfl, hq, k⟩ := lst_still S1 t hy
    have hr := S1.rb t
    rw [hy] at hr
    obtain ⟨a2, vs2, e2, hq2, tq2⟩ := hr
    cases e2
    exact ⟨a, false, vs2, rfl, .inl hq2, tq2.length.symm, k⟩
  | tup l =>
    have e : l = ds := by simpa [seqD] using h
    subst e
    cases x with
    | tup l2 =>
      have e : l2 = l := by simpa [lk] using hy
      subst e
      obtain ⟨a, vs, rfl, hq, tq⟩ := t
      refine ⟨a, true, vs, rfl, hq.sq, tq.length.symm, fun G H e S _ => ?_⟩
      obtain ⟨a2, vs2, e2, hq2, tq2⟩ := Tr.ext e _ _ (show Tr K H1 G1 (.tup l2) (.ref a) from ⟨a, vs, rfl, hq, tq⟩)
      cases e2
      exact ⟨vs2, hq2.sq, tq2⟩
    | ref c =>
      exfalso
      simp only [lk] at hy
      cases hg : G1 c with
      | none => rw [hg] at hy; cases hy
      | some o =>
        rw [hg] at hy
        cases o <;> simp at hy
    | _ => simp [lk] at hy
  | _ => simp [seqD] at h
theorem walk_zip2 {K : PySem.W.Frag} {gd gd' : Store → Prop} {ds es : List D} {s1 s2 : Bool} {a b : Addr} {G1 : Store} {H1 : Hp}
    (h : ∀ (G : Store) (H : Hp), Ext G1 H1 G H → Sto K H G → gd G → ∃ vs, SqA K s1 H a vs ∧ TrL K H G ds vs)
    (h' : ∀ (G : Store) (H : Hp), Ext G1 H1 G H → Sto K H G → gd' G → ∃ vs, SqA K s2 H b vs ∧ TrL K H G es vs) :
    WalkOk K (fun G => gd G ∧ gd' G) ((ds.zip es).map fun p => .tup [p.1, p.2]) (Itz2 K s1 s2 a b) G1 H1 := fun i G H e S g => by
  obtain ⟨vs, hq, t⟩ := h G H e S g.1
  obtain ⟨ws, hq2, t2⟩ := h' G H e S g.2
  refine ⟨fun d hd => ?_, fun hn => ⟨vs, ws, hq, hq2, ?_⟩⟩
  · rw [List.getElem?_map, Option.map_eq_some_iff] at hd
    obtain ⟨p, hp, rfl⟩ := hd
    obtain ⟨p1, p2⟩ := List.getElem?_zip_eq_some.mp hp
    obtain ⟨v, hv, tv⟩ := t.get p1
    obtain ⟨w, hw, tw⟩ := t2.get p2
    refine ⟨⟨vs, ws, v, w, hq, hq2, hv, hw⟩, fun y H' ⟨T, x', y', e1, e2, e3, e4, e5⟩ => ?_⟩
    subst e1; subst e3
    have ex : x' = v := Option.some.inj ((e4 vs hq).symm.trans hv)
    have ey : y' = w := Option.some.inj ((e5 ws hq2).symm.trans hw)
    subst ex ey
    exact ⟨ext_new e2, S.new e2, tup_new S e2 (.cons tv (.one tw))⟩
  · rw [List.getElem?_map, Option.map_eq_none_iff, List.getElem?_eq_none_iff, List.length_zip] at hn
    have l1 := t.length
    have l2 := t2.length
    omega
section
variable {X : Cx} {W : Wi}
theorem di_zip {e e2 : Expr} {da db : Den} {p pos tpos : Pos} {elts : List Expr} {kk : Nat} (hg : Gl X "zip") (hm : X.mg "zip" = none) (ha : DE X W e da) (hb : DE X W e2 db) (hs : noStar e = true) (hs2 : noStar e2 = true) :
    DI X W (.Tuple elts kk tpos) (.Call (.Name "zip" p) [e, e2] [] pos) (sZip da db) :=
  (pi_zip2 hg hm (da_cons ha (da_cons hb da_nil hs2) hs) (star_cons hs) (star_plain (by simp [hs2]))).imp fun τ H R ⟨σ, G, q, A, B, c, k⟩ => by
    refine ⟨σ, G, fun l G2 => match l with
      | [x, y] => oq (seqD (lk G2 x)) fun ds => oq (seqD (lk G2 y)) fun es => q ((ds.zip es).map fun p => .tup [p.1, p.2]) (fun G' => still G2 x G' ∧ still G2 y G') G2
      | _ => False, A, B, c, fun vs ds G' H' _ e' S' t z => ?_⟩
    match ds, t, z with
    | [x, y], t, z =>
      obtain ⟨v, _, rfl, t1, w, _, rfl, t2, rfl⟩ := t
      obtain ⟨xs, hx, ys, hy, z⟩ := z
      obtain ⟨a, b1, us, rfl, hq, l1, k1⟩ := sqA_still S' t1 hx
      obtain ⟨b, b2, ws, rfl, hq2, l2, k2⟩ := sqA_still S' t2 hy
      refine ⟨a, b, b1, b2, us, ws, rfl, hq, hq2, fun z1 z2 => k _ _ _ G' H' e' S' (walk_zip2 k1 k2) ?_ z⟩
      rw [ln_eq] at z1 z2
      rw [List.length_map, List.length_zip, ← l1, ← l2]
      exact Nat.le_trans (Nat.min_le_left _ _) z1
/-- a + b, a list that will change -/
theorem de_addM {a b : Expr} {da db : Den} {pos : Pos} (ha : DE X W a da) (hb : DE X W b db) : DE X W (.BinOp a .Add b pos) (sBm da .addM [db]) :=
  (pe_op cat_rd.lk ha hb).imp fun τ H Q ⟨σ, G, q, A, S, c, k⟩ => by
    refine ⟨σ, G, _, A, S, c, fun u x G1 H1 e1 S1 t1 ⟨_, c1⟩ => ?_⟩
    refine ⟨σ, G1, _, A.ext e1, S1, c1, fun v y G2 H2 e2 S2 t2 ⟨l, k', hx, hy, hl, z⟩ => ?_⟩
    have hy' : lk G2 y = .lst k' := (List.cons.inj hy).1
    have r1 := S2.rb (t1.ext e2)
    have r2 := S2.rb t2
    rw [hx] at r1
    rw [hy'] at r2
    obtain ⟨p, us, rfl, hp, tp⟩ := r1
    obtain ⟨p2, ws, rfl, hq, tq⟩ := r2
    refine ⟨p, p2, us, ws, rfl, rfl, hp, hq, by rw [ln_eq, ← tp.length, ← tq.length]; exact hl, fun n hn => ?_⟩
    exact mk_lst (m := true) S2 hn (tp.append tq) z (k.ext (e1.trans e2))
end
end T
end
section
set_option Elab.async false
set_option linter.all false
set_option maxRecDepth 100000
set_option maxHeartbeats 4000000
/-! enumerate(..) of a list or a tuple. -/
namespace T
open PySem PySem.Spec PyProof.Rows L2
theorem meets_enumB {v : Value} {o : Obj} {Hy : Heap → Prop} (B : Begins v o Hy) :
    Meets (Builtin.«enumerate.__new__» ⟨[.type "enumerate", v], []⟩) (fun _ R s => Hy s.heap ∧
      R (.ok (.ret (.ref (s.heap.push o).objs.size))) { s with heap := (s.heap.push o).push { cls := .type "enumerate", data := .fields #[.none, .bool false, .ref s.heap.objs.size, rawInt 0, .none, .none] } }) :=
  .of_wp fun prog w A R s h => by
    obtain ⟨hp, g, d, tk, os⟩ := s; obtain ⟨h1, h⟩ := h
    have hsub := sub_enumerate
    have q1 : ∀ {A' : Around} {E : Value → Shared → Prop} {Q : Value → Shared → Prop}, Q (.ref hp.objs.size) ⟨hp.push o, g, d, tk, os⟩ → wpAny (model prog w) A' (pyIter v) Q E ⟨hp, g, d, tk, os⟩ :=
      fun q => B.iter prog w _ _ ⟨hp, g, d, tk, os⟩ _ h1 q
    wp_walk using q1
    refine wpAny_stack_any fun st => wpAny_pure ?_
    split
    · rename_i c _ _ _ _ _
      cases (c == Value.type "enumerate")
      · wp_walk using q1
        exact ⟨_, rfl, h⟩
      · wp_walk using q1
        exact ⟨_, rfl, h⟩
    · wp_walk using q1
      exact ⟨_, rfl, h⟩
theorem enum_begins1 {prog : Program} {w : World} {A : Around} {E : Value → Shared → Prop} {s : Shared} {v : Value} {o : Obj} {Hy : Heap → Prop} {Q : Value → Shared → Prop} (B : Begins v o Hy) (h1 : Hy s.heap)
    (h : ∀ h', IsEnum h' (s.heap.objs.size + 1) s.heap.objs.size 0 .none → h'.get? s.heap.objs.size = some o → h'.objs.size = s.heap.objs.size + 2 →
      (∀ b o, s.heap.get? b = some o → h'.get? b = some o) → Q (.ref (s.heap.objs.size + 1)) { s with heap := h' }) :
    wpAny (model prog w) A (call (.type "enumerate") [v]) Q E s := by
  refine callType_new F.called_enumerate (by decide) (F.typeCall_enumerate_1 _) (F.newCall_enumerate_1 _) (fun obj => F.args_object_init_2 obj _) F.entry_enumerate_new
    (meets_enumB B) ⟨h1, ?_⟩
  have hz : (s.heap.push o).objs.size = s.heap.objs.size + 1 := Heap.size_push ..
  show _ ∧ _
  rw [hz]
  have he : IsEnum ((s.heap.push o).push { cls := .type "enumerate", data := .fields #[.none, .bool false, .ref s.heap.objs.size, rawInt 0, .none, .none] }) (s.heap.objs.size + 1) s.heap.objs.size 0 .none := by
    have := Heap.get?_push_size (s.heap.push o) (o := { cls := .type "enumerate", data := .fields #[.none, .bool false, .ref s.heap.objs.size, rawInt 0, .none, .none] }) rfl
    rw [hz] at this; exact this
  refine ⟨⟨_, he, rfl⟩, h _ he (Heap.get?_push_of_some _ (Heap.get?_push_size _ B.free)) (by rw [Heap.size_push, hz]) fun b o x => Heap.get?_push_of_some _ (Heap.get?_push_of_some _ x)⟩
def IteS (K : PySem.W.Frag) (b : Bool) (a : Addr) : It :=
  ⟨fun i H => ∃ xs x, SqA K b H a xs ∧ xs[i]? = some x,
    fun i H v H' => ∃ T x, v = .ref T ∧ H T = none ∧ H' = upd H T (.tup [.int (i : Nat), x]) ∧ ∀ xs, SqA K b H a xs → xs[i]? = some x,
    fun i H => ∃ xs, SqA K b H a xs ∧ xs.length ≤ i⟩
theorem turn_enumS {P : Program} {w : World} {K : PySem.W.Frag} {elts : List Expr} {kk : Nat} {tpos : Pos} {b : Bool} {a N : Addr} (ha : a < N) :
    Turn P w K (.Tuple elts kk tpos) (IteS K b a) [N + 1, N] (N + 1) (fun i h => (∃ old, IsEnum h (N + 1) N ((i : Nat) : Int) old) ∧ itS b h N a i) where
  mem := by simp
  obj := fun i h st c hc => by
    obtain ⟨⟨old, he⟩, hi⟩ := st
    have e' : c = N + 1 ∨ c = N := by simpa using hc
    rcases e' with z | z
    · rw [z]; exact ⟨_, he, fun v q => nomatch q⟩
    · rw [z]; exact hi.ob
  keep := fun i h h' st k => let ⟨⟨old, he⟩, hi⟩ := st; ⟨⟨old, k _ (by simp) _ he⟩, hi.at fun o q => k N (by simp) o q⟩
  item := by
    intro X hP hw hK hc i pins s σ H E I hf st hg
    subst hP hw hK
    obtain ⟨⟨old, he⟩, hit⟩ := st
    obtain ⟨xs, x, hq, hx⟩ := hg
    obtain ⟨its, rv, p, hz⟩ := inv_sqA I hq
    obtain ⟨u, hu, ru⟩ := rv.get hx
    have hel : N + 1 < s.heap.objs.size := Heap.lt_size he
    have hne : N + 1 ≠ N := Nat.succ_ne_self N
    have hh : X.A.in1.handled = none := I.ok.hd hc
    have hna : a ≠ N := Nat.ne_of_lt ha
    have hef : N + 1 ∉ [N, a] := by
      intro h
      have : N + 1 = N ∨ N + 1 = a := by simpa using h
      rcases this with q | q
      · exact hne q
      · rw [← q] at ha; exact Nat.lt_irrefl _ (Nat.lt_trans ha (Nat.lt_succ_self N))
    refine wpAny_pyNext_enum_itemD (draws_go b hh hna its.toArray) he ⟨hit, p⟩ (by simpa using (List.getElem?_eq_some_iff.mp hu).1) hne hef fun y h' tk e1 ho st2 hT hsz hk => ?_
    have e1' : y = u := by simpa [hu] using e1.symm
    subst e1'
    refine ⟨_, rfl, wpAny_letOwnedTupleGo_enum (s := { s with heap := h', toks := tk + 1 }) ho fun h'' he' sb => ?_⟩
    have hT2 : h''.get? s.heap.objs.size = some { cls := .type "tuple", data := .seq #[.int i tk, y] } := (sb.2 _ (Nat.ne_of_gt hel)).trans hT
    have new : ObjOk X.prog X.w (upd H s.heap.objs.size (.tup [.int (i : Nat), x])) h'' s.heap.objs.size (.tup [.int (i : Nat), x]) :=
      ⟨by show 2 ≤ sizeLine; decide, [.int i tk, y], .cons ⟨_, rfl⟩ (.cons ru .nil), ⟨_, hT2, rfl, _, rfl⟩⟩
    have I1 : Inv X pins σ (upd H s.heap.objs.size (.tup [.int (i : Nat), x])) { s with heap := h'', toks := tk + 1 } :=
      I.turnedNew (t' := tk + 1) (ch := [N + 1, N]) (fun c o hb q => (sb.2 c (fun z => hb (by simp [z]))).trans (hk c o (fun z => hb (by simp [z])) (fun z => hb (by simp [z])) q)) hf (Nat.le_refl _) new
    refine ⟨.ref s.heap.objs.size, _, I1, rfl, ⟨_, x, rfl, I.hok.fresh (Nat.le_refl _), rfl, fun ys hy => by rw [inj_sqA I hy hq]; exact hx⟩, ⟨⟨y, ?_⟩, st2.1.at fun o q => (sb.2 N (Ne.symm hne)).trans q⟩, fun c hcm => ?_⟩
    · have e1 : ((i + 1 : Nat) : Int) = (i : Int) + 1 := by omega
      rw [e1]; exact he'
    · have hb' : c < s.heap.objs.size := by
        have e' : c = N + 1 ∨ c = N := by simpa using hcm
        rcases e' with z | z
        · rw [z]; exact hel
        · rw [z]; exact Nat.lt_of_le_of_lt (Nat.le_succ _) hel
      rw [upd_ne (Nat.ne_of_lt hb')]
      exact (hf c hcm).1
  done := by
    intro X hP hw hK hc i pins s σ H E I hf st hg
    subst hP hw hK
    obtain ⟨⟨old, he⟩, hit⟩ := st
    obtain ⟨xs, hq, hx⟩ := hg
    obtain ⟨its, rv, p, hz⟩ := inv_sqA I hq
    have hl := rv.length
    have hh : X.A.in1.handled = none := I.ok.hd hc
    have hn : its.toArray[i]? = none := by simp; omega
    refine wpAny_pyNext_enum_endD (draws_end b hh hn) he ⟨rfl, hit, p⟩ fun h' eb => ⟨rfl, ?_⟩
    exact I.turnedL (t' := s.toks) (ch := [N + 1, N]) (fun c o hb q => eb c o (fun z => hb (by simp [z])) q) hf
  self := fun A i s Q E st h => let ⟨⟨_, he⟩, _⟩ := st; wpAny_pyIter_enum he h
def iEnumS (K : PySem.W.Frag) (ta : TA) : TI := fun σ H R => ta σ H fun vs H1 => ∃ a b xs, vs = [.ref a] ∧ SqA K b H1 a xs ∧ (xs.length ≤ sizeLine → R (IteS K b a) H1)
theorem pi_enumS {X : Cx} {e : Expr} {ta : TA} {p pos tpos : Pos} {elts : List Expr} {kk : Nat} (hg : Gl X "enumerate") (hm : X.mg "enumerate" = none) (ha : PA X [e] ta) (hs : starEach [e] X.env = [(false, eval e X.env)]) :
    PI X (.Tuple elts kk tpos) (.Call (.Name "enumerate" p) [e] [] pos) (iEnumS X.K ta) := by
  refine ⟨fun pins s σ H R I h => ?_⟩
  refine Call_ (ld_blt I hg hm boot_enumerate (PyProof.Rows.callWith_type1 (thn (ha.run pos pins s σ H _ I h) fun us s1 ⟨vs, H1, I1, r1, q1⟩ => ?_) hs rfl))
  obtain ⟨a, b, xs, ex, hq, q⟩ := q1
  subst ex
  cases r1 with
  | cons r rr =>
    cases rr
    cases r
    obtain ⟨its, rv, p', hz⟩ := inv_sqA I1 hq
    refine enum_begins1 (beginsS b a its.toArray) p' fun h' he hit hsz hk => wpAny_pyIter_enum he ?_
    have I2 : Inv X pins σ H1 { s1 with heap := h' } := I1.kept (t' := s1.toks) hk
    refine ⟨s1.heap.objs.size + 1, [s1.heap.objs.size + 1, s1.heap.objs.size], _, _, H1, rfl, I2, turn_enumS p'.lt, ⟨⟨.none, he⟩, .start hit⟩, fun c hcm => ?_, q hz⟩
    have e' : c = s1.heap.objs.size + 1 ∨ c = s1.heap.objs.size := by simpa using hcm
    have hle : s1.heap.objs.size ≤ c := by
      rcases e' with z | z
      · rw [z]; exact Nat.le_add_right _ _
      · rw [z]; exact Nat.le_refl _
    exact I1.fpOk hle (I1.hok.fresh hle)
theorem walk_enumS {K : PySem.W.Frag} {gd : Store → Prop} {ds : List D} {b : Bool} {a : Addr} {G1 : Store} {H1 : Hp}
    (h : ∀ (G : Store) (H : Hp), Ext G1 H1 G H → Sto K H G → gd G → ∃ vs, SqA K b H a vs ∧ TrL K H G ds vs) : WalkOk K gd (ds.zipIdx.map fun p => .tup [.int (p.2 : Nat), p.1]) (IteS K b a) G1 H1 := fun i G H e S g => by
  obtain ⟨vs, hq, t⟩ := h G H e S g
  refine ⟨fun d hd => ?_, fun hn => ⟨vs, hq, ?_⟩⟩
  · rw [List.getElem?_map, List.getElem?_zipIdx, Option.map_map] at hd
    cases hk : ds[i]? with
    | none => rw [hk] at hd; cases hd
    | some d0 =>
      rw [hk] at hd
      cases hd
      obtain ⟨v, hv, tv⟩ := t.get hk
      refine ⟨⟨vs, v, hq, hv⟩, fun y H' ⟨p, x, e1, e2, e3, e4⟩ => ?_⟩
      subst e1; subst e3
      have ex : x = v := Option.some.inj ((e4 vs hq).symm.trans hv)
      subst ex
      refine ⟨ext_new e2, S.new e2, tup_new S e2 ?_⟩
      exact ⟨.int (i : Nat), [x], rfl, by show V.int _ = V.int _; simp, x, [], rfl, tv, rfl⟩
  · rw [List.getElem?_map, List.getElem?_zipIdx, Option.map_map] at hn
    cases hk : ds[i]? with
    | none => rw [← t.length]; exact List.getElem?_eq_none_iff.mp hk
    | some d0 => rw [hk] at hn; cases hn
section
variable {X : Cx} {W : Wi}
theorem di_enum {e : Expr} {da : Den} {p pos tpos : Pos} {elts : List Expr} {kk : Nat} (hg : Gl X "enumerate") (hm : X.mg "enumerate" = none) (ha : DE X W e da) (hs : noStar e = true) :
    DI X W (.Tuple elts kk tpos) (.Call (.Name "enumerate" p) [e] [] pos) (sEnum da) :=
  (pi_enumS hg hm (pa_cons ha pa_nil (star_cons hs)) (star_one hs)).imp fun τ H R ⟨σ, G, q, A, B, c, k⟩ => by
    refine ⟨σ, G, _, A, B, c, fun x d G1 H1 e1 S1 t1 ⟨ds, hd, hl, z⟩ => ?_⟩
    obtain ⟨a, b, us, rfl, hq, l1, w⟩ := sqA_still S1 t1 hd
    exact ⟨a, b, us, rfl, hq, fun _ => k _ _ _ G1 H1 e1 S1 (walk_enumS w) (by simpa using hl) z⟩
end
end T
end
section
set_option Elab.async false
set_option linter.all false
set_option maxRecDepth 100000
set_option maxHeartbeats 4000000
/-! A text is what the small language says: chk; and that it means what it says. -/
namespace T
open PySem PySem.Spec PyProof.Rows L2
/-! ### what is looked at -/
/-- a value, something that is walked (into a display of targets?), a part of a slice, a target at vs -/
inductive Md where
  | v | i (tt : Bool) | o | p (vs : List Nat)
def Md.val : Md → Bool
  | .p _ => false
  | _ => true
def visB (sc : Scope) (x : Str) : Bool := match sc.names.lookup x with | some .local | some .cell | some .free => true | _ => false
def glB (sc : Scope) (x : Str) : Bool := match sc.names.lookup x with | some .globalImplicit => true | _ => false
def okn (x : Str) : Bool := !(x == ("__debug__" : Str)) && !(x == ("__classdict__" : Str))
def plainIx : Expr → Bool
  | .Slice _ _ _ _ => false
  | _ => true
def opB (op : Op) (o : Operator) : Bool := match op, o with
  | .add, .Add | .sub, .Sub | .mul, .Mult | .fdiv, .FloorDiv | .mod, .Mod | .pow, .Pow => true
  | _, _ => false
/-- comparisons by value -/
def cmB (op : Cm) (o : CmpOp) : Bool := match op, o with
  | .eq, .Eq | .ne, .NotEq | .lt, .Lt | .le, .LtE | .gt, .Gt | .ge, .GtE => true
  | _, _ => false
/-- is .. a constant -/
def isB (op : Cm) (o : CmpOp) (b : E) : Bool := match op, o, b with
  | .isN, .Is, .non | .notN, .IsNot, .non | .isT, .Is, .bl true | .isF, .Is, .bl false | .notT, .IsNot, .bl true | .notF, .IsNot, .bl false => true
  | _, _, _ => false
/-- a built-in's name, and how many values it takes -/
def biNm : Bi → Option (Bool × String × Nat)
  | .len => some (false, "len", 1)
  | .sum => some (false, "sum", 1)
  | .all => some (false, "all", 1)
  | .any => some (false, "any", 1)
  | .min2 => some (false, "min", 2)
  | .max2 => some (false, "max", 2)
  | .abs => some (false, "abs", 1)
  | .tuple => some (true, "tuple", 1)
  | .list => some (true, "list", 1)
  | .dict => some (true, "dict", 1)
  | .int => some (true, "int", 1)
  | .str => some (true, "str", 1)
  | _ => none
def noSet1 : Expr → Bool := noSet
/-- whose items are walked: no super() -/
def noSuperI : Expr → Bool
  | .Call (.Name f _) _ _ _ => !(f == Str.ofString "super")
  | .Call _ _ _ _ => false
  | _ => true
mutual
def chk (N : List Str) (F : List (Str × List Str)) : E → Md → Scope → (Str → Bool) → Expr → Bool
  | .var i, m, sc, _, e => m.val && match e with
    | .Name x _ => decide (N[i]? = some x) && visB sc x && okn x
    | _ => false
  | .glob x, m, sc, _, e => m.val && match e with
    | .Name y _ => decide (x = y) && glB sc x && okn x
    | _ => false
  | .non, m, _, _, e => m.val && match e with
    | .Constant .none _ _ => true
    | _ => false
  | .bl b, m, _, _, e => m.val && match e with
    | .Constant (.bool c) _ _ => b == c
    | _ => false
  | .int n, m, _, _, e => m.val && match e with
    | .Constant (.int c) _ _ => decide (n = c)
    | _ => false
  | .str s, m, _, _, e => m.val && match e with
    | .Constant (.str c) _ _ => decide (s = c)
    | _ => false
  | .tup es, m, sc, fc, e => m.val && match e with
    | .Tuple xs _ _ => chkL N F es .v sc fc xs && decide (xs.length ≤ 1000)
    | _ => false
  | .lst _ es, m, sc, fc, e => m.val && match e with
    | .List xs _ => chkL N F es .v sc fc xs && decide (xs.length ≤ 1000)
    | _ => false
  | .dic _, m, _, _, e => m.val && match e with
    | .Dict [] [] _ => true
    | _ => false
  | .bin op a b, m, sc, fc, e => m.val && match e with
    | .BinOp x o y _ => opB op o && chk N F a .v sc fc x && chk N F b .v sc fc y
    | _ => false
  | .neg a, m, sc, fc, e => m.val && match e with
    | .UnaryOp .USub x _ => chk N F a .v sc fc x
    | _ => false
  | .not a, m, sc, fc, e => m.val && match e with
    | .UnaryOp .Not x _ => chk N F a .v sc fc x
    | _ => false
  | .cmp op a b, m, sc, fc, e => m.val && match e with
    | .Compare x [o] [y] _ => chk N F a .v sc fc x && chk N F b .v sc fc y && !behindInMarks o y && (cmB op o || isB op o b || (match op, o with | .in_, .In | .notIn, .NotIn => true | _, _ => false))
    | _ => false
  | .chain op op' a b c, m, sc, fc, e => m.val && match e with
    | .Compare x [o, o'] [y, z] _ => chk N F a .v sc fc x && chk N F b .v sc fc y && chk N F c .v sc fc z && cmB op o && cmB op' o' && !lastMarks [o, o'] [y, z]
    | _ => false
  | .and es, m, sc, fc, e => m.val && match e with
    | .BoolOp .And xs _ => !es.isEmpty && chkL N F es .v sc fc xs
    | _ => false
  | .or es, m, sc, fc, e => m.val && match e with
    | .BoolOp .Or xs _ => !es.isEmpty && chkL N F es .v sc fc xs
    | _ => false
  | .ife c a b, m, sc, fc, e => m.val && match e with
    | .IfExp x y z _ => chk N F c .v sc fc x && chk N F a .v sc fc y && chk N F b .v sc fc z
    | _ => false
  | .idx a i, m, sc, fc, e => m.val && match e with
    | .Subscript x y _ => chk N F a .v sc fc x && chk N F i .v sc fc y && plainIx y
    | _ => false
  | .cut a lo hi, m, sc, fc, e => m.val && match e with
    | .Subscript x (.Slice l h none _) _ => chk N F a .v sc fc x && (match l with | none => isAbs lo | some l => chk N F lo .o sc fc l) && (match h with | none => isAbs hi | some h => chk N F hi .o sc fc h)
    | _ => false
  | .call f args ks kws, m, sc, fc, e => m.val && match e with
    | .Call (.Name g _) xs [] _ => decide (f = g) && decide ((f, []) ∈ F) && glB sc f && okn f && chkL N F args .v sc fc xs && xs.all noStar && ks.isEmpty && kws.isEmpty
    | .Call (.Name g _) (x :: xs) kxs _ => decide (f = g) && decide ((f, ks) ∈ F) && glB sc f && okn f && chkL N F args .v sc fc (x :: xs) && (x :: xs).all noStar && kwNamed kxs && !kxs.isEmpty && decide (ks = kwNames kxs) && chkW N F kws sc fc kxs
    | _ => false
  | .bi b args, m, sc, fc, e => m.val && match e with
    | .Call (.Name g _) xs [] _ => (match biNm b with
      | some (_, nm, n) => decide (g = Str.ofString nm) && decide (xs.length = n) && glB sc g && chkL N F args .v sc fc xs && xs.all noStar
      | none => match b, args, xs with
        | .listM, [a], [x] => decide (g = Str.ofString "list") && glB sc g && chk N F a .v sc fc x && noStar x
        | .minL, [a], [x] => decide (g = Str.ofString "min") && glB sc g && chk N F a .v sc fc x && noStar x
        | b, [a], [x, .Name T _] => (match isTy b with
          | some t => decide (g = Str.ofString "isinstance") && glB sc g && decide (T = Str.ofString t) && glB sc T && chk N F a .v sc fc x && noStar x
          | none => false)
        | _, _, _ => false)
    | _ => false
  | .bm o b args, m, sc, fc, e => m.val && match e with
    | .Call (.Attribute y f ap) xs [] cp => chk N F o .v sc fc y && noSuper y && (ap.endLine == cp.line) && (match b, args, xs with
      | .append, [a], [x] => decide (f = Str.ofString "append") && chk N F a .v sc fc x && noStar x
      | .popAt, [a], [x] => decide (f = Str.ofString "pop") && chk N F a .v sc fc x && noStar x
      | .extend, [a], [x] => decide (f = Str.ofString "extend") && chk N F a .v sc fc x && noStar x
      | .count, [a], [x] => decide (f = Str.ofString "count") && chk N F a .v sc fc x && noStar x
      | .join, [a], [x] => decide (f = Str.ofString "join") && chk N F a .v sc fc x && noStar x
      | .insert, [a, b], [x, z] => decide (f = Str.ofString "insert") && chk N F a .v sc fc x && noStar x && (chk N F b .v sc fc z && noStar z)
      | .get2, [a, b], [x, z] => decide (f = Str.ofString "get") && chk N F a .v sc fc x && noStar x && (chk N F b .v sc fc z && noStar z)
      | _, _, _ => false)
    | .BinOp y .Add z _ => (match b, args with
      | .addM, [a] => chk N F o .v sc fc y && chk N F a .v sc fc z
      | _, _ => false)
    | _ => false
  | .cnt a h k, m, sc, fc, e => m.val && match e with
    | .Call (.Attribute (.Subscript x (.Slice none (some y) none _) _) f ap) [z] [] cp => decide (f = Str.ofString "count") && (ap.endLine == cp.line) && chk N F a .v sc fc x && chk N F h .v sc fc y && chk N F k .v sc fc z && noStar z
    | _ => false
  | .sorted _ a, m, sc, fc, e => m.val && match e with
    | .Call (.Name g _) [x] [] _ => decide (g = Str.ofString "sorted") && glB sc g && chk N F a .v sc fc x && noStar x
    | _ => false
  | .sortedBy _ f a, m, sc, fc, e => m.val && match e with
    | .Call (.Name g _) [x] [⟨some kw, .Name f2 _, _⟩] _ => decide (g = Str.ofString "sorted") && glB sc g && decide (kw = Str.ofString "key") && decide (f = f2) && decide ((f, []) ∈ F) && glB sc f && okn f && chk N F a .v sc fc x && noStar x
    | _ => false
  | .sortedSet _ a, m, sc, fc, e => m.val && match e with
    | .Call (.Name g _) [.Call (.Name g2 _) [x] [] _] [] _ => decide (g = Str.ofString "sorted") && decide (g2 = Str.ofString "set") && glB sc g && glB sc g2 && chk N F a .v sc fc x && noStar x
    | _ => false
  | .lc _ elt pat it ifs own, m, sc, fc, e => m.val && match e with
    | .ListComp x gens scope _ => (match gens with
      | [⟨tg, iter, xs, 0⟩] => blkC N sc scope (own.map fun i => (N.getD i ⟨#[]⟩, i)) && chk N F it (.i (match tg with | .Tuple _ _ _ => true | _ => false)) sc fc iter && noSet iter && chk N F pat (.p own) (relS scope sc) (fcB scope) tg &&
          chkL N F ifs .v (relS scope sc) (fcB scope) xs && decide (xs.length ≤ 1) && chk N F elt .v (relS scope sc) (fcB scope) x
      | _ => false)
    | _ => false
  | .dc t _ kx vx pat it own, m, sc, fc, e => m.val && match e with
    | .DictComp x y gens scope _ => (match gens with
      | [⟨tg, iter, [], 0⟩] => !t && blkC N sc scope (own.map fun i => (N.getD i ⟨#[]⟩, i)) && chk N F it (.i (match tg with | .Tuple _ _ _ => true | _ => false)) sc fc iter && noSet iter && chk N F pat (.p own) (relS scope sc) (fcB scope) tg &&
          chk N F kx .v (relS scope sc) (fcB scope) x && chk N F vx .v (relS scope sc) (fcB scope) y
      | _ => false)
    | _ => false
  | .rev a, m, sc, fc, e => m.val && match e with
    | .Subscript x (.Slice none none (some (.UnaryOp .USub (.Constant (.int 1) _ _) _)) _) _ => chk N F a .v sc fc x
    | _ => false
  | .fstr es, m, sc, fc, e => m.val && match e with
    | .JoinedStr xs _ => chkJ N F es sc fc xs && decide (2 ≤ xs.length)
    | _ => false
  | .dsp t _ es, m, sc, fc, e => m.val && match e with
    | .Dict ks vs _ => (!t && chkD N F es sc fc ks vs && !ks.isEmpty && decide (ks.length ≤ 15)) || (t && (match es, ks, vs with
      | [a, b], [some k], [v] => chk N F a .v sc fc k && chk N F b .v sc fc v
      | _, _, _ => false))
    | _ => false
  | .items a, m, sc, fc, e => (match m with | .i true => true | _ => false) && match e with
    | .Call (.Attribute y f ap) [] [] cp => decide (f = Str.ofString "items") && chk N F a .v sc fc y && noSuperI y && (ap.endLine == cp.line)
    | _ => false
  | .enum a, m, sc, fc, e => (match m with | .i true => true | _ => false) && match e with
    | .Call (.Name g _) [x] [] _ => decide (g = Str.ofString "enumerate") && glB sc g && chk N F a .v sc fc x && noStar x
    | _ => false
  | .zip a b, m, sc, fc, e => (match m with | .i true => true | _ => false) && match e with
    | .Call (.Name g _) [x, y] [] _ => decide (g = Str.ofString "zip") && glB sc g && chk N F a .v sc fc x && noStar x && chk N F b .v sc fc y && noStar y
    | _ => false
  | .range1 a, m, sc, fc, e => (match m with | .i _ => true | _ => false) && match e with
    | .Call (.Name g _) [x] [] _ => decide (g = Str.ofString "range") && glB sc g && chk N F a .v sc fc x && noStar x
    | _ => false
  | .range2 a b, m, sc, fc, e => (match m with | .i _ => true | _ => false) && match e with
    | .Call (.Name g _) [x, y] [] _ => decide (g = Str.ofString "range") && glB sc g && chk N F a .v sc fc x && noStar x && chk N F b .v sc fc y && noStar y
    | _ => false
  | .pname i, m, sc, fc, e => match m, e with
    | .p vs, .Name x _ => decide (N[i]? = some x) && decide (i ∈ vs) && (match sc.names.lookup x with | some .local => true | some .cell => fc x | _ => false)
    | _, _ => false
  | .ptup ps, m, sc, fc, e => match m, e with
    | .p vs, .Tuple xs _ _ => chkL N F ps (.p vs) sc fc xs && xs.all noStar
    | _, _ => false
  | .psub o i, m, sc, fc, e => match m, e with
    | .p _, .Subscript x y _ => chk N F o .v sc fc x && chk N F i .v sc fc y && notSlice y
    | _, _ => false
  | .pcut o lo hi, m, sc, fc, e => match m, e with
    | .p _, .Subscript x (.Slice l h none _) _ => chk N F o .v sc fc x && (match l with | none => isAbs lo | some l => chk N F lo .o sc fc l) && (match h with | none => isAbs hi | some h => chk N F hi .o sc fc h)
    | _, _ => false
  | _, _, _, _, _ => false
def chkJ (N : List Str) (F : List (Str × List Str)) : List E → Scope → (Str → Bool) → List Expr → Bool
  | [], _, _, xs => xs.isEmpty
  | e :: es, sc, fc, xs => match xs with
    | x :: xs => (match x with
      | .FormattedValue y (-1) none _ => chk N F e .v sc fc y
      | .Constant (.str c) _ _ => (match e with | .str s => decide (s = c) | _ => false)
      | _ => false) && chkJ N F es sc fc xs
    | [] => false
def chkD (N : List Str) (F : List (Str × List Str)) : List E → Scope → (Str → Bool) → List (Option Expr) → List Expr → Bool
  | a :: b :: es, sc, fc, ks, vs => match ks, vs with
    | some k :: ks, v :: vs => chk N F a .v sc fc k && chk N F b .v sc fc v && chkD N F es sc fc ks vs
    | _, _ => false
  | [], _, _, ks, vs => ks.isEmpty && vs.isEmpty
  | [_], _, _, _, _ => false
def chkW (N : List Str) (F : List (Str × List Str)) : List E → Scope → (Str → Bool) → List Keyword → Bool
  | [], _, _, xs => xs.isEmpty
  | e :: es, sc, fc, xs => match xs with
    | ⟨_, x, _⟩ :: xs => chk N F e .v sc fc x && chkW N F es sc fc xs
    | [] => false
def chkL (N : List Str) (F : List (Str × List Str)) : List E → Md → Scope → (Str → Bool) → List Expr → Bool
  | [], _, _, _, xs => xs.isEmpty
  | e :: es, m, sc, fc, xs => match xs with
    | x :: xs => chk N F e m sc fc x && noStar x && chkL N F es m sc fc xs
    | [] => false
end
end T
end
section
set_option Elab.async false
set_option linter.all false
set_option maxRecDepth 100000
set_option maxHeartbeats 4000000
/-! Expressions: what chk says is so. -/
namespace T
open PySem PySem.Spec PyProof.Rows L2
def Res (X : Cx) (W : Wi) : Md → Expr → Den → Prop
  | .v, e, d => DE X W e d ∧ DT X W e d
  | .i false, e, d => ∀ tg, DI X W tg e d
  | .i true, e, d => ∀ elts kk tp, DI X W (.Tuple elts kk tp) e d
  | .o, e, d => DO X W (some e) d
  | .p vs, e, d => DG X W vs e d
inductive ResL (X : Cx) (W : Wi) (m : Md) : List Expr → List Den → Prop
  | nil : ResL X W m [] []
  | cons {e : Expr} {d : Den} {es : List Expr} {ds : List Den} : Res X W m e d → noStar e = true → ResL X W m es ds → ResL X W m (e :: es) (d :: ds)
section
variable {X : Cx} {W : Wi} {e : Expr} {d : Den} {m : Md}
theorem res_val (hm : m.val = true) (hE : DE X W e d) (hT : DT X W e d) (hi : d.i = (dV d.e).i) (ho : d.o = (dV d.e).o) : Res X W m e d := by
  have hI : ∀ tg, DI X W tg e d := fun tg => by
    show PI X tg e (lI X.K (d.i W))
    rw [hi]; exact di_val hE
  cases m with
  | v => exact ⟨hE, hT⟩
  | i b => cases b with
    | false => exact hI
    | true => exact fun _ _ _ => hI _
  | o => exact do_some (v := d.e) ho hE
  | p vs => cases hm
def plainT : Expr → Bool
  | .UnaryOp .Not _ _ => false
  | .BoolOp _ _ _ => false
  | .IfExp _ _ _ _ => false
  | .Compare _ _ _ _ => false
  | _ => true
theorem isT_plain {env : Env} (h : plainT e = true) (w : Sem Value) : isTrue e env w = (do let v ← w; standAt e.pos; holding [v] (truthy v)) := by
  cases e with
  | UnaryOp op x p => cases op <;> first | rfl | cases h
  | BoolOp _ _ _ => cases h
  | IfExp _ _ _ _ => cases h
  | Compare _ _ _ _ => cases h
  | _ => rfl
theorem res_dV {v : Wi → Sl → Store → DK → Prop} (hm : m.val = true) (hE : DE X W e (dV v)) (hp : plainT e = true) : Res X W m e (dV v) := res_val hm hE (dt_val hE (isT_plain hp)) rfl rfl
theorem resL_len {es : List Expr} {ds : List Den} (h : ResL X W m es ds) : es.length = ds.length := by
  induction h with
  | nil => rfl
  | cons _ _ _ ih => simp [ih]
theorem resL_star {es : List Expr} {ds : List Den} (h : ResL X W m es ds) : es.all noStar = true := by
  induction h with
  | nil => rfl
  | cons _ h _ ih => simp [h, ih]
theorem resL_DA {es : List Expr} {ds : List Den} (h : ResL X W .v es ds) : DA X W es es.length ds := by
  induction h with
  | nil => exact da_nil
  | cons h1 h2 _ ih => exact da_cons h1.1 ih h2
theorem resL_DGs {vs : List Nat} {es : List Expr} {ds : List Den} (h : ResL X W (.p vs) es ds) : DGs X W vs es ds := by
  induction h with
  | nil => exact dgs_nil
  | cons h1 h2 _ ih => exact dgs_cons h1 ih h2
theorem resL_and {pos : Pos} {es : List Expr} {ds : List Den} (h : ResL X W .v es ds) : es ≠ [] → DE X W (.BoolOp .And es pos) (sAnd ds) ∧ PW X (.BoolOp .And es pos) (lT X.K ((sAnd ds).t W)) := by
  induction h with
  | nil => exact fun h => absurd rfl h
  | cons h1 h2 h3 ih =>
    intro _
    cases h3 with
    | nil => exact and_one (op := .And) h1.1 h1.2
    | cons h4 h5 h6 =>
      obtain ⟨a, b⟩ := ih (by simp)
      exact and_cons h1.1 h1.2 a b
theorem resL_or {pos : Pos} {es : List Expr} {ds : List Den} (h : ResL X W .v es ds) : es ≠ [] → DE X W (.BoolOp .Or es pos) (sOr ds) ∧ PW X (.BoolOp .Or es pos) (lT X.K ((sOr ds).t W)) := by
  induction h with
  | nil => exact fun h => absurd rfl h
  | cons h1 h2 h3 ih =>
    intro _
    cases h3 with
    | nil => exact or_one h1.1 h1.2
    | cons h4 h5 h6 =>
      obtain ⟨a, b⟩ := ih (by simp)
      exact or_cons h1.1 h1.2 a b
theorem sAnd_dV : ∀ ds : List Den, ds ≠ [] → (sAnd ds).i = (dV (sAnd ds).e).i ∧ (sAnd ds).o = (dV (sAnd ds).e).o
  | [], h => absurd rfl h
  | [_], _ => ⟨rfl, rfl⟩
  | _ :: _ :: _, _ => ⟨rfl, rfl⟩
theorem sOr_dV : ∀ ds : List Den, ds ≠ [] → (sOr ds).i = (dV (sOr ds).e).i ∧ (sOr ds).o = (dV (sOr ds).e).o
  | [], h => absurd rfl h
  | [_], _ => ⟨rfl, rfl⟩
  | _ :: _ :: _, _ => ⟨rfl, rfl⟩
theorem visB_ok {sc : Scope} {x : Str} (h : visB sc x = true) : Vis sc x := by
  unfold visB at h
  split at h
  · exact .inl (by assumption)
  · exact .inr (.inl (by assumption))
  · exact .inr (.inr (by assumption))
  · cases h
theorem okn_ok {x : Str} (h : okn x = true) : (x == ("__debug__" : Str)) = false ∧ (x == ("__classdict__" : Str)) = false := by
  unfold okn at h
  simpa [Bool.and_eq_true] using h
theorem plainIx_ok {y : Expr} (h : plainIx y = true) : PlainIx y := by
  intro o i
  cases y <;> first | rfl | cases h
theorem opB_ok {op : Op} {o : Operator} (h : opB op o = true) : OpL X (binaryOp o) (binD op) := by
  cases op <;> cases o <;> first | cases h | skip
  · exact opl_add
  · exact opl_sub
  · exact opl_mul
  · exact opl_fdiv
  · exact opl_mod
  · exact opl_pow
theorem cmB_ok {op : Cm} {o : CmpOp} (hu : X.A.units + 64 < cLine) (h : cmB op o = true) : OpL X (compareOp o) (cmpD op) := by
  cases op <;> cases o <;> first | cases h | skip
  · exact opl_eq hu
  · exact opl_ne hu
  · exact opl_lt hu
  · exact opl_le
  · exact opl_gt hu
  · exact opl_ge
theorem lkc_cm {op : Cm} {o : CmpOp} (h : cmB op o = true) (G : Store) (x : D) : lkc op G x = lk G x := by
  cases op <;> cases o <;> first | (cases h; done) | rfl
end
section
variable {Γ : Ctx} {X : Cx} {N : List Str} {sc : Scope} {fc : Str → Bool} {k : Nat} {W : Wi}
theorem gl_of (g : Good Γ X N sc fc k) {x : Str} (h : glB sc x = true) : Gl X x := by
  unfold glB at h
  split at h
  · show X.env.scope.names.lookup x = _
    rw [g.sc]; assumption
  · cases h
theorem nob_of (g : Good Γ X N sc fc k) {x : Str} (h : x ∈ bNames) : X.mg x = none := g.wld.nob x h
/-- the built-in functions of chk -/
theorem bi_ok (g : Good Γ X N sc fc k) {b : Bi} {ty : Bool} {nm : String} {n : Nat} {es : List Expr} {ds : List Den} {p pos : Pos} (hb : biNm b = some (ty, nm, n)) (hl : es.length = n) (hg : glB sc (Str.ofString nm) = true) (h : ResL X W .v es ds) :
    DE X W (.Call (.Name (Str.ofString nm) p) es [] pos) (sBi b ds) := by
  have hA := resL_DA h
  have hS := resL_star h
  have hG := gl_of g hg
  cases es with
  | nil => cases b <;> simp [biNm] at hb <;> (obtain ⟨_, _, rfl⟩ := hb; cases hl)
  | cons e es =>
    cases b <;> first | (cases hb; done) | skip
    all_goals cases hb
    · exact de_biB (by decide) bi_len hG (nob_of g (by decide)) boot_len hA hS (by decide) (by decide)
    · exact de_biB (by decide) (bi_sum g.calm) hG (nob_of g (by decide)) boot_sum hA hS (by decide) (by decide)
    · exact de_biB (by decide) (bi_all g.calm) hG (nob_of g (by decide)) boot_all hA hS (by decide) (by decide)
    · exact de_biB (by decide) (bi_any g.calm) hG (nob_of g (by decide)) boot_any hA hS (by decide) (by decide)
    · exact de_biB (by decide) (bi_min2 g.calm) hG (nob_of g (by decide)) boot_min hA hS (by decide) (by decide)
    · exact de_biB (by decide) (bi_max2 g.calm) hG (nob_of g (by decide)) boot_max hA hS (by decide) (by decide)
    · exact de_biT (by decide) bi_tuple hG (nob_of g (by decide)) boot_tuple hA hS (by decide) (by decide)
    · exact de_biT (by decide) (bi_list g.calm) hG (nob_of g (by decide)) boot_list hA hS (by decide) (by decide)
    · exact de_biT (by decide) (bi_dict g.calm) hG (nob_of g (by decide)) boot_dict hA hS (by decide) (by decide)
    · exact de_biT (by decide) bi_int hG (nob_of g (by decide)) boot_int hA hS (by decide) (by decide)
    · exact de_biT (by decide) bi_str hG (nob_of g (by decide)) boot_str hA hS (by decide) (by decide)
    · exact de_biB (by decide) bi_abs hG (nob_of g (by decide)) boot_abs hA hS (by decide) (by decide)
end
end T
end
section
set_option Elab.async false
set_option linter.all false
set_option maxRecDepth 100000
set_option maxHeartbeats 4000000
/-! Expressions: the whole. -/
namespace T
open PySem PySem.Spec PyProof.Rows L2
section
variable {Γ : Ctx} {N : List Str} {F : List (Str × List Str)} {k : Nat}
theorem and2 {a b : Bool} (h : (a && b) = true) : a = true ∧ b = true := by simpa using h
theorem dec_ok {p : Prop} [Decidable p] (h : decide p = true) : p := of_decide_eq_true h
theorem pd_facts {X : Cx} {W : Wi} {ks : List (Option Expr)} {vs : List Expr} {ds : List Den} (h : PD X W ks vs ds) : ks.all (·.isSome) = true ∧ ks.length = vs.length := by
  induction h with
  | nil => exact ⟨rfl, rfl⟩
  | cons _ _ _ ih => exact ⟨by rw [List.all_cons, ih.1]; rfl, by simp [ih.2]⟩
theorem base_noI {o : Expr} {f : Str} {env : Env} {w : Sem Value} (h : noSuperI o = true) : attributeBase o f env w = w := by
  cases o with
  | Call g as ks p =>
    cases g with
    | Name x q =>
      have hx : (x == Str.ofString "super") = false := by simpa [noSuperI] using h
      have hx' : (x != Str.ofString "super") = true := by simp only [bne, hx]; rfl
      cases as with
      | nil =>
        cases ks with
        | nil =>
          unfold attributeBase
          show (if (x != Str.ofString "super" || f == Str.ofString "__class__" || env.kindOf (Str.ofString "super") != some .globalImplicit || env.kindOf (Str.ofString "__class__") != some .free) = true then _ else _) = w
          rw [hx']
          simp only [Bool.true_or, if_true]
        | cons _ _ => rfl
      | cons _ _ => rfl
    | _ => cases h
  | _ => rfl
theorem own_map (N : List Str) (own : List Nat) : (own.map fun i => (N.getD i ⟨#[]⟩, i)).map (·.2) = own := by
  induction own with
  | nil => rfl
  | cons a r ih => simp only [List.map_cons]; rw [ih]
mutual
theorem chk_ok : ∀ (a : E) (m : Md) (sc : Scope) (fc : Str → Bool) (e : Expr), chk N F a m sc fc e = true → (∀ f ∈ F, ∃ sp, Γ.fn f.1 f.2 = some sp) → ∀ (X : Cx) (W : Wi), Good Γ X N sc fc k → Res X W m e (sem Γ a)
  | .var i, m, sc, fc, e, h, hF, X, W, g => by
    unfold chk at h
    replace h := and2 h
    obtain ⟨hm, h⟩ := h
    cases e <;> first | (cases h; done) | skip
    simp only [Bool.and_eq_true] at h
    obtain ⟨⟨h1, h2⟩, h3⟩ := h
    exact res_dV hm (de_var (by rw [g.nm]; exact dec_ok h1) (by rw [g.sc]; exact visB_ok h2) (okn_ok h3).1 (okn_ok h3).2) rfl
  | .glob x, m, sc, fc, e, h, hF, X, W, g => by
    unfold chk at h
    replace h := and2 h
    obtain ⟨hm, h⟩ := h
    cases e <;> first | (cases h; done) | skip
    simp only [Bool.and_eq_true] at h
    obtain ⟨⟨h1, h2⟩, h3⟩ := h
    have ex := dec_ok h1
    subst ex
    refine res_dV (v := (sGlob Γ x).e) hm ?_ rfl
    cases q : Γ.glob x with
    | none =>
      refine ⟨fun pins s τ H Q I ⟨σ, G, _, _, _, ⟨d, e, _⟩, _⟩ => ?_⟩
      rw [q] at e; cases e
    | some d0 =>
      obtain ⟨v, u, hm', r, c⟩ := g.wld.glob x d0 q
      exact de_glob (d := d0) (gl_of g h2) hm' r (okn_ok h3).1 fun d e => by rw [q] at e; cases e; exact c
  | .non, m, sc, fc, e, h, hF, X, W, g => by
    unfold chk at h
    replace h := and2 h
    obtain ⟨hm, h⟩ := h
    split at h
    · exact res_dV hm de_non rfl
    · cases h
  | .bl b, m, sc, fc, e, h, hF, X, W, g => by
    unfold chk at h
    replace h := and2 h
    obtain ⟨hm, h⟩ := h
    split at h
    · have e := eq_of_beq h
      subst e
      exact res_dV hm de_bl rfl
    · cases h
  | .int n, m, sc, fc, e, h, hF, X, W, g => by
    unfold chk at h
    replace h := and2 h
    obtain ⟨hm, h⟩ := h
    split at h
    · have e := dec_ok h
      subst e
      exact res_dV hm de_int rfl
    · cases h
  | .str n, m, sc, fc, e, h, hF, X, W, g => by
    unfold chk at h
    replace h := and2 h
    obtain ⟨hm, h⟩ := h
    split at h
    · have e := dec_ok h
      subst e
      exact res_dV hm de_str rfl
    · cases h
  | .tup es, m, sc, fc, e, h, hF, X, W, g => by
    unfold chk at h
    replace h := and2 h
    obtain ⟨hm, h⟩ := h
    split at h
    · obtain ⟨h1, h2⟩ := and2 h
      exact res_dV hm (de_tup (resL_DA (chkL_ok es .v sc fc _ h1 hF X W g)) (dec_ok h2)) rfl
    · cases h
  | .lst mu es, m, sc, fc, e, h, hF, X, W, g => by
    unfold chk at h
    replace h := and2 h
    obtain ⟨hm, h⟩ := h
    split at h
    · obtain ⟨h1, h2⟩ := and2 h
      exact res_dV hm (de_lst (resL_DA (chkL_ok es .v sc fc _ h1 hF X W g)) (dec_ok h2)) rfl
    · cases h
  | .dic t, m, sc, fc, e, h, hF, X, W, g => by
    unfold chk at h
    replace h := and2 h
    obtain ⟨hm, h⟩ := h
    split at h
    · exact res_dV hm de_dic rfl
    · cases h
  | .bin op a b, m, sc, fc, e, h, hF, X, W, g => by
    unfold chk at h
    replace h := and2 h
    obtain ⟨hm, h⟩ := h
    split at h
    · obtain ⟨h1, h2⟩ := and2 h
      obtain ⟨h0, h1⟩ := and2 h1
      exact res_dV hm (de_bin (opB_ok h0) (chk_ok a .v sc fc _ h1 hF X W g).1 (chk_ok b .v sc fc _ h2 hF X W g).1) rfl
    · cases h
  | .neg a, m, sc, fc, e, h, hF, X, W, g => by
    unfold chk at h
    replace h := and2 h
    obtain ⟨hm, h⟩ := h
    split at h
    · exact res_dV hm (de_neg (chk_ok a .v sc fc _ h hF X W g).1) rfl
    · cases h
  | .not a, m, sc, fc, e, h, hF, X, W, g => by
    unfold chk at h
    replace h := and2 h
    obtain ⟨hm, h⟩ := h
    split at h
    · obtain ⟨h1, h2⟩ := (chk_ok a .v sc fc _ h hF X W g : Res X W .v _ _)
      obtain ⟨z1, z2⟩ := not_both h1 h2
      exact res_val hm z1 z2 rfl rfl
    · cases h
  | .cmp op a b, m, sc, fc, e, h, hF, X, W, g => by
    unfold chk at h
    replace h := and2 h
    obtain ⟨hm, h⟩ := h
    split at h
    · rename_i x o y pos
      simp only [Bool.and_eq_true, Bool.or_eq_true, Bool.not_eq_true'] at h
      obtain ⟨⟨⟨h1, h2⟩, h3⟩, h4⟩ := h
      have r1 : Res X W .v x (sem Γ a) := chk_ok a .v sc fc _ h1 hF X W g
      have r2 : Res X W .v y (sem Γ b) := chk_ok b .v sc fc _ h2 hF X W g
      rcases h4 with (h4 | h4) | h4
      · exact res_val hm (de_cmp (cmB_ok g.hu h4) r1.1 r2.1 h3) (dt_cmp (cmB_ok g.hu h4) r1.1 r2.1 h3) rfl rfl
      · unfold isB at h4
        split at h4
        · exact res_val hm (de_is (c := .non) opl_is_none r1.1 r2.1 h3 (fun _ _ => rfl) (fun _ => rfl) fun _ => rfl) (dt_is (c := .non) opl_is_none r1.1 r2.1 h3 (fun _ _ => rfl) (fun _ => rfl) fun _ => rfl) rfl rfl
        · exact res_val hm (de_is (c := .non) opl_isnot_none r1.1 r2.1 h3 (fun _ _ => rfl) (fun _ => rfl) fun _ => rfl) (dt_is (c := .non) opl_isnot_none r1.1 r2.1 h3 (fun _ _ => rfl) (fun _ => rfl) fun _ => rfl) rfl rfl
        · exact res_val hm (de_is (c := .bl true) opl_is_bool r1.1 r2.1 h3 (fun _ _ => rfl) (fun _ => rfl) fun _ => rfl) (dt_is (c := .bl true) opl_is_bool r1.1 r2.1 h3 (fun _ _ => rfl) (fun _ => rfl) fun _ => rfl) rfl rfl
        · exact res_val hm (de_is (c := .bl false) opl_is_bool r1.1 r2.1 h3 (fun _ _ => rfl) (fun _ => rfl) fun _ => rfl) (dt_is (c := .bl false) opl_is_bool r1.1 r2.1 h3 (fun _ _ => rfl) (fun _ => rfl) fun _ => rfl) rfl rfl
        · exact res_val hm (de_is (c := .bl true) opl_isnot_bool r1.1 r2.1 h3 (fun _ _ => rfl) (fun _ => rfl) fun _ => rfl) (dt_is (c := .bl true) opl_isnot_bool r1.1 r2.1 h3 (fun _ _ => rfl) (fun _ => rfl) fun _ => rfl) rfl rfl
        · exact res_val hm (de_is (c := .bl false) opl_isnot_bool r1.1 r2.1 h3 (fun _ _ => rfl) (fun _ => rfl) fun _ => rfl) (dt_is (c := .bl false) opl_isnot_bool r1.1 r2.1 h3 (fun _ _ => rfl) (fun _ => rfl) fun _ => rfl) rfl rfl
        · cases h4
      · split at h4
        · exact res_val hm (de_in (neg := false) g.hu r1.1 r2.1 h3) (dt_in (neg := false) g.hu r1.1 r2.1 h3) rfl rfl
        · exact res_val hm (de_in (neg := true) g.hu r1.1 r2.1 h3) (dt_in (neg := true) g.hu r1.1 r2.1 h3) rfl rfl
        · cases h4
    · cases h
  | .chain op op' a b c, m, sc, fc, e, h, hF, X, W, g => by
    unfold chk at h
    replace h := and2 h
    obtain ⟨hm, h⟩ := h
    split at h
    · simp only [Bool.and_eq_true, Bool.not_eq_true'] at h
      obtain ⟨⟨⟨⟨⟨h1, h2⟩, h3⟩, h4⟩, h5⟩, h6⟩ := h
      have r1 := (chk_ok a .v sc fc _ h1 hF X W g : Res X W .v _ _).1
      have r2 := (chk_ok b .v sc fc _ h2 hF X W g : Res X W .v _ _).1
      have r3 := (chk_ok c .v sc fc _ h3 hF X W g : Res X W .v _ _).1
      exact res_val hm (de_chain (cmB_ok g.hu h4) (cmB_ok g.hu h5) r1 r2 r3 h6) (dt_chain (cmB_ok g.hu h4) (cmB_ok g.hu h5) r1 r2 r3 h6) rfl rfl
    · cases h
  | .and es, m, sc, fc, e, h, hF, X, W, g => by
    unfold chk at h
    replace h := and2 h
    obtain ⟨hm, h⟩ := h
    split at h
    · obtain ⟨h0, h1⟩ := and2 h
      have r : ResL X W .v _ (semL Γ es) := chkL_ok es .v sc fc _ h1 hF X W g
      have ne : es ≠ [] := by intro z; subst z; cases h0
      have ne2 : semL Γ es ≠ [] := by cases es with | nil => exact absurd rfl ne | cons _ _ => simp [semL]
      have ne3 := fun z => ne2 (List.length_eq_zero_iff.mp ((resL_len r).symm.trans (List.length_eq_zero_iff.mpr z)))
      obtain ⟨z1, z2⟩ := resL_and r ne3
      exact res_val hm z1 z2.pt (sAnd_dV _ ne2).1 (sAnd_dV _ ne2).2
    · cases h
  | .or es, m, sc, fc, e, h, hF, X, W, g => by
    unfold chk at h
    replace h := and2 h
    obtain ⟨hm, h⟩ := h
    split at h
    · obtain ⟨h0, h1⟩ := and2 h
      have r : ResL X W .v _ (semL Γ es) := chkL_ok es .v sc fc _ h1 hF X W g
      have ne : es ≠ [] := by intro z; subst z; cases h0
      have ne2 : semL Γ es ≠ [] := by cases es with | nil => exact absurd rfl ne | cons _ _ => simp [semL]
      have ne3 := fun z => ne2 (List.length_eq_zero_iff.mp ((resL_len r).symm.trans (List.length_eq_zero_iff.mpr z)))
      obtain ⟨z1, z2⟩ := resL_or r ne3
      exact res_val hm z1 z2.pt (sOr_dV _ ne2).1 (sOr_dV _ ne2).2
    · cases h
  | .ife c a b, m, sc, fc, e, h, hF, X, W, g => by
    unfold chk at h
    replace h := and2 h
    obtain ⟨hm, h⟩ := h
    split at h
    · simp only [Bool.and_eq_true] at h
      obtain ⟨⟨h1, h2⟩, h3⟩ := h
      have r1 : Res X W .v _ _ := chk_ok c .v sc fc _ h1 hF X W g
      have r2 : Res X W .v _ _ := chk_ok a .v sc fc _ h2 hF X W g
      have r3 : Res X W .v _ _ := chk_ok b .v sc fc _ h3 hF X W g
      obtain ⟨z1, z2⟩ := if_both r1.2 r2.1 r2.2 r3.1 r3.2
      exact res_val hm z1 z2 rfl rfl
    · cases h
  | .idx a i, m, sc, fc, e, h, hF, X, W, g => by
    unfold chk at h
    replace h := and2 h
    obtain ⟨hm, h⟩ := h
    split at h
    · simp only [Bool.and_eq_true] at h
      obtain ⟨⟨h1, h2⟩, h3⟩ := h
      exact res_dV hm (de_idx g.hu (chk_ok a .v sc fc _ h1 hF X W g).1 (chk_ok i .v sc fc _ h2 hF X W g).1 (plainIx_ok h3)) rfl
    · cases h
  | .cut a lo hi, m, sc, fc, e, h, hF, X, W, g => by
    unfold chk at h
    replace h := and2 h
    obtain ⟨hm, h⟩ := h
    split at h
    · rename_i x l u p2 pos
      simp only [Bool.and_eq_true] at h
      obtain ⟨⟨h1, h2⟩, h3⟩ := h
      have r1 := (chk_ok a .v sc fc _ h1 hF X W g : Res X W .v _ _).1
      have r2 : DO X W l (sem Γ lo) := by
        cases l with
        | none => cases lo <;> first | (simp [isAbs] at h2; done) | exact do_none
        | some l => exact (chk_ok lo .o sc fc _ h2 hF X W g : Res X W .o _ _)
      have r3 : DO X W u (sem Γ hi) := by
        cases u with
        | none => cases hi <;> first | (simp [isAbs] at h3; done) | exact do_none
        | some u => exact (chk_ok hi .o sc fc _ h3 hF X W g : Res X W .o _ _)
      exact res_dV hm (de_cut r1 r2 r3) rfl
    · cases h
  | .call f args ks kws, m, sc, fc, e, h, hF, X, W, g => by
    unfold chk at h
    replace h := and2 h
    obtain ⟨hm, h⟩ := h
    split at h
    · rename_i g' p xs pos
      simp only [Bool.and_eq_true, List.isEmpty_iff] at h
      obtain ⟨⟨⟨⟨⟨⟨⟨h1, h0⟩, h2⟩, h3⟩, h4⟩, h5⟩, h6⟩, h7⟩ := h
      have ex := dec_ok h1
      subst ex; subst h6; subst h7
      have r : ResL X W .v xs (semL Γ args) := chkL_ok args .v sc fc _ h4 hF X W g
      refine res_dV (v := (sCall Γ f (semL Γ args) [] []).e) hm ?_ rfl
      obtain ⟨sp, q⟩ := hF (f, []) (dec_ok h0)
      have hA := resL_DA r
      cases xs with
      | nil =>
        have e0 : semL Γ args = [] := List.length_eq_zero_iff.mp (resL_len r).symm
        rw [e0]
        exact de_call0 g q (gl_of g h2) (okn_ok h3).1
      | cons x xs => exact de_call g q (gl_of g h2) (okn_ok h3).1 hA h5
    · rename_i g' p x xs kxs pos _
      simp only [Bool.and_eq_true, Bool.not_eq_true'] at h
      obtain ⟨⟨⟨⟨⟨⟨⟨⟨⟨h1, h0⟩, h2⟩, h3⟩, h4⟩, h5⟩, h6⟩, h7⟩, h8⟩, h9⟩ := h
      have ex := dec_ok h1
      subst ex
      have ek := dec_ok h8
      subst ek
      have r : ResL X W .v (x :: xs) (semL Γ args) := chkL_ok args .v sc fc _ h4 hF X W g
      have rk := chkW_ok kws sc fc kxs h9 hF X W g
      refine res_dV (v := (sCall Γ f (semL Γ args) (kwNames kxs) (semL Γ kws)).e) hm ?_ rfl
      obtain ⟨sp, q⟩ := hF (f, kwNames kxs) (dec_ok h0)
      exact de_callK g q h6 (fun z => by rw [z] at h7; cases h7) (gl_of g h2) (okn_ok h3).1 (resL_DA r) h5 rk
    · cases h
  | .bi b args, m, sc, fc, e, h, hF, X, W, g => by
    unfold chk at h
    replace h := and2 h
    obtain ⟨hm, h⟩ := h
    split at h
    · rename_i g' p xs pos
      split at h
      · rename_i ty nm n hb
        simp only [Bool.and_eq_true] at h
        obtain ⟨⟨⟨⟨h1, h2⟩, h3⟩, h4⟩, h5⟩ := h
        have ex := dec_ok h1
        subst ex
        exact res_dV hm (bi_ok g hb (dec_ok h2) h3 (chkL_ok args .v sc fc _ h4 hF X W g)) rfl
      · split at h
        · rename_i a x _
          simp only [Bool.and_eq_true] at h
          obtain ⟨⟨⟨h1, h2⟩, h3⟩, h4⟩ := h
          have ex := dec_ok h1
          subst ex
          exact res_dV hm (de_listM g.calm (gl_of g h2) (nob_of g (by decide)) boot_list (chk_ok a .v sc fc _ h3 hF X W g).1 h4) rfl
        · rename_i a x _
          simp only [Bool.and_eq_true] at h
          obtain ⟨⟨⟨h1, h2⟩, h3⟩, h4⟩ := h
          have ex := dec_ok h1
          subst ex
          exact res_dV hm (de_minL g.calm g.hu (gl_of g h2) (nob_of g (by decide)) (chk_ok a .v sc fc _ h3 hF X W g).1 h4) rfl
        · rename_i a x T q
          split at h
          · rename_i t ht
            simp only [Bool.and_eq_true] at h
            obtain ⟨⟨⟨⟨⟨h1, h2⟩, h3⟩, h4⟩, h5⟩, h6⟩ := h
            have ex := dec_ok h1
            have eT := dec_ok h3
            subst ex; subst eT
            have hT : X.mg (Str.ofString t) = none ∧ bootBuiltins (Str.ofString t) = some (.type t) ∧ Str.ofString t ≠ "__name__" ∧ (Str.ofString t == ("__debug__" : Str)) = false := by
              unfold isTy at ht
              split at ht <;> first | (cases ht; done) | skip
              all_goals cases ht
              · exact ⟨nob_of g (by decide), by decide +kernel, by decide, by decide⟩
              · exact ⟨nob_of g (by decide), by decide +kernel, by decide, by decide⟩
              · exact ⟨nob_of g (by decide), by decide +kernel, by decide, by decide⟩
              · exact ⟨nob_of g (by decide), by decide +kernel, by decide, by decide⟩
              · exact ⟨nob_of g (by decide), by decide +kernel, by decide, by decide⟩
            exact res_dV hm (de_is2 ht (gl_of g h2) (nob_of g (by decide)) (gl_of g h4) hT.1 hT.2.1 hT.2.2.1 hT.2.2.2 (chk_ok a .v sc fc _ h5 hF X W g).1 h6) rfl
          · cases h
        · cases h
    · cases h
  | .bm o b args, m, sc, fc, e, h, hF, X, W, g => by
    unfold chk at h
    replace h := and2 h
    obtain ⟨hm, h⟩ := h
    split at h
    · simp only [Bool.and_eq_true] at h
      obtain ⟨⟨⟨h1, h2⟩, h3⟩, h4⟩ := h
      have r1 := (chk_ok o .v sc fc _ h1 hF X W g : Res X W .v _ _).1
      split at h4
      · rename_i a x
        simp only [Bool.and_eq_true] at h4
        obtain ⟨⟨h4, h5⟩, h6⟩ := h4
        have ex := dec_ok h4
        subst ex
        exact res_dV hm (de_append r1 (chk_ok a .v sc fc _ h5 hF X W g).1 h2 h3 h6) rfl
      · rename_i a x
        simp only [Bool.and_eq_true] at h4
        obtain ⟨⟨h4, h5⟩, h6⟩ := h4
        have ex := dec_ok h4
        subst ex
        exact res_dV hm (de_popAt r1 (chk_ok a .v sc fc _ h5 hF X W g).1 h2 h3 h6) rfl
      · rename_i a x
        simp only [Bool.and_eq_true] at h4
        obtain ⟨⟨h4, h5⟩, h6⟩ := h4
        have ex := dec_ok h4
        subst ex
        exact res_dV hm (de_extend r1 (chk_ok a .v sc fc _ h5 hF X W g).1 h2 h3 h6) rfl
      · rename_i a x
        simp only [Bool.and_eq_true] at h4
        obtain ⟨⟨h4, h5⟩, h6⟩ := h4
        have ex := dec_ok h4
        subst ex
        exact res_dV hm (de_count r1 (chk_ok a .v sc fc _ h5 hF X W g).1 h2 h3 h6) rfl
      · rename_i a x
        simp only [Bool.and_eq_true] at h4
        obtain ⟨⟨h4, h5⟩, h6⟩ := h4
        have ex := dec_ok h4
        subst ex
        exact res_dV hm (de_join r1 (chk_ok a .v sc fc _ h5 hF X W g).1 h2 h3 h6) rfl
      · rename_i a b x z
        simp only [Bool.and_eq_true] at h4
        obtain ⟨⟨⟨h4, h5⟩, h6⟩, h7, h8⟩ := h4
        have ex := dec_ok h4
        subst ex
        exact res_dV hm (de_insert r1 (chk_ok a .v sc fc _ h5 hF X W g).1 (chk_ok b .v sc fc _ h7 hF X W g).1 h2 h3 h6 h8) rfl
      · rename_i a b x z
        simp only [Bool.and_eq_true] at h4
        obtain ⟨⟨⟨h4, h5⟩, h6⟩, h7, h8⟩ := h4
        have ex := dec_ok h4
        subst ex
        exact res_dV hm (de_get2 g.hu r1 (chk_ok a .v sc fc _ h5 hF X W g).1 (chk_ok b .v sc fc _ h7 hF X W g).1 h2 h3 h6 h8) rfl
      · cases h4
    · split at h
      · rename_i a
        obtain ⟨h1, h2⟩ := and2 h
        exact res_dV hm (de_addM (chk_ok o .v sc fc _ h1 hF X W g).1 (chk_ok a .v sc fc _ h2 hF X W g).1) rfl
      · cases h
    · cases h
  | .sorted mu a, m, sc, fc, e, h, hF, X, W, g => by
    unfold chk at h
    replace h := and2 h
    obtain ⟨hm, h⟩ := h
    split at h
    · simp only [Bool.and_eq_true] at h
      obtain ⟨⟨⟨h1, h2⟩, h3⟩, h4⟩ := h
      have ex := dec_ok h1
      subst ex
      exact res_dV hm (de_srt g.calm g.hu (gl_of g h2) (nob_of g (by decide)) (chk_ok a .v sc fc _ h3 hF X W g).1 h4) rfl
    · cases h
  | .sortedBy mu f a, m, sc, fc, e, h, hF, X, W, g => by
    unfold chk at h
    replace h := and2 h
    obtain ⟨hm, h⟩ := h
    split at h
    · simp only [Bool.and_eq_true] at h
      obtain ⟨⟨⟨⟨⟨⟨⟨⟨h1, h2⟩, h3⟩, h4⟩, h5⟩, h6⟩, h7⟩, h8⟩, h9⟩ := h
      have ex := dec_ok h1
      have ey := dec_ok h3
      have ez := dec_ok h4
      subst ex; subst ey; subst ez
      obtain ⟨sp, q⟩ := hF (f, []) (dec_ok h5)
      exact res_dV hm (de_srtBy g q (gl_of g h2) (nob_of g (by decide)) (gl_of g h6) (okn_ok h7).1 (chk_ok a .v sc fc _ h8 hF X W g).1 h9) rfl
    · cases h
  | .sortedSet mu a, m, sc, fc, e, h, hF, X, W, g => by
    unfold chk at h
    replace h := and2 h
    obtain ⟨hm, h⟩ := h
    split at h
    · simp only [Bool.and_eq_true] at h
      obtain ⟨⟨⟨⟨⟨h1, h2⟩, h3⟩, h4⟩, h5⟩, h6⟩ := h
      have ex := dec_ok h1
      have ey := dec_ok h2
      subst ex; subst ey
      exact res_dV hm (de_srtSet g.calm g.hu (gl_of g h3) (nob_of g (by decide)) (gl_of g h4) (nob_of g (by decide)) (chk_ok a .v sc fc _ h5 hF X W g).1 h6) rfl
    · cases h
  | .lc mu elt pat it ifs own, m, sc, fc, e, h, hF, X, W, g => by
    unfold chk at h
    replace h := and2 h
    obtain ⟨hm, h⟩ := h
    split at h
    · rename_i x gens scope pos
      split at h
      · rename_i tg iter xs
        simp only [Bool.and_eq_true] at h
        obtain ⟨⟨⟨⟨⟨⟨h1, h2⟩, h3⟩, h4⟩, h5⟩, h6⟩, h7⟩ := h
        have ok : BlkOk X.N X.env.scope scope (own.map fun i => (N.getD i ⟨#[]⟩, i)) := by rw [g.nm, g.sc]; exact blkOk_by h1
        have hi : DI X W tg iter (sem Γ it) := by
          have r := (chk_ok it _ sc fc _ h2 hF X W g : Res X W _ iter (sem Γ it))
          cases tg with
          | Tuple a b c => exact (r : ∀ elts kk tp, DI X W (.Tuple elts kk tp) iter (sem Γ it)) a b c
          | _ => exact (r : ∀ tg, DI X W tg iter (sem Γ it)) _
        have z := de_lc (X := X) (W := W) (m := mu) (de := sem Γ elt) (dp := sem Γ pat) (dit := sem Γ it) (difs := semL Γ ifs) (elt := x) (ifs := xs) (pos := pos) g.calm g.ndX hi ok
          (fun s H C cl fp => by rw [own_map]; exact (chk_ok pat (.p own) _ _ _ h4 hF _ W0 (g.blk s H scope C cl fp) : Res _ W0 _ _ _))
          (fun s H C cl fp => by
            have r : ResL _ W0 .v xs (semL Γ ifs) := chkL_ok ifs .v _ _ _ h5 hF _ W0 (g.blk s H scope C cl fp)
            generalize semL Γ ifs = ds at r
            cases r with
            | nil => exact .inl ⟨rfl, rfl⟩
            | cons r1 _ r2 => cases r2 with
              | nil => exact .inr ⟨_, _, rfl, rfl, r1.2⟩
              | cons _ _ _ => exact absurd (dec_ok h6) (by simp))
          (fun s H C cl fp => (chk_ok elt .v _ _ _ h7 hF _ W0 (g.blk s H scope C cl fp) : Res _ W0 .v _ _).1) h3
        rw [own_map] at z
        exact res_dV hm z rfl
      · cases h
    · cases h
  | .dc t mu kx vx pat it own, m, sc, fc, e, h, hF, X, W, g => by
    unfold chk at h
    replace h := and2 h
    obtain ⟨hm, h⟩ := h
    split at h
    · rename_i x y gens scope pos
      split at h
      · rename_i tg iter
        simp only [Bool.and_eq_true] at h
        obtain ⟨⟨⟨⟨⟨⟨h0, h1⟩, h2⟩, h3⟩, h4⟩, h5⟩, h6⟩ := h
        cases t with
        | true => cases h0
        | false =>
          have ok : BlkOk X.N X.env.scope scope (own.map fun i => (N.getD i ⟨#[]⟩, i)) := by rw [g.nm, g.sc]; exact blkOk_by h1
          have hi : DI X W tg iter (sem Γ it) := by
            have r := (chk_ok it _ sc fc _ h2 hF X W g : Res X W _ iter (sem Γ it))
            cases tg with
            | Tuple a b c => exact (r : ∀ elts kk tp, DI X W (.Tuple elts kk tp) iter (sem Γ it)) a b c
            | _ => exact (r : ∀ tg, DI X W tg iter (sem Γ it)) _
          have z := de_dc (X := X) (W := W) (m := mu) (dk := sem Γ kx) (de := sem Γ vx) (dp := sem Γ pat) (dit := sem Γ it) (kx := x) (vx := y) (pos := pos) g.calm g.ndX hi ok
            (fun s H C cl fp => by rw [own_map]; exact (chk_ok pat (.p own) _ _ _ h4 hF _ W0 (g.blk s H scope C cl fp) : Res _ W0 _ _ _))
            (fun s H C cl fp => (chk_ok kx .v _ _ _ h5 hF _ W0 (g.blk s H scope C cl fp) : Res _ W0 .v _ _).1)
            (fun s H C cl fp => (chk_ok vx .v _ _ _ h6 hF _ W0 (g.blk s H scope C cl fp) : Res _ W0 .v _ _).1) h3
          rw [own_map] at z
          exact res_dV hm z rfl
      · cases h
    · cases h
  | .range1 a, m, sc, fc, e, h, hF, X, W, g => by
    unfold chk at h
    replace h := and2 h
    obtain ⟨hm, h⟩ := h
    split at h
    · rename_i g0 p0 x0 pos0
      simp only [Bool.and_eq_true] at h
      obtain ⟨⟨⟨h1, h2⟩, h3⟩, h4⟩ := h
      have ex := dec_ok h1
      subst ex
      have z : ∀ tg, DI X W tg (.Call (.Name (Str.ofString "range") p0) [x0] [] pos0) (sRange1 (sem Γ a)) := fun tg => di_range1 (gl_of g h2) (nob_of g (by decide)) (chk_ok a .v sc fc _ h3 hF X W g).1 h4
      cases m with
      | i b => cases b with
        | false => exact z
        | true => exact fun _ _ _ => z _
      | _ => cases hm
    · cases h
  | .range2 a b, m, sc, fc, e, h, hF, X, W, g => by
    unfold chk at h
    replace h := and2 h
    obtain ⟨hm, h⟩ := h
    split at h
    · rename_i g0 p0 x0 y0 pos0
      simp only [Bool.and_eq_true] at h
      obtain ⟨⟨⟨⟨⟨h1, h2⟩, h3⟩, h4⟩, h5⟩, h6⟩ := h
      have ex := dec_ok h1
      subst ex
      have z : ∀ tg, DI X W tg (.Call (.Name (Str.ofString "range") p0) [x0, y0] [] pos0) (sRange2 (sem Γ a) (sem Γ b)) := fun tg => di_range2 (gl_of g h2) (nob_of g (by decide)) (chk_ok a .v sc fc _ h3 hF X W g).1 (chk_ok b .v sc fc _ h5 hF X W g).1 h4 h6
      cases m with
      | i b => cases b with
        | false => exact z
        | true => exact fun _ _ _ => z _
      | _ => cases hm
    · cases h
  | .pname i, m, sc, fc, e, h, hF, X, W, g => by
    unfold chk at h
    split at h
    · rename_i vs x pos
      simp only [Bool.and_eq_true] at h
      obtain ⟨⟨h1, h2⟩, h3⟩ := h
      have hl : Loc X.env.scope x ∧ (X.fn x = true ∨ X.env.scope.names.lookup x = some .local) := by
        rw [g.sc]
        split at h3
        · exact ⟨.inl (by assumption), .inr (by assumption)⟩
        · exact ⟨.inr (by assumption), .inl (g.fn _ h3)⟩
        · cases h3
      exact dg_name g.ndX (by rw [g.nm]; exact dec_ok h1) hl.1 hl.2 (dec_ok h2)
    · cases h
  | .ptup ps, m, sc, fc, e, h, hF, X, W, g => by
    unfold chk at h
    split at h
    · rename_i vs xs kk pos
      obtain ⟨h1, h2⟩ := and2 h
      have r : ResL X W (.p vs) xs (semL Γ ps) := chkL_ok ps (.p vs) sc fc _ h1 hF X W g
      exact dg_tup g.calm (resL_DGs r) h2 (resL_len r)
    · cases h
  | .psub o i, m, sc, fc, e, h, hF, X, W, g => by
    unfold chk at h
    split at h
    · simp only [Bool.and_eq_true] at h
      obtain ⟨⟨h1, h2⟩, h3⟩ := h
      exact dg_sub g.hu (chk_ok o .v sc fc _ h1 hF X W g).1 (chk_ok i .v sc fc _ h2 hF X W g).1 h3
    · cases h
  | .absent, m, sc, fc, e, h, _, _, _, _ => by unfold chk at h; cases h
  | .att _ _, m, sc, fc, e, h, _, _, _, _ => by unfold chk at h; cases h
  | .meth _ _ _, m, sc, fc, e, h, _, _, _, _ => by unfold chk at h; cases h
  | .rev a, m, sc, fc, e, h, hF, X, W, g => by
    unfold chk at h
    replace h := and2 h
    obtain ⟨hm, h⟩ := h
    split at h
    · exact res_dV hm (de_rev (chk_ok a .v sc fc _ h hF X W g).1) rfl
    · cases h
  | .fstr es, m, sc, fc, e, h, hF, X, W, g => by
    unfold chk at h
    replace h := and2 h
    obtain ⟨hm, h⟩ := h
    split at h
    · rename_i xs pos
      obtain ⟨h1, h2⟩ := and2 h
      have hl := dec_ok h2
      have r := chkJ_ok es sc fc xs h1 hF X W g
      match xs, hl, r with
      | v1 :: v2 :: rest, _, r => exact res_dV hm (de_fstr r) rfl
      | [_], hl, _ => exact absurd hl (by simp)
      | [], hl, _ => exact absurd hl (by simp)
    · cases h
  | .dsp t mu es, m, sc, fc, e, h, hF, X, W, g => by
    unfold chk at h
    replace h := and2 h
    obtain ⟨hm, h⟩ := h
    split at h
    · rename_i ks vs pos
      simp only [Bool.or_eq_true] at h
      rcases h with h | h
      · simp only [Bool.and_eq_true, Bool.not_eq_true'] at h
        obtain ⟨⟨⟨h0, h1⟩, h2⟩, h3⟩ := h
        subst h0
        have r := chkD_ok es sc fc ks vs h1 hF X W g
        obtain ⟨l1, l2⟩ := pd_facts r
        exact res_dV hm (de_dsp r l1 l2 (fun z => by rw [z] at h2; cases h2) (dec_ok h3)) rfl
      · obtain ⟨h0, h1⟩ := and2 h
        subst h0
        split at h1
        · rename_i a b k v
          obtain ⟨h2, h3⟩ := and2 h1
          exact res_dV hm (de_disp1 g.hu (chk_ok a .v sc fc _ h2 hF X W g).1 (chk_ok b .v sc fc _ h3 hF X W g).1) rfl
        · cases h1
    · cases h
  | .cnt a b k, m, sc, fc, e, h, hF, X, W, g => by
    unfold chk at h
    replace h := and2 h
    obtain ⟨hm, h⟩ := h
    split at h
    · simp only [Bool.and_eq_true] at h
      obtain ⟨⟨⟨⟨⟨h1, h2⟩, h3⟩, h4⟩, h5⟩, h6⟩ := h
      have ex := dec_ok h1
      subst ex
      exact res_dV hm (de_cnt (chk_ok a .v sc fc _ h3 hF X W g).1 (chk_ok b .v sc fc _ h4 hF X W g).1 (chk_ok k .v sc fc _ h5 hF X W g).1 h2 h6) rfl
    · cases h
  | .items a, m, sc, fc, e, h, hF, X, W, g => by
    unfold chk at h
    replace h := and2 h
    obtain ⟨hm, h⟩ := h
    split at h
    · simp only [Bool.and_eq_true] at h
      obtain ⟨⟨⟨h1, h2⟩, h3⟩, h4⟩ := h
      have ex := dec_ok h1
      subst ex
      cases m with
      | i b => cases b with
        | false => cases hm
        | true => exact fun _ _ _ => di_items (chk_ok a .v sc fc _ h2 hF X W g).1 (fun w => base_noI h3) h4
      | _ => cases hm
    · cases h
  | .enum a, m, sc, fc, e, h, hF, X, W, g => by
    unfold chk at h
    replace h := and2 h
    obtain ⟨hm, h⟩ := h
    split at h
    · rename_i g0 p0 x0 pos0
      simp only [Bool.and_eq_true] at h
      obtain ⟨⟨⟨h1, h2⟩, h3⟩, h4⟩ := h
      have ex := dec_ok h1
      subst ex
      cases m with
      | i b => cases b with
        | false => cases hm
        | true => exact fun _ _ _ => di_enum (gl_of g h2) (nob_of g (by decide)) (chk_ok a .v sc fc _ h3 hF X W g).1 h4
      | _ => cases hm
    · cases h
  | .zip a b, m, sc, fc, e, h, hF, X, W, g => by
    unfold chk at h
    replace h := and2 h
    obtain ⟨hm, h⟩ := h
    split at h
    · rename_i g0 p0 x0 y0 pos0
      simp only [Bool.and_eq_true] at h
      obtain ⟨⟨⟨⟨⟨h1, h2⟩, h3⟩, h4⟩, h5⟩, h6⟩ := h
      have ex := dec_ok h1
      subst ex
      cases m with
      | i b => cases b with
        | false => cases hm
        | true => exact fun _ _ _ => di_zip (gl_of g h2) (nob_of g (by decide)) (chk_ok a .v sc fc _ h3 hF X W g).1 (chk_ok b .v sc fc _ h5 hF X W g).1 h4 h6
      | _ => cases hm
    · cases h
  | .zip3 _ _ _, m, sc, fc, e, h, _, _, _, _ => by unfold chk at h; cases h
  | .pcut o lo hi, m, sc, fc, e, h, hF, X, W, g => by
    unfold chk at h
    split at h
    · rename_i vs x l u p2 pos
      simp only [Bool.and_eq_true] at h
      obtain ⟨⟨h1, h2⟩, h3⟩ := h
      have r1 := (chk_ok o .v sc fc _ h1 hF X W g : Res X W .v _ _).1
      have r2 : DO X W l (sem Γ lo) := by
        cases l with
        | none => cases lo <;> first | (simp [isAbs] at h2; done) | exact do_none
        | some l => exact (chk_ok lo .o sc fc _ h2 hF X W g : Res X W .o _ _)
      have r3 : DO X W u (sem Γ hi) := by
        cases u with
        | none => cases hi <;> first | (simp [isAbs] at h3; done) | exact do_none
        | some u => exact (chk_ok hi .o sc fc _ h3 hF X W g : Res X W .o _ _)
      exact dg_cut r1 r2 r3
    · cases h
  | .patt _ _, m, sc, fc, e, h, _, _, _, _ => by unfold chk at h; cases h
theorem chkJ_ok : ∀ (as : List E) (sc : Scope) (fc : Str → Bool) (xs : List Expr), chkJ N F as sc fc xs = true → (∀ f ∈ F, ∃ sp, Γ.fn f.1 f.2 = some sp) → ∀ (X : Cx) (W : Wi), Good Γ X N sc fc k → PJD X W xs (semL Γ as)
  | [], sc, fc, xs, h, hF, X, W, g => by
    unfold chkJ at h
    cases xs with
    | nil => exact .nil
    | cons _ _ => cases h
  | a :: as, sc, fc, xs, h, hF, X, W, g => by
    unfold chkJ at h
    split at h
    · rename_i x xs
      obtain ⟨h1, h2⟩ := and2 h
      have r := chkJ_ok as sc fc xs h2 hF X W g
      split at h1
      · exact .fmt (chk_ok a .v sc fc _ h1 hF X W g).1 r
      · split at h1
        · have ex := dec_ok h1
          subst ex
          exact .str r
        · cases h1
      · cases h1
    · cases h
theorem chkD_ok : ∀ (as : List E) (sc : Scope) (fc : Str → Bool) (ks : List (Option Expr)) (vs : List Expr), chkD N F as sc fc ks vs = true → (∀ f ∈ F, ∃ sp, Γ.fn f.1 f.2 = some sp) → ∀ (X : Cx) (W : Wi), Good Γ X N sc fc k → PD X W ks vs (semL Γ as)
  | [], sc, fc, ks, vs, h, hF, X, W, g => by
    unfold chkD at h
    cases ks with
    | nil => cases vs with
      | nil => exact .nil
      | cons _ _ => cases h
    | cons _ _ => cases h
  | [a], sc, fc, ks, vs, h, hF, X, W, g => by
    unfold chkD at h; cases h
  | a :: b :: as, sc, fc, ks, vs, h, hF, X, W, g => by
    unfold chkD at h
    split at h
    · simp only [Bool.and_eq_true] at h
      obtain ⟨⟨h1, h2⟩, h3⟩ := h
      exact .cons (chk_ok a .v sc fc _ h1 hF X W g).1 (chk_ok b .v sc fc _ h2 hF X W g).1 (chkD_ok as sc fc _ _ h3 hF X W g)
    · cases h
theorem chkW_ok : ∀ (as : List E) (sc : Scope) (fc : Str → Bool) (xs : List Keyword), chkW N F as sc fc xs = true → (∀ f ∈ F, ∃ sp, Γ.fn f.1 f.2 = some sp) → ∀ (X : Cx) (W : Wi), Good Γ X N sc fc k → DKw X W xs xs.length (semL Γ as)
  | [], sc, fc, xs, h, hF, X, W, g => by
    unfold chkW at h
    cases xs with
    | nil => exact dkw_nil
    | cons _ _ => cases h
  | a :: as, sc, fc, xs, h, hF, X, W, g => by
    unfold chkW at h
    cases xs with
    | nil => cases h
    | cons x xs =>
      obtain ⟨nm, y, q⟩ := x
      obtain ⟨h1, h2⟩ := and2 h
      exact dkw_cons (chk_ok a .v sc fc y h1 hF X W g).1 (chkW_ok as sc fc xs h2 hF X W g)
theorem chkL_ok : ∀ (as : List E) (m : Md) (sc : Scope) (fc : Str → Bool) (xs : List Expr), chkL N F as m sc fc xs = true → (∀ f ∈ F, ∃ sp, Γ.fn f.1 f.2 = some sp) → ∀ (X : Cx) (W : Wi), Good Γ X N sc fc k → ResL X W m xs (semL Γ as)
  | [], m, sc, fc, xs, h, hF, X, W, g => by
    unfold chkL at h
    cases xs with
    | nil => exact .nil
    | cons _ _ => cases h
  | a :: as, m, sc, fc, xs, h, hF, X, W, g => by
    unfold chkL at h
    cases xs with
    | nil => cases h
    | cons x xs =>
      simp only [Bool.and_eq_true] at h
      obtain ⟨⟨h1, h2⟩, h3⟩ := h
      exact .cons (chk_ok a m sc fc x h1 hF X W g) h2 (chkL_ok as m sc fc xs h3 hF X W g)
end
end
end T
end
section
set_option Elab.async false
set_option linter.all false
set_option maxRecDepth 100000
set_option maxHeartbeats 4000000
/-! Statements, defs: chk. -/
namespace T
open PySem PySem.Spec PyProof.Rows L2
/-- a comprehension goes straight to a local name -/
def swB (sc : Scope) (e : Expr) (t : Expr) : Bool := match t, e with
  | .Name y py, .ListComp _ _ s p => sc.names.lookup y == some .local && py.line == p.line && !(s.names.any fun (n, k) => n == y && (k == .local || k == .cell))
  | .Name y py, .DictComp _ _ _ s p => sc.names.lookup y == some .local && py.line == p.line && !(s.names.any fun (n, k) => n == y && (k == .local || k == .cell))
  | _, _ => false
def isSetComp : Expr → Bool
  | .SetComp _ _ _ _ => true
  | _ => false
theorem blk_fn {env : Env} (hk : env.scope.kind = .function) : env.blockKind = .function := by unfold Env.blockKind; rw [hk]; rfl
theorem sw_l {a : Expr} {b : List Comprehension} {s : Scope} {p py : Pos} {y : Str} {l : Nat} {env : Env} (hk : env.scope.kind = .function) : swapsWith (.ListComp a b s p) (some (.Name y py)) l env = pure (swB env.scope (.ListComp a b s p) (.Name y py)) := by
  show (pure (env.blockKind == .function && env.kindOf y == some .local && py.line == p.line && !(s.names.any fun (n, k) => n == y && (k == .local || k == .cell))) : Sem Bool) = _
  rw [blk_fn hk]
  rfl
theorem sw_d {a c : Expr} {b : List Comprehension} {s : Scope} {p py : Pos} {y : Str} {l : Nat} {env : Env} (hk : env.scope.kind = .function) : swapsWith (.DictComp a c b s p) (some (.Name y py)) l env = pure (swB env.scope (.DictComp a c b s p) (.Name y py)) := by
  show (pure (env.blockKind == .function && env.kindOf y == some .local && py.line == p.line && !(s.names.any fun (n, k) => n == y && (k == .local || k == .cell))) : Sem Bool) = _
  rw [blk_fn hk]
  rfl
theorem sw_no {env : Env} {e t : Expr} {l : Nat} (hk : env.scope.kind = .function) (h : swB env.scope e t = false) (hs : isSetComp e = false) : swapsWith e (some t) l env = pure false := by
  cases e <;> first | rfl | (cases hs; done) | skip
  all_goals cases t <;> first | rfl | skip
  · rw [sw_l hk, h]
  · rw [sw_d hk, h]
/-- what goes from a display to names by itself: the names -/
def swapN (sc : Scope) (ts vs : List Expr) : Option (Option (List Str)) :=
  if (!(ts.length == 2 || ts.length == 3) || vs.length != ts.length) = true then some none
  else if (vs.any fun | .Starred .. => true | _ => false) = true then some none
  else
    if ((ts.filterMap fun | .Name id pos => if sc.names.lookup id == some .local && pos.line == (ts.head?.map (·.pos.line)).getD 0 then some id else none | _ => none).length != ts.length ||
      (ts.filterMap fun | .Name id pos => if sc.names.lookup id == some .local && pos.line == (ts.head?.map (·.pos.line)).getD 0 then some id else none | _ => none).eraseDups.length !=
      (ts.filterMap fun | .Name id pos => if sc.names.lookup id == some .local && pos.line == (ts.head?.map (·.pos.line)).getD 0 then some id else none | _ => none).length) = true then some none
    else if vs.all (foldedForSure 8) = true then some none
    else if vs.all (constantsAlone 8) = true then none
    else some (some (ts.filterMap fun | .Name id pos => if sc.names.lookup id == some .local && pos.line == (ts.head?.map (·.pos.line)).getD 0 then some id else none | _ => none))
theorem swapN_ok {env : Env} {ts vs : List Expr} {a c : Nat} {b d : Pos} {r : Option (List Str)} (hk : env.scope.kind = .function) (h : swapN env.scope ts vs = some r) : swappedStores [.Tuple ts a b] (.Tuple vs c d) env = pure r := by
  unfold swapN at h
  unfold swappedStores
  have hne : (env.blockKind != ScopeKind.function) = false := by rw [blk_fn hk]; rfl
  simp only [hne, Bool.or_false]
  split at h
  · rename_i h1
    cases h
    rw [if_pos h1]
  · rename_i h1
    rw [if_neg h1]
    split at h
    · rename_i h2
      cases h
      exact if_pos h2
    · rename_i h2
      refine (if_neg h2).trans ?_
      split at h
      · rename_i h3
        cases h
        exact if_pos h3
      · rename_i h3
        refine (if_neg h3).trans ?_
        split at h
        · rename_i h4
          cases h
          exact if_pos h4
        · rename_i h4
          refine (if_neg h4).trans ?_
          split at h
          · cases h
          · rename_i h5
            cases h
            exact if_neg h5
/-! ### statements -/
def isComp : Expr → Bool
  | .ListComp _ _ _ _ => true
  | .DictComp _ _ _ _ _ => true
  | _ => false
def names2 (N : List Str) (i j : Nat) (x y : Str) (sc : Scope) : Bool := decide (N[i]? = some x) && decide (N[j]? = some y) && decide (i ≠ j) && decide (sc.names.lookup x = some .local) && decide (sc.names.lookup y = some .local)
mutual
def chkS (N : List Str) (F : List (Str × List Str)) : S → Scope → (Str → Bool) → Stmt → Bool
  | .asg p a, sc, fc, st => match st with
    | .Assign [tg] e _ => chk N F p (.p (List.range N.length)) sc fc tg && chk N F a .v sc fc e && noStar tg && !isSetComp e &&
        (match swB sc e tg with
        | false => noSwap tg e || (match tg, e with
          | .Tuple ts _ _, .Tuple vs _ _ => decide (swapN sc ts vs = some none)
          | _, _ => false)
        | true => match a, p with
          | .lc _ _ _ _ _ _, .pname _ => true
          | .dc _ _ _ _ _ _ _, .pname _ => true
          | _, _ => false)
    | _ => false
  | .par is es, sc, fc, st => match st with
    | .Assign [.Tuple ts _ _] (.Tuple vs _ _) _ => chkL N F es .v sc fc vs && (match is, ts, vs with
      | [i, j], [.Name x p, .Name y q], [a, b] => names2 N i j x y sc && decide (swapN sc [.Name x p, .Name y q] [a, b] = some (some [x, y]))
      | [i, j, l], [.Name x p, .Name y q, .Name z r], [a, b, c] => names2 N i j x y sc && decide (N[l]? = some z) && decide (i ≠ l) && decide (j ≠ l) && decide (sc.names.lookup z = some .local) && decide (swapN sc [.Name x p, .Name y q, .Name z r] [a, b, c] = some (some [x, y, z]))
      | _, _, _ => false)
    | _ => false
  | .aug i op a, sc, fc, st => match st with
    | .AugAssign (.Name x _) o e _ => decide (N[i]? = some x) && (match sc.names.lookup x with | some .local => true | some .cell => fc x | _ => false) && chk N F a .v sc fc e && (match op, o with | .add, .Add => true | .sub, .Sub => true | _, _ => false)
    | _ => false
  | .exp a, sc, fc, st => match st with
    | .Expr e _ => chk N F a .v sc fc e && noComp e
    | _ => false
  | .ret a, sc, fc, st => match st with
    | .Return (some e) _ => chk N F a .v sc fc e
    | .Return none _ => (match a with | .non => true | _ => false)
    | _ => false
  | .ite c a b, sc, fc, st => match st with
    | .If e x y _ => chk N F c .v sc fc e && chkSs N F a sc fc x && chkSs N F b sc fc y
    | _ => false
  | .for_ p it body, sc, fc, st => match st with
    | .For tg iter b [] _ => chk N F p (.p (List.range N.length)) sc fc tg && chk N F it (.i (match tg with | .Tuple _ _ _ => true | _ => false)) sc fc iter && noSet iter && chkSs N F body sc fc b
    | _ => false
  | .whl c body, sc, fc, st => match st with
    | .While e b [] _ => chk N F c .v sc fc e && chkSs N F body sc fc b
    | _ => false
  | .cont, _, _, st => match st with | .Continue _ => true | _ => false
  | .pass, _, _, st => match st with | .Pass _ => true | _ => false
  | _, _, _, _ => false
def chkSs (N : List Str) (F : List (Str × List Str)) : List S → Scope → (Str → Bool) → List Stmt → Bool
  | [], _, _, sts => sts.isEmpty
  | s :: ss, sc, fc, sts => match s with
    | .view => chkSs N F ss sc fc sts
    | s => match sts with
      | st :: r => chkS N F s sc fc st && chkSs N F ss sc fc r
      | [] => false
end
end T
end
section
set_option Elab.async false
set_option linter.all false
set_option maxRecDepth 100000
set_option maxHeartbeats 4000000
/-! Statements and defs: what chk says is so. -/
namespace T
open PySem PySem.Spec PyProof.Rows L2
section
variable {X : Cx} {W : Wi}
/-- an assignment by hand -/
theorem ds_asgH {tg e : Expr} {de dp : Den} {vs : List Nat} {pos : Pos} (he : DE X W e de) (hg : DG X W vs tg dp) (hn : swapsWith e (some tg) pos.line X.env = pure false) (hw : swappedStores [tg] e X.env = pure none) (hs : noStar tg = true) : DS X W (.Assign [tg] e pos) (sAsg dp de) :=
  (ps_asg he hg hn hw (by rw [assign_cons hs]; rfl)).imp fun D τ H h => lE_asg h
theorem noSwap_ok {tg e : Expr} {env : Env} (h : noSwap tg e = true) : swappedStores [tg] e env = pure none := by
  unfold swappedStores
  cases tg <;> cases e <;> first | rfl | exact Bool.noConfusion h
theorem ds_imp {st : Stmt} {t t' : TSt} (h : DS X W st t) (e : t W = t' W) : DS X W st t' := by
  show PS X st (lS X.K (t' W))
  rw [← e]; exact h
end
section
variable {Γ : Ctx} {N : List Str} {F : List (Str × List Str)} {k : Nat}
theorem range_mem {N : List Str} {i : Nat} {x : Str} (h : N[i]? = some x) : i ∈ List.range N.length := List.mem_range.mpr (List.getElem?_eq_some_iff.mp h).1
mutual
theorem chkS_ok : ∀ (a : S) (sc : Scope) (fc : Str → Bool) (st : Stmt), chkS N F a sc fc st = true → (∀ f ∈ F, ∃ sp, Γ.fn f.1 f.2 = some sp) → sc.kind = .function → ∀ (X : Cx) (W : Wi), Good Γ X N sc fc k → DS X W st (sS Γ a)
  | .asg p a, sc, fc, st, h, hF, hk, X, W, g => by
    unfold chkS at h
    split at h
    · rename_i tg e pos
      simp only [Bool.and_eq_true, Bool.not_eq_true'] at h
      obtain ⟨⟨⟨⟨h1, h2⟩, h3⟩, h4⟩, h5⟩ := h
      have hkX : X.env.scope.kind = .function := by rw [g.sc]; exact hk
      have rp : DG X W (List.range N.length) tg (sem Γ p) := chk_ok p (.p (List.range N.length)) sc fc _ h1 hF X W g
      have ra := (chk_ok a .v sc fc _ h2 hF X W g : Res X W .v e (sem Γ a)).1
      cases hs : swB sc e tg with
      | false =>
        rw [hs] at h5
        have hn : swapsWith e (some tg) pos.line X.env = pure false := sw_no hkX (by rw [g.sc]; exact hs) h4
        simp only [Bool.or_eq_true] at h5
        rcases h5 with h5 | h5
        · exact ds_asgH ra rp hn (noSwap_ok h5) h3
        · split at h5
          · exact ds_asgH ra rp hn (swapN_ok hkX (by rw [g.sc]; exact dec_ok h5)) h3
          · cases h5
      | true =>
        rw [hs] at h5
        cases a <;> first | (cases h5; done) | skip
        · rename_i mu elt pat it ifs own
          cases p <;> first | (cases h5; done) | skip
          rename_i i
          clear h5 ra
          -- the comprehension once more, as a statement
          unfold chk at h2
          replace h2 := (and2 h2).2
          split at h2
          · rename_i x gens scope pos'
            split at h2
            · rename_i tg' iter xs
              simp only [Bool.and_eq_true] at h2
              obtain ⟨⟨⟨⟨⟨⟨c1, c2⟩, c3⟩, c4⟩, c5⟩, c6⟩, c7⟩ := h2
              unfold chk at h1
              split at h1
              · rename_i vs y py hvs
                simp only [Bool.and_eq_true] at h1
                obtain ⟨⟨n1, n2⟩, n3⟩ := h1
                have hy : sc.names.lookup y = some .local := by
                  simp only [swB, Bool.and_eq_true, beq_iff_eq] at hs
                  exact hs.1.1
                have ok : BlkOk X.N X.env.scope scope (own.map fun i => (N.getD i ⟨#[]⟩, i)) := by rw [g.nm, g.sc]; exact blkOk_by c1
                have hi : DI X W tg' iter (sem Γ it) := by
                  have r := (chk_ok it _ sc fc _ c2 hF X W g : Res X W _ iter (sem Γ it))
                  cases tg' with
                  | Tuple a b c => exact (r : ∀ elts kk tp, DI X W (.Tuple elts kk tp) iter (sem Γ it)) a b c
                  | _ => exact (r : ∀ tg, DI X W tg iter (sem Γ it)) _
                have z := ds_setLc (X := X) (W := W) (m := mu) (i := i) (y := y) (py := py) (spos := pos) (de := sem Γ elt) (dp := sem Γ pat) (dit := sem Γ it) (difs := semL Γ ifs) (elt := x) (ifs := xs) (pos := pos') g.calm g.ndX (by rw [g.nm]; exact dec_ok n1) (by rw [g.sc]; exact hy) (by rw [sw_l hkX, g.sc, hs]) hi ok
                  (fun s H C cl fp => by rw [own_map]; exact (chk_ok pat (.p own) _ _ _ c4 hF _ W0 (g.blk s H scope C cl fp) : Res _ W0 _ _ _))
                  (fun s H C cl fp => by
                    have r : ResL _ W0 .v xs (semL Γ ifs) := chkL_ok ifs .v _ _ _ c5 hF _ W0 (g.blk s H scope C cl fp)
                    generalize semL Γ ifs = ds at r
                    cases r with
                    | nil => exact .inl ⟨rfl, rfl⟩
                    | cons r1 _ r2 => cases r2 with
                      | nil => exact .inr ⟨_, _, rfl, rfl, r1.2⟩
                      | cons _ _ _ => exact absurd (dec_ok c6) (by simp))
                  (fun s H C cl fp => (chk_ok elt .v _ _ _ c7 hF _ W0 (g.blk s H scope C cl fp) : Res _ W0 .v _ _).1) c3
                rw [own_map] at z
                exact z
              · cases h1
            · cases h2
          · cases h2
        · rename_i t mu kx vx pat it own
          cases p <;> first | (cases h5; done) | skip
          rename_i i
          clear h5 ra
          unfold chk at h2
          replace h2 := (and2 h2).2
          split at h2
          · rename_i x x2 gens scope pos'
            split at h2
            · rename_i tg' iter
              simp only [Bool.and_eq_true] at h2
              obtain ⟨⟨⟨⟨⟨⟨c0, c1⟩, c2⟩, c3⟩, c4⟩, c5⟩, c6⟩ := h2
              cases t with
              | true => cases c0
              | false =>
                unfold chk at h1
                split at h1
                · rename_i vs y py hvs
                  simp only [Bool.and_eq_true] at h1
                  obtain ⟨⟨n1, n2⟩, n3⟩ := h1
                  have hy : sc.names.lookup y = some .local := by
                    simp only [swB, Bool.and_eq_true, beq_iff_eq] at hs
                    exact hs.1.1
                  have ok : BlkOk X.N X.env.scope scope (own.map fun i => (N.getD i ⟨#[]⟩, i)) := by rw [g.nm, g.sc]; exact blkOk_by c1
                  have hi : DI X W tg' iter (sem Γ it) := by
                    have r := (chk_ok it _ sc fc _ c2 hF X W g : Res X W _ iter (sem Γ it))
                    cases tg' with
                    | Tuple a b c => exact (r : ∀ elts kk tp, DI X W (.Tuple elts kk tp) iter (sem Γ it)) a b c
                    | _ => exact (r : ∀ tg, DI X W tg iter (sem Γ it)) _
                  have z := ds_setDc (X := X) (W := W) (m := mu) (i := i) (y := y) (py := py) (spos := pos) (dk := sem Γ kx) (dv := sem Γ vx) (dp := sem Γ pat) (dit := sem Γ it) (kx := x) (vx := x2) (pos := pos') g.calm g.ndX (by rw [g.nm]; exact dec_ok n1) (by rw [g.sc]; exact hy) (by rw [sw_d hkX, g.sc, hs]) hi ok
                    (fun s H C cl fp => by rw [own_map]; exact (chk_ok pat (.p own) _ _ _ c4 hF _ W0 (g.blk s H scope C cl fp) : Res _ W0 _ _ _))
                    (fun s H C cl fp => (chk_ok kx .v _ _ _ c5 hF _ W0 (g.blk s H scope C cl fp) : Res _ W0 .v _ _).1)
                    (fun s H C cl fp => (chk_ok vx .v _ _ _ c6 hF _ W0 (g.blk s H scope C cl fp) : Res _ W0 .v _ _).1) c3
                  rw [own_map] at z
                  exact z
                · cases h1
            · cases h2
          · cases h2
    · cases h
  | .par is es, sc, fc, st, h, hF, hk, X, W, g => by
    unfold chkS at h
    split at h
    · rename_i ts a1 a2 vs b1 b2 pos
      obtain ⟨h1, h2⟩ := and2 h
      have hkX : X.env.scope.kind = .function := by rw [g.sc]; exact hk
      have r : ResL X W .v vs (semL Γ es) := chkL_ok es .v sc fc _ h1 hF X W g
      have hA := resL_DA r
      split at h2
      · rename_i i j x p y q a b
        simp only [names2, Bool.and_eq_true] at h2
        obtain ⟨⟨⟨⟨⟨n1, n2⟩, n3⟩, n4⟩, n5⟩, n6⟩ := h2
        exact ds_par g.calm g.ndX (by rw [g.nm]; exact dec_ok n1) (by rw [g.nm]; exact dec_ok n2) (dec_ok n3) (by rw [g.sc]; exact dec_ok n4) (by rw [g.sc]; exact dec_ok n5) hA (resL_len r).symm (swapN_ok hkX (by rw [g.sc]; exact dec_ok n6))
      · rename_i i j l x p y q z r' a b c
        simp only [names2, Bool.and_eq_true] at h2
        obtain ⟨⟨⟨⟨⟨⟨⟨⟨⟨n1, n2⟩, n3⟩, n4⟩, n5⟩, n6⟩, n7⟩, n8⟩, n9⟩, n10⟩ := h2
        exact ds_par3 g.calm g.ndX (by rw [g.nm]; exact dec_ok n1) (by rw [g.nm]; exact dec_ok n2) (by rw [g.nm]; exact dec_ok n6) (dec_ok n3) (dec_ok n7) (dec_ok n8) (by rw [g.sc]; exact dec_ok n4) (by rw [g.sc]; exact dec_ok n5) (by rw [g.sc]; exact dec_ok n9) hA (swapN_ok hkX (by rw [g.sc]; exact dec_ok n10))
      · cases h2
    · cases h
  | .aug i op a, sc, fc, st, h, hF, hk, X, W, g => by
    unfold chkS at h
    split at h
    · rename_i x p o e pos
      simp only [Bool.and_eq_true] at h
      obtain ⟨⟨⟨h1, h2⟩, h3⟩, h4⟩ := h
      have hl : Loc X.env.scope x ∧ (X.fn x = true ∨ X.env.scope.names.lookup x = some .local) := by
        rw [g.sc]
        split at h2
        · exact ⟨.inl (by assumption), .inr (by assumption)⟩
        · exact ⟨.inr (by assumption), .inl (g.fn _ h2)⟩
        · cases h2
      refine ds_aug ?_ g.ndX (by rw [g.nm]; exact dec_ok h1) hl.1 hl.2 (chk_ok a .v sc fc _ h3 hF X W g).1
      split at h4
      · exact .inl ⟨rfl, rfl⟩
      · exact .inr ⟨rfl, rfl⟩
      · cases h4
    · cases h
  | .exp a, sc, fc, st, h, hF, hk, X, W, g => by
    unfold chkS at h
    split at h
    · obtain ⟨h1, h2⟩ := and2 h
      exact ds_exp (chk_ok a .v sc fc _ h1 hF X W g).1 h2
    · cases h
  | .ret a, sc, fc, st, h, hF, hk, X, W, g => by
    unfold chkS at h
    split at h
    · exact ds_ret (chk_ok a .v sc fc _ h hF X W g).1
    · split at h
      · exact ds_retN
      · cases h
    · cases h
  | .ite c a b, sc, fc, st, h, hF, hk, X, W, g => by
    unfold chkS at h
    split at h
    · simp only [Bool.and_eq_true] at h
      obtain ⟨⟨h1, h2⟩, h3⟩ := h
      exact ds_ite (chk_ok c .v sc fc _ h1 hF X W g).2 (chkSs_ok a sc fc _ h2 hF hk X W g) (chkSs_ok b sc fc _ h3 hF hk X W g)
    · cases h
  | .for_ p it body, sc, fc, st, h, hF, hk, X, W, g => by
    unfold chkS at h
    split at h
    · rename_i tg iter b pos
      simp only [Bool.and_eq_true] at h
      obtain ⟨⟨⟨h1, h2⟩, h3⟩, h4⟩ := h
      have hi : DI X W tg iter (sem Γ it) := by
        have r := (chk_ok it _ sc fc _ h2 hF X W g : Res X W _ iter (sem Γ it))
        cases tg with
        | Tuple a b c => exact (r : ∀ elts kk tp, DI X W (.Tuple elts kk tp) iter (sem Γ it)) a b c
        | _ => exact (r : ∀ tg, DI X W tg iter (sem Γ it)) _
      exact ds_for g.own g.calm hi (chk_ok p (.p (List.range N.length)) sc fc _ h1 hF X W g : Res X W _ _ _) (chkSs_ok body sc fc _ h4 hF hk X W g) h3
    · cases h
  | .whl c body, sc, fc, st, h, hF, hk, X, W, g => by
    unfold chkS at h
    split at h
    · obtain ⟨h1, h2⟩ := and2 h
      exact ds_whl g.own (chk_ok c .v sc fc _ h1 hF X W g).2 (chkSs_ok body sc fc _ h2 hF hk X W g)
    · cases h
  | .cont, sc, fc, st, h, hF, hk, X, W, g => by
    unfold chkS at h
    split at h
    · exact ds_cont
    · cases h
  | .pass, sc, fc, st, h, hF, hk, X, W, g => by
    unfold chkS at h
    split at h
    · exact ds_pass
    · cases h
  | .raise _ _, sc, fc, st, h, _, _, _, _, _ => by unfold chkS at h; cases h
  | .view, sc, fc, st, h, _, _, _, _, _ => by unfold chkS at h; cases h
theorem chkSs_ok : ∀ (as : List S) (sc : Scope) (fc : Str → Bool) (sts : List Stmt), chkSs N F as sc fc sts = true → (∀ f ∈ F, ∃ sp, Γ.fn f.1 f.2 = some sp) → sc.kind = .function → ∀ (X : Cx) (W : Wi), Good Γ X N sc fc k → DSs X W sts (sSs Γ as)
  | [], sc, fc, sts, h, hF, hk, X, W, g => by
    unfold chkSs at h
    cases sts with
    | nil => exact dss_nil
    | cons _ _ => cases h
  | a :: as, sc, fc, sts, h, hF, hk, X, W, g => by
    unfold chkSs at h
    split at h
    · exact dss_view (chkSs_ok as sc fc _ h hF hk X W g)
    · split at h
      · obtain ⟨h1, h2⟩ := and2 h
        exact dss_cons (chkS_ok a sc fc _ h1 hF hk X W g) (chkSs_ok as sc fc _ h2 hF hk X W g)
      · cases h
end
/-- a def, by its text -/
theorem fn_ok {Pr : Program} {w : World} {K : PySem.W.Frag} {mg : Str → Option Value} {base : Heap} {x qual : Str} {st : Stmt} {f : Addr} {fd : FuncData} {ps : List Str} {P : Pm} {ir : List S}
    (Fd : Fun K x qual st f fd) (Sc : FnScope N ps (defScope st)) (wl : Wld Γ Pr w K mg base k) (hF : ∀ f ∈ F, ∃ sp, Γ.fn f.1 f.2 = some sp) (hc : chkSs N F ir (defScope st) (fun _ => true) (defBody st) = true)
    (hP : ∀ ds G q, ds.length = ps.length → P ds G q → run Γ N.length ir (fun _ _ => False) ds G q) : FnOk Pr w K mg base CX0 (k + 2) f fd ps (spOf K ps.length P) := by
  refine Fd.ok Sc (fun vs H Q E h => ?_) (fun cdv A outer s H vs Q E hr h => ?_)
  · obtain ⟨ds, G, q, l, t, _⟩ := h
    rw [← t.length, l]
  · have hpl : ps.length ≤ N.length := by have := congrArg List.length Sc.pre; rw [List.length_take] at this; omega
    refine body_ok (Γ := Γ) (N := N) (X := (cxOf CX0 Pr w K mg base N qual (defScope st) f cdv A outer s H E).nox) rfl ?_ rfl hpl hP h
    exact chkSs_ok ir _ _ _ hc hF Sc.kind _ W0 ⟨rfl, Sc.nd, rfl, rfl, wl, hr, fun _ _ => rfl, rfl⟩
end
end T
end
section
set_option Elab.async false
set_option linter.all false
set_option maxRecDepth 100000
/-! The small language, unfolded: rules for simp. -/
namespace T
open PySem PySem.Spec PyProof.Rows L2
section
variable {Γ : Ctx} {W : Wi} {σ : Sl} {G : Store} {q : DK} {D0 : Ed}
@[simp] theorem oqs {α : Type} {a : α} {p : α → Prop} : oq (some a) p = p a := oq_some
@[simp] theorem oqn {α : Type} {p : α → Prop} : oq (none : Option α) p = False := oq_none
@[simp] theorem run_eq {n : Nat} {b : List S} {w : Exn → Store → Prop} {as : List D} : run Γ n b w as G q = sSs Γ b (fun e _ G' => w e G') { nx := fun _ G' => q .non G', rt := fun d G' => ∃ d' G'', ViewD d G' d' G'' ∧ q d' G'' } (as.map some ++ List.replicate (n - as.length) none) G := rfl
@[simp] theorem ss_nil : sSs Γ [] W D0 σ G = D0.nx σ G := rfl
@[simp] theorem ss_cons {s : S} {ss : List S} : sSs Γ (s :: ss) W D0 σ G = sS Γ s W { D0 with nx := sSs Γ ss W D0 } σ G := rfl
@[simp] theorem s_asg {p e : E} : sS Γ (.asg p e) W D0 σ G = (sem Γ e).e W σ G fun d G1 => (sem Γ p).p W d σ G1 D0.nx := rfl
@[simp] theorem s_par {is : List Nat} {es : List E} : sS Γ (.par is es) W D0 σ G = dA (semL Γ es) W σ G fun ds G1 => D0.nx (setAll is ds σ) G1 := rfl
@[simp] theorem s_exp {e : E} : sS Γ (.exp e) W D0 σ G = (sem Γ e).e W σ G fun _ G1 => D0.nx σ G1 := rfl
@[simp] theorem s_ret {e : E} : sS Γ (.ret e) W D0 σ G = (sem Γ e).e W σ G D0.rt := rfl
@[simp] theorem s_ite {c : E} {a b : List S} : sS Γ (.ite c a b) W D0 σ G = (sem Γ c).t W σ G fun t G1 => if t = true then sSs Γ a W D0 σ G1 else sSs Γ b W D0 σ G1 := rfl
@[simp] theorem s_for {p it : E} {b : List S} : sS Γ (.for_ p it b) W D0 σ G = (sem Γ it).i W σ G fun ds gd G1 => loopW gd (fun d k σ1 G2 => (sem Γ p).p W d σ1 G2 fun σ2 G3 => sSs Γ b W { nx := k, ct := k, bk := D0.nx, rt := D0.rt } σ2 G3) D0.nx ds σ G1 := rfl
@[simp] theorem s_cont : sS Γ .cont W D0 σ G = D0.ct σ G := rfl
@[simp] theorem s_pass : sS Γ .pass W D0 σ G = D0.nx σ G := rfl
@[simp] theorem set_all0 {ds : List D} : setAll [] ds σ = σ := by cases ds <;> rfl
@[simp] theorem set_all1 {i : Nat} {is : List Nat} {d : D} {ds : List D} : setAll (i :: is) (d :: ds) σ = setAll is ds (σ.set i (some d)) := rfl
@[simp] theorem da_0 {p : List D → Store → Prop} : dA [] W σ G p = p [] G := rfl
@[simp] theorem da_1 {e : Den} {es : List Den} {p : List D → Store → Prop} : dA (e :: es) W σ G p = e.e W σ G fun d G1 => dA es W σ G1 fun ds G2 => p (d :: ds) G2 := rfl
@[simp] theorem dts_0 {p : Bool → Store → Prop} : dTs [] W σ G p = p true G := rfl
@[simp] theorem dts_1 {e : Den} {es : List Den} {p : Bool → Store → Prop} : dTs (e :: es) W σ G p = e.t W σ G fun t G1 => if t = true then dTs es W σ G1 p else p false G1 := rfl
@[simp] theorem dps_0 {ds : List D} {k : Sl → Store → Prop} : dPs [] W ds σ G k = (ds = [] ∧ k σ G) := rfl
@[simp] theorem dps_1 {p : Den} {ps : List Den} {d : D} {ds : List D} {k : Sl → Store → Prop} : dPs (p :: ps) W (d :: ds) σ G k = p.p W d σ G fun σ1 G1 => dPs ps W ds σ1 G1 k := by
  show (∃ d' r, d :: ds = d' :: r ∧ _) = _
  apply propext
  constructor
  · rintro ⟨d', r, e, h⟩; cases e; exact h
  · exact fun h => ⟨d, ds, rfl, h⟩
@[simp] theorem seml_0 : semL Γ [] = [] := rfl
@[simp] theorem seml_1 {e : E} {es : List E} : semL Γ (e :: es) = sem Γ e :: semL Γ es := rfl
@[simp] theorem e_var {i : Nat} : (sem Γ (.var i)).e W σ G q = oq (slot σ i) fun d => q d G := rfl
@[simp] theorem e_glob {x : Str} : (sem Γ (.glob x)).e W σ G q = oq (Γ.glob x) fun d => q d G := rfl
@[simp] theorem e_non : (sem Γ .non).e W σ G q = q .non G := rfl
@[simp] theorem e_bl {b : Bool} : (sem Γ (.bl b)).e W σ G q = q (.bl b) G := rfl
@[simp] theorem e_int {b : Int} : (sem Γ (.int b)).e W σ G q = q (.int b) G := rfl
@[simp] theorem e_str {b : Str} : (sem Γ (.str b)).e W σ G q = q (.str b) G := rfl
@[simp] theorem e_tup {es : List E} : (sem Γ (.tup es)).e W σ G q = dA (semL Γ es) W σ G fun ds G1 => q (.tup ds) G1 := rfl
@[simp] theorem e_lstF {es : List E} : (sem Γ (.lst false es)).e W σ G q = dA (semL Γ es) W σ G fun ds G1 => q (.lst ds) G1 := rfl
@[simp] theorem e_lstT {es : List E} : (sem Γ (.lst true es)).e W σ G q = dA (semL Γ es) W σ G fun ds G1 => ∀ p, G1 p = none → q (.ref p) (put G1 p (.lst ds)) := rfl
@[simp] theorem e_dicT : (sem Γ (.dic true)).e W σ G q = ∀ p, G p = none → q (.ref p) (put G p (.dT [])) := rfl
@[simp] theorem e_dicF : (sem Γ (.dic false)).e W σ G q = ∀ p, G p = none → q (.ref p) (put G p (.dK [])) := rfl
@[simp] theorem e_bin {op : Op} {a b : E} : (sem Γ (.bin op a b)).e W σ G q = (sem Γ a).e W σ G fun x G1 => (sem Γ b).e W σ G1 fun y G2 => oq (binD op (lk G2 x) (lk G2 y)) fun d => q d G2 := rfl
@[simp] theorem e_neg {a : E} : (sem Γ (.neg a)).e W σ G q = (sem Γ a).e W σ G fun x G1 => oq (intOf x) fun i => q (.int (-i)) G1 := rfl
@[simp] theorem e_cmp {op : Cm} {a b : E} : (sem Γ (.cmp op a b)).e W σ G q = (sem Γ a).e W σ G fun x G1 => (sem Γ b).e W σ G1 fun y G2 => oq (cmpD op (lkc op G2 x) (lk G2 y)) fun d => q d G2 := rfl
@[simp] theorem e_ife {c a b : E} : (sem Γ (.ife c a b)).e W σ G q = (sem Γ c).t W σ G fun t G1 => if t = true then (sem Γ a).e W σ G1 q else (sem Γ b).e W σ G1 q := rfl
@[simp] theorem e_idx {a i : E} : (sem Γ (.idx a i)).e W σ G q = (sem Γ a).e W σ G fun x G1 => (sem Γ i).e W σ G1 fun y G2 => oq (idxD (lk G2 x) y) fun d => q d G2 := rfl
@[simp] theorem e_cut {a lo hi : E} : (sem Γ (.cut a lo hi)).e W σ G q = (sem Γ a).e W σ G fun x G1 => (sem Γ lo).o W σ G1 fun l G2 => (sem Γ hi).o W σ G2 fun h G3 => oq (cutD (lk G3 x) l h) fun d => q d G3 := rfl
@[simp] theorem e_call {f : Str} {as : List E} : (sem Γ (.call f as [] [])).e W σ G q = dA (semL Γ as) W σ G fun ds G1 => oq (Γ.fn f []) fun sp => sp ds [] G1 q fun e G' => W e σ G' := rfl
@[simp] theorem e_callK {f : Str} {as kws : List E} {x : Str} {ks : List Str} : (sem Γ (.call f as (x :: ks) kws)).e W σ G q = dA (semL Γ as) W σ G fun ds G1 => dA (semL Γ kws) W σ G1 fun es G2 => oq (Γ.fn f (x :: ks)) fun sp => sp ds es G2 q fun e G' => W e σ G' := rfl
@[simp] theorem t_callK {f : Str} {as kws : List E} {x : Str} {ks : List Str} {p : Bool → Store → Prop} : (sem Γ (.call f as (x :: ks) kws)).t W σ G p = dA (semL Γ as) W σ G fun ds G1 => dA (semL Γ kws) W σ G1 fun es G2 => oq (Γ.fn f (x :: ks)) fun sp => sp ds es G2 (fun x G3 => oq (truth (lk G3 x)) fun b => p b G3) fun e G' => W e σ G' := rfl
@[simp] theorem e_bi {b : Bi} {as : List E} : (sem Γ (.bi b as)).e W σ G q = dA (semL Γ as) W σ G fun ds G1 => wBi b ds G1 q := rfl
@[simp] theorem e_bm {b : Bm} {o : E} {as : List E} : (sem Γ (.bm o b as)).e W σ G q = (sem Γ o).e W σ G fun x G1 => bmTy b (lk G1 x) = true ∧ dA (semL Γ as) W σ G1 fun ds G2 => wBm b x ds G2 q := rfl
@[simp] theorem e_cnt {a h k : E} : (sem Γ (.cnt a h k)).e W σ G q = (sem Γ a).e W σ G fun x G1 => (sem Γ h).e W σ G1 fun y G2 => ∃ (l : List D) (ns : List Int) (n : Nat), lk G2 x = .tup l ∧ l.mapM intOf = some ns ∧ y = .int n ∧ n < ns.length ∧ (sem Γ k).e W σ G2 fun z G3 => ∃ i, z = .int i ∧ q (.int ((ns.take n).count i : Nat)) G3 := rfl
@[simp] theorem e_rev {a : E} : (sem Γ (.rev a)).e W σ G q = (sem Γ a).e W σ G fun x G1 => oq (revD (lk G1 x)) fun d => q d G1 := rfl
@[simp] theorem e_dspT1 {kvs : List E} : (sem Γ (.dsp true false kvs)).e W σ G q = dA (semL Γ kvs) W σ G fun ds G1 => oq (pairsT ds) fun l => q (.dT (merge [] l)) G1 := rfl
@[simp] theorem e_sortedF {a : E} : (sem Γ (.sorted false a)).e W σ G q = (sem Γ a).e W σ G fun x G1 => oq (srtOf (lk G1 x)) fun ds => sortOkS ds = true ∧ q (.lst (sortD ds)) G1 := rfl
@[simp] theorem e_sortedSetF {a : E} : (sem Γ (.sortedSet false a)).e W σ G q = (sem Γ a).e W σ G fun x G1 => oq (lstOf (lk G1 x)) fun ds => oq (ds.mapM strOf) fun xs => xs.length < 4000 ∧ ∀ ys : List Str, ys.Nodup → (∀ k, k ∈ ys ↔ k ∈ xs) → q (.lst (sortD (ys.map D.str))) G1 := rfl
@[simp] theorem e_lcF {elt pat it : E} {ifs : List E} {own : List Nat} : (sem Γ (.lc false elt pat it ifs own)).e W σ G q = (sem Γ it).i W σ G fun ds gd G1 => compW gd (fun d k G2 => (sem Γ pat).p W0 d (wipeD σ own) G2 fun σ1 G3 => dTs (semL Γ ifs) W0 σ1 G3 fun t G4 =>
      if t = true then (sem Γ elt).e W0 σ1 G4 fun y G5 => k (some y) G5 else k none G4) (fun l G2 => q (.lst l) G2) ds [] G1 := rfl
@[simp] theorem e_and2 {a b : E} {r : List E} : (sem Γ (.and (a :: b :: r))).e W σ G q = (sem Γ a).e W σ G fun x G1 => oq (truth (lk G1 x)) fun t => if t = true then (sem Γ (.and (b :: r))).e W σ G1 q else q x G1 := rfl
@[simp] theorem e_and1 {a : E} : (sem Γ (.and [a])).e W σ G q = (sem Γ a).e W σ G q := rfl
@[simp] theorem t_and2 {a b : E} {r : List E} {p : Bool → Store → Prop} : (sem Γ (.and (a :: b :: r))).t W σ G p = (sem Γ a).t W σ G fun t G1 => if t = true then (sem Γ (.and (b :: r))).t W σ G1 p else p false G1 := rfl
@[simp] theorem t_and1 {a : E} {p : Bool → Store → Prop} : (sem Γ (.and [a])).t W σ G p = (sem Γ a).t W σ G p := rfl
@[simp] theorem e_or2 {a b : E} {r : List E} : (sem Γ (.or (a :: b :: r))).e W σ G q = (sem Γ a).e W σ G fun x G1 => oq (truth (lk G1 x)) fun t => if t = true then q x G1 else (sem Γ (.or (b :: r))).e W σ G1 q := rfl
@[simp] theorem e_or1 {a : E} : (sem Γ (.or [a])).e W σ G q = (sem Γ a).e W σ G q := rfl
@[simp] theorem t_or2 {a b : E} {r : List E} {p : Bool → Store → Prop} : (sem Γ (.or (a :: b :: r))).t W σ G p = (sem Γ a).t W σ G fun t G1 => if t = true then p true G1 else (sem Γ (.or (b :: r))).t W σ G1 p := rfl
@[simp] theorem t_or1 {a : E} {p : Bool → Store → Prop} : (sem Γ (.or [a])).t W σ G p = (sem Γ a).t W σ G p := rfl
@[simp] theorem e_not {a : E} : (sem Γ (.not a)).e W σ G q = (sem Γ a).e W σ G fun x G1 => oq (truth (lk G1 x)) fun t => q (.bl (!t)) G1 := rfl
@[simp] theorem t_not {a : E} {p : Bool → Store → Prop} : (sem Γ (.not a)).t W σ G p = (sem Γ a).t W σ G fun t G1 => p (!t) G1 := rfl
@[simp] theorem t_cmp {op : Cm} {a b : E} {p : Bool → Store → Prop} : (sem Γ (.cmp op a b)).t W σ G p = (sem Γ a).e W σ G fun x G1 => (sem Γ b).e W σ G1 fun y G2 => oq (cmpD op (lkc op G2 x) (lk G2 y)) fun d => oq (truth (lk G2 d)) fun b => p b G2 := rfl
@[simp] theorem t_call {f : Str} {as : List E} {p : Bool → Store → Prop} : (sem Γ (.call f as [] [])).t W σ G p = dA (semL Γ as) W σ G fun ds G1 => oq (Γ.fn f []) fun sp => sp ds [] G1 (fun x G2 => oq (truth (lk G2 x)) fun b => p b G2) fun e G' => W e σ G' := rfl
@[simp] theorem t_bi {b : Bi} {as : List E} {p : Bool → Store → Prop} : (sem Γ (.bi b as)).t W σ G p = dA (semL Γ as) W σ G fun ds G1 => wBi b ds G1 fun x G2 => oq (truth (lk G2 x)) fun b => p b G2 := rfl
@[simp] theorem t_var {i : Nat} {p : Bool → Store → Prop} : (sem Γ (.var i)).t W σ G p = oq (slot σ i) fun d => oq (truth (lk G d)) fun b => p b G := rfl
@[simp] theorem o_abs {p : Option Int → Store → Prop} : (sem Γ .absent).o W σ G p = p none G := rfl
@[simp] theorem o_int {i : Int} {p : Option Int → Store → Prop} : (sem Γ (.int i)).o W σ G p = p (some i) G := by show oq (intOf (.int i)) _ = _; rw [show intOf (.int i) = some i from rfl, oq_some]
@[simp] theorem o_var {i : Nat} {p : Option Int → Store → Prop} : (sem Γ (.var i)).o W σ G p = oq (slot σ i) fun d => oq (intOf d) fun i => p (some i) G := rfl
@[simp] theorem o_call {f : Str} {as : List E} {p : Option Int → Store → Prop} : (sem Γ (.call f as [] [])).o W σ G p = dA (semL Γ as) W σ G fun ds G1 => oq (Γ.fn f []) fun sp => sp ds [] G1 (fun x G2 => oq (intOf x) fun b => p (some b) G2) fun e G' => W e σ G' := rfl
@[simp] theorem o_neg {a : E} {p : Option Int → Store → Prop} : (sem Γ (.neg a)).o W σ G p = (sem Γ a).e W σ G fun x G1 => oq (intOf x) fun i => oq (intOf (.int (-i))) fun j => p (some j) G1 := rfl
@[simp] theorem o_bin {op : Op} {a b : E} {p : Option Int → Store → Prop} : (sem Γ (.bin op a b)).o W σ G p = (sem Γ a).e W σ G fun x G1 => (sem Γ b).e W σ G1 fun y G2 => oq (binD op (lk G2 x) (lk G2 y)) fun d => oq (intOf d) fun i => p (some i) G2 := rfl
abbrev WI := List D → (Store → Prop) → Store → Prop
/-- what a value is walked as -/
def walkV (x : D) (G : Store) (p : WI) : Prop := oq (itemsOf G x) fun ds => p ds (still G x) G
@[simp] theorem i_var {i : Nat} {p : WI} : (sem Γ (.var i)).i W σ G p = oq (slot σ i) fun d => walkV d G p := rfl
@[simp] theorem i_idx {a i : E} {p : WI} : (sem Γ (.idx a i)).i W σ G p = (sem Γ a).e W σ G fun x G1 => (sem Γ i).e W σ G1 fun y G2 => oq (idxD (lk G2 x) y) fun d => walkV d G2 p := rfl
@[simp] theorem i_cut {a lo hi : E} {p : WI} : (sem Γ (.cut a lo hi)).i W σ G p = (sem Γ a).e W σ G fun x G1 => (sem Γ lo).o W σ G1 fun l G2 => (sem Γ hi).o W σ G2 fun h G3 => oq (cutD (lk G3 x) l h) fun d => walkV d G3 p := rfl
@[simp] theorem i_lst {es : List E} {p : WI} : (sem Γ (.lst false es)).i W σ G p = dA (semL Γ es) W σ G fun ds G1 => walkV (.lst ds) G1 p := rfl
@[simp] theorem i_call {f : Str} {as : List E} {p : WI} : (sem Γ (.call f as [] [])).i W σ G p = dA (semL Γ as) W σ G fun ds G1 => oq (Γ.fn f []) fun sp => sp ds [] G1 (fun x G2 => walkV x G2 p) fun e G' => W e σ G' := rfl
@[simp] theorem i_sortedF {a : E} {p : WI} : (sem Γ (.sorted false a)).i W σ G p = (sem Γ a).e W σ G fun x G1 => oq (srtOf (lk G1 x)) fun ds => sortOkS ds = true ∧ walkV (.lst (sortD ds)) G1 p := rfl
@[simp] theorem i_range1 {a : E} {p : WI} : (sem Γ (.range1 a)).i W σ G p = (sem Γ a).e W σ G fun x G1 => oq (intOf x) fun n => n ≤ LN ∧ -(2 ^ 61) ≤ n ∧ p ((List.range n.toNat).map fun i : Nat => .int (i : Int)) (fun _ => True) G1 := rfl
@[simp] theorem i_range2 {a b : E} {p : WI} : (sem Γ (.range2 a b)).i W σ G p = (sem Γ a).e W σ G fun x G1 => (sem Γ b).e W σ G1 fun y G2 => oq (intOf x) fun i => oq (intOf y) fun j => (-(2 ^ 61) ≤ i ∧ i < 2 ^ 61 ∧ -(2 ^ 61) ≤ j ∧ j < 2 ^ 61 ∧ j - i ≤ LN) ∧ p ((List.range (j - i).toNat).map fun n : Nat => .int (i + (n : Int))) (fun _ => True) G2 := rfl
@[simp] theorem p_name {i : Nat} {d : D} {k : Sl → Store → Prop} : (sem Γ (.pname i)).p W d σ G k = k (σ.set i (some d)) G := rfl
@[simp] theorem p_tup {ps : List E} {d : D} {k : Sl → Store → Prop} : (sem Γ (.ptup ps)).p W d σ G k = oq (seqD (lk G d)) fun ds => ds.length = (semL Γ ps).length ∧ dPs (semL Γ ps) W ds σ G k := rfl
@[simp] theorem p_sub {o i : E} {d : D} {k : Sl → Store → Prop} : (sem Γ (.psub o i)).p W d σ G k = (sem Γ o).e W σ G fun x G1 => (sem Γ i).e W σ G1 fun y G2 => setI x y d G2 fun G3 => k σ G3 := rfl
/-! values -/
@[simp] theorem slot0 {d : Option D} {r : Sl} : slot (d :: r) 0 = d := by cases d <;> rfl
@[simp] theorem slotS {d : Option D} {r : Sl} {n : Nat} : slot (d :: r) (n + 1) = slot r n := by unfold slot; simp
@[simp] theorem lk_non : lk G .non = .non := rfl
@[simp] theorem lk_bl {b : Bool} : lk G (.bl b) = .bl b := rfl
@[simp] theorem lk_int {b : Int} : lk G (.int b) = .int b := rfl
@[simp] theorem lk_str {b : Str} : lk G (.str b) = .str b := rfl
@[simp] theorem lk_tup {b : List D} : lk G (.tup b) = .tup b := rfl
@[simp] theorem lk_lst {b : List D} : lk G (.lst b) = .lst b := rfl
@[simp] theorem lk_dK {b : List (Key × D)} : lk G (.dK b) = .dK b := rfl
@[simp] theorem lk_dT {b : List (List Key × D)} : lk G (.dT b) = .dT b := rfl
@[simp] theorem lk_scr {b : List Int} : lk G (.scr b) = .scr b := rfl
theorem lk_l {a : Addr} {l : List D} (h : G a = some (.lst l)) : lk G (.ref a) = .lst l := by simp only [lk, h]
theorem lk_k {a : Addr} {l : List (Key × D)} (h : G a = some (.dK l)) : lk G (.ref a) = .dK l := by simp only [lk, h]
theorem lk_t {a : Addr} {l : List (List Key × D)} (h : G a = some (.dT l)) : lk G (.ref a) = .dT l := by simp only [lk, h]
@[simp] theorem lkc_in {x : D} : lkc .in_ G x = x := rfl
@[simp] theorem lkc_nin {x : D} : lkc .notIn G x = x := rfl
@[simp] theorem lkc_eq {x : D} : lkc .eq G x = lk G x := rfl
@[simp] theorem lkc_ne {x : D} : lkc .ne G x = lk G x := rfl
@[simp] theorem lkc_lt {x : D} : lkc .lt G x = lk G x := rfl
@[simp] theorem lkc_le {x : D} : lkc .le G x = lk G x := rfl
@[simp] theorem lkc_gt {x : D} : lkc .gt G x = lk G x := rfl
@[simp] theorem lkc_ge {x : D} : lkc .ge G x = lk G x := rfl
@[simp] theorem lkc_isN {x : D} : lkc .isN G x = lk G x := rfl
@[simp] theorem lkc_notN {x : D} : lkc .notN G x = lk G x := rfl
@[simp] theorem ix_tup {l : List D} {k : Int} : idxD (.tup l) (.int k) = atI l k := rfl
@[simp] theorem ix_lst {l : List D} {k : Int} : idxD (.lst l) (.int k) = atI l k := rfl
@[simp] theorem ix_scr {l : List Int} {k : Int} : idxD (.scr l) (.int k) = (atI l k).map D.int := rfl
@[simp] theorem at0 {α : Type} {x : α} {l : List α} : atI (x :: l) 0 = some x := by simp [atI, ixN]
@[simp] theorem at1 {α : Type} {x y : α} {l : List α} : atI (x :: y :: l) 1 = some y := atI_nat (j := 1) rfl
@[simp] theorem at2 {α : Type} {x y z : α} {l : List α} : atI (x :: y :: z :: l) 2 = some z := atI_nat (j := 2) rfl
@[simp] theorem at3 {α : Type} {x y z w : α} {l : List α} : atI (x :: y :: z :: w :: l) 3 = some w := atI_nat (j := 3) rfl
@[simp] theorem truth_bl {b : Bool} : truth (.bl b) = some b := rfl
@[simp] theorem int_int {i : Int} : intOf (.int i) = some i := rfl
@[simp] theorem add_ii {i j : Int} : binD .add (.int i) (.int j) = some (.int (i + j)) := rfl
@[simp] theorem sub_ii {i j : Int} : binD .sub (.int i) (.int j) = some (.int (i - j)) := rfl
theorem mul_ii {i j : Int} (h : (small i || small j) = true) : binD .mul (.int i) (.int j) = some (.int (i * j)) := by simp only [binD, h, if_true]
theorem mod_ii {i j : Int} (h : 0 < j) : binD .mod (.int i) (.int j) = some (.int (i % j)) := by simp [binD, h]
theorem div_ii {i j : Int} (h : 0 < j) (h2 : j < 1073741824) : binD .fdiv (.int i) (.int j) = some (.int (i / j)) := by simp [binD, h, h2]
@[simp] theorem gt_ii {i j : Int} : cmpD .gt (.int i) (.int j) = some (.bl (decide (j < i))) := rfl
@[simp] theorem ge_ii {i j : Int} : cmpD .ge (.int i) (.int j) = some (.bl (decide (j ≤ i))) := rfl
@[simp] theorem le_ii {i j : Int} : cmpD .le (.int i) (.int j) = some (.bl (decide (i ≤ j))) := rfl
theorem lt_ii {i j : Int} : cmpD .lt (.int i) (.int j) = some (.bl (decide (i < j))) := by
  show (ltD (.int i) (.int j)).map D.bl = _
  unfold ltD
  rw [if_pos (by rfl)]
  have e : PySem.W.dataLt (D.int i).py (D.int j).py = decide (i < j) := by
    have h := congrFun (congrFun (PySem.W.dataLe_int (fun b : Int => b)) j) i
    rw [PySem.W.dataLe_eq] at h
    have h' : (!PySem.W.dataLt (.int i) (.int j)) = decide (j ≤ i) := h
    show PySem.W.dataLt (.int i) (.int j) = decide (i < j)
    cases q : PySem.W.dataLt (.int i) (.int j) with
    | true => rw [q] at h'; have := of_decide_eq_false h'.symm; exact (decide_eq_true (by omega)).symm
    | false => rw [q] at h'; have := of_decide_eq_true h'.symm; exact (decide_eq_false (by omega)).symm
  rw [e]; rfl
end
end T
end
section
set_option Elab.async false
set_option linter.all false
set_option maxRecDepth 100000
/-! Loops and comprehensions by a word; stores. -/
namespace T
open PySem L2
theorem compW_pure {α : Type} {gd : Store → Prop} {step : α → (Option D → Store → Prop) → Store → Prop} {fin : List D → Store → Prop} {f : α → Option D} {G : Store} (hg : gd G) : ∀ (ds : List α) (acc : List D),
    (∀ d ∈ ds, ∀ k : Option D → Store → Prop, k (f d) G → step d k G) → fin (acc ++ ds.filterMap f) G → compW gd step fin ds acc G
  | [], acc, _, h => ⟨hg, by simpa using h⟩
  | d :: ds, acc, hs, h => ⟨hg, hs d (by simp) _ (compW_pure hg ds _ (fun x hx => hs x (by simp [hx])) (by
      cases e : f d with
      | none => rw [List.filterMap_cons_none e] at h; simpa using h
      | some y => rw [List.filterMap_cons_some e] at h; simpa using h))⟩
theorem compW_inv {α : Type} {gd : Store → Prop} {step : α → (Option D → Store → Prop) → Store → Prop} {fin : List D → Store → Prop} (I : List α → List D → Store → Prop) (hg : ∀ r acc G, I r acc G → gd G)
    (hs : ∀ d r acc G (k : Option D → Store → Prop), I (d :: r) acc G → (∀ o G', I r (acc ++ o.toList) G' → k o G') → step d k G) (hf : ∀ acc G, I [] acc G → fin acc G) : ∀ (ds : List α) (acc : List D) (G : Store), I ds acc G → compW gd step fin ds acc G
  | [], acc, G, h => ⟨hg _ _ _ h, hf _ _ h⟩
  | d :: ds, acc, G, h => ⟨hg _ _ _ h, hs d ds acc G _ h fun o G' h' => compW_inv I hg hs hf ds _ _ h'⟩
theorem loopW_inv {α : Type} {gd : Store → Prop} {step : α → (Sl → Store → Prop) → Sl → Store → Prop} {fin : Sl → Store → Prop} (I : List α → Sl → Store → Prop) (hg : ∀ r σ G, I r σ G → gd G)
    (hs : ∀ d r σ G (k : Sl → Store → Prop), I (d :: r) σ G → (∀ σ' G', I r σ' G' → k σ' G') → step d k σ G) (hf : ∀ σ G, I [] σ G → fin σ G) : ∀ (ds : List α) (σ : Sl) (G : Store), I ds σ G → loopW gd step fin ds σ G
  | [], σ, G, h => ⟨hg _ _ _ h, hf _ _ h⟩
  | d :: ds, σ, G, h => ⟨hg _ _ _ h, hs d ds σ G _ h fun σ' G' h' => loopW_inv I hg hs hf ds _ _ h'⟩
section
variable {G : Store} {p : Addr}
theorem viewD_refl {d : D} {G : Store} : ViewD d G d G := ⟨.refl G, .same d⟩
theorem ret_here {d : D} {G : Store} {q : DK} (h : q d G) : ∃ d' G'', ViewD d G d' G'' ∧ q d' G'' := ⟨d, G, viewD_refl, h⟩
theorem setI_l {l : List D} {n : Int} {j : Nat} {d : D} {k : Store → Prop} (hG : G p = some (.lst l)) (hj : ixN l.length n = some j) : setI (.ref p) (.int n) d G k = k (put G p (.lst (l.set j d))) := by
  apply propext
  constructor
  · rintro ⟨p', o, e, h, z⟩
    cases e
    rw [hG] at h; cases h
    obtain ⟨n', j', e1, e2, z⟩ := z
    cases e1
    rw [hj] at e2; cases e2
    exact z
  · exact fun h => ⟨p, _, rfl, hG, n, j, rfl, hj, h⟩
theorem lk_put {l : List D} : lk (put G p (.lst l)) (.ref p) = .lst l := lk_l put_same
theorem append_l {l : List D} {d : D} {q : DK} (hG : G p = some (.lst l)) (h : l.length < LN) : wBm .append (.ref p) [d] G q = q .non (put G p (.lst (l ++ [d]))) := by
  apply propext
  constructor
  · rintro ⟨p', o, e, h', r, e2, z⟩
    cases e
    rw [hG] at h'; cases h'
    simp [bmW, h] at e2
    subst e2
    exact z
  · exact fun z => ⟨p, _, rfl, hG, (.non, .lst (l ++ [d])), by simp [bmW, h], z⟩
@[simp] theorem walk_lst' {l : List D} {w : WI} : walkV (.lst l) G w = w l (fun _ => True) G := by
  unfold walkV; simp [itemsOf, seqOf, still]
@[simp] theorem walk_tup' {l : List D} {w : WI} : walkV (.tup l) G w = w l (fun _ => True) G := by
  unfold walkV; simp [itemsOf, seqOf, still]
theorem bi_of {b : Bi} {ds : List D} {q : DK} {d : D} (hb : b ≠ .listM) (h : biD b (ds.map (lk G)) = some d) : wBi b ds G q = q d G := by
  rw [wBi_of hb, h, oq_some]
/-- contexts, one function at a time -/
abbrev FnL := List ((Str × List Str) × SpD)
def mkΓ (gl : Str → Option D) : FnL → T.Ctx
  | [] => ⟨gl, fun _ _ => none, fun _ _ => none, fun _ => none, fun _ _ => False⟩
  | (f, sp) :: L => ⟨gl, fun g ks => if (g, ks) = f then some sp else (mkΓ gl L).fn g ks, fun _ _ => none, fun _ => none, fun _ _ => False⟩
theorem mkΓ_gl {gl : Str → Option D} : ∀ {L : FnL}, (mkΓ gl L).glob = gl
  | [] => rfl
  | _ :: _ => rfl
def pm (P : Pm) : SpD := fun ds _ G q _ => P ds G q
/-- a def called by keywords: all its parameters are given -/
def pmK (gD : List D → List D → List D) (n m : Nat) (P : Pm) : SpD := fun ds es G q _ => ds.length = n ∧ es.length = m ∧ P (gD ds es) G q
end
section
variable {Pr : Program} {w : World} {K : PySem.W.Frag} {mg : Str → Option Value} {base : Heap}
theorem Callee.mono {k k' : Nat} {f : Str} {ks : List Str} {sp : SpD} (c : Callee Pr w K mg base k f ks sp) (h : k ≤ k') : Callee Pr w K mg base k' f ks sp := by
  cases c with
  | plain h1 h2 F h3 => exact .plain h1 h2 (F.mono h) h3
  | kw h0 h1 h2 F h3 h4 h5 => exact .kw h0 h1 h2 (F.mono h) h3 h4 h5
theorem wld_nil {gl : Str → Option D} (k : Nat) (nob : ∀ x ∈ bNames, mg x = none) (hg : ∀ x d, gl x = some d → ∃ v u, mg x = some u ∧ RelV v u ∧ Cst K d v) : Wld (mkΓ gl []) Pr w K mg base k := ⟨nob, hg, fun f ks sp h => by cases h⟩
theorem wld_cons {gl : Str → Option D} {L : FnL} {k k' : Nat} {f : Str} {ks : List Str} {sp : SpD} (W : Wld (mkΓ gl L) Pr w K mg base k) (c : Callee Pr w K mg base k' f ks sp) (h : k ≤ k') : Wld (mkΓ gl (((f, ks), sp) :: L)) Pr w K mg base k' :=
  ⟨W.nob, fun x d e => W.glob x d (by rw [mkΓ_gl]; exact e), fun g kg sp' e => by
    by_cases q : (g, kg) = (f, ks)
    · have e1 : g = f := congrArg Prod.fst q
      have e2 : kg = ks := congrArg Prod.snd q
      subst e1; subst e2
      have e' : (if (g, kg) = (g, kg) then some sp else (mkΓ gl L).fn g kg) = some sp' := e
      rw [if_pos rfl] at e'
      cases e'; exact c
    · have e' : (if (g, kg) = (f, ks) then some sp else (mkΓ gl L).fn g kg) = some sp' := e
      rw [if_neg q] at e'
      exact (W.fns g kg sp' e').mono h⟩
theorem wld_mono {gl : Str → Option D} {L : FnL} {k k' : Nat} (W : Wld (mkΓ gl L) Pr w K mg base k) (h : k ≤ k') : Wld (mkΓ gl L) Pr w K mg base k' := ⟨W.nob, W.glob, fun g ks sp e => (W.fns g ks sp e).mono h⟩
/-- a def whose parameters are all given -/
theorem callee_of {x qual : Str} {st : Stmt} {a : Addr} {fd : FuncData} {ps : List Str} {P : Pm} {k : Nat} (Fd : Fun K x qual st a fd) (F : FnOk Pr w K mg base CX0 k a fd ps (spOf K ps.length P)) (hm : mg x = some (.ref a)) (hb : Binds K fd ps [])
    (hl : ∀ ds G q, P ds G q → ds.length = ps.length) : Callee Pr w K mg base k x [] (pm P) :=
  .plain hm Fd.kp F fun n => ⟨[], [], [], hb, .nil, fun _ _ => rfl, fun ds es G q r l h => ⟨by rw [← l]; exact hl _ _ _ h, by rw [List.append_nil]; exact h⟩⟩
end
end T
end
section
set_option Elab.async false
set_option linter.all false
set_option maxRecDepth 100000
/-! The law: its list is locked when it starts. -/
namespace T
open PySem PySem.Spec PyProof.Rows L2
section
variable {X : Cx} {W : Wi}
/-- before the first statement things may be locked -/
theorem _root_.L2.PSs.lk0 {sts : List Stmt} {t : TS} (h : PSs X sts t) : PSs X sts (fun D τ H => LockQ (fun H' => t D τ H') H) := ⟨fun pins s τ H D I q => by
  obtain ⟨H', I', z⟩ := q.run I
  exact h.run pins s τ H' D I' z⟩
end
/-- what a law is called with -/
def spL (K : PySem.W.Frag) (n : Nat) : Sp := fun vs H Q _ => ∃ (a : Addr) (ns : List Int), vs = [.ref a] ∧ SqL K H a (ns.map V.int) ∧ ns.length ≤ n ∧ ∀ H', Q (.bl true) H'
theorem scr_lock {K : PySem.W.Frag} {H : Hp} {a : Addr} {is : List Int} (h : SqL K H a (is.map V.int)) : LockQ (fun H' => Tr K H' st0 (.scr is) (.ref a)) H := by
  rcases h with (h | ⟨o, h⟩) | h
  · exact .lock a _ h trivial fun od => .done ⟨a, rfl, .inl ⟨rfl, od, upd_same⟩⟩
  · exact .done ⟨a, rfl, .inl ⟨rfl, o, h⟩⟩
  · exact .done ⟨a, rfl, .inr h⟩
theorem sto0 {K : PySem.W.Frag} {H : Hp} : Sto K H st0 := fun a o e => by cases e
theorem law_ok {Γ : T.Ctx} {N : List Str} {F : List (Str × List Str)} {Pr : Program} {w : World} {K : PySem.W.Frag} {mg : Str → Option Value} {base : Heap} {x qual : Str} {st : Stmt} {f : Addr} {fd : FuncData} {p : Str} {n k : Nat} {ir : List S}
    (Fd : Fun K x qual st f fd) (Sc : FnScope N [p] (defScope st)) (wl : Wld Γ Pr w K mg base k) (hF : ∀ f ∈ F, ∃ sp, Γ.fn f.1 f.2 = some sp) (hc : chkSs N F ir (defScope st) (fun _ => true) (defBody st) = true)
    (hP : ∀ is : List Int, is.length ≤ n → run Γ N.length ir (fun _ _ => False) [.scr is] st0 (fun d _ => d = .bl true)) : FnOk Pr w K mg base CX0 (k + 2) f fd [p] (spL K n) := by
  refine Fd.ok Sc (fun vs H Q E h => ?_) (fun cdv A outer s H vs Q E hr h => ?_)
  · obtain ⟨a, ns, rfl, _⟩ := h
    rfl
  · obtain ⟨a, is, rfl, hS, hl, kk⟩ := h
    have hpl : 1 ≤ N.length := by have := congrArg List.length Sc.pre; rw [List.length_take] at this; simp at this; omega
    have hX := chkSs_ok ir _ _ _ hc hF Sc.kind (cxOf CX0 Pr w K mg base N qual (defScope st) f cdv A outer s H E).nox W0 ⟨rfl, Sc.nd, rfl, rfl, wl, hr, fun _ _ => rfl, rfl⟩
    refine ⟨_, (PSs.lkR hX).lk0, (scr_lock hS).mono fun H0 t0 => ?_⟩
    have hR : run Γ N.length ir (fun _ _ => False) [.scr is] st0 (fun d _ => d = .bl true) := hP is hl
    have hT : TrL K H0 st0 [.scr is] [.ref a] := ⟨.ref a, [], rfl, t0, rfl⟩
    refine ⟨[D.scr is].map some ++ List.replicate (N.length - [D.scr is].length) none, st0, _, sts_start hT hpl, sto0, hR, ⟨?_, ?_, ?_, ?_⟩⟩
    · exact fun σ τ G1 H1 e1 A1 S1 z => by cases z
    · exact fun σ τ G1 H1 e1 A1 S1 z => z.elim
    · exact fun σ τ G1 H1 e1 A1 S1 z => z.elim
    · exact fun v d G1 H1 e1 S1 t1 ⟨d', G2, w, z⟩ => (viewD_lock t1 S1 w).mono fun H2 ⟨e2, t2, S2⟩ => by
        have z' : d' = .bl true := z
        subst z'
        have t' : v = .bl true := t2
        subst t'
        exact kk _
theorem mkΓ_some {gl : Str → Option D} : ∀ {L : FnL} {f : Str × List Str}, f ∈ L.map (·.1) → ∃ sp, (mkΓ gl L).fn f.1 f.2 = some sp
  | [], _, h => absurd h (by simp)
  | (g, sp) :: L, f, h => by
    by_cases q : f = g
    · exact ⟨sp, if_pos q⟩
    · obtain ⟨s, e⟩ := mkΓ_some (gl := gl) (L := L) (f := f) (by simpa [q] using h)
      exact ⟨s, (if_neg fun z => q z).trans e⟩
theorem mkΓ_hd {gl : Str → Option D} {L : FnL} {f : Str} {ks : List Str} {sp : SpD} : (mkΓ gl (((f, ks), sp) :: L)).fn f ks = some sp := if_pos rfl
theorem mkΓ_tl {gl : Str → Option D} {L : FnL} {f g : Str} {ks kg : List Str} {sp sp' : SpD} (n : ((f == g) && (ks == kg)) = false) (h : (mkΓ gl L).fn f ks = some sp) : (mkΓ gl (((g, kg), sp') :: L)).fn f ks = some sp := (if_neg fun z => by
  have e1 : f = g := congrArg Prod.fst z
  have e2 : ks = kg := congrArg Prod.snd z
  subst e1; subst e2; simp at n).trans h
/-- a def, all at once -/
theorem wld_def {gl : Str → Option D} {L : FnL} {N : List Str} {F : List (Str × List Str)} {Pr : Program} {w : World} {K : PySem.W.Frag} {mg : Str → Option Value} {base : Heap} {x : Str} {st : Stmt} {f : Addr} {fd : FuncData} {ps : List Str} {P : Pm} {k : Nat} {ir : List S}
    (W : Wld (mkΓ gl L) Pr w K mg base k) (Fd : Fun K x x st f fd) (hm : mg x = some (.ref f)) (hb : Binds K fd ps []) (Sc : FnScope N ps (defScope st)) (hF : ∀ f ∈ F, f ∈ L.map (·.1)) (hc : chkSs N F ir (defScope st) (fun _ => true) (defBody st) = true)
    (hl : ∀ ds G q, P ds G q → ds.length = ps.length) (hP : ∀ ds G q, P ds G q → run (mkΓ gl L) N.length ir (fun _ _ => False) ds G q) : Wld (mkΓ gl (((x, []), pm P) :: L)) Pr w K mg base (k + 2) :=
  wld_cons W (callee_of Fd (fn_ok Fd Sc W (fun f h => mkΓ_some (hF f h)) hc fun ds G q _ h => hP ds G q h) hm hb hl) (by omega)
/-- nothing is promised -/
theorem fn_none {Pr : Program} {w : World} {K : PySem.W.Frag} {mg : Str → Option Value} {base : Heap} {x qual : Str} {st : Stmt} {f : Addr} {fd : FuncData} {N ps : List Str} {P : Pm} {k : Nat} (Fd : Fun K x qual st f fd) (Sc : FnScope N ps (defScope st)) (hP : ∀ ds G q, ¬ P ds G q) :
    FnOk Pr w K mg base CX0 (k + 2) f fd ps (spOf K ps.length P) := by
  refine Fd.ok Sc (fun vs H Q E h => ?_) (fun cdv A outer s H vs Q E hr h => ?_)
  · obtain ⟨ds, G, q, _, _, _, z, _⟩ := h
    exact absurd z (hP _ _ _)
  · obtain ⟨ds, G, q, _, _, _, z, _⟩ := h
    exact absurd z (hP _ _ _)
/-- a def that calls itself: its promises by a measure -/
theorem wld_rec {gl : Str → Option D} {L : FnL} {N : List Str} {F : List (Str × List Str)} {Pr : Program} {w : World} {K : PySem.W.Frag} {mg : Str → Option Value} {base : Heap} {x : Str} {st : Stmt} {f : Addr} {fd : FuncData} {ps : List Str} {P : Nat → Pm} {k : Nat} {ir : List S}
    (W : Wld (mkΓ gl L) Pr w K mg base k) (Fd : Fun K x x st f fd) (hm : mg x = some (.ref f)) (hb : Binds K fd ps []) (Sc : FnScope N ps (defScope st)) (hF : ∀ f ∈ F, f ∈ (x, []) :: L.map (·.1)) (hc : chkSs N F ir (defScope st) (fun _ => true) (defBody st) = true)
    (hl : ∀ m ds G q, P m ds G q → ds.length = ps.length) (h0 : ∀ ds G q, ¬ P 0 ds G q) (hP : ∀ m ds G q, P (m + 1) ds G q → run (mkΓ gl (((x, []), pm (P m)) :: L)) N.length ir (fun _ _ => False) ds G q) : ∀ m, Wld (mkΓ gl (((x, []), pm (P m)) :: L)) Pr w K mg base (k + 2 + 2 * m)
  | 0 => wld_cons W (callee_of Fd (fn_none (k := k) Fd Sc h0) hm hb (hl 0)) (by omega)
  | m + 1 => by
    have ih := wld_rec W Fd hm hb Sc hF hc hl h0 hP m
    exact wld_cons W (callee_of Fd (fn_ok Fd Sc ih (fun f h => mkΓ_some (hF f h)) hc fun ds G q _ h => hP m ds G q h) hm hb (hl (m + 1))) (by omega)
theorem wld_kw {gl : Str → Option D} {L : FnL} {N : List Str} {F : List (Str × List Str)} {Pr : Program} {w : World} {K : PySem.W.Frag} {mg : Str → Option Value} {base : Heap} {x : Str} {st : Stmt} {f : Addr} {fd : FuncData} {ps ks : List Str} {P : Pm} {k n : Nat} {ir : List S}
    {g : List Value → List Value → List Value} {gV : List V → List V → List V} {gD : List D → List D → List D}
    (W : Wld (mkΓ gl L) Pr w K mg base k) (Fd : Fun K x x st f fd) (hm : mg x = some (.ref f)) (hb : KBn K fd ps n ks g gV) (hg : ∀ H G ds vs es zs, TrL K H G ds vs → TrL K H G es zs → TrL K H G (gD ds es) (gV vs zs)) (hks : ks ≠ [])
    (Sc : FnScope N ps (defScope st)) (hF : ∀ f ∈ F, f ∈ L.map (·.1)) (hc : chkSs N F ir (defScope st) (fun _ => true) (defBody st) = true)
    (hl : ∀ ds G q, P ds G q → ds.length = ps.length) (hP : ∀ ds G q, P ds G q → run (mkΓ gl L) N.length ir (fun _ _ => False) ds G q) : Wld (mkΓ gl (((x, ks), pmK gD n ks.length P) :: L)) Pr w K mg base (k + 2) :=
  wld_cons W (.kw hks hm Fd.kp (fn_ok Fd Sc W (fun f h => mkΓ_some (hF f h)) hc fun ds G q _ h => hP ds G q h) hb hg fun ds es G q r h => ⟨h.1, h.2.1, hl _ _ _ h.2.2, h.2.2⟩) (by omega)
/-- the same def without them: a written tuple stands there -/
theorem wld_dfl {gl : Str → Option D} {L : FnL} {N : List Str} {F : List (Str × List Str)} {Pr : Program} {w : World} {K : PySem.W.Frag} {mg : Str → Option Value} {base : Heap} {x : Str} {st : Stmt} {f : Addr} {fd : FuncData} {ps : List Str} {P : Pm} {k : Nat} {ir : List S} {dvs : List V} {dv : List Value} {dd : List D}
    (W : Wld (mkΓ gl L) Pr w K mg base k) (Fd : Fun K x x st f fd) (hm : mg x = some (.ref f)) (hb : Binds K fd ps dv) (hv : Vals dvs dv) (hd : ∀ H G, TrL K H G dd dvs)
    (Sc : FnScope N ps (defScope st)) (hF : ∀ f ∈ F, f ∈ L.map (·.1)) (hc : chkSs N F ir (defScope st) (fun _ => true) (defBody st) = true)
    (hl : ∀ ds G q, P ds G q → ds.length = ps.length) (hP : ∀ ds G q, P ds G q → run (mkΓ gl L) N.length ir (fun _ _ => False) ds G q) : Wld (mkΓ gl (((x, []), fun ds _ G q _ => P (ds ++ dd) G q) :: L)) Pr w K mg base (k + 2) :=
  wld_cons W (.plain hm Fd.kp (fn_ok Fd Sc W (fun f h => mkΓ_some (hF f h)) hc fun ds G q _ h => hP ds G q h) fun n => ⟨dvs, dv, dd, hb, hv, hd, fun ds es G q r l h => ⟨by rw [← l, ← List.length_append]; exact hl _ _ _ h, h⟩⟩) (by omega)
/-- g of values, of trees: alike -/
theorem kbn_of {K : PySem.W.Frag} {x : Str} {st : Stmt} {f : Addr} {fd : FuncData} {ps ks : List Str} {n : Nat} (Fd : Fun K x x st f fd)
    (h : ∀ (kV doc pm : Value) (an : Option Addr) (cdv ct : Value) (us ws : List Value), us.length = n → ws.length = ks.length → bindArgs (PySem.W.fnOf x x (defArgs st) (defBody st) (defScope st) .none kV doc pm an cdv ct) ⟨us, ks.zip ws⟩ = pure (ps.zip (us ++ ws))) :
    KBn K fd ps n ks (fun us ws => us ++ ws) (fun vs zs => vs ++ zs) := by
  obtain ⟨oc, od, kV, doc, pm, an, cdv, ct, osl, rfl, lk, hcd⟩ := Fd.ex
  exact ⟨fun s us ws _ h1 h2 => .of_eq (h kV doc pm an cdv ct us ws h1 h2), fun a b => a.append b⟩
/-- names that are numbers -/
theorem cst_int {K : PySem.W.Frag} {i : Int} : Cst K (.int i) (.int i) := fun _ _ => rfl
def AllNo (K : PySem.W.Frag) : List Str → Prop
  | [] => True
  | x :: xs => PySem.W.nsIn K mainGlobals x = some none ∧ AllNo K xs
theorem AllNo.all {K : PySem.W.Frag} {h : Heap} {mg : Str → Option Value} (X : K.In h) (G : h.Ns mainGlobals mg) : ∀ {xs : List Str}, AllNo K xs → ∀ x ∈ xs, mg x = none
  | [], _, x, hx => absurd hx (by simp)
  | y :: ys, ⟨e, r⟩, x, hx => by
    rcases List.mem_cons.mp hx with q | q
    · subst q; exact PySem.W.mg_none_of X G e
    · exact r.all X G x q
theorem nobs_of {K : PySem.W.Frag} {h : Heap} {mg : Str → Option Value} (X : K.In h) (G : h.Ns mainGlobals mg) (e : AllNo K bNames) : ∀ x ∈ bNames, mg x = none := e.all X G
end T
end
section
set_option Elab.async false
set_option linter.all false
set_option maxRecDepth 100000
/-! Values with a type of Lean: how they are written as trees, ==, in, sorted. -/
namespace T
open PySem PySem.W PyProof.Rows

class Enc (α : Type) where
  enc : α → D
  pu : ∀ x, (enc x).pure = true
  dp : Nat
  dep : ∀ x, (enc x).dep ≤ dp
  eq : ∀ x y, D.eq (enc x) (enc y) = true ↔ x = y
open Enc (enc)
section
variable {α β γ δ : Type} [Enc α] [Enc β] [Enc γ] [Enc δ]
theorem pureL_enc : ∀ l : List α, D.pureL (l.map enc) = true
  | [] => rfl
  | x :: l => by rw [List.map_cons, D.pureL, Enc.pu x, pureL_enc l]; rfl
theorem depL_enc : ∀ l : List α, D.depL (l.map enc) ≤ Enc.dp α
  | [] => Nat.zero_le _
  | x :: l => by rw [List.map_cons, D.depL]; exact Nat.max_le.mpr ⟨Enc.dep x, depL_enc l⟩
theorem eqL_enc : ∀ l m : List α, D.eqL (l.map enc) (m.map enc) = true ↔ l = m
  | [], [] => by simp [D.eqL]
  | [], _ :: _ => by simp [D.eqL]
  | _ :: _, [] => by simp [D.eqL]
  | x :: l, y :: m => by rw [List.map_cons, List.map_cons, D.eqL, Bool.and_eq_true, Enc.eq, eqL_enc l m, List.cons.injEq]
structure Tup (α : Type) where
  l : List α
  deriving DecidableEq, Inhabited
structure T3 (α β γ : Type) where
  a : α
  b : β
  c : γ
  deriving DecidableEq, Inhabited
structure T4 (α β γ δ : Type) where
  a : α
  b : β
  c : γ
  d : δ
  deriving DecidableEq, Inhabited
instance : Enc Int := ⟨D.int, fun _ => rfl, 0, fun _ => Nat.le_refl _, fun x y => by simp [D.eq]⟩
instance : Enc Str := ⟨D.str, fun _ => rfl, 0, fun _ => Nat.le_refl _, fun x y => by simp [D.eq]⟩
instance : Enc Bool := ⟨D.bl, fun _ => rfl, 0, fun _ => Nat.le_refl _, fun x y => by simp [D.eq]⟩
instance : Enc (α × β) := ⟨fun p => .tup [enc p.1, enc p.2], fun p => by simp [D.pure, D.pureL, Enc.pu], max (Enc.dp α) (Enc.dp β) + 1, fun p => by
  have := Enc.dep p.1; have := Enc.dep p.2; simp only [D.dep, D.depL]; omega, fun x y => by
  obtain ⟨a, b⟩ := x; obtain ⟨c, d⟩ := y; simp [D.eq, D.eqL, Enc.eq]⟩
instance : Enc (T3 α β γ) := ⟨fun p => .tup [enc p.a, enc p.b, enc p.c], fun p => by simp [D.pure, D.pureL, Enc.pu], max (Enc.dp α) (max (Enc.dp β) (Enc.dp γ)) + 1, fun p => by
  have := Enc.dep p.a; have := Enc.dep p.b; have := Enc.dep p.c; simp only [D.dep, D.depL]; omega, fun x y => by
  obtain ⟨a, b, c⟩ := x; obtain ⟨a', b', c'⟩ := y; simp [D.eq, D.eqL, Enc.eq]⟩
instance : Enc (T4 α β γ δ) := ⟨fun p => .tup [enc p.a, enc p.b, enc p.c, enc p.d], fun p => by simp [D.pure, D.pureL, Enc.pu], max (Enc.dp α) (max (Enc.dp β) (max (Enc.dp γ) (Enc.dp δ))) + 1, fun p => by
  have := Enc.dep p.a; have := Enc.dep p.b; have := Enc.dep p.c; have := Enc.dep p.d; simp only [D.dep, D.depL]; omega, fun x y => by
  obtain ⟨a, b, c, d⟩ := x; obtain ⟨a', b', c', d'⟩ := y; simp [D.eq, D.eqL, Enc.eq]⟩
instance : Enc (Tup α) := ⟨fun p => .tup (p.l.map enc), fun p => by simp [D.pure, pureL_enc], Enc.dp α + 1, fun p => by
  have := depL_enc p.l; simp only [D.dep]; omega, fun x y => by
  obtain ⟨a⟩ := x; obtain ⟨b⟩ := y; simp [D.eq, eqL_enc]⟩
instance : Enc (List α) := ⟨fun p => .lst (p.map enc), fun p => by simp [D.pure, pureL_enc], Enc.dp α + 1, fun p => by
  have := depL_enc p; simp only [D.dep]; omega, fun x y => by simp [D.eq, eqL_enc]⟩
/-- never None -/
class NonN (α : Type) [Enc α] : Prop where
  nn : ∀ x : α, enc x ≠ .non
instance : NonN Int := ⟨fun _ => nofun⟩
instance : NonN Str := ⟨fun _ => nofun⟩
instance : NonN Bool := ⟨fun _ => nofun⟩
instance : NonN (α × β) := ⟨fun _ => nofun⟩
instance : NonN (T3 α β γ) := ⟨fun _ => nofun⟩
instance : NonN (T4 α β γ δ) := ⟨fun _ => nofun⟩
instance : NonN (Tup α) := ⟨fun _ => nofun⟩
instance : NonN (List α) := ⟨fun _ => nofun⟩
theorem eq_non {d : D} (h : d ≠ .non) : D.eq .non d = false ∧ D.eq d .non = false := by
  cases d <;> first | (exact absurd rfl h) | exact ⟨rfl, rfl⟩
def encO : Option α → D
  | none => .non
  | some x => enc x
instance [NonN α] : Enc (Option α) := ⟨encO, fun p => by cases p; rfl; exact Enc.pu _, Enc.dp α, fun p => by cases p; exact Nat.zero_le _; exact Enc.dep _, fun x y => by
  cases x with
  | none => cases y with
    | none => simp [encO, D.eq]
    | some y => simp [encO, (eq_non (NonN.nn y)).1]
  | some x => cases y with
    | none => simp [encO, (eq_non (NonN.nn x)).2]
    | some y => simp [encO, Enc.eq]⟩
theorem eqD_enc [DecidableEq α] (x y : α) : D.eq (enc x) (enc y) = decide (x = y) := by
  rw [Bool.eq_iff_iff, Enc.eq, decide_eq_true_eq]
theorem eqOk_of {x y : D} (hx : x.pure = true) (hy : y.pure = true) (hd : x.dep ≤ 30) : eqOk x y = true := by
  unfold eqOk
  split
  · cases hx
  · cases hx
  · rename_i xs ys
    have h1 : D.pureL xs = true := hx
    have h2 : D.pureL ys = true := hy
    have h3 : D.depL xs ≤ 30 := by rw [D.dep] at hd; omega
    simp [h1, h2, h3]
  · simp [hx, hy, hd]
theorem eqD_pure {x y : D} (h : x.pure = true) : eqD x y = D.eq x y := by cases x <;> first | rfl | cases h
theorem cmp_eq [DecidableEq α] (x y : α) (h : Enc.dp α ≤ 30 := by decide) : cmpD .eq (enc x) (enc y) = some (.bl (decide (x = y))) := by
  simp only [cmpD]
  rw [if_pos (eqOk_of (Enc.pu x) (Enc.pu y) (Nat.le_trans (Enc.dep x) h)), eqD_pure (Enc.pu x), eqD_enc]
theorem cmp_ne [DecidableEq α] (x y : α) (h : Enc.dp α ≤ 30 := by decide) : cmpD .ne (enc x) (enc y) = some (.bl (!decide (x = y))) := by
  simp only [cmpD]
  rw [if_pos (eqOk_of (Enc.pu x) (Enc.pu y) (Nat.le_trans (Enc.dep x) h)), eqD_pure (Enc.pu x), eqD_enc]
theorem any_enc [DecidableEq α] (x : α) (l : List α) : (l.map enc).any (fun d => D.eq d (enc x)) = decide (x ∈ l) := by
  rw [List.any_map]
  induction l with
  | nil => rfl
  | cons y l ih => rw [List.any_cons, ih]; simp only [Function.comp, eqD_enc, List.mem_cons, Bool.decide_or]; congr 1; exact decide_eq_decide.mpr eq_comm
theorem inD_tup [DecidableEq α] (x : α) (l : List α) (h : Enc.dp α ≤ 30 := by decide) : inD (enc x) (.tup (l.map enc)) = some (decide (x ∈ l)) := by
  simp only [inD]
  rw [if_pos (by simp [Enc.pu x, pureL_enc, Nat.le_trans (Enc.dep x) h]), any_enc]
theorem inD_lst [DecidableEq α] (x : α) (l : List α) (h : Enc.dp α ≤ 30 := by decide) : inD (enc x) (.lst (l.map enc)) = some (decide (x ∈ l)) := by
  simp only [inD]
  rw [if_pos (by simp [Enc.pu x, pureL_enc, Nat.le_trans (Enc.dep x) h]), any_enc]
theorem cmp_in_tup [DecidableEq α] (x : α) (l : List α) (h : Enc.dp α ≤ 30 := by decide) : cmpD .in_ (enc x) (.tup (l.map enc)) = some (.bl (decide (x ∈ l))) := by simp only [cmpD, inD_tup x l h]; rfl
theorem cmp_in_lst [DecidableEq α] (x : α) (l : List α) (h : Enc.dp α ≤ 30 := by decide) : cmpD .in_ (enc x) (.lst (l.map enc)) = some (.bl (decide (x ∈ l))) := by simp only [cmpD, inD_lst x l h]; rfl
theorem cmp_ni_tup [DecidableEq α] (x : α) (l : List α) (h : Enc.dp α ≤ 30 := by decide) : cmpD .notIn (enc x) (.tup (l.map enc)) = some (.bl (!decide (x ∈ l))) := by simp only [cmpD, inD_tup x l h]; rfl
theorem cmp_ni_lst [DecidableEq α] (x : α) (l : List α) (h : Enc.dp α ≤ 30 := by decide) : cmpD .notIn (enc x) (.lst (l.map enc)) = some (.bl (!decide (x ∈ l))) := by simp only [cmpD, inD_lst x l h]; rfl
end

/-! ### order -/
class EncO (α : Type) extends Enc α where
  al : ∀ x y, alike (enc x).py (enc y).py = true
section
variable {α β γ δ : Type} [EncO α] [EncO β] [EncO γ] [EncO δ]
theorem alAll_enc : ∀ l m : List α, alikeAll (D.pyL (l.map enc)) (D.pyL (m.map enc)) = true
  | [], _ => by simp [D.pyL, alikeAll]
  | _ :: _, [] => by simp [D.pyL, alikeAll]
  | x :: l, y :: m => by rw [List.map_cons, List.map_cons, D.pyL, D.pyL, alikeAll, EncO.al, alAll_enc l m]; rfl
instance : EncO Int := ⟨fun x y => by simp [enc, D.py, alike]⟩
instance : EncO Str := ⟨fun x y => by simp [enc, D.py, alike]⟩
instance : EncO Bool := ⟨fun x y => by simp [enc, D.py, alike]⟩
instance : EncO (α × β) := ⟨fun x y => by simp [enc, D.py, D.pyL, alike, alikeAll, EncO.al]⟩
instance : EncO (T3 α β γ) := ⟨fun x y => by simp [enc, D.py, D.pyL, alike, alikeAll, EncO.al]⟩
instance : EncO (T4 α β γ δ) := ⟨fun x y => by simp [enc, D.py, D.pyL, alike, alikeAll, EncO.al]⟩
instance : EncO (Tup α) := ⟨fun x y => by show alike (.tuple _) (.tuple _) = true; rw [alike]; exact alAll_enc _ _⟩
instance : EncO (List α) := ⟨fun x y => by show alike (.list _) (.list _) = true; rw [alike]; exact alAll_enc _ _⟩
def ltE (x y : α) : Bool := dataLt (enc x).py (enc y).py
abbrev leE (x y : α) : Bool := !ltE y x
theorem ltE_irr (x : α) : ltE x x = false := lex_irrefl _
theorem ltE_trans {x y z : α} (h : ltE x y = true) (k : ltE y z = true) : ltE x z = true := lex_trans _ _ _ h k
theorem ltE_neg {x y z : α} (h : ltE x z = true) : ltE x y = true ∨ ltE y z = true := lex_negTrans _ _ _ h
theorem ltE_tri {x y : α} (h : ltE x y = false) (k : ltE y x = false) : x = y := by
  have e : keyToks (enc x).py = keyToks (enc y).py := lex_total _ _ h k
  have t := toks_eqv (enc x).py (enc y).py (EncO.al x y)
  cases q : PyData.eqv (enc x).py (enc y).py with
  | true =>
    rw [eq_py _ _ (Enc.pu x) (Enc.pu y)] at q
    exact (Enc.eq x y).mp q
  | false =>
    have z := t.2 q [] [Sum.inl 0]
    rw [e] at z
    rw [lex_pre, lex_irrefl] at z
    cases z
theorem ltE_asym {x y : α} (h : ltE x y = true) : ltE y x = false := by
  cases q : ltE y x with
  | false => rfl
  | true => have := ltE_trans h q; rw [ltE_irr] at this; cases this
theorem leE_total (x y : α) : (leE x y || leE y x) = true := by
  cases h : ltE y x with
  | false => simp [leE, h]
  | true => simp [leE, h, ltE_asym h]
theorem leE_trans (x y z : α) (h : leE x y = true) (k : leE y z = true) : leE x z = true := by
  simp only [leE, Bool.not_eq_true'] at h k ⊢
  cases q : ltE z x with
  | false => rfl
  | true =>
    rcases ltE_neg (y := y) q with w | w
    · rw [w] at k; cases k
    · rw [w] at h; cases h
theorem leE_anti {x y : α} (h : leE x y = true) (k : leE y x = true) : x = y := by
  simp only [leE, Bool.not_eq_true'] at h k
  exact ltE_tri k h
def sortE (l : List α) : List α := l.mergeSort leE
theorem sortD_enc (l : List α) : sortD (l.map enc) = (sortE l).map enc := (List.map_mergeSort (r := leE) (s := leD) fun a _ b _ => rfl).symm
theorem sortE_perm (l : List α) : (sortE l).Perm l := List.mergeSort_perm _ _
theorem sortE_le (l : List α) : (sortE l).Pairwise fun a b => leE a b = true := List.pairwise_mergeSort leE_trans leE_total l
theorem lt_of_le {l : List α} (h : l.Pairwise fun a b => leE a b = true) (nd : l.Nodup) : l.Pairwise fun a b => ltE a b = true := by
  refine (h.and nd).imp fun {a b} ⟨h1, h2⟩ => ?_
  cases q : ltE a b with
  | true => rfl
  | false =>
    simp only [leE, Bool.not_eq_true'] at h1
    exact absurd (ltE_tri q h1) h2
theorem sortE_lt {l : List α} (nd : l.Nodup) : (sortE l).Pairwise fun a b => ltE a b = true := lt_of_le (sortE_le l) ((sortE_perm l).nodup_iff.mpr nd)
theorem le_of_lt {l : List α} (h : l.Pairwise fun a b => ltE a b = true) : l.Pairwise fun a b => leE a b = true := h.imp fun {a b} h => by simp only [leE, ltE_asym h]; rfl
theorem sort_uniq {l m : List α} (p : l.Perm m) (hl : l.Pairwise fun a b => leE a b = true) (hm : m.Pairwise fun a b => leE a b = true) : l = m :=
  List.Perm.eq_of_pairwise (fun a b _ _ h k => leE_anti h k) hl hm p
theorem sortE_of {l m : List α} (p : l.Perm m) (hm : m.Pairwise fun a b => ltE a b = true) : sortE l = m := sort_uniq ((sortE_perm l).trans p) (sortE_le l) (le_of_lt hm)
theorem sortE_id {l : List α} (hm : l.Pairwise fun a b => ltE a b = true) : sortE l = l := sortE_of (.refl _) hm
theorem nodup_lt {l : List α} (h : l.Pairwise fun a b => ltE a b = true) : l.Nodup := h.imp fun {a b} h e => by subst e; rw [ltE_irr] at h; cases h
/-- may be sorted by the machine -/
class SrtK (α : Type) [EncO α] : Prop where
  srt : (∀ x : α, ∃ d ds, enc x = .tup (d :: ds)) ∨ ∀ x : α, enc x ≠ .non ∧ ∀ ds, enc x ≠ .tup ds
instance : SrtK Int := ⟨.inr fun _ => ⟨nofun, nofun⟩⟩
instance : SrtK Str := ⟨.inr fun _ => ⟨nofun, nofun⟩⟩
instance : SrtK (α × β) := ⟨.inl fun _ => ⟨_, _, rfl⟩⟩
instance : SrtK (T3 α β γ) := ⟨.inl fun _ => ⟨_, _, rfl⟩⟩
instance : SrtK (T4 α β γ δ) := ⟨.inl fun _ => ⟨_, _, rfl⟩⟩
theorem sortOk_enc0 [SrtK α] (l : List α) (h : Enc.dp α ≤ 30 := by decide) : sortOk (l.map enc) = true := by
  unfold sortOk
  simp only [Bool.and_eq_true, Bool.or_eq_true, decide_eq_true_eq, List.all_eq_true]
  refine ⟨⟨⟨pureL_enc l, Nat.le_trans (depL_enc l) h⟩, fun x hx y hy => ?_⟩, (SrtK.srt (α := α)).imp (fun k x hx => ?_) fun k x hx => ?_⟩
  · obtain ⟨a, _, rfl⟩ := List.mem_map.mp hx
    obtain ⟨b, _, rfl⟩ := List.mem_map.mp hy
    exact EncO.al a b
  · obtain ⟨a, _, rfl⟩ := List.mem_map.mp hx
    obtain ⟨d, ds, e⟩ := k a
    rw [e]
  · obtain ⟨a, _, rfl⟩ := List.mem_map.mp hx
    obtain ⟨e1, e2⟩ := k a
    split
    · rename_i ds e; exact absurd e (e2 ds)
    · rename_i e; exact absurd e e1
    · rfl
theorem sortOk_enc [SrtK α] (l : List α) (h : Enc.dp α ≤ 30 := by decide) : sortOkS (l.map enc) = true := by unfold sortOkS; rw [sortOk_enc0 l h]; rfl
theorem cmp_lt (x y : α) [NonN α] (h : Enc.dp α ≤ 30 := by decide) : cmpD .lt (enc x) (enc y) = some (.bl (ltE x y)) := by
  simp only [cmpD, ltD]
  have hn : isNonD (enc x) = false := by
    have := NonN.nn x
    cases q : enc x <;> first | rfl | exact absurd q this
  rw [if_pos (by simp [Enc.pu x, Enc.pu y, EncO.al, Nat.le_trans (Enc.dep x) h, hn])]
  rfl
theorem ltE_int (x y : Int) : ltE x y = decide (x < y) := dataLt_int x y
theorem ltE_pair [DecidableEq α] (x y : α × β) : ltE x y = if x.1 = y.1 then ltE x.2 y.2 else ltE x.1 y.1 := by
  obtain ⟨a, b⟩ := x; obtain ⟨c, d⟩ := y
  have e := dataLt_pair (x := (enc a).py) (y := (enc b).py) (x' := (enc c).py) (y' := (enc d).py) (EncO.al a c) (EncO.al b d)
  rw [eq_py _ _ (Enc.pu a) (Enc.pu c), eqD_enc, eq_py _ _ (Enc.pu b) (Enc.pu d)] at e
  refine e.trans ?_
  by_cases h : a = c
  · simp only [h, decide_true, if_true]
    cases q : D.eq (enc b) (enc d) with
    | false => rfl
    | true =>
      have := (Enc.eq b d).mp q
      subst this
      simp [ltE_irr]
  · simp only [h, decide_false, if_false]
    rfl
end

/-! ### loops over typed lists -/
section
variable {α β : Type} {e : α → D} {gd : Store → Prop}
theorem filterMap_ite {f : α → β} {p : α → Bool} : ∀ xs : List α, xs.filterMap (fun x => if p x = true then some (f x) else none) = (xs.filter p).map f
  | [] => rfl
  | x :: xs => by
    rw [List.filterMap_cons, List.filter_cons, filterMap_ite xs]
    by_cases q : p x = true
    · simp [q]
    · simp [q]
theorem compW_t {step : D → (Option D → Store → Prop) → Store → Prop} {fin : List D → Store → Prop} (f : α → Option D) {G : Store} (hg : gd G) : ∀ (xs : List α) (acc : List D), (∀ x ∈ xs, ∀ k : Option D → Store → Prop, k (f x) G → step (e x) k G) → fin (acc ++ xs.filterMap f) G → compW gd step fin (xs.map e) acc G
  | [], acc, _, h => ⟨hg, by simpa using h⟩
  | x :: xs, acc, hs, h => ⟨hg, hs x (by simp) _ (compW_t f hg xs _ (fun y hy => hs y (by simp [hy])) (by
      cases q : f x with
      | none => rw [List.filterMap_cons_none q] at h; simpa using h
      | some d => rw [List.filterMap_cons_some q] at h; simpa using h))⟩
theorem compW_map {step : D → (Option D → Store → Prop) → Store → Prop} {fin : List D → Store → Prop} (f : α → D) {G : Store} {xs : List α} (hg : gd G) (hs : ∀ x ∈ xs, ∀ k : Option D → Store → Prop, k (some (f x)) G → step (e x) k G) (h : fin (xs.map f) G) : compW gd step fin (xs.map e) [] G :=
  compW_t (fun x => some (f x)) hg xs [] hs (by
    rw [List.nil_append, show xs.filterMap (fun x => some (f x)) = xs.map f from by rw [← List.filterMap_eq_map]; rfl]
    exact h)
theorem compW_filter {step : D → (Option D → Store → Prop) → Store → Prop} {fin : List D → Store → Prop} (p : α → Bool) (f : α → D) {G : Store} {xs : List α} (hg : gd G) (hs : ∀ x ∈ xs, ∀ k : Option D → Store → Prop, k (if p x = true then some (f x) else none) G → step (e x) k G) (h : fin ((xs.filter p).map f) G) : compW gd step fin (xs.map e) [] G :=
  compW_t (fun x => if p x = true then some (f x) else none) hg xs [] hs (by rw [List.nil_append, filterMap_ite]; exact h)
theorem compW_st {step : D → (Option D → Store → Prop) → Store → Prop} {fin : List D → Store → Prop} (I : List α → List D → Store → Prop) (hg : ∀ r acc G, I r acc G → gd G)
    (hs : ∀ x r acc G (k : Option D → Store → Prop), I (x :: r) acc G → (∀ o G', I r (acc ++ o.toList) G' → k o G') → step (e x) k G) (hf : ∀ acc G, I [] acc G → fin acc G) : ∀ (xs : List α) (acc : List D) (G : Store), I xs acc G → compW gd step fin (xs.map e) acc G
  | [], acc, G, h => ⟨hg _ _ _ h, hf _ _ h⟩
  | x :: xs, acc, G, h => ⟨hg _ _ _ h, hs x xs acc G _ h fun o G' h' => compW_st I hg hs hf xs _ G' h'⟩
theorem loopW_t {step : D → (Sl → Store → Prop) → Sl → Store → Prop} {fin : Sl → Store → Prop} (I : List α → Sl → Store → Prop) (hg : ∀ r σ G, I r σ G → gd G)
    (hs : ∀ x r σ G (k : Sl → Store → Prop), I (x :: r) σ G → (∀ σ' G', I r σ' G' → k σ' G') → step (e x) k σ G) (hf : ∀ σ G, I [] σ G → fin σ G) : ∀ (xs : List α) (σ : Sl) (G : Store), I xs σ G → loopW gd step fin (xs.map e) σ G
  | [], σ, G, h => ⟨hg _ _ _ h, hf _ _ h⟩
  | x :: xs, σ, G, h => ⟨hg _ _ _ h, hs x xs σ G _ h fun σ' G' h' => loopW_t I hg hs hf xs σ' G' h'⟩
/-- a loop that only goes on: what it has folded -/
theorem loopW_fold {step : D → (Sl → Store → Prop) → Sl → Store → Prop} {fin : Sl → Store → Prop} {S : Type} (R : S → Sl → Store → Prop) (f : S → α → S) (hg : ∀ s σ G, R s σ G → gd G) :
    ∀ (xs : List α) (s0 : S), (∀ s x σ G (k : Sl → Store → Prop), x ∈ xs → R s σ G → (∀ σ' G', R (f s x) σ' G' → k σ' G') → step (e x) k σ G) → (∀ σ G, R (xs.foldl f s0) σ G → fin σ G) → ∀ (σ : Sl) (G : Store), R s0 σ G → loopW gd step fin (xs.map e) σ G
  | [], s0, hs, hf, σ, G, h => ⟨hg _ _ _ h, hf _ _ h⟩
  | x :: xs, s0, hs, hf, σ, G, h => ⟨hg _ _ _ h, hs s0 x σ G _ (by simp) h fun σ' G' h' => loopW_fold R f hg xs (f s0 x) (fun s y σ G k hy => hs s y σ G k (by simp [hy])) hf σ' G' h'⟩
theorem dcompW_t {κ : Type} [DecidableEq κ] {step : D → (κ → D → Store → Prop) → Store → Prop} {fin : List (κ × D) → Store → Prop} (f : α → κ) (v : α → D) {G : Store} (hg : gd G) : ∀ (xs : List α) (acc : List (κ × D)), (∀ x ∈ xs, ∀ k : κ → D → Store → Prop, k (f x) (v x) G → step (e x) k G) →
    fin (xs.foldl (fun acc x => putG acc (f x) (v x)) acc) G → dcompW gd step fin (xs.map e) acc G
  | [], acc, _, h => ⟨hg, h⟩
  | x :: xs, acc, hs, h => ⟨hg, hs x (by simp) _ (dcompW_t f v hg xs _ (fun y hy => hs y (by simp [hy])) h)⟩
/-! dicts whose keys are unlike -/
theorem any_key {κ : Type} [DecidableEq κ] (l : List (κ × β)) (k : κ) : (l.any fun kv => decide (kv.1 = k)) = decide (k ∈ l.map (·.1)) := by
  induction l with
  | nil => rfl
  | cons x l ih => rw [List.any_cons, ih]; simp only [List.map_cons, List.mem_cons, Bool.decide_or]; congr 1; exact decide_eq_decide.mpr eq_comm
theorem putG_new {κ : Type} [DecidableEq κ] {l : List (κ × β)} {k : κ} {v : β} (h : k ∉ l.map (·.1)) : putG l k v = l ++ [(k, v)] := by
  unfold putG
  rw [any_key, if_neg (by simpa using h)]
theorem fold_put {κ : Type} [DecidableEq κ] (f : α → κ) (v : α → β) : ∀ (xs : List α) (acc : List (κ × β)), (xs.map f).Nodup → (∀ x ∈ xs, f x ∉ acc.map (·.1)) → xs.foldl (fun acc x => putG acc (f x) (v x)) acc = acc ++ xs.map fun x => (f x, v x)
  | [], acc, _, _ => by simp
  | x :: xs, acc, nd, h => by
    rw [List.map_cons, List.nodup_cons] at nd
    rw [List.foldl_cons, putG_new (h x (by simp)), fold_put f v xs _ nd.2 (fun y hy => by
      rw [List.map_append, List.mem_append]
      rintro (q | q)
      · exact h y (by simp [hy]) q
      · have : f y = f x := by simpa using q
        exact nd.1 (by rw [← this]; exact List.mem_map.mpr ⟨y, hy, rfl⟩))]
    simp
theorem fold_put0 {κ : Type} [DecidableEq κ] (f : α → κ) (v : α → β) {xs : List α} (nd : (xs.map f).Nodup) : xs.foldl (fun acc x => putG acc (f x) (v x)) [] = xs.map fun x => (f x, v x) := by
  rw [fold_put f v xs [] nd (by simp), List.nil_append]
theorem look_map {κ : Type} [DecidableEq κ] (f : α → κ) (v : α → β) : ∀ (xs : List α) (k : κ), look (xs.map fun x => (f x, v x)) k = (xs.find? fun x => decide (f x = k)).map v
  | [], _ => rfl
  | x :: xs, k => by
    have ih := look_map f v xs k
    unfold look at ih ⊢
    rw [List.map_cons, List.find?_cons, List.find?_cons]
    by_cases q : f x = k
    · simp [q]
    · simp only [q, decide_false]; exact ih
theorem look_in {κ : Type} [DecidableEq κ] (f : α → κ) (v : α → β) {xs : List α} {x : α} (nd : (xs.map f).Nodup) (hx : x ∈ xs) : look (xs.map fun x => (f x, v x)) (f x) = some (v x) := by
  rw [look_map]
  induction xs with
  | nil => cases hx
  | cons y xs ih =>
    rw [List.map_cons, List.nodup_cons] at nd
    rw [List.find?_cons]
    by_cases q : f y = f x
    · rcases List.mem_cons.mp hx with e | e
      · subst e; simp
      · exact absurd (by rw [q]; exact List.mem_map.mpr ⟨x, e, rfl⟩) nd.1
    · simp only [q, decide_false]
      rcases List.mem_cons.mp hx with e | e
      · subst e; exact absurd rfl q
      · exact ih nd.2 e
end
end T
end
section
set_option Elab.async false
set_option linter.all false
set_option maxRecDepth 100000
/-! What each def's text says (printed by gen_all.py). -/
namespace C
open T PySem
def n_is_int : List Str := ["thing"]
def p_is_int : List Str := ["thing"]
def ir_is_int : List S := [.ret (.and [(.bi .isInt [(.var 0)]), (.not (.bi .isBool [(.var 0)]))])]
def n_is_whole : List Str := ["thing", "low", "high"]
def p_is_whole : List Str := ["thing", "low", "high"]
def ir_is_whole : List S := [.ret (.and [(.call "is_int" [(.var 0)] [] []), (.chain .le .le (.var 1) (.var 0) (.var 2))])]
def n_is_tuple : List Str := ["thing", "many"]
def p_is_tuple : List Str := ["thing", "many"]
def ir_is_tuple : List S := [.ret (.and [(.bi .isTup [(.var 0)]), (.cmp .eq (.bi .len [(.var 0)]) (.var 1))])]
def n__law_well : List Str := ["script", "k", "cell", "primes", "seed"]
def p__law_well : List Str := ["script", "k"]
def ir__law_well : List S := [.asg (.pname 2) (.int 0), .ite (.cmp .lt (.var 1) (.bi .len [(.var 0)])) [.asg (.pname 2) (.idx (.var 0) (.var 1))] [], .asg (.pname 3) (.lst false [(.int 2147483647), (.int 2147483629), (.int 2147483587), (.int 2147483579), (.int 2147483563), (.int 2147483549), (.int 2147483543), (.int 2147483497)]), .asg (.pname 4) (.bin .mod (.bin .mul (.bin .add (.bin .mod (.var 2) (.int 2147483489)) (.int 1)) (.bin .add (.int 48271) (.bin .mul (.int 2) (.var 1)))) (.int 2147483489)), .asg (.pname 4) (.bin .add (.bin .add (.bin .mod (.bin .mul (.var 4) (.var 4)) (.int 2147483477)) (.var 1)) (.int 1)), .ite (.cmp .ge (.var 2) (.bin .pow (.int 10) (.int 18))) [.ret (.lst true [(.var 2), (.var 4), (.idx (.var 3) (.bin .mod (.var 1) (.int 8)))])] [], .ret (.lst true [(.int 0), (.var 4), (.idx (.var 3) (.bin .mod (.var 1) (.int 8)))])]
def n__law_take : List Str := ["well", "many", "got"]
def p__law_take : List Str := ["well", "many"]
def ir__law_take : List S := [.ite (.cmp .gt (.idx (.var 0) (.int 0)) (.int 0)) [.asg (.pname 2) (.bin .mod (.idx (.var 0) (.int 0)) (.var 1)), .asg (.psub (.var 0) (.int 0)) (.bin .fdiv (.idx (.var 0) (.int 0)) (.var 1)), .ret (.var 2)] [], .asg (.psub (.var 0) (.int 1)) (.bin .add (.bin .mod (.bin .mul (.idx (.var 0) (.int 1)) (.int 48271)) (.idx (.var 0) (.int 2))) (.int 1)), .ret (.bin .mod (.bin .fdiv (.bin .mod (.bin .mul (.idx (.var 0) (.int 1)) (.idx (.var 0) (.int 1))) (.int 2147483423)) (.int 7)) (.var 1))]
def n__law_is_int : List Str := ["thing", "low", "high"]
def p__law_is_int : List Str := ["thing", "low", "high"]
def ir__law_is_int : List S := [.ret (.and [(.bi .isInt [(.var 0)]), (.not (.bi .isBool [(.var 0)])), (.cmp .le (.var 1) (.var 0)), (.cmp .le (.var 0) (.var 2))])]
def n__law_says : List Str := ["found", "due"]
def p__law_says : List Str := ["found", "due"]
def ir__law_says : List S := [.ret (.and [(.bi .isBool [(.var 0)]), (.cmp .eq (.var 0) (.var 1))])]
def n__law_thing : List Str := ["well", "deep", "way", "some", "parts", "k"]
def p__law_thing : List Str := ["well", "deep"]
def ir__law_thing : List S := [.asg (.pname 2) (.call "_law_take" [(.var 0), (.int 9)] [] []), .ite (.or [(.cmp .lt (.var 2) (.int 6)), (.cmp .eq (.var 1) (.int 0))]) [.asg (.pname 3) (.lst false [(.int 0), (.neg (.int 1)), (.int 1), (.bl true), (.bl false), .non, (.str ""), (.str "a"), (.str "ab"), (.str "A"), (.str "a b"), (.str "abcdefghi"), (.int 2), (.int 3), (.neg (.int 7)), (.str "take"), (.bin .pow (.int 10) (.int 11)), (.int 8)]), .ret (.idx (.bin .add (.var 3) (.lst false [(.tup []), (.lst false []), (.tup [(.int 0), (.int 1)])])) (.call "_law_take" [(.var 0), (.int 21)] [] []))] [], .asg (.pname 4) (.lc false (.call "_law_thing" [(.var 0), (.bin .sub (.var 1) (.int 1))] [] []) (.pname 5) (.range1 (.call "_law_take" [(.var 0), (.int 6)] [] [])) [] [5]), .ret (.idx (.lst false [(.var 4), (.bi .tuple [(.var 4)]), (.bi .tuple [(.var 4)])]) (.bin .sub (.var 2) (.int 6)))]
def n__law_otherwise : List Str := ["well", "thing", "deep", "parts", "at", "way", "near"]
def p__law_otherwise : List Str := ["well", "thing", "deep"]
def ir__law_otherwise : List S := [.asg (.pname 3) (.bi .listM [(.var 1)]), .ite (.cmp .eq (.var 3) (.lst false [])) [.ret (.tup [(.call "_law_thing" [(.var 0), (.int 1)] [] [])])] [], .asg (.pname 4) (.call "_law_take" [(.var 0), (.bi .len [(.var 3)])] [] []), .ite (.and [(.bi .isTup [(.idx (.var 3) (.var 4))]), (.cmp .gt (.var 2) (.int 0)), (.cmp .gt (.call "_law_take" [(.var 0), (.int 4)] [] []) (.int 0))]) [.asg (.psub (.var 3) (.var 4)) (.call "_law_otherwise" [(.var 0), (.idx (.var 3) (.var 4)), (.bin .sub (.var 2) (.int 1))] [] []), .ret (.bi .tuple [(.var 3)])] [], .asg (.pname 5) (.call "_law_take" [(.var 0), (.int 9)] [] []), .ite (.cmp .eq (.var 5) (.int 0)) [.exp (.bm (.var 3) .popAt [(.var 4)])] [.ite (.cmp .eq (.var 5) (.int 1)) [.exp (.bm (.var 3) .insert [(.var 4), (.idx (.var 3) (.var 4))])] [.ite (.cmp .eq (.var 5) (.int 2)) [.asg (.pcut (.var 3) (.var 4) (.bin .add (.var 4) (.int 2))) (.rev (.cut (.var 3) (.var 4) (.bin .add (.var 4) (.int 2))))] [.ite (.cmp .eq (.var 5) (.int 3)) [.asg (.psub (.var 3) (.var 4)) (.call "_law_thing" [(.var 0), (.int 2)] [] [])] [.ite (.or [(.cmp .eq (.var 5) (.int 4)), (.cmp .eq (.var 5) (.int 5))]) [.asg (.pname 6) (.lst false [(.int 0), (.int 1), (.neg (.int 1)), (.int 2), (.int 8), (.int 9), (.int 200), (.int 201), (.int 400), (.int 401), .non, (.bl true), (.bl false), (.str "a"), (.tup []), (.tup [(.int 1), (.int 1)]), (.tup [(.int 2), (.int 4)]), (.tup [(.int 0), (.int 1)]), (.int 7), (.str "cut")]), .asg (.psub (.var 3) (.var 4)) (.idx (.var 6) (.call "_law_take" [(.var 0), (.int 20)] [] []))] [.ite (.and [(.cmp .eq (.var 5) (.int 6)), (.bi .isInt [(.idx (.var 3) (.var 4))]), (.not (.bi .isBool [(.idx (.var 3) (.var 4))]))]) [.asg (.psub (.var 3) (.var 4)) (.bin .add (.idx (.var 3) (.var 4)) (.idx (.lst false [(.int 1), (.neg (.int 1)), (.int 8), (.neg (.int 12))]) (.call "_law_take" [(.var 0), (.int 4)] [] [])))] [.ite (.and [(.cmp .eq (.var 5) (.int 7)), (.bi .isTup [(.idx (.var 3) (.var 4))])]) [.asg (.psub (.var 3) (.var 4)) (.bi .list [(.idx (.var 3) (.var 4))])] [.ite (.and [(.cmp .eq (.var 5) (.int 8)), (.bi .isStr [(.idx (.var 3) (.var 4))])]) [.asg (.psub (.var 3) (.var 4)) (.bin .add (.idx (.var 3) (.var 4)) (.idx (.lst false [(.str "a"), (.str "A"), (.str " "), (.str "bbbbbbbb")]) (.call "_law_take" [(.var 0), (.int 4)] [] [])))] [.ret (.var 3)]]]]]]]], .ret (.bi .tuple [(.var 3)])]
def n__law_some_names : List Str := ["well", "least", "some", "found", "name"]
def p__law_some_names : List Str := ["well", "least"]
def ir__law_some_names : List S := [.asg (.pname 2) (.lst false [(.str "ann"), (.str "bo"), (.str "cy"), (.str "dee"), (.str "eve"), (.str "fay")]), .asg (.pname 3) (.cut (.lc false (.var 4) (.pname 4) (.var 2) [(.cmp .eq (.call "_law_take" [(.var 0), (.int 3)] [] []) (.int 0))] [4]) .absent (.int 4)), .ret (.bi .tuple [(.sortedSet false (.bin .add (.var 3) (.bin .mul (.cut (.var 2) .absent (.int 1)) (.bi .int [(.cmp .lt (.bi .len [(.var 3)]) (.var 1))]))))])]
def n_law_k32 : List Str := ["script", "k", "well", "works", "slots", "rooms", "stops", "word", "told", "chance", "one", "bent", "turned", "slot", "room", "some", "thing", "due"]
def p_law_k32 : List Str := ["script"]
def ir_law_k32 : List S := [.for_ (.pname 1) (.range1 (.bi .max2 [(.int 6), (.bi .min2 [(.int 50), (.bi .len [(.var 0)])])])) [.asg (.pname 2) (.call "_law_well" [(.var 0), (.var 1)] [] []), .asg (.ptup [(.pname 3), (.pname 4), (.pname 5), (.pname 6)]) (.call "_law_to_lay" [(.var 2), (.int 5)] [] []), .asg (.ptup [(.pname 7), (.pname 8)]) (.call "laid" [(.var 3), (.var 4), (.var 5)] ["bars"] [(.var 6)]), .asg (.pname 9) (.lc false (.tup [(.call "_law_take" [(.var 2), (.bin .add (.var 4) (.int 1))] [] []), (.call "_law_take" [(.var 2), (.bin .add (.var 5) (.int 1))] [] [])]) (.pname 10) (.var 3) [] [10]), .asg (.pname 8) (.ife (.cmp .eq (.var 7) (.str "laid")) (.var 8) (.var 9)), .asg (.pname 11) (.bi .list [(.call "_law_otherwise" [(.var 2), (.bi .tuple [(.var 8)]), (.int 2)] [] [])]), .asg (.pname 12) (.lc false (.tup [(.var 13), (.bin .sub (.bin .sub (.var 5) (.int 1)) (.var 14))]) (.ptup [(.pname 13), (.pname 14)]) (.var 8) [] [13, 14]), .asg (.pname 15) (.lst false [(.var 8), (.var 9), (.var 11), (.var 12), (.rev (.var 8)), (.bi .tuple [(.var 8)]), (.cut (.var 8) (.int 1) .absent)]), .for_ (.pname 16) (.bin .add (.var 15) (.lst false [(.bin .add (.var 8) (.cut (.var 8) .absent (.int 1))), (.call "_law_thing" [(.var 2), (.int 2)] [] [])])) [.asg (.pname 17) (.call "_law_is_laid" [(.var 3), (.var 4), (.var 5), (.var 16), (.var 6)] [] []), .ite (.not (.call "_law_says" [(.call "is_laid" [(.var 3), (.var 4), (.var 5), (.var 16)] ["bars"] [(.var 6)]), (.var 17)] [] [])) [.ret (.bl false)] []]], .ret (.bl true)]
def n_can_stand : List Str := ["work", "other", "author"]
def p_can_stand : List Str := ["work", "other"]
def ir_can_stand : List S := [.ret (.not (.bi .any [(.lc false (.cmp .in_ (.var 2) (.idx (.var 1) (.int 1))) (.pname 2) (.idx (.var 0) (.int 1)) [] [2])]))]
def n_free_for : List Str := ["works", "chosen", "work", "slot", "rooms", "bars", "there", "at", "one", "author"]
def p_free_for : List Str := ["works", "chosen", "work", "slot", "rooms", "bars"]
def ir_free_for : List S := [.asg (.pname 6) (.lc false (.idx (.var 0) (.var 7)) (.ptup [(.pname 7), (.pname 8)]) (.enum (.var 1)) [(.cmp .eq (.var 8) (.var 3))] [7, 8]), .ite (.or [(.cmp .ge (.bi .len [(.var 6)]) (.var 4)), (.bi .any [(.lc false (.cmp .in_ (.tup [(.var 9), (.var 3)]) (.var 5)) (.pname 9) (.idx (.var 2) (.int 1)) [] [9])])]) [.ret (.bl false)] [], .ret (.bi .all [(.lc false (.call "can_stand" [(.var 2), (.var 8)] [] []) (.pname 8) (.var 6) [] [8])])]
def n_can_go_on : List Str := ["works", "chosen", "slots", "rooms", "bars", "work", "slot"]
def p_can_go_on : List Str := ["works", "chosen", "slots", "rooms", "bars"]
def ir_can_go_on : List S := [.ite (.cmp .eq (.bi .len [(.var 1)]) (.bi .len [(.var 0)])) [.ret (.bl true)] [], .asg (.pname 5) (.idx (.var 0) (.bi .len [(.var 1)])), .for_ (.pname 6) (.range1 (.var 2)) [.ite (.call "free_for" [(.var 0), (.var 1), (.var 5), (.var 6), (.var 3), (.var 4)] [] []) [.ite (.call "can_go_on" [(.var 0), (.bin .add (.var 1) (.lst false [(.var 6)])), (.var 2), (.var 3), (.var 4)] [] []) [.ret (.bl true)] []] []], .ret (.bl false)]
def n_first_slots : List Str := ["works", "slots", "rooms", "bars", "chosen", "work", "some", "slot"]
def p_first_slots : List Str := ["works", "slots", "rooms", "bars"]
def ir_first_slots : List S := [.ite (.not (.call "can_go_on" [(.var 0), (.lst false []), (.var 1), (.var 2), (.var 3)] [] [])) [.ret .non] [], .asg (.pname 4) (.lst true []), .for_ (.pname 5) (.var 0) [.asg (.pname 6) (.lc false (.var 7) (.pname 7) (.range1 (.var 1)) [(.and [(.call "free_for" [(.var 0), (.var 4), (.var 5), (.var 7), (.var 2), (.var 3)] [] []), (.call "can_go_on" [(.var 0), (.bin .add (.var 4) (.lst false [(.var 7)])), (.var 1), (.var 2), (.var 3)] [] [])])] [7]), .exp (.bm (.var 4) .append [(.idx (.var 6) (.int 0))])], .ret (.var 4)]
def n_lots_of : List Str := ["many", "size", "found", "turn", "more", "lot", "start", "at"]
def p_lots_of : List Str := ["many", "size"]
def ir_lots_of : List S := [.asg (.pname 2) (.lst false [(.tup [])]), .for_ (.pname 3) (.range1 (.var 1)) [.asg (.pname 4) (.lst true []), .for_ (.pname 5) (.var 2) [.asg (.pname 6) (.ife (.cmp .ne (.var 5) (.tup [])) (.bin .add (.idx (.var 5) (.neg (.int 1))) (.int 1)) (.int 0)), .exp (.bm (.var 4) .extend [(.lc true (.bin .add (.var 5) (.tup [(.var 7)])) (.pname 7) (.range2 (.var 6) (.var 0)) [] [7])])], .view, .asg (.pname 2) (.var 4)], .ret (.var 2)]
def n_fewest_barred : List Str := ["works", "slots", "rooms", "bars", "size", "lot", "at"]
def p_fewest_barred : List Str := ["works", "slots", "rooms", "bars"]
def ir_fewest_barred : List S := [.for_ (.pname 4) (.range2 (.int 1) (.bin .add (.bi .len [(.var 0)]) (.int 1))) [.for_ (.pname 5) (.call "lots_of" [(.bi .len [(.var 0)]), (.var 4)] [] []) [.ite (.not (.call "can_go_on" [(.lc false (.idx (.var 0) (.var 6)) (.pname 6) (.var 5) [] [6]), (.lst false []), (.var 1), (.var 2), (.var 3)] [] [])) [.ret (.lc false (.idx (.idx (.var 0) (.var 6)) (.int 0)) (.pname 6) (.var 5) [] [6])] []]], .ret (.lst false [])]
def n_laid : List Str := ["works", "slots", "rooms", "bars", "chosen", "at", "slot"]
def p_laid : List Str := ["works", "slots", "rooms", "bars"]
def ir_laid : List S := [.asg (.pname 4) (.call "first_slots" [(.var 0), (.var 1), (.var 2), (.var 3)] [] []), .ite (.cmp .isN (.var 4) .non) [.ret (.tup [(.str "barred"), (.call "fewest_barred" [(.var 0), (.var 1), (.var 2), (.var 3)] [] [])])] [], .ret (.tup [(.str "laid"), (.lc false (.tup [(.var 6), (.bm (.cut (.var 4) .absent (.var 5)) .count [(.var 6)])]) (.ptup [(.pname 5), (.pname 6)]) (.enum (.var 4)) [] [5, 6])])]
def n_is_laid : List Str := ["works", "slots", "rooms", "thing", "bars", "one", "slot", "room", "at", "author", "other"]
def p_is_laid : List Str := ["works", "slots", "rooms", "thing", "bars"]
def ir_is_laid : List S := [.ite (.or [(.not (.bi .isLst [(.var 3)])), (.cmp .ne (.bi .len [(.var 3)]) (.bi .len [(.var 0)])), (.not (.bi .all [(.lc false (.call "is_tuple" [(.var 5), (.int 2)] [] []) (.pname 5) (.var 3) [] [5])]))]) [.ret (.bl false)] [], .ite (.not (.bi .all [(.lc false (.and [(.call "is_whole" [(.var 6), (.int 0), (.bin .sub (.var 1) (.int 1))] [] []), (.call "is_whole" [(.var 7), (.int 0), (.bin .sub (.var 2) (.int 1))] [] [])]) (.ptup [(.pname 6), (.pname 7)]) (.var 3) [] [6, 7])])) [.ret (.bl false)] [], .for_ (.ptup [(.pname 8), (.ptup [(.pname 6), (.pname 7)])]) (.enum (.var 3)) [.ite (.bi .any [(.lc false (.cmp .in_ (.tup [(.var 9), (.var 6)]) (.var 4)) (.pname 9) (.idx (.idx (.var 0) (.var 8)) (.int 1)) [] [9])]) [.ret (.bl false)] [], .for_ (.pname 10) (.range1 (.var 8)) [.ite (.or [(.cmp .eq (.idx (.var 3) (.var 10)) (.idx (.var 3) (.var 8))), (.and [(.cmp .eq (.idx (.idx (.var 3) (.var 10)) (.int 0)) (.var 6)), (.not (.call "can_stand" [(.idx (.var 0) (.var 8)), (.idx (.var 0) (.var 10))] [] []))])]) [.ret (.bl false)] []]], .ret (.bl true)]
def n__law_to_lay : List Str := ["well", "most", "works", "name", "slots", "rooms", "stops", "turn"]
def p__law_to_lay : List Str := ["well", "most"]
def ir__law_to_lay : List S := [.asg (.pname 2) (.lst true []), .for_ (.pname 3) (.cut (.lst false [(.str "wa"), (.str "wb"), (.str "wc"), (.str "wd"), (.str "we"), (.str "wf"), (.str "wg")]) .absent (.call "_law_take" [(.var 0), (.bin .add (.var 1) (.int 1))] [] [])) [.exp (.bm (.var 2) .append [(.tup [(.var 3), (.call "_law_some_names" [(.var 0), (.int 1)] [] []), (.tup [(.str "art")]), (.bin .add (.int 1) (.call "_law_take" [(.var 0), (.int 30)] [] []))])])], .par [4, 5, 6] [(.bin .add (.int 1) (.call "_law_take" [(.var 0), (.int 5)] [] [])), (.bin .add (.int 1) (.call "_law_take" [(.var 0), (.int 3)] [] [])), (.dic true)], .for_ (.pname 7) (.range1 (.call "_law_take" [(.var 0), (.int 7)] [] [])) [.asg (.psub (.var 6) (.tup [(.idx (.lst false [(.str "ann"), (.str "bo"), (.str "cy"), (.str "dee")]) (.call "_law_take" [(.var 0), (.int 4)] [] [])), (.call "_law_take" [(.var 0), (.int 5)] [] [])])) (.bl true)], .ret (.lst false [(.bi .tuple [(.var 2)]), (.var 4), (.var 5), (.bi .tuple [(.sorted false (.var 6))])])]
def n__law_apart : List Str := ["one", "other", "author"]
def p__law_apart : List Str := ["one", "other"]
def ir__law_apart : List S := [.ret (.cmp .eq (.lc false (.var 2) (.pname 2) (.idx (.var 0) (.int 1)) [(.cmp .in_ (.var 2) (.idx (.var 1) (.int 1)))] [2]) (.lst false []))]
def n__law_can_lay : List Str := ["works", "slots", "rooms", "stops", "table", "work", "later", "there", "slot", "near", "at", "good", "one", "author"]
def p__law_can_lay : List Str := ["works", "slots", "rooms", "stops"]
def ir__law_can_lay : List S := [.asg (.pname 4) (.dsp true false [(.tup []), (.bl true)]), .for_ (.pname 5) (.var 0) [.asg (.pname 6) (.dic true), .for_ (.pname 7) (.var 4) [.for_ (.pname 8) (.range1 (.var 1)) [.asg (.pname 9) (.lc false (.idx (.var 0) (.var 10)) (.pname 10) (.range1 (.bi .len [(.var 7)])) [(.cmp .eq (.idx (.var 7) (.var 10)) (.var 8))] [10]), .asg (.pname 11) (.cmp .lt (.bi .len [(.var 9)]) (.var 2)), .ite (.cmp .ne (.lc false (.var 12) (.pname 12) (.var 9) [(.not (.call "_law_apart" [(.var 12), (.var 5)] [] []))] [12]) (.lst false [])) [.asg (.pname 11) (.bl false)] [], .ite (.cmp .ne (.lc false (.var 13) (.pname 13) (.idx (.var 5) (.int 1)) [(.cmp .in_ (.tup [(.var 13), (.var 8)]) (.var 3))] [13]) (.lst false [])) [.asg (.pname 11) (.bl false)] [], .ite (.var 11) [.asg (.psub (.var 6) (.bin .add (.var 7) (.tup [(.var 8)]))) (.bl true)] []]], .view, .asg (.pname 4) (.var 6)], .ret (.ife (.cmp .ne (.var 4) (.dic false)) (.idx (.sorted false (.var 4)) (.int 0)) .non)]
def n__law_lots : List Str := ["works", "found", "size", "lot"]
def p__law_lots : List Str := ["works"]
def ir__law_lots : List S := [.asg (.pname 1) (.lst false []), .for_ (.pname 2) (.range1 (.bin .add (.bi .len [(.var 0)]) (.int 1))) [.asg (.pname 1) (.bin .add (.var 1) (.lc false (.var 3) (.pname 3) (.call "_law_choices_of" [(.bi .list [(.var 0)]), (.var 2)] [] []) [] [3]))], .ret (.var 1)]
def n__law_choices_of : List Str := ["some", "many", "found", "at", "rest"]
def p__law_choices_of : List Str := ["some", "many"]
def ir__law_choices_of : List S := [.ite (.cmp .eq (.var 1) (.int 0)) [.ret (.lst false [(.lst false [])])] [], .asg (.pname 2) (.lst false []), .for_ (.pname 3) (.range1 (.bi .len [(.var 0)])) [.asg (.pname 2) (.bin .add (.var 2) (.lc false (.bin .add (.lst false [(.idx (.var 0) (.var 3))]) (.var 4)) (.pname 4) (.call "_law_choices_of" [(.cut (.var 0) (.bin .add (.var 3) (.int 1)) .absent), (.bin .sub (.var 1) (.int 1))] [] []) [] [4]))], .ret (.var 2)]
def n__law_is_laid : List Str := ["works", "slots", "rooms", "thing", "stops", "at", "one", "author", "other"]
def p__law_is_laid : List Str := ["works", "slots", "rooms", "thing", "stops"]
def ir__law_is_laid : List S := [.ite (.or [(.not (.bi .isLst [(.var 3)])), (.cmp .ne (.bi .len [(.var 3)]) (.bi .len [(.var 0)]))]) [.ret (.bl false)] [], .for_ (.ptup [(.pname 5), (.pname 6)]) (.enum (.var 3)) [.ite (.or [(.not (.bi .isTup [(.var 6)])), (.cmp .ne (.bi .len [(.var 6)]) (.int 2))]) [.ret (.bl false)] [], .ite (.or [(.not (.call "_law_is_int" [(.idx (.var 6) (.int 0)), (.int 0), (.bin .sub (.var 1) (.int 1))] [] [])), (.not (.call "_law_is_int" [(.idx (.var 6) (.int 1)), (.int 0), (.bin .sub (.var 2) (.int 1))] [] []))]) [.ret (.bl false)] [], .ite (.cmp .ne (.lc false (.var 7) (.pname 7) (.idx (.idx (.var 0) (.var 5)) (.int 1)) [(.cmp .in_ (.tup [(.var 7), (.idx (.var 6) (.int 0))]) (.var 4))] [7]) (.lst false [])) [.ret (.bl false)] [], .for_ (.pname 8) (.range1 (.var 5)) [.ite (.cmp .eq (.idx (.var 3) (.var 8)) (.var 6)) [.ret (.bl false)] [], .ite (.and [(.cmp .eq (.idx (.idx (.var 3) (.var 8)) (.int 0)) (.idx (.var 6) (.int 0))), (.not (.call "_law_apart" [(.idx (.var 0) (.var 8)), (.idx (.var 0) (.var 5))] [] []))]) [.ret (.bl false)] []]], .ret (.bl true)]
end C
end
section
set_option Elab.async false
set_option linter.all false
set_option maxRecDepth 100000
namespace C
open T PySem L2
open T.Enc (enc)
/-- a well: the numbers drawn from -/
def WellOk (b c : Int) : Prop := 0 ≤ b ∧ b < 2 ^ 32 ∧ 0 < c ∧ c < 2 ^ 32
def wellO (a b c : Int) : MO := .lst [.int a, .int b, .int c]
def pTake : Pm := fun ds G q => ∃ p a b c m, ds = [.ref p, .int m] ∧ G p = some (wellO a b c) ∧ WellOk b c ∧ 0 < m ∧ m < 1000 ∧ ∀ r a' b', 0 ≤ r → r < m → WellOk b' c → q (.int r) (put G p (wellO a' b' c))
theorem small_of {i : Int} (h1 : 0 ≤ i) (h2 : i < 2 ^ 64) : small i = true := by simp [small]; omega
theorem well_nx {b c : Int} (h : WellOk b c) : WellOk (b * 48271 % c + 1) c := by
  obtain ⟨h1, h2, h3, h4⟩ := h
  have := Int.emod_nonneg (b * 48271) (Int.ne_of_gt h3)
  have := Int.emod_lt_of_pos (b * 48271) h3
  exact ⟨by omega, by omega, h3, h4⟩
theorem ok_take {Γ : T.Ctx} {ds : List D} {G : Store} {q : DK} (h : pTake ds G q) : run Γ 3 ir__law_take (fun _ _ => False) ds G q := by
  obtain ⟨p, a, b, c, m, rfl, hG, hw, hm, hm2, k⟩ := h
  have hw' := well_nx hw
  obtain ⟨h1, h2, h3, h4⟩ := hw
  obtain ⟨g1, g2, _, _⟩ := hw'
  simp only [ir__law_take]
  simp [lk_l hG]
  split
  · rw [mod_ii hm, div_ii hm (by omega)]
    simp only [oqs]
    rw [setI_l hG (j := 0) (by simp [ixN])]
    exact ret_here (k _ _ _ (Int.emod_nonneg _ (Int.ne_of_gt hm)) (Int.emod_lt_of_pos _ hm) ⟨h1, h2, h3, h4⟩)
  · rw [mul_ii (by simp [small_of h1 (by omega)])]
    simp only [oqs, lk_int]
    rw [mod_ii h3]
    simp only [oqs, lk_int, add_ii]
    rw [setI_l hG (j := 1) (by simp [ixN]), lk_put]
    simp
    rw [mul_ii (by simp [small_of g1 (by omega)])]
    simp only [oqs, lk_int]
    rw [mod_ii (by omega)]
    simp only [oqs, lk_int]
    rw [div_ii (by omega) (by omega)]
    simp only [oqs, lk_int]
    rw [mod_ii hm]
    simp only [oqs]
    exact ret_here (k _ _ _ (Int.emod_nonneg _ (Int.ne_of_gt hm)) (Int.emod_lt_of_pos _ hm) ⟨g1, g2, h3, h4⟩)
def pWell : Pm := fun ds G q => ∃ is k, ds = [.scr is, .int k] ∧ 0 ≤ k ∧ k < 64 ∧ ∀ p a b c, G p = none → WellOk b c → q (.ref p) (put G p (wellO a b c))
theorem atI_some {α : Type} {l : List α} {k : Int} (h : 0 ≤ k) (h2 : k < l.length) : ∃ x, atI l k = some x := by
  obtain ⟨n, rfl⟩ := Int.eq_ofNat_of_zero_le h
  exact ⟨l[n]'(by omega), atI_nat (List.getElem?_eq_getElem (by omega))⟩
theorem prime_at {k : Int} (h : 0 ≤ k) : ∃ c, atI [D.int 2147483647, D.int 2147483629, D.int 2147483587, D.int 2147483579, D.int 2147483563, D.int 2147483549, D.int 2147483543, D.int 2147483497] (k % 8) = some (.int c) ∧ 0 < c ∧ c < 2 ^ 32 := by
  have : k % 8 = 0 ∨ k % 8 = 1 ∨ k % 8 = 2 ∨ k % 8 = 3 ∨ k % 8 = 4 ∨ k % 8 = 5 ∨ k % 8 = 6 ∨ k % 8 = 7 := by omega
  rcases this with h | h | h | h | h | h | h | h <;> rw [h] <;> exact ⟨_, rfl, by omega, by omega⟩
theorem pow_10 : binD .pow (.int 10) (.int 18) = some (.int (10 ^ 18)) := by simp [binD, small]
theorem ok_well {Γ : T.Ctx} {ds : List D} {G : Store} {q : DK} (h : pWell ds G q) : run Γ 5 ir__law_well (fun _ _ => False) ds G q := by
  obtain ⟨is, k, rfl, hk, hk2, kk⟩ := h
  simp only [ir__law_well]
  simp
  rw [bi_of (d := .int is.length) (by decide) rfl]
  simp only [lk_int]
  rw [lt_ii]
  simp
  have key : ∀ cell : Int, sSs Γ [.asg (.pname 3) (.lst false [(.int 2147483647), (.int 2147483629), (.int 2147483587), (.int 2147483579), (.int 2147483563), (.int 2147483549), (.int 2147483543), (.int 2147483497)]), .asg (.pname 4) (.bin .mod (.bin .mul (.bin .add (.bin .mod (.var 2) (.int 2147483489)) (.int 1)) (.bin .add (.int 48271) (.bin .mul (.int 2) (.var 1)))) (.int 2147483489)), .asg (.pname 4) (.bin .add (.bin .add (.bin .mod (.bin .mul (.var 4) (.var 4)) (.int 2147483477)) (.var 1)) (.int 1)), .ite (.cmp .ge (.var 2) (.bin .pow (.int 10) (.int 18))) [.ret (.lst true [(.var 2), (.var 4), (.idx (.var 3) (.bin .mod (.var 1) (.int 8)))])] [], .ret (.lst true [(.int 0), (.var 4), (.idx (.var 3) (.bin .mod (.var 1) (.int 8)))])]
      (fun e _ G' => False) { nx := fun _ G' => q .non G', rt := fun d G' => ∃ d' G'', ViewD d G' d' G'' ∧ q d' G'' } [some (.scr is), some (.int k), some (.int cell), none, none] G := by
    intro cell
    have c1 := Int.emod_nonneg cell (show (2147483489 : Int) ≠ 0 by omega)
    have c2 := Int.emod_lt_of_pos cell (show (0 : Int) < 2147483489 by omega)
    have d1 := Int.emod_nonneg ((cell % 2147483489 + 1) * (48271 + 2 * k)) (show (2147483489 : Int) ≠ 0 by omega)
    have d2 := Int.emod_lt_of_pos ((cell % 2147483489 + 1) * (48271 + 2 * k)) (show (0 : Int) < 2147483489 by omega)
    generalize hs : (cell % 2147483489 + 1) * (48271 + 2 * k) % 2147483489 = sd at d1 d2
    have f1 := Int.emod_nonneg (sd * sd) (show (2147483477 : Int) ≠ 0 by omega)
    have f2 := Int.emod_lt_of_pos (sd * sd) (show (0 : Int) < 2147483477 by omega)
    obtain ⟨pr, hpr, q1, q2⟩ := prime_at hk
    have hw : WellOk (sd * sd % 2147483477 + k + 1) pr := ⟨by omega, by omega, q1, q2⟩
    simp
    rw [mod_ii (by omega)]
    simp only [oqs, lk_int, add_ii]
    rw [mul_ii (by simp [small])]
    simp only [oqs, lk_int, add_ii]
    rw [mul_ii (by simp [small_of (show 0 ≤ cell % 2147483489 + 1 by omega) (by omega)])]
    simp only [oqs, lk_int]
    rw [mod_ii (by omega), hs]
    simp
    rw [mul_ii (by simp [small_of d1 (by omega)])]
    simp only [oqs, lk_int]
    rw [mod_ii (by omega)]
    simp only [oqs, lk_int, add_ii]
    rw [pow_10]
    simp
    rw [mod_ii (by omega)]
    simp [hpr]
    split
    · exact fun p hp => ret_here (kk p _ _ _ hp hw)
    · exact fun p hp => ret_here (kk p _ _ _ hp hw)
  split
  · rename_i hlt
    obtain ⟨x, hx⟩ := atI_some hk (by omega)
    rw [hx]
    simp only [Option.map_some, oqs]
    have := key x
    simp at this
    simpa using this
  · have := key 0
    simp at this
    simpa using this
end C
end
section
set_option Elab.async false
set_option linter.all false
set_option maxRecDepth 100000
/-! Steps: what simp knows of typed values; whiles. -/
namespace C
open T PySem L2
open T.Enc (enc)
section
variable {α β γ δ : Type} [Enc α] [Enc β] [Enc γ] [Enc δ]
@[simp] theorem enc_int (x : Int) : enc x = .int x := rfl
@[simp] theorem enc_str (x : Str) : enc x = .str x := rfl
@[simp] theorem enc_bl (x : Bool) : enc x = .bl x := rfl
@[simp] theorem enc_pair (p : α × β) : enc p = .tup [enc p.1, enc p.2] := rfl
@[simp] theorem enc_t3 (p : T3 α β γ) : enc p = .tup [enc p.a, enc p.b, enc p.c] := rfl
@[simp] theorem enc_t4 (p : T4 α β γ δ) : enc p = .tup [enc p.a, enc p.b, enc p.c, enc p.d] := rfl
@[simp] theorem enc_tup (p : Tup α) : enc p = .tup (p.l.map enc) := rfl
@[simp] theorem enc_list (p : List α) : enc p = .lst (p.map enc) := rfl
@[simp] theorem enc_none [NonN α] : enc (none : Option α) = .non := rfl
@[simp] theorem enc_some [NonN α] (x : α) : enc (some x) = enc x := rfl
end
@[simp] theorem eq_ss {a b : Str} : cmpD .eq (.str a) (.str b) = some (.bl (decide (a = b))) := cmp_eq a b
@[simp] theorem eq_bb {a b : Bool} : cmpD .eq (.bl a) (.bl b) = some (.bl (decide (a = b))) := cmp_eq a b
@[simp] theorem eq_ii {a b : Int} : cmpD .eq (.int a) (.int b) = some (.bl (decide (a = b))) := cmp_eq a b
@[simp] theorem ne_ss {a b : Str} : cmpD .ne (.str a) (.str b) = some (.bl (!decide (a = b))) := cmp_ne a b
@[simp] theorem ne_ii {a b : Int} : cmpD .ne (.int a) (.int b) = some (.bl (!decide (a = b))) := cmp_ne a b
@[simp] theorem ne_nil {xs : List D} : cmpD .ne (.lst xs) (.lst []) = some (.bl (!xs.isEmpty)) := by
  cases xs with
  | nil => simp [cmpD, eqOk, D.pureL, D.depL, eqD, D.eq, D.eqL]
  | cons x xs => simp [cmpD, eqOk, eqD, D.eq, D.eqL]
@[simp] theorem eq_nil {xs : List D} : cmpD .eq (.lst xs) (.lst []) = some (.bl xs.isEmpty) := by
  cases xs with
  | nil => simp [cmpD, eqOk, D.pureL, D.depL, eqD, D.eq, D.eqL]
  | cons x xs => simp [cmpD, eqOk, eqD, D.eq, D.eqL]
@[simp] theorem lt_ii' {i j : Int} : cmpD .lt (.int i) (.int j) = some (.bl (decide (i < j))) := lt_ii
@[simp] theorem seqD_tup {l : List D} : seqD (.tup l) = some l := rfl
@[simp] theorem seqD_lst {l : List D} : seqD (.lst l) = some l := rfl
theorem mapM_str : ∀ X : List Str, (X.map D.str).mapM strOf = some X
  | [] => rfl
  | x :: X => by rw [List.map_cons, List.mapM_cons, mapM_str X]; rfl
theorem mapM_bls : ∀ X : List Bool, (X.map D.bl).mapM blOf = some X
  | [] => rfl
  | x :: X => by rw [List.map_cons, List.mapM_cons, mapM_bls X]; rfl
theorem mapM_ints : ∀ X : List Int, (X.map D.int).mapM intOf = some X
  | [] => rfl
  | x :: X => by rw [List.map_cons, List.mapM_cons, mapM_ints X]; rfl
section
variable {Γ : T.Ctx} {W : Wi} {σ : Sl} {G : Store} {q : DK} {D0 : Ed}
@[simp] theorem s_whl {c : E} {b : List S} : sS Γ (.whl c b) W D0 σ G = ∃ I : Nat → Sl → Store → Prop, (∃ m, I m σ G) ∧ ∀ m σ G, I m σ G → (sem Γ c).t W σ G fun t G1 =>
  if t = true then sSs Γ b W { nx := fun σ' G' => ∃ m', m' < m ∧ I m' σ' G', ct := fun σ' G' => ∃ m', m' < m ∧ I m' σ' G', bk := D0.nx, rt := D0.rt } σ G1 else D0.nx σ G1 := rfl
@[simp] theorem bi_len_l {l : List D} : wBi .len [.lst l] G q = q (.int l.length) G := bi_of (by decide) rfl
@[simp] theorem bi_len_t {l : List D} : wBi .len [.tup l] G q = q (.int l.length) G := bi_of (by decide) rfl
@[simp] theorem bi_len_s {l : List Int} : wBi .len [.scr l] G q = q (.int l.length) G := bi_of (by decide) rfl
@[simp] theorem bi_tup_l {l : List D} : wBi .tuple [.lst l] G q = q (.tup l) G := bi_of (by decide) rfl
@[simp] theorem bi_tup_t {l : List D} : wBi .tuple [.tup l] G q = q (.tup l) G := bi_of (by decide) rfl
@[simp] theorem bi_min {i j : Int} : wBi .min2 [.int i, .int j] G q = q (.int (min i j)) G := (bi_of (by decide) (d := .int (if j < i then j else i)) rfl).trans (by rw [Int.min_def]; split <;> split <;> first | rfl | (congr 2; omega))
@[simp] theorem bi_max {i j : Int} : wBi .max2 [.int i, .int j] G q = q (.int (max i j)) G := (bi_of (by decide) (d := .int (if j > i then j else i)) rfl).trans (by rw [Int.max_def]; split <;> split <;> first | rfl | (congr 2; omega))
@[simp] theorem bi_int_b {b : Bool} : wBi .int [.bl b] G q = q (.int (if b then 1 else 0)) G := bi_of (by decide) rfl
theorem bi_sum_i {l : List Int} : wBi .sum [.lst (l.map D.int)] G q = q (.int l.sum) G := bi_of (by decide) (by simp only [List.map_cons, List.map_nil, lk_lst, biD, mapM_ints]; rfl)
theorem bi_all_b {l : List Bool} : wBi .all [.lst (l.map D.bl)] G q = q (.bl (l.all id)) G := bi_of (by decide) (by simp only [List.map_cons, List.map_nil, lk_lst, biD, mapM_bls]; rfl)
theorem bi_any_b {l : List Bool} : wBi .any [.lst (l.map D.bl)] G q = q (.bl (l.any id)) G := bi_of (by decide) (by simp only [List.map_cons, List.map_nil, lk_lst, biD, mapM_bls]; rfl)
@[simp] theorem e_dcF {kx vx pat it : E} {own : List Nat} : (sem Γ (.dc false false kx vx pat it own)).e W σ G q = (sem Γ it).i W σ G fun ds gd G1 => dcompW gd (fun d k G2 => (sem Γ pat).p W0 d (wipeD σ own) G2 fun σ1 G3 => (sem Γ kx).e W0 σ1 G3 fun x G4 => (sem Γ vx).e W0 σ1 G4 fun y G5 => oq (keyOf x) fun x => k x y G5)
        (fun l G2 => q (.dK l) G2) ds [] G1 := rfl
@[simp] theorem e_srtByF {f : Str} {a : E} : (sem Γ (.sortedBy false f a)).e W σ G q = (sem Γ a).e W σ G fun x G1 => oq (lstOf (lk G1 x)) fun ds => oq (Γ.fn f []) fun sp => ∃ ks : List D, ks.length = ds.length ∧
      (∀ (i : Nat) d k, ds[i]? = some d → ks[i]? = some k → sp [d] [] G1 (fun y G2 => y = k ∧ G2 = G1) fun _ _ => False) ∧ sortOk ks = true ∧ q (.lst (sortByD ds ks)) G1 := rfl
@[simp] theorem keyOf_str {s : Str} : keyOf (.str s) = some (.inr s) := rfl
@[simp] theorem keyOf_int {s : Int} : keyOf (.int s) = some (.inl s) := rfl
@[simp] theorem lstOf_lst {l : List D} : lstOf (.lst l) = some l := rfl
@[simp] theorem ix_dK {l : List (Key × D)} {i : D} : idxD (.dK l) i = (keyOf i).bind (look l) := rfl
@[simp] theorem ix_dT {l : List (List Key × D)} {i : D} : idxD (.dT l) i = (keysOf i).bind (look l) := rfl
@[simp] theorem cut_lst {l : List D} {a b : Option Int} : cutD (.lst l) a b = some (.lst (cutG l a b)) := rfl
@[simp] theorem cut_tup {l : List D} {a b : Option Int} : cutD (.tup l) a b = some (.tup (cutG l a b)) := rfl
end
theorem cutG_take {α : Type} (l : List α) {n : Int} (h : 0 ≤ n) : cutG l none (some n) = l.take n.toNat := by
  obtain ⟨m, rfl⟩ := Int.eq_ofNat_of_zero_le h
  unfold cutG
  rw [HT.sIx_none, HT.sIx_nat]
  simp
theorem cutG_drop {α : Type} (l : List α) {n : Int} (h : 0 ≤ n) : cutG l (some n) none = l.drop n.toNat := by
  obtain ⟨m, rfl⟩ := Int.eq_ofNat_of_zero_le h
  unfold cutG
  rw [HT.sIx_none, HT.sIx_nat, Int.toNat_natCast]
  rw [List.take_of_length_le (by rw [List.length_drop]; omega)]
  by_cases h : m ≤ l.length
  · rw [Nat.min_eq_left h]
  · rw [Nat.min_eq_right (by omega), List.drop_of_length_le (Nat.le_refl _), List.drop_of_length_le (by omega)]
end C
end
section
set_option Elab.async false
set_option linter.all false
set_option maxRecDepth 100000
/-! Local objects over a store; what a def tells. -/
namespace C
open T PySem L2
open T.Enc (enc)
section
variable {Γ : T.Ctx} {W : Wi} {σ : Sl} {G : Store}
@[simp] theorem t_idx {a i : E} {p : Bool → Store → Prop} : (sem Γ (.idx a i)).t W σ G p = (sem Γ a).e W σ G fun x G1 => (sem Γ i).e W σ G1 fun y G2 => oq (idxD (lk G2 x) y) fun d => oq (truth (lk G2 d)) fun b => p b G2 := rfl
@[simp] theorem i_bin {op : Op} {a b : E} {p : WI} : (sem Γ (.bin op a b)).i W σ G p = (sem Γ a).e W σ G fun x G1 => (sem Γ b).e W σ G1 fun y G2 => oq (binD op (lk G2 x) (lk G2 y)) fun d => walkV d G2 p := rfl
@[simp] theorem i_bi {b : Bi} {as : List E} {p : WI} : (sem Γ (.bi b as)).i W σ G p = dA (semL Γ as) W σ G fun ds G1 => wBi b ds G1 fun x G2 => walkV x G2 p := rfl
@[simp] theorem i_bm {b : Bm} {o : E} {as : List E} {p : WI} : (sem Γ (.bm o b as)).i W σ G p = (sem Γ o).e W σ G fun x G1 => bmTy b (lk G1 x) = true ∧ dA (semL Γ as) W σ G1 fun ds G2 => wBm b x ds G2 fun y G3 => walkV y G3 p := rfl
@[simp] theorem i_tup {es : List E} {p : WI} : (sem Γ (.tup es)).i W σ G p = dA (semL Γ es) W σ G fun ds G1 => walkV (.tup ds) G1 p := rfl
@[simp] theorem i_lcF {elt pat it : E} {ifs : List E} {own : List Nat} {p : WI} : (sem Γ (.lc false elt pat it ifs own)).i W σ G p = (sem Γ it).i W σ G fun ds gd G1 => compW gd (fun d k G2 => (sem Γ pat).p W0 d (wipeD σ own) G2 fun σ1 G3 => dTs (semL Γ ifs) W0 σ1 G3 fun t G4 =>
      if t = true then (sem Γ elt).e W0 σ1 G4 fun y G5 => k (some y) G5 else k none G4) (fun l G2 => walkV (.lst l) G2 p) ds [] G1 := rfl
@[simp] theorem i_ife {c a b : E} {p : WI} : (sem Γ (.ife c a b)).i W σ G p = (sem Γ c).t W σ G fun t G1 => if t = true then (sem Γ a).e W σ G1 fun x G2 => walkV x G2 p else (sem Γ b).e W σ G1 fun x G2 => walkV x G2 p := by
  show (sem Γ (.ife c a b)).e W σ G _ = _
  rfl
@[simp] theorem i_items {a : E} {p : WI} : (sem Γ (.items a)).i W σ G p = (sem Γ a).e W σ G fun x G1 => match x with
    | .dK kvs => kvs.length ≤ LN ∧ p (kvs.map fun p => .tup [dKey p.1, p.2]) (fun _ => True) G1
    | _ => False := rfl
@[simp] theorem e_dspF {q : DK} {kvs : List E} : (sem Γ (.dsp false false kvs)).e W σ G q = dA (semL Γ kvs) W σ G fun ds G1 => oq (pairsK ds) fun l => q (.dK (merge [] l)) G1 := rfl
@[simp] theorem t_bm {b : Bm} {o : E} {as : List E} {p : Bool → Store → Prop} : (sem Γ (.bm o b as)).t W σ G p = (sem Γ o).e W σ G fun x G1 => bmTy b (lk G1 x) = true ∧ dA (semL Γ as) W σ G1 fun ds G2 => wBm b x ds G2 fun y G3 => oq (truth (lk G3 y)) fun b => p b G3 := rfl
@[simp] theorem o_idx {a i : E} {p : Option Int → Store → Prop} : (sem Γ (.idx a i)).o W σ G p = (sem Γ a).e W σ G fun x G1 => (sem Γ i).e W σ G1 fun y G2 => oq (idxD (lk G2 x) y) fun d => oq (intOf d) fun i => p (some i) G2 := rfl
end
/-- G is G0 and, beside it, the local objects ob -/
structure Ob (G0 : Store) (ob : List (Addr × MO)) (G : Store) : Prop where
  has : ∀ q ∈ ob, G q.1 = some q.2
  nd : (ob.map (·.1)).Nodup
  fr : ∀ q ∈ ob, G0 q.1 = none
  old : ∀ x o, G0 x = some o → G x = some o
section
variable {G0 G : Store} {ob : List (Addr × MO)} {x p : Addr} {o u : MO}
theorem Ob.start : Ob G [] G := ⟨fun _ h => by (cases h), .nil, fun _ h => by (cases h), fun _ _ h => h⟩
theorem Ob.less (j : Ob G0 ob G) : Less G G0 := j.old
theorem Ob.no (j : Ob G0 ob G) (h : G x = none) : G0 x = none := by
  cases e : G0 x with
  | none => rfl
  | some o => rw [j.old x o e] at h; cases h
theorem Ob.get (j : Ob G0 ob G) (h : (x, o) ∈ ob) : G x = some o := j.has (x, o) h
theorem Ob.ne (j : Ob G0 ob G) (h : G0 p = some u) : ∀ q ∈ ob, q.1 ≠ p := fun q hq e => by
  have := j.fr q hq
  rw [e, h] at this; cases this
theorem Ob.new (j : Ob G0 ob G) (h : G x = none) : Ob G0 ((x, o) :: ob) (put G x o) := by
  have xo : ∀ q ∈ ob, q.1 ≠ x := fun q hq e => by have := j.has q hq; rw [e, h] at this; cases this
  refine ⟨fun q hq => ?_, ?_, fun q hq => ?_, fun y u hy => ?_⟩
  · rcases List.mem_cons.mp hq with e | e
    · subst e; exact put_same
    · rw [put_ne (xo q e)]; exact j.has q e
  · rw [List.map_cons, List.nodup_cons]
    refine ⟨fun hx => ?_, j.nd⟩
    obtain ⟨q, hq, e⟩ := List.mem_map.mp hx
    exact xo q hq e
  · rcases List.mem_cons.mp hq with e | e
    · subst e; exact j.no h
    · exact j.fr q e
  · have := j.old y u hy
    rw [put_ne (fun e => by subst e; rw [h] at this; cases this)]; exact this
theorem Ob.upd (j : Ob G0 ob G) (i : Nat) (h : ob[i]? = some (x, u)) (o : MO) : Ob G0 (ob.set i (x, o)) (put G x o) := by
  have hm : (x, u) ∈ ob := List.mem_of_getElem? h
  have hi : i < ob.length := (List.getElem?_eq_some_iff.mp h).1
  have key : ∀ (k : Nat) q, ob[k]? = some q → k ≠ i → q.1 ≠ x := fun k q hk hne e => by
    have hk' : k < ob.length := (List.getElem?_eq_some_iff.mp hk).1
    have n := List.pairwise_iff_getElem.mp j.nd
    have e1 : (ob.map (·.1))[k]? = some x := by rw [List.getElem?_map, hk]; simp [e]
    have e2 : (ob.map (·.1))[i]? = some x := by rw [List.getElem?_map, h]; simp
    rcases Nat.lt_or_gt_of_ne hne with lt | gt
    · have := n k i (by simpa using hk') (by simpa using hi) lt
      rw [List.getElem?_eq_getElem (by simpa using hk')] at e1
      rw [List.getElem?_eq_getElem (by simpa using hi)] at e2
      exact this (Option.some.inj (e1.trans e2.symm))
    · have := n i k (by simpa using hi) (by simpa using hk') gt
      rw [List.getElem?_eq_getElem (by simpa using hk')] at e1
      rw [List.getElem?_eq_getElem (by simpa using hi)] at e2
      exact this (Option.some.inj (e2.trans e1.symm))
  refine ⟨fun q hq => ?_, ?_, fun q hq => ?_, fun y w hy => ?_⟩
  · obtain ⟨k, hk⟩ := List.getElem?_of_mem hq
    rw [List.getElem?_set] at hk
    by_cases hki : i = k
    · subst hki
      simp [hi] at hk
      subst hk
      exact put_same
    · rw [if_neg hki] at hk
      rw [put_ne (key k q hk (Ne.symm hki))]
      exact j.has q (List.mem_of_getElem? hk)
  · have e : (ob.set i (x, o)).map (·.1) = ob.map (·.1) := by
      rw [List.map_set]
      refine List.ext_getElem? fun k => ?_
      rw [List.getElem?_set]
      split
      · rename_i hk; subst hk
        simp [hi, List.getElem?_map, h]
        rw [List.getElem?_eq_getElem hi] at h
        rw [Option.some.inj h]
      · rfl
    rw [e]; exact j.nd
  · rcases List.mem_or_eq_of_mem_set hq with e | e
    · exact j.fr q e
    · subst e; exact j.fr (x, u) hm
  · rw [put_ne (fun e => by subst e; have := j.fr (y, u) hm; rw [hy] at this; cases this)]
    exact j.old y w hy
theorem Ob.upd0 (j : Ob G0 ((x, u) :: ob) G) (o : MO) : Ob G0 ((x, o) :: ob) (put G x o) := j.upd 0 rfl o
theorem Ob.upd1 {q : Addr × MO} (j : Ob G0 (q :: (x, u) :: ob) G) (o : MO) : Ob G0 (q :: (x, o) :: ob) (put G x o) := j.upd 1 rfl o
theorem Ob.upd2 {q r : Addr × MO} (j : Ob G0 (q :: r :: (x, u) :: ob) G) (o : MO) : Ob G0 (q :: r :: (x, o) :: ob) (put G x o) := j.upd 2 rfl o
theorem Ob.upd3 {q r s : Addr × MO} (j : Ob G0 (q :: r :: s :: (x, u) :: ob) G) (o : MO) : Ob G0 (q :: r :: s :: (x, o) :: ob) (put G x o) := j.upd 3 rfl o
theorem Ob.get0 (j : Ob G0 ((x, o) :: ob) G) : G x = some o := j.get (by simp)
theorem Ob.get1 {q : Addr × MO} (j : Ob G0 (q :: (x, o) :: ob) G) : G x = some o := j.get (by simp)
theorem Ob.get2 {q r : Addr × MO} (j : Ob G0 (q :: r :: (x, o) :: ob) G) : G x = some o := j.get (by simp)
theorem Ob.get3 {q r s : Addr × MO} (j : Ob G0 (q :: r :: s :: (x, o) :: ob) G) : G x = some o := j.get (by simp)
/-- an object of the store below changes -/
theorem Ob.out (j : Ob G0 ob G) (h : G0 p = some u) (o : MO) : Ob (put G0 p o) ob (put G p o) :=
  ⟨fun q hq => by rw [put_ne (j.ne h q hq)]; exact j.has q hq, j.nd, fun q hq => by rw [put_ne (j.ne h q hq)]; exact j.fr q hq, fun y w hy => by
    by_cases e : y = p
    · subst e; rw [put_same] at hy ⊢; exact hy
    · rw [put_ne e] at hy ⊢; exact j.old y w hy⟩
theorem Ob.drop {q : Addr × MO} (j : Ob G0 (q :: ob) G) : Ob G0 ob G := ⟨fun r hr => j.has r (by simp [hr]), (List.nodup_cons.mp j.nd).2, fun r hr => j.fr r (by simp [hr]), j.old⟩
/-- a local object is made public -/
theorem Ob.pub (j : Ob G0 ((x, o) :: ob) G) : Ob (put G0 x o) ob G := by
  have n := List.nodup_cons.mp j.nd
  refine ⟨fun r hr => j.has r (by simp [hr]), n.2, fun r hr => ?_, fun y w hy => ?_⟩
  · rw [put_ne (fun e => n.1 (by rw [← e]; exact List.mem_map.mpr ⟨r, hr, rfl⟩))]; exact j.fr r (by simp [hr])
  · by_cases e : y = x
    · subst e; rw [put_same] at hy; cases hy; exact j.get0
    · rw [put_ne e] at hy; exact j.old y w hy
theorem Ob.ret (j : Ob G0 ob G) {d : D} {q : DK} (h : q d G0) : ∃ d' G'', ViewD d G d' G'' ∧ q d' G'' := ⟨d, G0, ⟨j.less, .same d⟩, h⟩
/-- a list that is told: as one that may change, or not -/
def Tells (l : List D) (G : Store) (q : DK) : Prop := (∀ p, G p = none → q (.ref p) (put G p (.lst l))) ∨ q (.lst l) G
theorem Ob.tells {l : List D} (j : Ob G0 ((p, .lst l) :: ob) G) {q : DK} (h : Tells l G0 q) : ∃ d' G'', ViewD (.ref p) G d' G'' ∧ q d' G'' := by
  have n : G0 p = none := j.fr (p, .lst l) (by simp)
  rcases h with h | h
  · exact j.pub.ret (h p n)
  · exact ⟨.lst l, G0, ⟨j.less, .lst j.get0 n⟩, h⟩
theorem Ob.lk0 {l : List D} (j : Ob G0 ((p, .lst l) :: ob) G) : lk G (.ref p) = .lst l := lk_l j.get0
theorem Ob.lk1 {l : List D} {q : Addr × MO} (j : Ob G0 (q :: (p, .lst l) :: ob) G) : lk G (.ref p) = .lst l := lk_l j.get1
theorem Ob.lk2 {l : List D} {q r : Addr × MO} (j : Ob G0 (q :: r :: (p, .lst l) :: ob) G) : lk G (.ref p) = .lst l := lk_l j.get2
end
theorem walk_lk {x : D} {l : List D} {G : Store} {p : WI} (h : lk G x = .lst l) (k : p l (still G x) G) : walkV x G p := by
  refine ⟨l, ?_, k⟩
  cases x with
  | ref a =>
    simp only [lk] at h
    simp only [itemsOf]
    split at h <;> first | (cases h; done) | skip
    · rename_i ds e; rw [e]; cases h; rfl
  | lst ds => simp only [lk] at h; cases h; rfl
  | _ => cases h
theorem still_self {G : Store} {x : D} : still G x G := by cases x <;> first | trivial | rfl
theorem lt_LN {n m : Nat} (h : n ≤ m) (h2 : m < 16777216 := by decide) : n < LN := by show n < 16777216; omega
section
variable {α : Type} [Enc α]
theorem any_enc' {x : α} {l : List α} {b : Bool} (h : b = true ↔ x ∈ l) : (l.map enc).any (fun d => D.eq d (enc x)) = b := by
  rw [Bool.eq_iff_iff, h, List.any_eq_true]
  constructor
  · rintro ⟨d, hd, e⟩
    obtain ⟨y, hy, rfl⟩ := List.mem_map.mp hd
    rw [← (Enc.eq y x).mp e]; exact hy
  · exact fun hx => ⟨enc x, List.mem_map.mpr ⟨x, hx, rfl⟩, (Enc.eq x x).mpr rfl⟩
theorem in_lst' {x : α} {l : List α} {b : Bool} (h : b = true ↔ x ∈ l) (hd : Enc.dp α ≤ 30 := by decide) : cmpD .in_ (enc x) (.lst (l.map enc)) = some (.bl b) := by
  simp only [cmpD, inD]
  rw [if_pos (by simp [Enc.pu x, pureL_enc, Nat.le_trans (Enc.dep x) hd]), any_enc' h]; rfl
theorem in_tup' {x : α} {l : List α} {b : Bool} (h : b = true ↔ x ∈ l) (hd : Enc.dp α ≤ 30 := by decide) : cmpD .in_ (enc x) (.tup (l.map enc)) = some (.bl b) := by
  simp only [cmpD, inD]
  rw [if_pos (by simp [Enc.pu x, pureL_enc, Nat.le_trans (Enc.dep x) hd]), any_enc' h]; rfl
theorem ni_lst' {x : α} {l : List α} {b : Bool} (h : b = true ↔ x ∈ l) (hd : Enc.dp α ≤ 30 := by decide) : cmpD .notIn (enc x) (.lst (l.map enc)) = some (.bl !b) := by
  simp only [cmpD, inD]
  rw [if_pos (by simp [Enc.pu x, pureL_enc, Nat.le_trans (Enc.dep x) hd]), any_enc' h]; rfl
theorem ni_tup' {x : α} {l : List α} {b : Bool} (h : b = true ↔ x ∈ l) (hd : Enc.dp α ≤ 30 := by decide) : cmpD .notIn (enc x) (.tup (l.map enc)) = some (.bl !b) := by
  simp only [cmpD, inD]
  rw [if_pos (by simp [Enc.pu x, pureL_enc, Nat.le_trans (Enc.dep x) hd]), any_enc' h]; rfl
theorem eq_enc' {x y : α} {b : Bool} (h : b = true ↔ x = y) (hd : Enc.dp α ≤ 30 := by decide) : cmpD .eq (enc x) (enc y) = some (.bl b) := by
  simp only [cmpD]
  rw [if_pos (eqOk_of (Enc.pu x) (Enc.pu y) (Nat.le_trans (Enc.dep x) hd)), eqD_pure (Enc.pu x)]
  congr 2
  rw [Bool.eq_iff_iff, Enc.eq, h]
theorem ne_enc' {x y : α} {b : Bool} (h : b = true ↔ x = y) (hd : Enc.dp α ≤ 30 := by decide) : cmpD .ne (enc x) (enc y) = some (.bl !b) := by
  simp only [cmpD]
  rw [if_pos (eqOk_of (Enc.pu x) (Enc.pu y) (Nat.le_trans (Enc.dep x) hd)), eqD_pure (Enc.pu x)]
  congr 3
  rw [Bool.eq_iff_iff, Enc.eq, h]
end
end C
end
section
set_option Elab.async false
set_option linter.all false
set_option maxRecDepth 100000
/-! Dicts of typed keys. -/
namespace C
open T PySem L2
open T.Enc (enc)
section
variable {κ κ' β β' : Type} [DecidableEq κ] [DecidableEq κ']
theorem look_inj (f : κ → κ') (g : β → β') (inj : ∀ a b, f a = f b → a = b) (l : List (κ × β)) (k : κ) : look (l.map fun x => (f x.1, g x.2)) (f k) = (look l k).map g := by
  induction l with
  | nil => rfl
  | cons x l ih =>
    unfold look at ih ⊢
    rw [List.map_cons, List.find?_cons, List.find?_cons]
    by_cases q : x.1 = k
    · simp [q]
    · have : ¬ f x.1 = f k := fun e => q (inj _ _ e)
      simp only [q, this, decide_false]; exact ih
theorem mem_key_inj (f : κ → κ') (g : β → β') (inj : ∀ a b, f a = f b → a = b) (l : List (κ × β)) (k : κ) : ((l.map fun x => (f x.1, g x.2)).any fun kv => decide (kv.1 = f k)) = l.any fun kv => decide (kv.1 = k) := by
  rw [List.any_map]
  congr 1
  funext x
  exact decide_eq_decide.mpr ⟨fun e => inj _ _ e, fun e => by rw [← e]⟩
theorem putG_inj (f : κ → κ') (g : β → β') (inj : ∀ a b, f a = f b → a = b) (l : List (κ × β)) (k : κ) (v : β) : putG (l.map fun x => (f x.1, g x.2)) (f k) (g v) = (putG l k v).map fun x => (f x.1, g x.2) := by
  unfold putG
  rw [mem_key_inj f g inj]
  split
  · rw [List.map_map, List.map_map]
    refine List.map_congr_left fun x _ => ?_
    show (if f x.1 = f k then _ else _) = _
    by_cases q : x.1 = k
    · simp [q]
    · have : ¬ f x.1 = f k := fun e => q (inj _ _ e)
      simp [q, this]
  · rw [List.map_append]; rfl
theorem dropG_inj (f : κ → κ') (g : β → β') (inj : ∀ a b, f a = f b → a = b) (l : List (κ × β)) (k : κ) : dropG (l.map fun x => (f x.1, g x.2)) (f k) = (dropG l k).map fun x => (f x.1, g x.2) := by
  unfold dropG
  rw [List.filter_map]
  congr 1
  refine List.filter_congr fun x _ => ?_
  show decide (f x.1 ≠ f k) = decide (x.1 ≠ k)
  exact decide_eq_decide.mpr ⟨fun h e => h (by rw [e]), fun h e => h (inj _ _ e)⟩
theorem putG_keys (l : List (κ × β)) (k : κ) (v : β) : (putG l k v).map (·.1) = if k ∈ l.map (·.1) then l.map (·.1) else l.map (·.1) ++ [k] := by
  unfold putG
  rw [any_key]
  by_cases h : k ∈ l.map (·.1)
  · rw [if_pos (by simpa using h), if_pos h, List.map_map]
    refine List.map_congr_left fun x _ => ?_
    show (if x.1 = k then (x.1, v) else x).1 = x.1
    split <;> rfl
  · rw [if_neg (by simpa using h), if_neg h, List.map_append]; rfl
theorem putG_nodup {l : List (κ × β)} (nd : (l.map (·.1)).Nodup) (k : κ) (v : β) : ((putG l k v).map (·.1)).Nodup := by
  rw [putG_keys]
  split
  · exact nd
  · rename_i h
    rw [List.nodup_append]
    exact ⟨nd, by simp, fun a ha b hb e => h (by rw [List.mem_singleton] at hb; subst hb; subst e; exact ha)⟩
theorem putG_memk {l : List (κ × β)} {k : κ} {v : β} {x : κ} : x ∈ (putG l k v).map (·.1) ↔ x = k ∨ x ∈ l.map (·.1) := by
  rw [putG_keys]
  split
  · rename_i h
    constructor
    · exact .inr
    · rintro (e | e)
      · subst e; exact h
      · exact e
  · rw [List.mem_append, List.mem_singleton]; exact Or.comm
theorem putG_len (l : List (κ × β)) (k : κ) (v : β) : (putG l k v).length ≤ l.length + 1 := by
  unfold putG; split <;> simp
theorem putG_mem {l : List (κ × β)} {k : κ} {v : β} {x : κ × β} (h : x ∈ putG l k v) : x ∈ l ∨ x = (k, v) := by
  unfold putG at h
  split at h
  · obtain ⟨y, hy, rfl⟩ := List.mem_map.mp h
    split
    · rename_i e; exact .inr (by rw [e])
    · exact .inl hy
  · rcases List.mem_append.mp h with h | h
    · exact .inl h
    · exact .inr (List.mem_singleton.mp h)
theorem look_mem {l : List (κ × β)} {k : κ} (h : k ∈ l.map (·.1)) : ∃ v, look l k = some v ∧ (k, v) ∈ l := by
  unfold look
  obtain ⟨kv, hkv, e⟩ := List.mem_map.mp h
  cases hf : l.find? fun kv => decide (kv.1 = k) with
  | none =>
    have := List.find?_eq_none.mp hf kv hkv
    simp [e] at this
  | some x =>
    refine ⟨x.2, rfl, ?_⟩
    have h1 := List.find?_some hf
    simp at h1
    rw [← h1]
    exact List.mem_of_find?_eq_some hf
theorem look_put (l : List (κ × β)) (k k' : κ) (v : β) : look (putG l k v) k' = if k' = k then some v else look l k' := by
  unfold putG
  rw [any_key]
  by_cases h : k ∈ l.map (·.1)
  · rw [if_pos (by simpa using h)]
    induction l with
    | nil => simp at h
    | cons x l ih =>
      unfold look at ih ⊢
      rw [List.map_cons, List.find?_cons, List.find?_cons]
      by_cases q : x.1 = k
      · by_cases q2 : k' = k
        · simp [q, q2]
        · have q3 : ¬ k = k' := fun e => q2 e.symm
          simp [q, q2, q3]
          have z : ∀ (l : List (κ × β)), ((l.map fun kv => if kv.1 = k then (kv.1, v) else kv).find? fun kv => decide (kv.1 = k')).map (·.2) = (l.find? fun kv => decide (kv.1 = k')).map (·.2) := fun l => by
            induction l with
            | nil => rfl
            | cons y l ih =>
              rw [List.map_cons, List.find?_cons, List.find?_cons]
              by_cases w : y.1 = k
              · simp only [w, if_true, q3, decide_false]; exact ih
              · simp only [w, if_false]
                by_cases w2 : y.1 = k'
                · simp [w2]
                · simp only [w2, decide_false]; exact ih
          have := z l
          simpa using this
      · simp only [q, if_false]
        by_cases q2 : x.1 = k'
        · simp [q2]
          have : ¬ k' = k := fun e => q (by rw [q2, e])
          simp [this]
        · simp only [q2, decide_false]
          refine ih ?_
          rw [List.map_cons, List.mem_cons] at h
          exact h.resolve_left fun e => q e.symm
  · rw [if_neg (by simpa using h)]
    unfold look
    rw [List.find?_append]
    by_cases q : k' = k
    · subst q
      have : l.find? (fun kv => decide (kv.1 = k')) = none := by
        rw [List.find?_eq_none]
        intro x hx e
        simp at e
        exact h (List.mem_map.mpr ⟨x, hx, e⟩)
      rw [this]
      simp
    · have q3 : ¬ k = k' := fun e => q e.symm
      simp [q, q3]
theorem look_none {l : List (κ × β)} {k : κ} : look l k = none ↔ k ∉ l.map (·.1) := by
  unfold look
  rw [Option.map_eq_none_iff, List.find?_eq_none]
  constructor
  · intro h hk
    obtain ⟨x, hx, e⟩ := List.mem_map.mp hk
    exact h x hx (by simp [e])
  · intro h x hx e
    simp at e
    exact h (List.mem_map.mpr ⟨x, hx, e⟩)
end
/-- pairs of texts as keys -/
abbrev kP (k : Str × Str) : List Key := [.inr k.1, .inr k.2]
theorem kP_inj : ∀ a b, kP a = kP b → a = b := fun a b h => by
  obtain ⟨a1, a2⟩ := a; obtain ⟨b1, b2⟩ := b
  simpa [kP] using h
theorem keysOf_pair (a b : Str) : keysOf (.tup [.str a, .str b]) = some (kP (a, b)) := rfl
abbrev dP {β : Type} (g : β → D) (l : List ((Str × Str) × β)) : List (List Key × D) := l.map fun x => (kP x.1, g x.2)
theorem keys_dP {β : Type} (g : β → D) (l : List ((Str × Str) × β)) : (dP g l).map (fun p => dKeys p.1) = (l.map (·.1)).map enc := by
  unfold dP
  rw [List.map_map, List.map_map]
  rfl
section
variable {p : Addr} {G : Store}
theorem setI_dT {l : List (List Key × D)} {i d : D} {ks : List Key} {k : Store → Prop} (hG : G p = some (.dT l)) (hl : l.length < LN) (hk : keysOf i = some ks) : setI (.ref p) i d G k = k (put G p (.dT (putG l ks d))) := by
  apply propext
  constructor
  · rintro ⟨p', o, e, h, z⟩
    cases e
    rw [hG] at h; cases h
    obtain ⟨_, y, e2, z⟩ := z
    rw [hk] at e2; cases e2
    exact z
  · exact fun z => ⟨p, _, rfl, hG, hl, ks, hk, z⟩
theorem setI_dK {l : List (Key × D)} {i d : D} {ks : Key} {k : Store → Prop} (hG : G p = some (.dK l)) (hl : l.length < LN) (hk : keyOf i = some ks) : setI (.ref p) i d G k = k (put G p (.dK (putG l ks d))) := by
  apply propext
  constructor
  · rintro ⟨p', o, e, h, z⟩
    cases e
    rw [hG] at h; cases h
    obtain ⟨_, y, e2, z⟩ := z
    rw [hk] at e2; cases e2
    exact z
  · exact fun z => ⟨p, _, rfl, hG, hl, ks, hk, z⟩
end
section
variable {p : Addr} {G0 G : Store} {ob : List (Addr × MO)}
theorem Ob.lkT0 {l : List (List Key × D)} (j : Ob G0 ((p, .dT l) :: ob) G) : lk G (.ref p) = .dT l := lk_t j.get0
theorem Ob.lkT1 {l : List (List Key × D)} {q : Addr × MO} (j : Ob G0 (q :: (p, .dT l) :: ob) G) : lk G (.ref p) = .dT l := lk_t j.get1
theorem Ob.lkK0 {l : List (Key × D)} (j : Ob G0 ((p, .dK l) :: ob) G) : lk G (.ref p) = .dK l := lk_k j.get0
theorem Ob.lkK1 {l : List (Key × D)} {q : Addr × MO} (j : Ob G0 (q :: (p, .dK l) :: ob) G) : lk G (.ref p) = .dK l := lk_k j.get1
end
end C
end
section
set_option Elab.async false
set_option linter.all false
set_option maxRecDepth 100000
/-! The rounds of a law. -/
namespace C
open T PySem L2
open T.Enc (enc)
variable {Γ : T.Ctx}
def pLaw : Pm := fun ds G q => ∃ is : List Int, ds = [.scr is] ∧ is.length ≤ 63 ∧ ∀ G', q (.bl true) G'
theorem rounds {is : List Int} (hl : is.length ≤ 63) {A B : Int} (hA : 0 ≤ A ∧ A ≤ 63) (hB : 0 ≤ B ∧ B ≤ 63) {body rest : List S} {W : Wi} {D0 : Ed} {m : Nat}
    (hb : ∀ (k : Int) (tl : Sl) (G : Store) (K : Sl → Store → Prop), 0 ≤ k → k < 64 → tl.length = m → (∀ tl' G', tl'.length = m → K (some (.scr is) :: some (.int k) :: tl') G') →
      sSs Γ body W { nx := K, ct := K, bk := sSs Γ rest W D0, rt := D0.rt } (some (.scr is) :: some (.int k) :: tl) G)
    (hr : ∀ (o : Option D) (tl : Sl) (G : Store), tl.length = m → sSs Γ rest W D0 (some (.scr is) :: o :: tl) G) (o : Option D) (tl : Sl) (G : Store) (ht : tl.length = m) :
    sSs Γ (.for_ (.pname 1) (.range1 (.bi .max2 [(.int A), (.bi .min2 [(.int B), (.bi .len [(.var 0)])])])) body :: rest) W D0 (some (.scr is) :: o :: tl) G := by
  simp
  have h1 : max A (min B (is.length : Int)) ≤ 63 := by rw [Int.max_def, Int.min_def]; split <;> split <;> omega
  have h2 : 0 ≤ max A (min B (is.length : Int)) := by rw [Int.max_def]; split <;> omega
  generalize max A (min B (is.length : Int)) = n at h1 h2
  refine ⟨by show n ≤ 16777216; omega, by omega, ?_⟩
  refine loopW_t (e := fun i : Nat => D.int (i : Int)) (I := fun r σ G' => ∃ (o : Option D) (tl : Sl), tl.length = m ∧ σ = some (.scr is) :: o :: tl ∧ ∀ k ∈ r, k < 64) (fun _ _ _ _ => trivial) (fun x r σ G' k hI hk => ?_) (fun σ G' hI => ?_) _ _ _ ⟨o, tl, ht, rfl, fun k hk => ?_⟩
  · obtain ⟨o, tl, ht, rfl, hr⟩ := hI
    have := hr x (by simp)
    exact hb x tl G' k (by omega) (by omega) ht fun tl' G'' ht' => hk _ _ ⟨_, tl', ht', rfl, fun y hy => hr y (by simp [hy])⟩
  · obtain ⟨o, tl, ht, rfl, _⟩ := hI
    exact hr o tl G' ht
  · have := List.mem_range.mp hk
    omega
theorem eq_len {xs ys : List D} (h : xs.length ≠ ys.length) : cmpD .eq (.lst xs) (.lst ys) = some (.bl false) := by
  simp only [cmpD]
  rw [if_pos (show eqOk (.lst xs) (.lst ys) = true by simp [eqOk, h])]
  have e : ∀ xs ys : List D, xs.length ≠ ys.length → D.eqL xs ys = false := by
    intro xs
    induction xs with
    | nil => intro ys h; cases ys with | nil => exact absurd rfl h | cons _ _ => rfl
    | cons x xs ih => intro ys h; cases ys with
      | nil => rfl
      | cons y ys => rw [D.eqL, ih ys (by simpa using h), Bool.and_false]
  rw [show eqD (.lst xs) (.lst ys) = D.eqL xs ys from rfl, e xs ys h]
theorem add_tt {a b : List D} (h : a.length + b.length ≤ 16777216) : binD .add (.tup a) (.tup b) = some (.tup (a ++ b)) := by
  simp only [binD]; rw [if_pos h]
theorem add_ll {a b : List D} (h : a.length + b.length ≤ 16777216) : binD .add (.lst a) (.lst b) = some (.lst (a ++ b)) := by
  simp only [binD]; rw [if_pos h]
/-- dict(..) of pairs of a text and a value -/
theorem dict_of {α : Type} (f : α → Str) (g : α → D) : ∀ l : List α, dictOf (l.map fun x => .tup [.str (f x), g x]) = some (l.map fun x => ((Sum.inr (f x) : Key), g x))
  | [] => rfl
  | x :: l => by
    rw [List.map_cons, dictOf, dict_of f g l]
    rfl
theorem inrNd : ∀ {l : List Str}, l.Nodup → (l.map fun w => (Sum.inr w : Key)).Nodup := fun nd => by
  rw [List.Nodup, List.pairwise_map]
  exact nd.imp fun {a b} n e => n (Sum.inr.inj e)
theorem bi_dict_of {α : Type} (f : α → Str) (g : α → D) {l : List α} (nd : (l.map f).Nodup) {G : Store} {q : DK} : wBi .dict [.lst (l.map fun x => .tup [.str (f x), g x])] G q = q (.dK (l.map fun x => ((Sum.inr (f x) : Key), g x))) G := by
  refine bi_of (by decide) ?_
  simp only [List.map_cons, List.map_nil, lk_lst, biD, dict_of, Option.map_some]
  congr 2
  unfold merge
  rw [List.foldl_map]
  exact fold_put0 (fun x => (Sum.inr (f x) : Key)) g (by have := inrNd nd; rw [List.map_map] at this; exact this)
end C
namespace C
open T PySem L2
open T.Enc (enc)
variable {Γ : T.Ctx}
/-- one statement; R: what follows -/
theorem ss_step {s : S} {ss : List S} {W : Wi} {D0 : Ed} {σ : Sl} {G : Store} (h : ∀ R : Sl → Store → Prop, (∀ σ G, sSs Γ ss W D0 σ G → R σ G) → sS Γ s W { D0 with nx := R } σ G) : sSs Γ (s :: ss) W D0 σ G := h _ fun _ _ h => h
theorem names_take {l : List Str} {n : Int} (h : 0 ≤ n) : cutG (l.map D.str) none (some n) = (l.take n.toNat).map D.str := by rw [cutG_take _ h, List.map_take]
/-- as rounds, with something between the script and the number -/
theorem rounds2 {is : List Int} {d1 : Option D} (hl : is.length ≤ 63) {A B : Int} (hA : 0 ≤ A ∧ A ≤ 63) (hB : 0 ≤ B ∧ B ≤ 63) {body rest : List S} {W : Wi} {D0 : Ed} {m : Nat}
    (hb : ∀ (k : Int) (tl : Sl) (G : Store) (K : Sl → Store → Prop), 0 ≤ k → k < 64 → tl.length = m → (∀ tl' G', tl'.length = m → K (some (.scr is) :: d1 :: some (.int k) :: tl') G') →
      sSs Γ body W { nx := K, ct := K, bk := sSs Γ rest W D0, rt := D0.rt } (some (.scr is) :: d1 :: some (.int k) :: tl) G)
    (hr : ∀ (o : Option D) (tl : Sl) (G : Store), tl.length = m → sSs Γ rest W D0 (some (.scr is) :: d1 :: o :: tl) G) (o : Option D) (tl : Sl) (G : Store) (ht : tl.length = m) :
    sSs Γ (.for_ (.pname 2) (.range1 (.bi .max2 [(.int A), (.bi .min2 [(.int B), (.bi .len [(.var 0)])])])) body :: rest) W D0 (some (.scr is) :: d1 :: o :: tl) G := by
  simp
  have h1 : max A (min B (is.length : Int)) ≤ 63 := by rw [Int.max_def, Int.min_def]; split <;> split <;> omega
  have h2 : 0 ≤ max A (min B (is.length : Int)) := by rw [Int.max_def]; split <;> omega
  generalize max A (min B (is.length : Int)) = n at h1 h2
  refine ⟨by show n ≤ 16777216; omega, by omega, ?_⟩
  refine loopW_t (e := fun i : Nat => D.int (i : Int)) (I := fun r σ G' => ∃ (o : Option D) (tl : Sl), tl.length = m ∧ σ = some (.scr is) :: d1 :: o :: tl ∧ ∀ k ∈ r, k < 64) (fun _ _ _ _ => trivial) (fun x r σ G' k hI hk => ?_) (fun σ G' hI => ?_) _ _ _ ⟨o, tl, ht, rfl, fun k hk => ?_⟩
  · obtain ⟨o, tl, ht, rfl, hr⟩ := hI
    have := hr x (by simp)
    exact hb x tl G' k (by omega) (by omega) ht fun tl' G'' ht' => hk _ _ ⟨_, tl', ht', rfl, fun y hy => hr y (by simp [hy])⟩
  · obtain ⟨o, tl, ht, rfl, _⟩ := hI
    exact hr o tl G' ht
  · have := List.mem_range.mp hk
    omega
end C
end
section
set_option Elab.async false
set_option linter.all false
set_option maxRecDepth 100000
/-! More rules to read programs by. -/
namespace C
open T PySem L2
open T.Enc (enc)
section
variable {Γ : T.Ctx} {W : Wi} {D0 : Ed} {σ : Sl} {G : Store} {q : DK}
@[simp] theorem i_enum {a : E} {p : WI} : (sem Γ (.enum a)).i W σ G p = (sem Γ a).e W σ G fun x G1 => oq (seqD (lk G1 x)) fun ds => ds.length ≤ LN ∧ p (ds.zipIdx.map fun p => .tup [.int (p.2 : Nat), p.1]) (still G1 x) G1 := rfl
@[simp] theorem i_zip {a b : E} {p : WI} : (sem Γ (.zip a b)).i W σ G p = (sem Γ a).e W σ G fun x G1 => (sem Γ b).e W σ G1 fun y G2 => oq (seqD (lk G2 x)) fun ds => oq (seqD (lk G2 y)) fun es =>
    p ((ds.zip es).map fun p => .tup [p.1, p.2]) (fun G' => still G2 x G' ∧ still G2 y G') G2 := rfl
@[simp] theorem s_augA {i : Nat} {e : E} : sS Γ (.aug i .add e) W D0 σ G = oq (slot σ i) fun x => (sem Γ e).e W σ G fun y G1 => oq (intOf x) fun a => oq (intOf y) fun b => D0.nx (σ.set i (some (.int (a + b)))) G1 := rfl
@[simp] theorem s_augS {i : Nat} {e : E} : sS Γ (.aug i .sub e) W D0 σ G = oq (slot σ i) fun x => (sem Γ e).e W σ G fun y G1 => oq (intOf x) fun a => oq (intOf y) fun b => D0.nx (σ.set i (some (.int (a - b)))) G1 := rfl
@[simp] theorem e_lcT {elt pat it : E} {ifs : List E} {own : List Nat} : (sem Γ (.lc true elt pat it ifs own)).e W σ G q = (sem Γ it).i W σ G fun ds gd G1 => compW gd (fun d k G2 => (sem Γ pat).p W0 d (wipeD σ own) G2 fun σ1 G3 => dTs (semL Γ ifs) W0 σ1 G3 fun t G4 =>
      if t = true then (sem Γ elt).e W0 σ1 G4 fun y G5 => k (some y) G5 else k none G4) (fun l G2 => ∀ p, G2 p = none → q (.ref p) (put G2 p (.lst l))) ds [] G1 := rfl
@[simp] theorem e_fstr {es : List E} : (sem Γ (.fstr es)).e W σ G q = dJ (semL Γ es) Str.empty W σ G fun t G1 => q (.str t) G1 := rfl
@[simp] theorem dj_0 {acc : Str} {p : Str → Store → Prop} : dJ [] acc W σ G p = p acc G := rfl
@[simp] theorem dj_1 {d : Den} {ds : List Den} {acc : Str} {p : Str → Store → Prop} : dJ (d :: ds) acc W σ G p = d.e W σ G fun x G1 => oq (partD x) fun y => (acc ++ y).length ≤ LN ∧ dJ ds (acc ++ y) W σ G1 p := rfl
@[simp] theorem intOf_i {i : Int} : intOf (.int i) = some i := rfl
theorem bi_tup_r {x : D} {l : List D} (h : lk G x = .lst l) : wBi .tuple [x] G q = q (.tup l) G := bi_of (by decide) (by simp [h, biD])
theorem bi_len_r {x : D} {l : List D} (h : lk G x = .lst l) : wBi .len [x] G q = q (.int l.length) G := bi_of (by decide) (by simp [h, biD])
end
theorem at_split' {α β : Type} (f : α → β) {l : List α} {k : Int} (h : 0 ≤ k) (h2 : k < l.length) : ∃ x, atI (l.map f) k = some (f x) ∧ x ∈ l := by
  obtain ⟨n, rfl⟩ := Int.eq_ofNat_of_zero_le h
  have hn : n < l.length := by omega
  exact ⟨l[n], atI_nat (by rw [List.getElem?_map, List.getElem?_eq_getElem hn]; rfl), List.getElem_mem ..⟩
/-! ### texts -/
def iS (i : Int) : Str := (toString i : String)
theorem iS_len {i : Int} (h0 : 0 ≤ i) (h : i < 10 ^ 19) : (iS i).length ≤ 20 := by
  obtain ⟨n, rfl⟩ := Int.eq_ofNat_of_zero_le h0
  have e : (iS (n : Int)).cps.toList = (Nat.toDigits 10 n).map Char.toNat := PySem.W.KIN.signs_num n
  have l : (Nat.toDigits 10 n).length ≤ 20 := PyProof.Rows.digits10_le (by decide) (by omega)
  have := congrArg List.length e
  rw [List.length_map] at this
  show (iS (n : Int)).cps.size ≤ 20
  rw [Array.length_toList] at this
  omega
theorem abs_lt {i : Int} (h0 : 0 ≤ i) (h : i < 10 ^ 19) : i.natAbs < 10 ^ 20 := by omega
theorem bi_str_i {i : Int} {G : Store} {q : DK} (h0 : 0 ≤ i) (h : i < 10 ^ 19) : wBi .str [.int i] G q = q (.str (iS i)) G := bi_of (by decide) (by
  simp only [List.map_cons, List.map_nil, lk_int, biD]; rw [if_pos (abs_lt h0 h)]; rfl)
theorem part_i {i : Int} (h0 : 0 ≤ i) (h : i < 10 ^ 19) : partD (.int i) = some (iS i) := by simp only [partD]; rw [if_pos (abs_lt h0 h)]; rfl
theorem part_s {s : Str} (h : s.length ≤ 16777216) : partD (.str s) = some s := by simp only [partD]; rw [if_pos h]
theorem add_ss {a b : Str} (h : a.length + b.length ≤ 16777216) : binD .add (.str a) (.str b) = some (.str (a ++ b)) := by simp only [binD]; rw [if_pos h]
theorem join_l {s : Str} {l : List Str} {G : Store} {x : D} {q : DK} (hx : lk G x = .lst (l.map D.str)) (h : (l.map (·.length)).sum + l.length * s.length ≤ 16777216) : wBm .join (.str s) [x] G q = q (.str (Str.join s l)) G := by
  show oq (bmD .join (lk G (.str s)) [lk G x]) _ = _
  rw [hx]
  show oq (((l.map D.str).mapM strOf).bind _) _ = _
  rw [mapM_str, Option.bind_some, if_pos h, oqs]
theorem join_t {s : Str} {l : List Str} {G : Store} {q : DK} (h : (l.map (·.length)).sum + l.length * s.length ≤ 16777216) : wBm .join (.str s) [.tup (l.map D.str)] G q = q (.str (Str.join s l)) G := by
  show oq (((l.map D.str).mapM strOf).bind _) _ = _
  rw [mapM_str, Option.bind_some, if_pos h, oqs]
theorem join_len (s : Str) (l : List Str) (n : Nat) (h : ∀ x ∈ l, x.length ≤ n) : (Str.join s l).length ≤ l.length * (n + s.length) := by
  refine Nat.le_trans (StrLaws.join_length_le s l) ?_
  have : (l.map (·.length)).sum ≤ l.length * n := by
    clear s
    induction l with
    | nil => simp
    | cons x l ih =>
      have h1 := h x (by simp)
      have h2 := ih fun y hy => h y (by simp [hy])
      rw [List.map_cons, List.sum_cons, List.length_cons, Nat.succ_mul]
      omega
  rw [Nat.mul_add]
  omega
theorem sum_len (l : List Str) (n : Nat) (h : ∀ x ∈ l, x.length ≤ n) : (l.map (·.length)).sum ≤ l.length * n := by
  induction l with
  | nil => simp
  | cons x l ih =>
    have h1 := h x (by simp)
    have h2 := ih fun y hy => h y (by simp [hy])
    rw [List.map_cons, List.sum_cons, List.length_cons, Nat.succ_mul]
    omega
end C
end
section
set_option Elab.async false
set_option linter.all false
set_option maxRecDepth 100000
/-! Views: slots frozen or dropped. -/
namespace C
open T PySem L2
inductive SlV (G G' : Store) : Sl → Sl → Prop
  | nil : SlV G G' [] []
  | same {o : Option D} {r r' : Sl} (h : SlV G G' r r') : SlV G G' (o :: r) (o :: r')
  | fz {d d' : D} {r r' : Sl} (f : Fz G G' d d') (h : SlV G G' r r') : SlV G G' (some d :: r) (some d' :: r')
  | no {o : Option D} {r r' : Sl} (h : SlV G G' r r') : SlV G G' (o :: r) (none :: r')
theorem SlV.view {G G' : Store} {σ σ' : Sl} (l : Less G G') (h : SlV G G' σ σ') : View σ G σ' G' := by
  refine ⟨l, ?_, ?_⟩
  · induction h with
    | nil => rfl
    | same _ ih => simp [ih]
    | fz _ _ ih => simp [ih]
    | no _ ih => simp [ih]
  · induction h with
    | nil => intro i d' e; simp at e
    | same _ ih => intro i d' e; cases i with
      | zero => simp at e; subst e; exact ⟨d', rfl, .same _⟩
      | succ i => exact ih i d' (by simpa using e)
    | fz f _ ih => intro i d' e; cases i with
      | zero => simp at e; subst e; exact ⟨_, rfl, f⟩
      | succ i => exact ih i d' (by simpa using e)
    | no _ ih => intro i d' e; cases i with
      | zero => simp at e
      | succ i => exact ih i d' (by simpa using e)
theorem SlV.refl {G G' : Store} : ∀ σ : Sl, SlV G G' σ σ
  | [] => .nil
  | _ :: r => .same (SlV.refl r)
theorem ss_view {Γ : T.Ctx} {ss : List S} {W : Wi} {D0 : Ed} {σ σ' : Sl} {G G' : Store} (l : Less G G') (v : SlV G G' σ σ') (h : sSs Γ ss W D0 σ' G') : sSs Γ (.view :: ss) W D0 σ G := ⟨σ', G', v.view l, h⟩
section
variable {G0 G : Store} {p : Addr}
theorem Ob.fzL {l : List D} (j : Ob G0 [(p, .lst l)] G) : Fz G G0 (.ref p) (.lst l) := .lst j.get0 (j.fr (p, .lst l) (by simp))
theorem Ob.fzT {l : List (List Key × D)} (j : Ob G0 [(p, .dT l)] G) : Fz G G0 (.ref p) (.dT l) := .dT j.get0 (j.fr (p, .dT l) (by simp))
theorem Ob.fzK {l : List (Key × D)} (j : Ob G0 [(p, .dK l)] G) : Fz G G0 (.ref p) (.dK l) := .dK j.get0 (j.fr (p, .dK l) (by simp))
end
theorem extend_l {p b : Addr} {l k : List D} {G : Store} {q : DK} (h1 : G p = some (.lst l)) (h2 : G b = some (.lst k)) (hl : l.length + k.length ≤ 16777216) (h : q .non (put G p (.lst (l ++ k)))) : wBm .extend (.ref p) [.ref b] G q := ⟨p, l, b, k, rfl, h1, rfl, h2, hl, h⟩
section
variable {Γ : T.Ctx} {W : Wi} {σ : Sl} {G : Store} {q : DK}
@[simp] theorem e_chain {op op' : Cm} {a b c : E} : (sem Γ (.chain op op' a b c)).e W σ G q = (sem Γ a).e W σ G fun x G1 => (sem Γ b).e W σ G1 fun y G2 => oq (cmpD op (lk G2 x) (lk G2 y)) fun r => oq (blOf r) fun t =>
  if t = true then (sem Γ c).e W σ G2 fun z G3 => oq (cmpD op' (lk G3 y) (lk G3 z)) fun d => q d G3 else q (.bl false) G2 := rfl
@[simp] theorem t_chain {op op' : Cm} {a b c : E} {p : Bool → Store → Prop} : (sem Γ (.chain op op' a b c)).t W σ G p = (sem Γ a).e W σ G fun x G1 => (sem Γ b).e W σ G1 fun y G2 => oq (cmpD op (lk G2 x) (lk G2 y)) fun r => oq (blOf r) fun t =>
  if t = true then (sem Γ c).e W σ G2 fun z G3 => oq (cmpD op' (lk G3 y) (lk G3 z)) fun d => oq (truth (lk G3 d)) fun b => p b G3 else oq (truth (lk G2 (.bl false))) fun b => p b G2 := rfl
@[simp] theorem blOf_bl {b : Bool} : blOf (.bl b) = some b := rfl
end
/-- a for, its body left folded -/
theorem for_it {α : Type} {e : α → D} {xs : List α} {gd : Store → Prop} {Γ : T.Ctx} {pat it : E} {body : List S} {W : Wi} {D0 : Ed} {σ : Sl} {G G1 : Store} (I : List α → Sl → Store → Prop) (hi : ∀ p : WI, p (xs.map e) gd G1 → (sem Γ it).i W σ G p) (hg : ∀ r σ G, I r σ G → gd G) (h0 : I xs σ G1)
    (hs : ∀ x r σ G (k : Sl → Store → Prop), I (x :: r) σ G → (∀ σ' G', I r σ' G' → k σ' G') → (sem Γ pat).p W (e x) σ G fun σ2 G3 => sSs Γ body W { nx := k, ct := k, bk := D0.nx, rt := D0.rt } σ2 G3) (hf : ∀ σ G, I [] σ G → D0.nx σ G) : sS Γ (.for_ pat it body) W D0 σ G := by
  rw [s_for]
  exact hi _ (loopW_t I hg hs hf xs σ G1 h0)
theorem compW_id {gd : Store → Prop} {step : D → (Option D → Store → Prop) → Store → Prop} {fin : List D → Store → Prop} (f : D → D) {G : Store} {ds : List D} (hg : gd G) (hs : ∀ d ∈ ds, ∀ k : Option D → Store → Prop, k (some (f d)) G → step d k G) (h : fin (ds.map f) G) : compW gd step fin ds [] G :=
  compW_pure (f := fun d => some (f d)) hg ds [] hs (by rw [List.nil_append, show ds.filterMap (fun d => some (f d)) = ds.map f from by rw [← List.filterMap_eq_map]; rfl]; exact h)
theorem compW_idF {gd : Store → Prop} {step : D → (Option D → Store → Prop) → Store → Prop} {fin : List D → Store → Prop} (p : D → Bool) (f : D → D) {G : Store} {ds : List D} (hg : gd G) (hs : ∀ d ∈ ds, ∀ k : Option D → Store → Prop, k (if p d = true then some (f d) else none) G → step d k G) (h : fin ((ds.filter p).map f) G) : compW gd step fin ds [] G :=
  compW_pure (f := fun d => if p d = true then some (f d) else none) hg ds [] hs (by rw [List.nil_append, filterMap_ite]; exact h)
section
variable {Γ : T.Ctx} {W : Wi} {D0 : Ed} {σ : Sl} {G G1 : Store} {c : E} {a b : List S}
/-- an if whose outcome is known, its branches left folded -/
theorem ite_T (h : ∀ p : Bool → Store → Prop, p true G1 → (sem Γ c).t W σ G p) (k : sSs Γ a W D0 σ G1) : sS Γ (.ite c a b) W D0 σ G := by
  rw [s_ite]; exact h _ (by rw [if_pos rfl]; exact k)
theorem ite_F (h : ∀ p : Bool → Store → Prop, p false G1 → (sem Γ c).t W σ G p) (k : sSs Γ b W D0 σ G1) : sS Γ (.ite c a b) W D0 σ G := by
  rw [s_ite]; exact h _ (by rw [if_neg Bool.false_ne_true]; exact k)
end
end C
end
section
set_option Elab.async false
set_option linter.all false
set_option maxRecDepth 100000
set_option maxHeartbeats 4000000
/-! Layings: what the laws draw. -/
namespace C
open T PySem L2
open T.Enc (enc)
variable {Γ : T.Ctx}
abbrev Pl := Int × Int
abbrev some6 : List Str := ["ann", "bo", "cy", "dee", "eve", "fay"]
abbrev wn7 : List Str := ["wa", "wb", "wc", "wd", "we", "wf", "wg"]
structure NamesP (l : Int) (L : List Str) : Prop where
  srt : L.Pairwise fun a b => ltE a b = true
  mem : ∀ x ∈ L, x ∈ some6
  ne : 1 ≤ l → L ≠ []
theorem few_in : ∀ (M L : List Str), L.Nodup → (∀ x ∈ L, x ∈ M) → L.length ≤ M.length
  | [], [], _, _ => Nat.le_refl _
  | [], x :: _, _, h => absurd (h x (by simp)) (by simp)
  | y :: M, L, nd, h => by
    have := few_in M (L.erase y) (nd.erase _) (fun x hx => by
      have h1 := (List.Nodup.mem_erase_iff nd).mp hx
      rcases List.mem_cons.mp (h x h1.2) with e | e
      · exact absurd e h1.1
      · exact e)
    rw [List.length_erase] at this
    split at this <;> simp at this ⊢ <;> omega
theorem NamesP.len {l : Int} {L : List Str} (h : NamesP l L) : L.length ≤ 6 := few_in some6 L (nodup_lt h.srt) h.mem
theorem put_id' {G : Store} {a : Addr} {o : MO} (h : G a = some o) : put G a o = G := by
  funext b; unfold put; split
  · rename_i e; rw [e]; exact h.symm
  · rfl
def pSome : Pm := fun ds G q => ∃ p a b c l, ds = [.ref p, .int l] ∧ G p = some (wellO a b c) ∧ WellOk b c ∧ ∀ (L : List Str) a' b', NamesP l L → WellOk b' c → q (.tup (L.map D.str)) (put G p (wellO a' b' c))
theorem ok_some (ht : Γ.fn "_law_take" [] = some (pm pTake)) {ds : List D} {G : Store} {q : DK} (h : pSome ds G q) : run Γ 5 ir__law_some_names (fun _ _ => False) ds G q := by
  obtain ⟨p, a, b, c, l, rfl, hG, hw, k⟩ := h
  simp only [ir__law_some_names]
  simp
  refine compW_st (e := D.str) (fun rest acc G' => ∃ (L : List Str) (a' b' : Int), (∀ x ∈ rest, x ∈ some6) ∧ (∀ x ∈ L, x ∈ some6) ∧ L.length + rest.length ≤ 6 ∧ WellOk b' c ∧ G' = put G p (wellO a' b' c) ∧ acc = L.map D.str)
    (fun _ _ _ _ => trivial) (fun x r acc G' k' hI hk => ?_) (fun acc G' hI => ?_) some6 _ _ ⟨[], a, b, fun _ h => h, fun _ h => by (cases h), by simp, hw, (put_id' hG).symm, rfl⟩
  · obtain ⟨L, a', b', hr, hL, hl, hw', rfl, rfl⟩ := hI
    simp [wipeD, ht, pm]
    refine ⟨p, a', b', c, 3, rfl, put_same, hw', by omega, by omega, fun n a2 b2 q1 q2 hw2 => ?_⟩
    rw [put_put]
    simp
    simp at hl
    split
    · refine hk _ _ ⟨L ++ [x], a2, b2, fun y hy => hr y (by simp [hy]), fun y hy => ?_, by simp; omega, hw2, rfl, by simp⟩
      rcases List.mem_append.mp hy with e | e
      · exact hL y e
      · exact hr y (by simpa using Or.inl (by simpa using e))
    · exact hk _ _ ⟨L, a2, b2, fun y hy => hr y (by simp [hy]), hL, by omega, hw2, rfl, by simp⟩
  · obtain ⟨L, a', b', _, hL, hl, hw', rfl, rfl⟩ := hI
    simp at hl
    rw [names_take (by omega)]
    have hL2 : ∀ x ∈ L.take (Int.toNat 4), x ∈ some6 := fun x hx => hL x (List.mem_of_mem_take hx)
    have hl2 : (L.take (Int.toNat 4)).length ≤ 4 := by rw [List.length_take]; exact Nat.min_le_left _ _
    generalize L.take (Int.toNat 4) = M at hL2 hl2 ⊢
    obtain ⟨N, hN, hNl, hNm⟩ : ∃ N : List Str, binD .mul (.lst [D.str "ann"]) (.int (if (((M.map D.str).length : Nat) : Int) < l then 1 else 0)) = some (.lst (N.map D.str)) ∧ N.length ≤ 1 ∧ (∀ x ∈ N, x ∈ some6) ∧ (1 ≤ l → M ++ N ≠ []) := by
      split
      · exact ⟨["ann"], by simp [binD], by simp, by simp, by simp⟩
      · refine ⟨[], by simp [binD], by simp, fun _ h => by (cases h), fun h e => ?_⟩
        have : M = [] := by simpa using e
        subst this
        simp at *
        omega
    show oq (binD .mul (.lst [D.str "ann"]) _) _
    rw [hN, oqs]
    obtain ⟨hNm, hne⟩ := hNm
    have hlen : M.length + N.length ≤ 5 := by omega
    rw [lk_lst, add_ll (by simp; omega), oqs, ← List.map_append]
    simp only [lk_lst, lstOf_lst, oqs, mapM_str]
    refine ⟨by simp; omega, fun ys nd hm => ?_⟩
    have es : sortD (ys.map D.str) = (sortE ys).map D.str := sortD_enc ys
    rw [es]
    refine ret_here (k _ _ _ ⟨sortE_lt nd, fun x hx => ?_, fun h e => ?_⟩ hw')
    · have := (hm x).mp ((sortE_perm ys).mem_iff.mp hx)
      rcases List.mem_append.mp this with q | q
      · exact hL2 x q
      · exact hNm x q
    · have e2 : ys = [] := by
        have := (sortE_perm ys).length_eq
        rw [e] at this
        exact List.eq_nil_of_length_eq_zero this.symm
      subst e2
      have hz := hne h
      cases hMN : M ++ N with
      | nil => exact hz hMN
      | cons x r => exact absurd ((hm x).mpr (by rw [hMN]; simp)) (by simp)
/-! ### works to be laid -/
abbrev Wk := T4 Str (Tup Str) (Tup Str) Int
structure WkP (w : Wk) : Prop where
  n : NamesP 1 w.b.l
  f : w.c = ⟨["art"]⟩
  lo : 1 ≤ w.d
  hi : w.d ≤ 30
structure LayP (m : Int) (ws : List Wk) (s r : Int) (bars : List (Str × Int)) : Prop where
  nm : ∃ n : Nat, n ≤ m ∧ ws.map (·.a) = wn7.take n
  row : ∀ w ∈ ws, WkP w
  s1 : 1 ≤ s
  s5 : s ≤ 5
  r1 : 1 ≤ r
  r3 : r ≤ 3
  srt : bars.Pairwise fun a b => ltE a b = true
  bar : ∀ x ∈ bars, x.1 ∈ (["ann", "bo", "cy", "dee"] : List Str) ∧ 0 ≤ x.2 ∧ x.2 ≤ 4
  few : bars.length ≤ 6
def pToLay : Pm := fun ds G q => ∃ p a b c m, ds = [.ref p, .int m] ∧ G p = some (wellO a b c) ∧ WellOk b c ∧ 0 ≤ m ∧ m ≤ 7 ∧ ∀ ws s r bars a' b', LayP m ws s r bars → WellOk b' c →
  q (.lst [.tup (ws.map enc), .int s, .int r, .tup (bars.map enc)]) (put G p (wellO a' b' c))
abbrev kI (k : Str × Int) : List Key := [.inr k.1, .inl k.2]
theorem kI_inj : ∀ a b, kI a = kI b → a = b := fun a b h => by
  have h' := List.cons.inj h
  exact Prod.ext (Sum.inr.inj h'.1) (Sum.inl.inj (List.cons.inj h'.2).1)
theorem keysOf_si (a : Str) (b : Int) : keysOf (.tup [.str a, .int b]) = some (kI (a, b)) := rfl
abbrev dI' {β : Type} (g : β → D) (l : List ((Str × Int) × β)) : List (List Key × D) := l.map fun x => (kI x.1, g x.2)
theorem keys_dI {β : Type} (g : β → D) (l : List ((Str × Int) × β)) : (dI' g l).map (fun p => dKeys p.1) = (l.map (·.1)).map enc := by
  rw [List.map_map, List.map_map]; rfl
theorem ok_toLay (ht : Γ.fn "_law_take" [] = some (pm pTake)) (hs : Γ.fn "_law_some_names" [] = some (pm pSome)) {ds : List D} {G : Store} {q : DK} (h : pToLay ds G q) : run Γ 8 ir__law_to_lay (fun _ _ => False) ds G q := by
  obtain ⟨p, a, b, c, m, rfl, hG, hw, h0, h7, kq⟩ := h
  simp only [ir__law_to_lay]
  simp [ht, pm]
  intro pw hpw
  have I0 : Ob G [(pw, .lst [])] (put G pw (.lst [])) := Ob.start.new hpw
  refine ⟨p, a, b, c, m + 1, rfl, I0.old p _ hG, hw, by omega, by omega, fun n a1 b1 q1 q2 hw1 => ?_⟩
  have j1 := I0.out hG (wellO a1 b1 c)
  simp
  have e1 : cutG [D.str "wa", D.str "wb", D.str "wc", D.str "wd", D.str "we", D.str "wf", D.str "wg"] none (some n) = (wn7.take n.toNat).map D.str := names_take (l := wn7) q1
  rw [e1]
  refine loopW_t (e := D.str) (I := fun r σ G' => ∃ (ws : List Wk) (a' b' : Int) (o3 : Option D), ws.map (·.a) ++ r = wn7.take n.toNat ∧ (∀ w ∈ ws, WkP w) ∧ WellOk b' c ∧ Ob (put G p (wellO a' b' c)) [(pw, .lst (ws.map enc))] G' ∧ σ = [some (.ref p), some (.int m), some (.ref pw), o3, none, none, none, none])
    (fun _ _ _ _ => trivial) (fun x r σ G' k hI hk => ?_) (fun σ G' hI => ?_) _ _ _ ⟨[], a1, b1, _, rfl, fun _ h => by (cases h), hw1, j1, rfl⟩
  · obtain ⟨ws, a', b', o3, hx, hr, hw', j, rfl⟩ := hI
    have hll : ws.length ≤ 7 := by
      have := congrArg List.length hx
      simp at this
      omega
    simp [hs, ht, pm]
    rw [j.lk0]
    refine ⟨rfl, p, a', b', c, 1, rfl, j.old p _ put_same, hw', fun L a2 b2 hL hw2 => ?_⟩
    have j2 := j.out put_same (wellO a2 b2 c)
    rw [put_put] at j2
    refine ⟨p, a2, b2, c, 30, rfl, put_same, hw2, by omega, by omega, fun t a3 b3 q3 q4 hw3 => ?_⟩
    have j3 := j2.out put_same (wellO a3 b3 c)
    rw [put_put] at j3
    rw [put_put] at j3 ⊢
    simp
    rw [append_l j3.get0 (lt_LN (m := 100) (by simp; omega))]
    refine hk _ _ ⟨ws ++ [⟨x, ⟨L⟩, ⟨["art"]⟩, 1 + t⟩], a3, b3, _, by simpa using hx, fun w hw => ?_, hw3, ?_, rfl⟩
    · rcases List.mem_append.mp hw with e | e
      · exact hr w e
      · have e : w = ⟨x, ⟨L⟩, ⟨["art"]⟩, 1 + t⟩ := by simpa using e
        subst e
        exact ⟨hL, rfl, by show 1 ≤ 1 + t; omega, by show 1 + t ≤ 30; omega⟩
    · have := j3.upd0 (.lst (ws.map enc ++ [enc (⟨x, ⟨L⟩, ⟨["art"]⟩, 1 + t⟩ : Wk)]))
      rw [List.map_append]
      exact this
  · obtain ⟨ws, a', b', o3, hx, hr, hw', j, rfl⟩ := hI
    rw [List.append_nil] at hx
    have hnm : ∃ n : Nat, n ≤ m ∧ ws.map (·.a) = wn7.take n := ⟨n.toNat, by omega, hx⟩
    simp [ht, pm]
    refine ⟨p, a', b', c, 5, rfl, j.old p _ put_same, hw', by omega, by omega, fun s a2 b2 s1 s2 hw2 => ?_⟩
    have j2 := j.out put_same (wellO a2 b2 c)
    rw [put_put] at j2
    simp
    refine ⟨p, a2, b2, c, 3, rfl, j2.old p _ put_same, hw2, by omega, by omega, fun r a3 b3 r1 r2 hw3 => ?_⟩
    have j3 := j2.out put_same (wellO a3 b3 c)
    rw [put_put] at j3
    rw [put_put] at j3 ⊢
    simp
    intro pf hpf
    have j4 := j3.new (o := .dT (dI' D.bl [])) hpf
    refine ⟨p, a3, b3, c, 7, rfl, j4.old p _ put_same, hw3, by omega, by omega, fun t a4 b4 t1 t2 hw4 => ?_⟩
    have j5 := j4.out put_same (wellO a4 b4 c)
    rw [put_put] at j5
    simp
    refine ⟨by show t ≤ 16777216; omega, by omega, ?_⟩
    refine loopW_t (e := fun i : Nat => D.int (i : Int)) (I := fun rr σ G' => ∃ (l : List ((Str × Int) × Bool)) (a' b' : Int) (o7 : Option D), l.length + rr.length ≤ 6 ∧ (l.map (·.1)).Nodup ∧ (∀ x ∈ l.map (·.1), x.1 ∈ (["ann", "bo", "cy", "dee"] : List Str) ∧ 0 ≤ x.2 ∧ x.2 ≤ 4) ∧ WellOk b' c ∧
        Ob (put G p (wellO a' b' c)) [(pf, .dT (dI' D.bl l)), (pw, .lst (ws.map enc))] G' ∧ σ = [some (.ref p), some (.int m), some (.ref pw), o3, some (.int (1 + s)), some (.int (1 + r)), some (.ref pf), o7])
      (fun _ _ _ _ => trivial) (fun x rr σ G' k hI hk => ?_) (fun σ G' hI => ?_) _ _ _ ⟨[], a4, b4, _, by simp; omega, .nil, fun _ h => by (cases h), hw4, j5, rfl⟩
    · obtain ⟨l, a', b', o7, hl, nd, hm, hw', j, rfl⟩ := hI
      simp [ht, pm]
      refine ⟨p, a', b', c, 4, rfl, j.old p _ put_same, hw', by omega, by omega, fun u a5 b5 u1 u2 hw5 => ?_⟩
      have j6 := j.out put_same (wellO a5 b5 c)
      rw [put_put] at j6
      simp
      obtain ⟨z, hz, hz2⟩ : ∃ z : Str, atI [D.str "ann", D.str "bo", D.str "cy", D.str "dee"] u = some (D.str z) ∧ z ∈ (["ann", "bo", "cy", "dee"] : List Str) := by
        obtain ⟨z, e, h⟩ := at_split' D.str (l := ["ann", "bo", "cy", "dee"]) u1 (by simpa using u2)
        exact ⟨z, e, h⟩
      rw [hz, oqs]
      refine ⟨p, a5, b5, c, 5, rfl, put_same, hw5, by omega, by omega, fun v a6 b6 v1 v2 hw6 => ?_⟩
      have j7 := j6.out put_same (wellO a6 b6 c)
      rw [put_put] at j7
      rw [put_put] at j7 ⊢
      simp
      have hlt : (dI' D.bl l).length < LN := lt_LN (m := 100) (by unfold dI'; rw [List.length_map]; simp at hl; omega)
      rw [setI_dT j7.get0 hlt (keysOf_si z v)]
      refine hk _ _ ⟨putG l (z, v) true, a6, b6, _, ?_, putG_nodup nd _ _, fun y hy => ?_, hw6, ?_, rfl⟩
      · have := putG_len l (z, v) true; simp at hl; omega
      · rcases putG_memk.mp hy with e | e
        · subst e; exact ⟨hz2, v1, by show v ≤ 4; omega⟩
        · exact hm y e
      · rw [show putG (dI' D.bl l) (kI (z, v)) (D.bl true) = dI' D.bl (putG l (z, v) true) from putG_inj kI D.bl kI_inj l (z, v) true]
        exact j7.upd0 _
    · obtain ⟨l, a', b', o7, hl, nd, hm, hw', j, rfl⟩ := hI
      simp
      rw [bi_tup_r j.lk1, j.lkT0]
      refine ⟨_, rfl, ?_⟩
      rw [keys_dI]
      dsimp only
      rw [sortD_enc]
      refine ⟨sortOk_enc _, ?_⟩
      refine j.ret (kq ws _ _ (sortE (l.map (·.1))) _ _ ⟨hnm, hr, by omega, by omega, by omega, by omega, sortE_lt nd, fun x hx => hm x ((sortE_perm _).mem_iff.mp hx), ?_⟩ hw')
      rw [(sortE_perm _).length_eq, List.length_map]
      simp at hl; omega
end C
end
section
set_option Elab.async false
set_option linter.all false
set_option maxRecDepth 100000
set_option maxHeartbeats 1000000
/-! Layings of works into slots: all of them, the first one, the fewest that bar one another (no program in sight). -/
namespace C
open T PySem L2
open T.Enc (enc)
abbrev Bars := List (Str × Int)
/-- no author in common -/
def apart (w o : Wk) : Bool := !(w.b.l.any fun a => decide (a ∈ o.b.l))
theorem apart_symm (w o : Wk) : apart w o = apart o w := by
  have h : ∀ w o : Wk, apart w o = true → apart o w = true := fun w o h => by
    unfold apart at h ⊢
    rw [Bool.not_eq_true', List.any_eq_false] at h ⊢
    intro a ha hb
    exact h a (of_decide_eq_true hb) (decide_eq_true ha)
  rw [Bool.eq_iff_iff]
  exact ⟨h w o, h o w⟩
/-- the works that stand in a slot -/
def inSlot (ws : List Wk) (ch : List Int) (sl : Int) : List Wk := ((ws.zip ch).filter fun p => decide (p.2 = sl)).map (·.1)
def noBar (bars : Bars) (w : Wk) (sl : Int) : Bool := !(w.b.l.any fun a => decide ((a, sl) ∈ bars))
def freeF (r : Int) (bars : Bars) (ws : List Wk) (ch : List Int) (w : Wk) (sl : Int) : Bool :=
  decide (((inSlot ws ch sl).length : Int) < r) && noBar bars w sl && (inSlot ws ch sl).all fun o => apart w o
/-- all slots for the further works -/
def exts (s : Nat) (r : Int) (bars : Bars) (ws : List Wk) : List Wk → List Int → List (List Int)
  | [], ch => [ch]
  | w :: rest, ch => (List.range s).flatMap fun (i : Nat) => if freeF r bars ws ch w i = true then exts s r bars ws rest (ch ++ [(i : Int)]) else []
def lays (s : Nat) (r : Int) (bars : Bars) (ws : List Wk) : List (List Int) := exts s r bars ws ws []
def can (s : Nat) (r : Int) (bars : Bars) (ws : List Wk) (ch : List Int) : Bool := !(exts s r bars ws (ws.drop ch.length) ch).isEmpty
section
variable {s : Nat} {r : Int} {bars : Bars} {ws : List Wk}
theorem exts_nil {ch : List Int} : exts s r bars ws [] ch = [ch] := rfl
theorem exts_cons {w : Wk} {rest : List Wk} {ch : List Int} : exts s r bars ws (w :: rest) ch = (List.range s).flatMap fun (i : Nat) => if freeF r bars ws ch w i = true then exts s r bars ws rest (ch ++ [(i : Int)]) else [] := rfl
theorem exts_mem : ∀ {rest : List Wk} {ch x : List Int}, x ∈ exts s r bars ws rest ch → ∃ y : List Int, x = ch ++ y ∧ y.length = rest.length ∧ ∀ i ∈ y, 0 ≤ i ∧ i < s
  | [], ch, x, h => ⟨[], by rw [exts_nil] at h; simpa using h, rfl, by simp⟩
  | w :: rest, ch, x, h => by
    rw [exts_cons, List.mem_flatMap] at h
    obtain ⟨i, hi, hx⟩ := h
    split at hx
    · obtain ⟨y, rfl, hl, hb⟩ := exts_mem hx
      refine ⟨(i : Int) :: y, by simp, by simp [hl], fun j hj => ?_⟩
      rcases List.mem_cons.mp hj with e | e
      · subst e
        have := List.mem_range.mp hi
        omega
      · exact hb j e
    · cases hx
theorem lays_mem {x : List Int} (h : x ∈ lays s r bars ws) : x.length = ws.length ∧ ∀ i ∈ x, 0 ≤ i ∧ i < s := by
  obtain ⟨y, rfl, hl, hb⟩ := exts_mem h
  simpa using ⟨hl, hb⟩
/-- one step of the way through all of them -/
def stepL (s : Nat) (r : Int) (bars : Bars) (ws : List Wk) (w : Wk) (t : List Int) : List (List Int) := ((List.range s).filter fun i : Nat => freeF r bars ws t w i).map fun i : Nat => t ++ [(i : Int)]
theorem flat_ite {α β : Type} {p : α → Bool} {f : α → List β} : ∀ {l : List α}, (l.flatMap fun x => if p x = true then f x else []) = (l.filter p).flatMap f
  | [] => rfl
  | x :: l => by
    rw [List.flatMap_cons, List.filter_cons, flat_ite]
    by_cases h : p x = true
    · simp [h]
    · simp [h]
theorem exts_fold : ∀ (rest : List Wk) (L : List (List Int)), rest.foldl (fun L w => L.flatMap (stepL s r bars ws w)) L = L.flatMap (exts s r bars ws rest)
  | [], L => by
    show L = L.flatMap fun ch => [ch]
    induction L with
    | nil => rfl
    | cons x L ih => rw [List.flatMap_cons, ← ih]; rfl
  | w :: rest, L => by
    rw [List.foldl_cons, exts_fold rest, List.flatMap_assoc]
    congr 1
    funext ch
    rw [exts_cons, flat_ite]
    unfold stepL
    rw [List.flatMap_map]
/-- lists of lists in order -/
theorem lt_pre (p : List Int) (a b : Int) (x y : List Int) (h : a < b) : p ++ a :: x < p ++ b :: y := by
  induction p with
  | nil => exact List.Lex.rel h
  | cons c p ih => exact List.Lex.cons ih
theorem pair_flat {α β : Type} {R : β → β → Prop} {f : α → List β} : ∀ {l : List α}, (∀ x ∈ l, (f x).Pairwise R) → l.Pairwise (fun x y => ∀ a ∈ f x, ∀ b ∈ f y, R a b) → (l.flatMap f).Pairwise R
  | [], _, _ => .nil
  | x :: l, h, p => by
    rw [List.pairwise_cons] at p
    rw [List.flatMap_cons, List.pairwise_append]
    refine ⟨h x (by simp), pair_flat (fun y hy => h y (by simp [hy])) p.2, fun a ha b hb => ?_⟩
    obtain ⟨y, hy, hb'⟩ := List.mem_flatMap.mp hb
    exact p.1 y hy a ha b hb'
theorem exts_lt : ∀ (rest : List Wk) (ch : List Int), (exts s r bars ws rest ch).Pairwise (· < ·)
  | [], ch => by rw [exts_nil]; simp
  | w :: rest, ch => by
    rw [exts_cons]
    refine pair_flat (fun i _ => ?_) ?_
    · split
      · exact exts_lt rest _
      · exact .nil
    · refine (List.pairwise_lt_range).imp fun {i j} hij a ha b hb => ?_
      split at ha
      · split at hb
        · obtain ⟨y, rfl, _⟩ := exts_mem ha
          obtain ⟨z, rfl, _⟩ := exts_mem hb
          simp only [List.append_assoc, List.singleton_append]
          exact lt_pre _ _ _ _ _ (by omega)
        · cases hb
      · cases ha
theorem ltE_ints (x y : List Int) : ltE (⟨x⟩ : Tup Int) ⟨y⟩ = decide (x < y) := by
  have e : ∀ l : List Int, D.pyL (l.map (enc : Int → D)) = l.map PyData.int := fun l => by
    induction l with
    | nil => rfl
    | cons a l ih => rw [List.map_cons, D.pyL, ih]; rfl
  show PySem.W.dataLt (.tuple (D.pyL (x.map enc))) (.tuple (D.pyL (y.map enc))) = _
  rw [e, e, PySem.W.dataLt_tuple]
  exact PySem.W.dataLt_ints x y
theorem lays_sort : sortE ((lays s r bars ws).map fun x => (⟨x⟩ : Tup Int)) = (lays s r bars ws).map fun x => (⟨x⟩ : Tup Int) := by
  refine sortE_id ?_
  rw [List.pairwise_map]
  exact (exts_lt ws []).imp fun {a b} h => by rw [ltE_ints]; exact decide_eq_true h
theorem lays_srtOk : sortOkS (((lays s r bars ws).map fun x => (⟨x⟩ : Tup Int)).map enc) = true := by
  unfold sortOkS
  rw [Bool.or_eq_true]
  cases ws with
  | nil => exact .inr (by simp [lays, exts])
  | cons w rest =>
    refine .inl ?_
    unfold sortOk
    simp only [Bool.and_eq_true, Bool.or_eq_true, decide_eq_true_eq, List.all_eq_true]
    refine ⟨⟨⟨pureL_enc _, Nat.le_trans (depL_enc _) (by decide)⟩, fun x hx y hy => ?_⟩, .inl fun x hx => ?_⟩
    · obtain ⟨a, _, rfl⟩ := List.mem_map.mp hx
      obtain ⟨b, _, rfl⟩ := List.mem_map.mp hy
      exact EncO.al a b
    · obtain ⟨a, ha, rfl⟩ := List.mem_map.mp hx
      obtain ⟨c, hc, rfl⟩ := List.mem_map.mp ha
      have := (lays_mem hc).1
      cases c with
      | nil => cases this
      | cons _ _ => rfl
/-! the first one, slot by slot -/
theorem head_flat {α β : Type} {f : α → List β} : ∀ {l : List α}, (l.flatMap f).head? = match (l.filter fun x => !(f x).isEmpty) with | [] => none | x :: _ => (f x).head?
  | [] => rfl
  | x :: l => by
    rw [List.flatMap_cons, List.filter_cons]
    cases h : f x with
    | nil => simpa using head_flat
    | cons y t => simp [h]
/-- the slots in which one can stand and all can be gone on with -/
def picks (s : Nat) (r : Int) (bars : Bars) (ws : List Wk) (w : Wk) (ch : List Int) : List Nat := (List.range s).filter fun i : Nat => freeF r bars ws ch w i && can s r bars ws (ch ++ [(i : Int)])
theorem exts_head {w : Wk} {rest : List Wk} {ch : List Int} (hd : ws.drop ch.length = w :: rest) : (exts s r bars ws (w :: rest) ch).head? = match picks s r bars ws w ch with | [] => none | i :: _ => (exts s r bars ws rest (ch ++ [(i : Int)])).head? := by
  have hr : ws.drop (ch.length + 1) = rest := by
    have := congrArg List.tail hd
    rwa [List.tail_drop] at this
  rw [exts_cons, head_flat]
  have e : ((List.range s).filter fun x : Nat => !(if freeF r bars ws ch w x = true then exts s r bars ws rest (ch ++ [(x : Int)]) else []).isEmpty) = picks s r bars ws w ch := by
    unfold picks
    refine List.filter_congr fun i _ => ?_
    unfold can
    rw [List.length_append, List.length_singleton, hr]
    by_cases h : freeF r bars ws ch w i = true <;> simp [h]
  rw [e]
  cases hp : picks s r bars ws w ch with
  | nil => rfl
  | cons i l =>
    have : i ∈ picks s r bars ws w ch := by rw [hp]; simp
    unfold picks at this
    have h2 := (List.mem_filter.mp this).2
    rw [Bool.and_eq_true] at h2
    simp [h2.1]
end
/-! ### lots -/
section
variable {α β : Type}
/-- all ways to choose so many of some -/
def chs : List α → Nat → List (List α)
  | _, 0 => [[]]
  | [], _ + 1 => []
  | x :: xs, n + 1 => (chs xs n).map (x :: ·) ++ chs xs (n + 1)
/-- .. each with what follows it -/
def chsT : List α → Nat → List (List α × List α)
  | xs, 0 => [([], xs)]
  | [], _ + 1 => []
  | x :: xs, n + 1 => (chsT xs n).map (fun p => (x :: p.1, p.2)) ++ chsT xs (n + 1)
theorem chs_zero (l : List α) : chs l 0 = [[]] := by cases l <;> rfl
theorem chsT_zero (l : List α) : chsT l 0 = [([], l)] := by cases l <;> rfl
theorem chsT_fst : ∀ (l : List α) (n : Nat), (chsT l n).map (·.1) = chs l n
  | l, 0 => by rw [chsT_zero, chs_zero]; rfl
  | [], _ + 1 => rfl
  | x :: xs, n + 1 => by
    show ((chsT xs n).map (fun p => (x :: p.1, p.2)) ++ chsT xs (n + 1)).map (·.1) = (chs xs n).map (x :: ·) ++ chs xs (n + 1)
    rw [List.map_append, chsT_fst xs (n + 1), ← chsT_fst xs n, List.map_map, List.map_map]; rfl
/-- one more from what follows -/
def goOn (l : List α) : List α → List (List α × List α)
  | [] => []
  | y :: r => (l ++ [y], r) :: goOn l r
theorem goOn_cons (x : α) (l : List α) : ∀ r : List α, goOn (x :: l) r = (goOn l r).map fun p => (x :: p.1, p.2)
  | [] => rfl
  | y :: r => by rw [goOn, goOn, goOn_cons x l r]; rfl
theorem chsT_one : ∀ l : List α, chsT l 1 = goOn [] l
  | [] => rfl
  | x :: xs => by
    show (chsT xs 0).map _ ++ chsT xs 1 = _
    rw [chsT_zero, chsT_one xs]; rfl
theorem chsT_step : ∀ (l : List α) (n : Nat), chsT l (n + 1) = (chsT l n).flatMap fun p => goOn p.1 p.2
  | l, 0 => by rw [chsT_one, chsT_zero]; simp
  | [], n + 1 => rfl
  | x :: xs, n + 1 => by
    show (chsT xs (n + 1)).map (fun p => (x :: p.1, p.2)) ++ chsT xs (n + 2) = ((chsT xs n).map (fun p => (x :: p.1, p.2)) ++ chsT xs (n + 1)).flatMap _
    rw [List.flatMap_append, ← chsT_step xs (n + 1), List.flatMap_map]
    congr 1
    rw [chsT_step xs n, List.map_flatMap]
    congr 1
    funext p
    exact (goOn_cons x p.1 p.2).symm
theorem chs_map (f : α → β) : ∀ (l : List α) (n : Nat), chs (l.map f) n = (chs l n).map (List.map f)
  | l, 0 => by rw [chs_zero, chs_zero]; rfl
  | [], _ + 1 => rfl
  | x :: xs, n + 1 => by
    show (chs (xs.map f) n).map (f x :: ·) ++ chs (xs.map f) (n + 1) = ((chs xs n).map (x :: ·) ++ chs xs (n + 1)).map _
    rw [chs_map f xs n, chs_map f xs (n + 1), List.map_append, List.map_map, List.map_map]; rfl
/-- .. by the place of the first -/
def chsI (n : Nat) (l : List α) (i : Nat) : List (List α) := match l[i]? with | some x => (chs (l.drop (i + 1)) n).map (x :: ·) | none => []
theorem chsI_at {n : Nat} {l : List α} {i : Nat} (h : i < l.length) : chsI n l i = (chs (l.drop (i + 1)) n).map (l[i] :: ·) := by unfold chsI; rw [List.getElem?_eq_getElem h]
theorem chs_at (n : Nat) : ∀ l : List α, chs l (n + 1) = (List.range l.length).flatMap (chsI n l)
  | [] => rfl
  | x :: xs => by
    show (chs xs n).map (x :: ·) ++ chs xs (n + 1) = _
    rw [chs_at n xs, List.length_cons, List.range_succ_eq_map, List.flatMap_cons, List.flatMap_map]
    rfl
theorem chs_len : ∀ {l : List α} {n : Nat} {x : List α}, x ∈ chs l n → x.length = n
  | l, 0, x, h => by rw [chs_zero] at h; simp at h; subst h; rfl
  | [], _ + 1, x, h => by cases h
  | y :: l, n + 1, x, h => by
    rcases List.mem_append.mp (show x ∈ (chs l n).map (y :: ·) ++ chs l (n + 1) from h) with h | h
    · obtain ⟨z, hz, rfl⟩ := List.mem_map.mp h
      simp [chs_len hz]
    · exact chs_len h
theorem chs_sub : ∀ {l : List α} {n : Nat} {x : List α}, x ∈ chs l n → x.Sublist l
  | l, 0, x, h => by rw [chs_zero] at h; simp at h; subst h; exact List.nil_sublist _
  | [], _ + 1, x, h => by cases h
  | y :: l, n + 1, x, h => by
    rcases List.mem_append.mp (show x ∈ (chs l n).map (y :: ·) ++ chs l (n + 1) from h) with h | h
    · obtain ⟨z, hz, rfl⟩ := List.mem_map.mp h
      exact (chs_sub hz).cons₂ y
    · exact (chs_sub h).cons y
theorem chs_of_sub : ∀ {l x : List α}, x.Sublist l → x ∈ chs l x.length
  | _, _, .slnil => by simp [chs]
  | y :: l, x, .cons _ h => by
    have := chs_of_sub h
    cases x with
    | nil => simp [chs]
    | cons z x => exact List.mem_append_right _ this
  | y :: l, _ :: x, .cons₂ _ h => List.mem_append_left _ (List.mem_map.mpr ⟨x, chs_of_sub h, rfl⟩)
theorem chs_few : ∀ (l : List α) (n : Nat), (chs l n).length ≤ 2 ^ l.length
  | l, 0 => by rw [chs_zero]; exact Nat.one_le_two_pow
  | [], _ + 1 => Nat.zero_le _
  | x :: l, n + 1 => by
    show ((chs l n).map (x :: ·) ++ chs l (n + 1)).length ≤ _
    rw [List.length_append, List.length_map, List.length_cons, Nat.pow_succ]
    have := chs_few l n
    have := chs_few l (n + 1)
    omega
end
/-- what follows a lot of places -/
def aftN (n : Nat) (l : List Nat) : List Nat := let a := match l.getLast? with | some k => k + 1 | none => 0; List.range' a (n - a)
theorem chsT_aft : ∀ (m a n k : Nat), a + m = n → ∀ p ∈ chsT (List.range' a m) k, (k = 0 ∧ p = ([], List.range' a m)) ∨ (k ≠ 0 ∧ p.1 ≠ [] ∧ p.2 = aftN n p.1 ∧ ∀ i ∈ p.1, i < n)
  | m, a, n, 0, e, p, h => by rw [chsT_zero] at h; exact .inl ⟨rfl, by simpa using h⟩
  | 0, a, n, k + 1, e, p, h => by cases h
  | m + 1, a, n, k + 1, e, p, h => by
    rw [List.range'_succ] at h
    rcases List.mem_append.mp (show p ∈ (chsT (List.range' (a + 1) m) k).map (fun p => (a :: p.1, p.2)) ++ chsT (List.range' (a + 1) m) (k + 1) from h) with h | h
    · obtain ⟨q, hq, rfl⟩ := List.mem_map.mp h
      refine .inr ⟨by omega, by simp, ?_, ?_⟩
      · rcases chsT_aft m (a + 1) n k (by omega) q hq with ⟨_, rfl⟩ | ⟨_, h1, h2, _⟩
        · show List.range' (a + 1) m = aftN n [a]
          unfold aftN
          simp only [List.getLast?_singleton]
          congr 1; omega
        · show q.2 = aftN n (a :: q.1)
          rw [h2]
          unfold aftN
          rw [List.getLast?_cons]
          cases hq1 : q.1 with
          | nil => exact absurd hq1 h1
          | cons x t => simp [List.getLast?_cons]
      · intro i hi
        rcases List.mem_cons.mp hi with e2 | e2
        · subst e2; omega
        · rcases chsT_aft m (a + 1) n k (by omega) q hq with ⟨_, rfl⟩ | ⟨_, _, _, h3⟩
          · cases e2
          · exact h3 i e2
    · rcases chsT_aft m (a + 1) n (k + 1) (by omega) p h with ⟨z, _⟩ | z
      · cases z
      · exact .inr z
theorem chsT_rng (n k : Nat) : ∀ p ∈ chsT (List.range n) k, p.2 = aftN n p.1 ∧ ∀ i ∈ p.1, i < n := by
  intro p hp
  rw [List.range_eq_range'] at hp
  rcases chsT_aft n 0 n k (by omega) p hp with ⟨_, rfl⟩ | ⟨_, _, h, h3⟩
  · exact ⟨by unfold aftN; simp, by simp⟩
  · exact ⟨h, h3⟩
theorem goOn_fst {α : Type} (l : List α) : ∀ r : List α, (goOn l r).map (·.1) = r.map fun y => l ++ [y]
  | [] => rfl
  | y :: r => by rw [goOn, List.map_cons, goOn_fst l r]; rfl
/-- lots of places, one turn -/
def lotS (n : Nat) (L : List (List Nat)) : List (List Nat) := L.flatMap fun l => (aftN n l).map fun y => l ++ [y]
theorem chs_turn (n k : Nat) : chs (List.range n) (k + 1) = lotS n (chs (List.range n) k) := by
  rw [← chsT_fst, ← chsT_fst, chsT_step]
  unfold lotS
  rw [List.map_flatMap, List.flatMap_map]
  have h := chsT_rng n k
  generalize chsT (List.range n) k = L at h
  induction L with
  | nil => rfl
  | cons p L ih =>
    rw [List.flatMap_cons, List.flatMap_cons, ih fun q hq => h q (by simp [hq]), goOn_fst, (h p (by simp)).1]
theorem chs_rng {n k : Nat} {l : List Nat} (h : l ∈ chs (List.range n) k) : ∀ i ∈ l, i < n := fun i hi => List.mem_range.mp ((chs_sub h).subset hi)
/-! ### the fewest that bar one another -/
section
variable (s : Nat) (r : Int) (bars : Bars)
def lotsW (ws : List Wk) (a : Nat) : List (List Wk) := (List.range' a (ws.length + 1 - a)).flatMap (chs ws)
def shut (l : List Wk) : Bool := (lays s r bars l).isEmpty
def fewest (ws : List Wk) : List Wk := (((lotsW ws 1).filter (shut s r bars)).head?).getD []
end
section
variable {s : Nat} {r : Int} {bars : Bars} {ws : List Wk}
theorem shut_nil : shut s r bars [] = false := rfl
theorem lots_zero : lotsW ws 0 = [] :: lotsW ws 1 := by
  unfold lotsW
  rw [Nat.sub_zero, List.range'_succ, List.flatMap_cons, chs_zero, Nat.add_sub_cancel]; rfl
theorem fewest_zero : (lotsW ws 0).filter (shut s r bars) = (lotsW ws 1).filter (shut s r bars) := by
  rw [lots_zero, List.filter_cons, shut_nil]; rfl
theorem chs_all {α : Type} (l : List α) : l ∈ chs l l.length := chs_of_sub (List.Sublist.refl l)
theorem fewest_some (h : shut s r bars ws = true) : ∃ l rest, (lotsW ws 1).filter (shut s r bars) = l :: rest ∧ fewest s r bars ws = l := by
  have hne : ws ≠ [] := fun e => by subst e; rw [shut_nil] at h; cases h
  have hm : ws ∈ (lotsW ws 1).filter (shut s r bars) := by
    refine List.mem_filter.mpr ⟨?_, h⟩
    unfold lotsW
    refine List.mem_flatMap.mpr ⟨ws.length, ?_, chs_all ws⟩
    rw [List.mem_range'_1]
    have : 0 < ws.length := List.length_pos_iff.mpr hne
    omega
  cases e : (lotsW ws 1).filter (shut s r bars) with
  | nil => rw [e] at hm; cases hm
  | cons l rest => exact ⟨l, rest, rfl, by unfold fewest; rw [e]; rfl⟩
end
end C
end
section
set_option Elab.async false
set_option linter.all false
set_option maxRecDepth 100000
set_option maxHeartbeats 4000000
/-! Layings: the program's own defs, up to can_go_on. -/
namespace C
open T PySem L2
open T.Enc (enc)
variable {Γ : T.Ctx}
/-- works as they come: a tuple or a list -/
def IsWs (x : D) (ws : List Wk) : Prop := x = .tup (ws.map enc) ∨ x = .lst (ws.map enc)
def IsBars (x : D) (b : Bars) : Prop := x = .tup (b.map enc) ∨ (x = .ktup [] ∧ b = [])
theorem IsWs.len {x : D} {ws : List Wk} (h : IsWs x ws) {G : Store} {q : DK} : wBi .len [x] G q = q (.int ws.length) G := by
  rcases h with rfl | rfl <;> simp
theorem IsWs.at {x : D} {ws : List Wk} (h : IsWs x ws) {n : Nat} {w : Wk} (e : ws[n]? = some w) (G : Store) : idxD (lk G x) (.int n) = some (enc w) := by
  have e2 : (ws.map enc)[n]? = some (enc w) := by rw [List.getElem?_map, e]; rfl
  rcases h with rfl | rfl
  · exact atI_nat e2
  · exact atI_nat e2
theorem IsWs.walk {x : D} {ws : List Wk} (h : IsWs x ws) {G : Store} {p : WI} : walkV x G p = p (ws.map enc) (fun _ => True) G := by
  rcases h with rfl | rfl <;> simp
theorem IsBars.in {x : D} {b : Bars} (h : IsBars x b) (a : Str) (s : Int) (G : Store) : cmpD .in_ (.tup [.str a, .int s]) (lk G x) = some (.bl (decide ((a, s) ∈ b))) := by
  rcases h with rfl | ⟨rfl, rfl⟩
  · exact in_tup' (x := (a, s)) (l := b) (by simp)
  · rfl
def pCanStand : Pm := fun ds G q => ∃ (w o : Wk), ds = [enc w, enc o] ∧ q (.bl (apart w o)) G
theorem any_map {α : Type} (f : α → Bool) (l : List α) : (l.map f).any id = l.any f := by rw [List.any_map]; rfl
theorem all_map' {α : Type} (f : α → Bool) (l : List α) : (l.map f).all id = l.all f := by rw [List.all_map]; rfl
theorem ok_canStand {ds : List D} {G : Store} {q : DK} (h : pCanStand ds G q) : run Γ 3 ir_can_stand (fun _ _ => False) ds G q := by
  obtain ⟨w, o, rfl, k⟩ := h
  simp only [ir_can_stand]
  simp
  refine compW_map (e := D.str) (fun a => D.bl (decide (a ∈ o.b.l))) trivial (fun a _ k hk => ?_) ?_
  · simp [wipeD]
    have e := in_tup' (x := a) (l := o.b.l) (b := decide (a ∈ o.b.l)) (by simp)
    simp only [enc_str] at e
    rw [e]
    simpa using hk
  · rw [show (w.b.l.map fun a => D.bl (decide (a ∈ o.b.l))) = (w.b.l.map fun a => decide (a ∈ o.b.l)).map D.bl from by rw [List.map_map]; rfl]
    rw [bi_any_b, any_map]
    simp
    exact ret_here k
/-- what stands in slots -/
def pFree : Pm := fun ds G q => ∃ x y ws ch w sl r z bars, ds = [x, y, enc (w : Wk), .int sl, .int r, z] ∧ IsWs x ws ∧ lk G y = .lst (ch.map D.int) ∧ ch.length ≤ ws.length ∧ ws.length ≤ 100 ∧ IsBars z bars ∧ q (.bl (freeF r bars ws ch w sl)) G
theorem in_slot {ws : List Wk} {ch : List Int} (hl : ch.length ≤ ws.length) (sl : Int) : (ch.zipIdx.filterMap fun p => if decide (p.1 = sl) = true then (ws[p.2]?).map (enc : Wk → D) else none) = (inSlot ws ch sl).map enc := by
  unfold inSlot
  have key : ∀ (ch : List Int) (ws : List Wk) (k : Nat) (pre : List Wk), pre.length = k → ch.length ≤ ws.length → ((ch.zipIdx k).filterMap fun p => if decide (p.1 = sl) = true then ((pre ++ ws)[p.2]?).map (enc : Wk → D) else none) = (((ws.zip ch).filter fun p => decide (p.2 = sl)).map (·.1)).map enc := by
    intro ch
    induction ch with
    | nil => intro ws k pre _ _; simp
    | cons c ch ih =>
      intro ws k pre hk hl
      cases ws with
      | nil => simp at hl
      | cons w ws =>
        have e := ih ws (k + 1) (pre ++ [w]) (by simp [hk]) (by simpa using hl)
        rw [List.append_assoc, List.singleton_append] at e
        rw [List.zipIdx_cons, List.zip_cons_cons, List.filter_cons]
        have g : (pre ++ w :: ws)[k]? = some w := by rw [List.getElem?_append_right (by omega), hk]; simp
        by_cases hc : c = sl
        · rw [List.filterMap_cons_some (b := enc w) (by simp only [hc, decide_true, if_true]; rw [g]; rfl), if_pos (by simpa using hc), e]; rfl
        · rw [List.filterMap_cons_none (by simp [hc]), if_neg (by simpa using hc), e]
  exact key ch ws 0 [] rfl hl
theorem ok_free (h1 : Γ.fn "can_stand" [] = some (pm pCanStand)) {ds : List D} {G : Store} {q : DK} (h : pFree ds G q) : run Γ 10 ir_free_for (fun _ _ => False) ds G q := by
  obtain ⟨x, y, ws, ch, w, sl, r, z, bars, rfl, hx, hy, hl, h100, hz, k⟩ := h
  rw [run_eq]
  show sSs Γ ir_free_for _ _ (some x :: some y :: some (enc w) :: some (.int sl) :: some (.int r) :: some z :: List.replicate 4 none) G
  unfold ir_free_for
  refine ss_step fun R hR => ?_
  simp
  rw [hy]
  simp only [seqD_lst, oqs]
  refine ⟨by rw [List.length_map]; show ch.length ≤ 16777216; omega, ?_⟩
  rw [show ((ch.map D.int).zipIdx.map fun p => D.tup [.int (p.2 : Nat), p.1]) = ch.zipIdx.map fun p => D.tup [.int (p.2 : Nat), .int p.1] from by rw [List.zipIdx_map, List.map_map]; rfl]
  refine compW_t (e := fun p : Int × Nat => D.tup [.int (p.2 : Nat), .int p.1]) (fun p => if decide (p.1 = sl) = true then (ws[p.2]?).map (enc : Wk → D) else none) still_self ch.zipIdx [] (fun p hp k hk => ?_) ?_
  · simp [wipeD]
    have hp2 : p.2 < ws.length := by
      have := List.snd_lt_of_mem_zipIdx hp
      omega
    by_cases e : p.1 = sl
    · simp only [e, decide_true, if_true] at hk ⊢
      rw [List.getElem?_eq_getElem hp2] at hk
      rw [hx.at (List.getElem?_eq_getElem hp2) G]
      simpa using hk
    · simp only [e, decide_false] at hk ⊢
      simpa using hk
  · rw [List.nil_append, in_slot hl]
    refine hR _ _ ?_
    clear hR R
    refine ss_step fun R hR => ?_
    simp
    have key : (inSlot ws ch sl).length ≤ 100 := by
      unfold inSlot
      rw [List.length_map]
      refine Nat.le_trans (List.length_filter_le _ _) ?_
      rw [List.length_zip]; omega
    by_cases c1 : r ≤ ((inSlot ws ch sl).length : Int)
    · have ef : freeF r bars ws ch w sl = false := by
        unfold freeF
        have : ¬ (((inSlot ws ch sl).length : Int) < r) := by omega
        simp [this]
      rw [ef] at k
      simp [c1]
      exact ret_here k
    · simp [c1]
      refine compW_map (e := D.str) (fun a => D.bl (decide ((a, sl) ∈ bars))) trivial (fun a _ k hk => ?_) ?_
      · simp [wipeD]
        have e := hz.in a sl G
        rw [e]
        simpa using hk
      · rw [show (w.b.l.map fun a => D.bl (decide ((a, sl) ∈ bars))) = (w.b.l.map fun a => decide ((a, sl) ∈ bars)).map D.bl from by rw [List.map_map]; rfl]
        rw [bi_any_b, any_map]
        simp only [lk_bl, truth_bl, oqs]
        have c2 : (((inSlot ws ch sl).length : Int) < r) := by omega
        by_cases c3 : (w.b.l.any fun a => decide ((a, sl) ∈ bars)) = true
        · have ef : freeF r bars ws ch w sl = false := by
            unfold freeF noBar; rw [c3]; simp
          rw [ef] at k
          rw [if_pos c3]
          exact ret_here k
        · have c3' : (w.b.l.any fun a => decide ((a, sl) ∈ bars)) = false := by simpa using c3
          have ef : freeF r bars ws ch w sl = (inSlot ws ch sl).all fun o => apart w o := by
            unfold freeF noBar; rw [c3']; simp [c2]
          rw [ef] at k
          rw [if_neg c3]
          refine hR _ _ ?_
          clear hR R
          simp
          refine compW_map (e := fun o : Wk => enc o) (fun o => D.bl (apart w o)) trivial (fun o _ k hk => ?_) ?_
          · simp [wipeD, h1, pm]
            exact ⟨w, o, rfl, by simpa using hk⟩
          · rw [show ((inSlot ws ch sl).map fun o => D.bl (apart w o)) = ((inSlot ws ch sl).map fun o => apart w o).map D.bl from by rw [List.map_map]; rfl]
            rw [bi_all_b, all_map']
            exact ret_here k
/-- whether all can be gone on with: by how many lack -/
def pGo (m : Nat) : Pm := fun ds G q => ∃ x y ws ch s r z bars, ds = [x, y, .int s, .int r, z] ∧ IsWs x ws ∧ lk G y = .lst (ch.map D.int) ∧ ch.length ≤ ws.length ∧ ws.length ≤ 100 ∧ 0 ≤ s ∧ s ≤ 100 ∧ IsBars z bars ∧ ws.length + 1 ≤ m + ch.length ∧ q (.bl (can s.toNat r bars ws ch)) G
theorem can_end {s : Nat} {r : Int} {bars : Bars} {ws : List Wk} {ch : List Int} (h : ch.length = ws.length) : can s r bars ws ch = true := by
  unfold can
  rw [h, List.drop_length, exts_nil]; rfl
theorem can_any {s : Nat} {r : Int} {bars : Bars} {ws : List Wk} {ch : List Int} {w : Wk} (h : ws[ch.length]? = some w) : can s r bars ws ch = (List.range s).any fun i : Nat => freeF r bars ws ch w i && can s r bars ws (ch ++ [(i : Int)]) := by
  obtain ⟨hlt, hw⟩ := List.getElem?_eq_some_iff.mp h
  unfold can
  rw [List.drop_eq_getElem_cons hlt, hw, exts_cons, Bool.eq_iff_iff, List.any_eq_true]
  simp only [Bool.not_eq_true', Bool.and_eq_true, List.isEmpty_eq_false_iff_exists_mem, List.mem_flatMap, List.length_append, List.length_singleton]
  constructor
  · rintro ⟨x, i, hi, hx⟩
    split at hx
    · rename_i hf
      exact ⟨i, hi, hf, x, hx⟩
    · cases hx
  · rintro ⟨i, hi, hf, x, hx⟩
    exact ⟨x, i, hi, by rw [if_pos hf]; exact hx⟩
theorem ok_go {m : Nat} (h1 : Γ.fn "free_for" [] = some (pm pFree)) (h2 : Γ.fn "can_go_on" [] = some (pm (pGo m))) {ds : List D} {G : Store} {q : DK} (h : pGo (m + 1) ds G q) : run Γ 7 ir_can_go_on (fun _ _ => False) ds G q := by
  obtain ⟨x, y, ws, ch, s, r, z, bars, rfl, hx, hy, hl, h100, s0, s1, hz, hm, k⟩ := h
  rw [run_eq]
  show sSs Γ ir_can_go_on _ _ (some x :: some y :: some (.int s) :: some (.int r) :: some z :: List.replicate 2 none) G
  unfold ir_can_go_on
  refine ss_step fun R hR => ?_
  simp
  rw [bi_len_r hy, hx.len]
  simp
  by_cases e : ch.length = ws.length
  · rw [can_end e] at k
    simp [e]
    exact ret_here k
  · have hne : ¬ ((ch.length : Int) = (ws.length : Int)) := by omega
    simp [hne]
    refine hR _ _ ?_
    clear hR R
    have hlt : ch.length < ws.length := by omega
    have hw : ws[ch.length]? = some ws[ch.length] := List.getElem?_eq_getElem hlt
    refine ss_step fun R hR => ?_
    simp
    rw [bi_len_r hy, List.length_map, hx.at hw]
    simp
    refine hR _ _ ?_
    clear hR R
    rw [can_any hw] at k
    generalize ws[ch.length] = w at hw k
    refine ss_step fun R hR => ?_
    simp
    refine ⟨by show s ≤ 16777216; omega, by omega, ?_⟩
    obtain ⟨n, rfl⟩ := Int.eq_ofNat_of_zero_le s0
    simp only [Int.ofNat_eq_natCast, Int.toNat_natCast] at k ⊢
    refine loopW_t (e := fun i : Nat => D.int (i : Int)) (I := fun rr σ G' => G' = G ∧ (∃ o6 : Option D, σ = [some x, some y, some (.int (n : Int)), some (.int r), some z, some (enc w), o6]) ∧ ((List.range n).any fun i : Nat => freeF r bars ws ch w i && can n r bars ws (ch ++ [(i : Int)])) = rr.any fun i : Nat => freeF r bars ws ch w i && can n r bars ws (ch ++ [(i : Int)]))
      (fun _ _ _ _ => trivial) (fun i rr σ G' kk hI hk => ?_) (fun σ G' hI => ?_) (List.range n) _ _ ⟨rfl, ⟨_, rfl⟩, rfl⟩
    · obtain ⟨rfl, ⟨o6, rfl⟩, hany⟩ := hI
      rw [List.any_cons] at hany
      simp [h1, h2, pm]
      refine ⟨x, y, ws, ch, w, i, r, z, bars, rfl, hx, hy, hl, h100, hz, ?_⟩
      simp
      by_cases hf : freeF r bars ws ch w i = true
      · rw [hf, Bool.true_and] at hany
        simp [hf]
        rw [hy]
        rw [add_ll (a := ch.map D.int) (b := [D.int i]) (by simp; omega)]
        simp only [oqs]
        refine ⟨x, .lst (ch.map D.int ++ [D.int i]), ws, ch ++ [(i : Int)], n, r, z, bars, rfl, hx, by simp, by simp; omega, h100, by omega, by omega, hz, by simp; omega, ?_⟩
        simp only [Int.toNat_natCast, lk_bl, truth_bl, oqs]
        by_cases hc : can n r bars ws (ch ++ [(i : Int)]) = true
        · rw [hc, Bool.true_or] at hany
          rw [hany] at k
          rw [if_pos hc]
          exact ret_here k
        · rw [if_neg hc]
          rw [show can n r bars ws (ch ++ [(i : Int)]) = false from by simpa using hc, Bool.false_or] at hany
          exact hk _ _ ⟨rfl, ⟨_, rfl⟩, hany⟩
      · rw [show freeF r bars ws ch w i = false from by simpa using hf, Bool.false_and, Bool.false_or] at hany
        simp [hf]
        exact hk _ _ ⟨rfl, ⟨_, rfl⟩, hany⟩
    · obtain ⟨rfl, ⟨o6, rfl⟩, hany⟩ := hI
      rw [hany] at k
      refine hR _ _ ?_
      simp
      exact ret_here k
end C
end
section
set_option Elab.async false
set_option linter.all false
set_option maxRecDepth 100000
set_option maxHeartbeats 4000000
/-! Layings: first_slots, lots_of, fewest_barred, laid. -/
namespace C
open T PySem L2
open T.Enc (enc)
variable {Γ : T.Ctx}
def goTop : Nat := 12
def encF : Option (List Int) → D
  | none => .non
  | some ch => .lst (ch.map D.int)
structure LayA (ws : List Wk) (s : Int) : Prop where
  few : ws.length ≤ 8
  s0 : 0 ≤ s
  s1 : s ≤ 100
def pFirst : Pm := fun ds G q => ∃ x ws s r z bars, ds = [x, .int s, .int r, z] ∧ IsWs x ws ∧ LayA ws s ∧ IsBars z bars ∧ q (encF (lays s.toNat r bars ws).head?) G
theorem can_nil {s : Nat} {r : Int} {bars : Bars} {ws : List Wk} : can s r bars ws [] = !(lays s r bars ws).isEmpty := by unfold can lays; simp
theorem ok_first (h1 : Γ.fn "free_for" [] = some (pm pFree)) (h2 : Γ.fn "can_go_on" [] = some (pm (pGo goTop))) {ds : List D} {G : Store} {q : DK} (h : pFirst ds G q) : run Γ 8 ir_first_slots (fun _ _ => False) ds G q := by
  obtain ⟨x, ws, s, r, z, bars, rfl, hx, hA, hz, k⟩ := h
  obtain ⟨h8, s0, s1⟩ := hA
  rw [run_eq]
  show sSs Γ ir_first_slots _ _ (some x :: some (.int s) :: some (.int r) :: some z :: List.replicate 4 none) G
  unfold ir_first_slots
  refine ss_step fun R hR => ?_
  simp [h2, pm]
  refine ⟨x, .lst [], ws, [], s, r, z, bars, rfl, hx, rfl, by simp, by omega, s0, s1, hz, by simp [goTop]; omega, ?_⟩
  rw [can_nil]
  simp
  cases hh : lays s.toNat r bars ws with
  | nil =>
    rw [hh] at k
    simp
    exact ret_here k
  | cons best t =>
    rw [hh] at k
    simp
    refine hR _ _ ?_
    clear hR R
    have hb : (exts s.toNat r bars ws ws []).head? = some best := by show (lays s.toNat r bars ws).head? = _; rw [hh]; rfl
    obtain ⟨n, rfl⟩ := Int.eq_ofNat_of_zero_le s0
    simp only [Int.ofNat_eq_natCast, Int.toNat_natCast] at hb ⊢
    refine ss_step fun R hR => ?_
    simp
    intro p hp
    refine hR _ _ ?_
    clear hR R
    have I0 : Ob G [(p, .lst (([] : List Int).map D.int))] (put G p (.lst [])) := Ob.start.new hp
    generalize put G p (.lst []) = G1 at I0 ⊢
    refine ss_step fun R hR => ?_
    simp
    rw [hx.walk]
    refine loopW_t (e := fun w : Wk => enc w) (I := fun rr σ G' => ∃ (dn : List Wk) (ch : List Int) (o5 o6 o7 : Option D), dn ++ rr = ws ∧ ch.length = dn.length ∧ (exts n r bars ws rr ch).head? = some best ∧ Ob G [(p, .lst (ch.map D.int))] G' ∧ σ = [some x, some (.int (n : Int)), some (.int r), some z, some (.ref p), o5, o6, o7])
      (fun _ _ _ _ => trivial) (fun w rr σ G' kk hI hk => ?_) (fun σ G' hI => ?_) ws _ _ ⟨[], [], _, _, _, rfl, rfl, hb, I0, rfl⟩
    · obtain ⟨dn, ch, o5, o6, o7, hd, hl, hbest, j, rfl⟩ := hI
      have hlen : dn.length + (rr.length + 1) = ws.length := by rw [← hd]; simp
      have hdrop : ws.drop ch.length = w :: rr := by rw [hl, ← hd, List.drop_left]
      rw [exts_head hdrop] at hbest
      simp
      refine ⟨by first | omega | (show n ≤ 16777216; omega), ?_⟩
      refine compW_filter (e := fun i : Nat => D.int (i : Int)) (fun i : Nat => freeF r bars ws ch w i && can n r bars ws (ch ++ [(i : Int)])) (fun i : Nat => D.int (i : Int)) trivial (fun i _ k2 hk2 => ?_) ?_
      · simp [wipeD, h1, h2, pm]
        refine ⟨x, .ref p, ws, ch, w, i, r, z, bars, rfl, hx, j.lk0, by omega, by omega, hz, ?_⟩
        simp only [lk_bl, truth_bl, oqs]
        by_cases hf : freeF r bars ws ch w i = true
        · rw [hf, Bool.true_and] at hk2
          rw [if_pos hf, j.lk0, add_ll (a := ch.map D.int) (b := [D.int i]) (by simp; omega)]
          simp only [oqs]
          refine ⟨x, .lst (ch.map D.int ++ [D.int i]), ws, ch ++ [(i : Int)], n, r, z, bars, rfl, hx, by simp, by simp; omega, by omega, by omega, by omega, hz, by simp [goTop]; omega, ?_⟩
          simp only [Int.toNat_natCast, lk_bl, truth_bl, oqs]
          by_cases hc : can n r bars ws (ch ++ [(i : Int)]) = true
          · rw [hc] at hk2 ⊢; simpa using hk2
          · rw [show can n r bars ws (ch ++ [(i : Int)]) = false from by simpa using hc] at hk2 ⊢; simpa using hk2
        · rw [show freeF r bars ws ch w i = false from by simpa using hf] at hk2 ⊢
          simpa using hk2
      · rw [show ((List.range n).filter fun i : Nat => freeF r bars ws ch w i && can n r bars ws (ch ++ [(i : Int)])) = picks n r bars ws w ch from rfl]
        cases hp : picks n r bars ws w ch with
        | nil => rw [hp] at hbest; cases hbest
        | cons i l =>
          rw [hp] at hbest
          simp only [List.map_cons, at0, oqs]
          rw [j.lk0, append_l j.get0 (lt_LN (m := 100) (by rw [List.length_map]; omega))]
          refine ⟨rfl, hk _ _ ⟨dn ++ [w], ch ++ [(i : Int)], _, _, _, by simpa using hd, by simp [hl], hbest, ?_, rfl⟩⟩
          rw [List.map_append]
          exact j.upd0 _
    · obtain ⟨dn, ch, o5, o6, o7, hd, hl, hbest, j, rfl⟩ := hI
      rw [exts_nil] at hbest
      have e : ch = best := by simpa using hbest
      subst e
      refine hR _ _ ?_
      simp
      exact j.tells (.inr k)
/-! lots of places -/
abbrev tupN (l : List Nat) : D := .tup (l.map fun i : Nat => D.int (i : Int))
def pLots : Pm := fun ds G q => ∃ (n k : Nat), ds = [.int n, .int k] ∧ n ≤ 8 ∧ k ≤ 8 ∧ q (.lst ((chs (List.range n) k).map tupN)) G
theorem lotS_few {n k : Nat} (h : n ≤ 8) : (chs (List.range n) k).length ≤ 256 := by
  have := chs_few (List.range n) k
  rw [List.length_range] at this
  exact Nat.le_trans this (Nat.pow_le_pow_right (by decide) h : 2 ^ n ≤ 2 ^ 8)
theorem atI_last {α : Type} (l : List α) (x : α) : atI (l ++ [x]) (-1) = some x := by
  unfold atI ixN
  simp
  rw [if_pos (by omega)]
  show (l ++ [x])[(-1 + ((l.length : Int) + 1)).toNat]? = some x
  rw [show (-1 + ((l.length : Int) + 1)).toNat = l.length by omega, List.getElem?_append_right (Nat.le_refl _)]
  simp
theorem ne_tupN (l : List Nat) : cmpD .ne (tupN l) (.tup []) = some (.bl (!l.isEmpty)) := by
  have e := cmp_ne (⟨l.map fun i : Nat => (i : Int)⟩ : Tup Int) ⟨[]⟩
  have e2 : enc (⟨l.map fun i : Nat => (i : Int)⟩ : Tup Int) = tupN l := by simp
  rw [e2] at e
  rw [show (D.tup []) = enc (⟨[]⟩ : Tup Int) from rfl, e]
  cases l <;> simp
theorem ok_lots {ds : List D} {G : Store} {q : DK} (h : pLots ds G q) : run Γ 8 ir_lots_of (fun _ _ => False) ds G q := by
  obtain ⟨n, k, rfl, hn, hk8, kq⟩ := h
  rw [run_eq]
  show sSs Γ ir_lots_of _ _ (some (.int n) :: some (.int k) :: List.replicate 6 none) G
  unfold ir_lots_of
  refine ss_step fun R hR => ?_
  simp
  refine hR _ _ ?_
  clear hR R
  refine ss_step fun R hR => ?_
  refine for_it (e := fun i : Nat => D.int (i : Int)) (xs := List.range k) (G1 := G) (gd := fun _ => True) (I := fun rr σ G' => ∃ (t : Nat) (o3 o4 o5 o6 o7 : Option D), t + rr.length = k ∧ G' = G ∧ σ = [some (.int n), some (.int k), some (.lst ((chs (List.range n) t).map tupN)), o3, o4, o5, o6, o7])
    (fun p hp => ?_) (fun _ _ _ _ => trivial) ⟨0, _, _, _, _, _, by simp, rfl, by rw [chs_zero]; rfl⟩ (fun i rr σ G' kk hI hk => ?_) (fun σ G' hI => ?_)
  · simp
    exact ⟨by first | omega | (show k ≤ 16777216; omega), hp⟩
  · obtain ⟨t, o3, o4, o5, o6, o7, ht, rfl, rfl⟩ := hI
    have htk : t < k := by simp at ht; omega
    show sSs Γ _ _ _ [some (.int n), some (.int k), some (.lst ((chs (List.range n) t).map tupN)), some (.int i), o4, o5, o6, o7] G'
    refine ss_step fun R hR => ?_
    simp
    intro p hp
    refine hR _ _ ?_
    clear hR R
    have j0 : Ob G' [(p, .lst (([] : List (List Nat)).map tupN))] (put G' p (.lst [])) := Ob.start.new hp
    generalize put G' p (.lst []) = G1 at j0 ⊢
    refine ss_step fun R hR => ?_
    have hall : ∀ l ∈ chs (List.range n) t, l.length = t ∧ ∀ i ∈ l, i < n := fun l hl => ⟨chs_len hl, chs_rng hl⟩
    refine for_it (e := tupN) (xs := chs (List.range n) t) (G1 := G1) (gd := fun _ => True) (I := fun r2 σ G2 => ∃ (dn : List (List Nat)) (o5 o6 o7 : Option D), dn ++ r2 = chs (List.range n) t ∧ Ob G' [(p, .lst ((lotS n dn).map tupN))] G2 ∧ σ = [some (.int n), some (.int k), some (.lst ((chs (List.range n) t).map tupN)), some (.int i), some (.ref p), o5, o6, o7])
      (fun p hp => by simpa using hp) (fun _ _ _ _ => trivial) ⟨[], _, _, _, rfl, j0, rfl⟩ (fun l r2 σ G2 k2 hI hk2 => ?_) (fun σ G2 hI => ?_)
    · obtain ⟨dn, o5, o6, o7, hd, j, rfl⟩ := hI
      obtain ⟨hlen, hlt⟩ := hall l (by rw [← hd]; simp)
      show sSs Γ _ _ _ [some (.int n), some (.int k), some (.lst ((chs (List.range n) t).map tupN)), some (.int i), some (.ref p), some (tupN l), o6, o7] G2
      have hfew : (lotS n dn).length + 8 ≤ 4096 := by
        have h1 : ∀ L : List (List Nat), (lotS n L).length ≤ 8 * L.length := fun L => by
          induction L with
          | nil => simp [lotS]
          | cons x L ih =>
            have h2 : (aftN n x).length ≤ 8 := by unfold aftN; simp; omega
            have : lotS n (x :: L) = ((aftN n x).map fun y => x ++ [y]) ++ lotS n L := rfl
            rw [this, List.length_append, List.length_map, List.length_cons]
            omega
        have h3 := h1 dn
        have h4 := lotS_few (n := n) (k := t) hn
        rw [← hd, List.length_append] at h4
        omega
      refine ss_step fun R hR => ?_
      have key : ∀ a : Nat, a ≤ 8 → aftN n l = List.range' a (n - a) → R [some (.int n), some (.int k), some (.lst ((chs (List.range n) t).map tupN)), some (.int i), some (.ref p), some (tupN l), some (.int a), o7] G2 := fun a ha hat => by
        refine hR _ _ ?_
        clear hR R
        simp
        rw [j.lk0]
        refine ⟨rfl, by omega, ?_⟩
        refine compW_map (e := fun m : Nat => D.int ((a : Int) + (m : Int))) (fun m : Nat => tupN (l ++ [a + m])) trivial (fun m _ k3 hk3 => ?_) ?_
        · simp [wipeD]
          rw [add_tt (by simp; omega)]
          have e : tupN (l ++ [a + m]) = D.tup (l.map (fun i : Nat => D.int (i : Int)) ++ [D.int ((a : Int) + (m : Int))]) := by simp [tupN]
          rw [e] at hk3
          simpa using hk3
        · intro p2 hp2
          have ne : p2 ≠ p := fun e => by subst e; rw [j.get0] at hp2; cases hp2
          have e1 : (List.range (n - a)).map (fun m : Nat => tupN (l ++ [a + m])) = ((aftN n l).map fun y => l ++ [y]).map tupN := by
            rw [hat, List.range'_eq_map_range, List.map_map, List.map_map]
            rfl
          rw [e1]
          have j2 : Ob G' [(p2, .lst (((aftN n l).map fun y => l ++ [y]).map tupN)), (p, .lst ((lotS n dn).map tupN))] (put G2 p2 (.lst (((aftN n l).map fun y => l ++ [y]).map tupN))) := j.new hp2
          have hlen2 : (aftN n l).length ≤ 8 := by rw [hat]; simp; omega
          refine extend_l j2.get1 j2.get0 (by simp; omega) ?_
          refine hk2 _ _ ⟨dn ++ [l], _, _, _, by simpa using hd, ?_, rfl⟩
          have e2 : lotS n (dn ++ [l]) = lotS n dn ++ (aftN n l).map fun y => l ++ [y] := by unfold lotS; rw [List.flatMap_append]; simp
          rw [e2, List.map_append]
          exact (j2.upd1 _).drop
      simp
      rw [ne_tupN]
      simp
      cases l with
      | nil => simp; exact key 0 (by omega) (by unfold aftN; simp)
      | cons x l =>
        simp
        obtain ⟨l2, y, e⟩ : ∃ l2 y, x :: l = l2 ++ [y] := ⟨(x :: l).dropLast, (x :: l).getLast (by simp), (List.dropLast_concat_getLast (by simp)).symm⟩
        have e3 : D.int (x : Int) :: l.map (fun i : Nat => D.int (i : Int)) = l2.map (fun i : Nat => D.int (i : Int)) ++ [D.int (y : Int)] := by
          have := congrArg (List.map fun i : Nat => D.int (i : Int)) e
          simpa using this
        rw [e3, atI_last]
        simp
        have hy : y < n := hlt y (by rw [e]; simp)
        have := key (y + 1) (by omega) (by rw [e]; unfold aftN; simp)
        simpa using this
    · obtain ⟨dn, o5, o6, o7, hd, j, rfl⟩ := hI
      rw [List.append_nil] at hd
      subst hd
      refine hR _ _ ?_
      clear hR R
      refine ss_view j.less (.same (.same (.same (.same (.fz j.fzL (SlV.refl _)))))) ?_
      simp
      rw [← chs_turn n t]
      refine hk _ _ ?_
      exact ⟨t + 1, _, _, _, _, _, by simp at ht; omega, rfl, rfl⟩
  · obtain ⟨t, o3, o4, o5, o6, o7, ht, rfl, rfl⟩ := hI
    have et : t = k := by simpa using ht
    subst et
    refine hR _ _ ?_
    simp
    exact ret_here kq
/-! the fewest -/
def wAt (ws : List Wk) (i : Nat) : Wk := ws.getD i default
def lotW (ws : List Wk) (l : List Nat) : List Wk := l.map (wAt ws)
theorem wAt_all (ws : List Wk) : (List.range ws.length).map (wAt ws) = ws := by
  refine List.ext_getElem? fun i => ?_
  rw [List.getElem?_map]
  by_cases h : i < ws.length
  · rw [List.getElem?_range h, List.getElem?_eq_getElem h]
    show some (ws.getD i default) = _
    rw [List.getD_eq_getElem?_getD, List.getElem?_eq_getElem h]; rfl
  · rw [List.getElem?_eq_none (by simpa using h), List.getElem?_eq_none (by omega)]; rfl
theorem chs_lotW (ws : List Wk) (k : Nat) : (chs (List.range ws.length) k).map (lotW ws) = chs ws k := by
  have := chs_map (wAt ws) (List.range ws.length) k
  rw [wAt_all] at this
  exact this.symm
theorem wAt_get {ws : List Wk} {i : Nat} (h : i < ws.length) : ws[i]? = some (wAt ws i) := by
  unfold wAt
  rw [List.getD_eq_getElem?_getD, List.getElem?_eq_getElem h]; rfl
def pFewB : Pm := fun ds G q => ∃ x ws s r z bars, ds = [x, .int s, .int r, z] ∧ IsWs x ws ∧ LayA ws s ∧ IsBars z bars ∧ q (.lst ((fewest s.toNat r bars ws).map fun w => D.str w.a)) G
theorem ok_fewB (h1 : Γ.fn "lots_of" [] = some (pm pLots)) (h2 : Γ.fn "can_go_on" [] = some (pm (pGo goTop))) {ds : List D} {G : Store} {q : DK} (h : pFewB ds G q) : run Γ 7 ir_fewest_barred (fun _ _ => False) ds G q := by
  obtain ⟨x, ws, s, r, z, bars, rfl, hx, hA, hz, k⟩ := h
  obtain ⟨h8, s0, s1⟩ := hA
  obtain ⟨n, rfl⟩ := Int.eq_ofNat_of_zero_le s0
  simp only [Int.ofNat_eq_natCast, Int.toNat_natCast] at k
  rw [run_eq]
  show sSs Γ ir_fewest_barred _ _ (some x :: some (.int (n : Int)) :: some (.int r) :: some z :: List.replicate 3 none) G
  unfold ir_fewest_barred
  refine ss_step fun R hR => ?_
  have htot : (lotsW ws 1).filter (shut n r bars) = (((List.range ws.length).map (1 + ·)).flatMap (chs ws)).filter (shut n r bars) := by
    unfold lotsW
    rw [List.range'_eq_map_range, Nat.add_sub_cancel]
  refine for_it (e := fun m : Nat => D.int (1 + (m : Int))) (xs := List.range ws.length) (G1 := G) (gd := fun _ => True) (I := fun rr σ G' => G' = G ∧ (∀ m ∈ rr, m < ws.length) ∧ (∃ o4 o5 o6 : Option D, σ = [some x, some (.int (n : Int)), some (.int r), some z, o4, o5, o6]) ∧ (lotsW ws 1).filter (shut n r bars) = ((rr.map (1 + ·)).flatMap (chs ws)).filter (shut n r bars))
    (fun p hp => ?_) (fun _ _ _ _ => trivial) ⟨rfl, fun m hm => List.mem_range.mp hm, ⟨_, _, _, rfl⟩, htot⟩ (fun m rr σ G' kk hI hk => ?_) (fun σ G' hI => ?_)
  · simp
    rw [hx.len]
    simp
    refine ⟨by omega, ?_⟩
    simpa using hp
  · obtain ⟨rfl, hm, ⟨o4, o5, o6, rfl⟩, htot⟩ := hI
    have hm0 := hm m (by simp)
    show sSs Γ _ _ _ [some x, some (.int (n : Int)), some (.int r), some z, some (.int (1 + (m : Int))), o5, o6] G'
    rw [List.map_cons, List.flatMap_cons, List.filter_append, ← chs_lotW] at htot
    refine ss_step fun R2 hR2 => ?_
    refine for_it (e := tupN) (xs := chs (List.range ws.length) (1 + m)) (G1 := G') (gd := fun _ => True) (I := fun r2 σ G2 => G2 = G' ∧ (∀ l ∈ r2, l.length ≤ 8 ∧ ∀ i ∈ l, i < ws.length) ∧ (∃ o5 o6 : Option D, σ = [some x, some (.int (n : Int)), some (.int r), some z, some (.int (1 + (m : Int))), o5, o6]) ∧ (lotsW ws 1).filter (shut n r bars) = (r2.map (lotW ws)).filter (shut n r bars) ++ ((rr.map (1 + ·)).flatMap (chs ws)).filter (shut n r bars))
      (fun p hp => ?_) (fun _ _ _ _ => trivial) ⟨rfl, fun l hl => ⟨by rw [chs_len hl]; omega, chs_rng hl⟩, ⟨_, _, rfl⟩, htot⟩ (fun l r2 σ G2 k2 hI hk2 => ?_) (fun σ G2 hI => ?_)
    · simp [h1, pm]
      rw [hx.len]
      refine ⟨ws.length, 1 + m, by simp, by omega, by omega, ?_⟩
      simpa using hp
    · obtain ⟨rfl, hl, ⟨o5, o6, rfl⟩, htot⟩ := hI
      obtain ⟨hl8, hlt⟩ := hl l (by simp)
      show sSs Γ _ _ _ [some x, some (.int (n : Int)), some (.int r), some z, some (.int (1 + (m : Int))), some (tupN l), o6] G2
      rw [List.map_cons, List.filter_cons] at htot
      have hlw : (lotW ws l).length = l.length := by unfold lotW; simp
      refine ss_step fun R3 hR3 => ?_
      simp [h2, pm]
      refine compW_map (e := fun i : Nat => D.int (i : Int)) (fun i : Nat => (enc (wAt ws i) : D)) trivial (fun i hi k3 hk3 => ?_) ?_
      · simp [wipeD]
        rw [hx.at (wAt_get (hlt i hi))]
        simpa using hk3
      · refine ⟨_, _, lotW ws l, [], n, r, z, bars, rfl, .inr (by unfold lotW; rw [List.map_map]; rfl), rfl, by simp, by omega, by omega, by omega, hz, by simp [goTop]; omega, ?_⟩
        rw [can_nil]
        simp only [Int.toNat_natCast, lk_bl, truth_bl, oqs]
        by_cases hs : shut n r bars (lotW ws l) = true
        · rw [if_pos hs] at htot
          have hf : fewest n r bars ws = lotW ws l := by unfold fewest; rw [htot]; rfl
          have hs' : (lays n r bars (lotW ws l)).isEmpty = true := hs
          rw [hf] at k
          rw [hs']
          simp
          refine compW_map (e := fun i : Nat => D.int (i : Int)) (fun i : Nat => D.str (wAt ws i).a) trivial (fun i hi k3 hk3 => ?_) ?_
          · simp [wipeD]
            rw [hx.at (wAt_get (hlt i hi))]
            simpa using hk3
          · rw [show (l.map fun i : Nat => D.str (wAt ws i).a) = (lotW ws l).map fun w => D.str w.a from by unfold lotW; rw [List.map_map]; rfl]
            exact ret_here k
        · rw [if_neg hs] at htot
          have hs' : (lays n r bars (lotW ws l)).isEmpty = false := by simpa [shut] using hs
          rw [hs']
          simp
          refine hR3 _ _ ?_
          simp
          exact hk2 _ _ ⟨rfl, fun l2 h2 => hl l2 (by simp [h2]), ⟨_, _, rfl⟩, htot⟩
    · obtain ⟨rfl, hl, ⟨o5, o6, rfl⟩, htot⟩ := hI
      refine hR2 _ _ ?_
      simp
      exact hk _ _ ⟨rfl, fun m2 h2 => hm m2 (by simp [h2]), ⟨_, _, _, rfl⟩, by simpa using htot⟩
  · obtain ⟨rfl, hm, ⟨o4, o5, o6, rfl⟩, htot⟩ := hI
    have hf : fewest n r bars ws = [] := by unfold fewest; rw [htot]; rfl
    rw [hf] at k
    refine hR _ _ ?_
    simp
    exact ret_here k
end C
end
section
set_option Elab.async false
set_option linter.all false
set_option maxRecDepth 100000
set_option maxHeartbeats 4000000
/-! Layings: laid. -/
namespace C
open T PySem L2
open T.Enc (enc)
variable {Γ : T.Ctx}
/-- slots with rooms, from the first on -/
def withR (ch : List Int) : List Pl := ch.zipIdx.map fun p => (p.1, (((ch.take p.2).count p.1 : Nat) : Int))
def laidD (s : Nat) (r : Int) (bars : Bars) (ws : List Wk) : D := match (lays s r bars ws).head? with
  | none => .tup [.str "barred", .lst ((fewest s r bars ws).map fun w => D.str w.a)]
  | some ch => .tup [.str "laid", .lst ((withR ch).map enc)]
def pLaid : Pm := fun ds G q => ∃ x s r z ws bars, ds = [x, .int s, .int r, z] ∧ IsWs x ws ∧ LayA ws s ∧ IsBars z bars ∧ q (laidD s.toNat r bars ws) G
theorem enum_ints (ch : List Int) : (ch.map D.int).zipIdx.map (fun p => D.tup [.int (p.2 : Nat), p.1]) = ch.zipIdx.map fun p => D.tup [.int (p.2 : Nat), .int p.1] := by
  rw [List.zipIdx_map, List.map_map]; rfl
theorem count_l {l : List Int} {k : Int} {G : Store} {q : DK} (h : q (.int ((l.count k : Nat) : Int)) G) : wBm .count (.lst (l.map D.int)) [.int k] G q := by
  show oq (bmD .count (lk G (.lst (l.map D.int))) [lk G (.int k)]) _
  show oq (((l.map D.int).mapM intOf).map fun ns => D.int (ns.count k : Nat)) _
  rw [mapM_ints, Option.map_some, oqs]
  exact h
theorem ok_laid (h1 : Γ.fn "first_slots" [] = some (pm pFirst)) (h2 : Γ.fn "fewest_barred" [] = some (pm pFewB)) {ds : List D} {G : Store} {q : DK} (h : pLaid ds G q) : run Γ 7 ir_laid (fun _ _ => False) ds G q := by
  obtain ⟨x, s, r, z, ws, bars, rfl, hx, hA, hz, k⟩ := h
  unfold laidD at k
  rw [run_eq]
  show sSs Γ ir_laid _ _ (some x :: some (.int s) :: some (.int r) :: some z :: List.replicate 3 none) G
  unfold ir_laid
  refine ss_step fun R hR => ?_
  simp [h1, pm]
  refine ⟨x, ws, s, r, z, bars, rfl, hx, hA, hz, ?_⟩
  refine hR _ _ ?_
  clear hR R
  cases hh : (lays s.toNat r bars ws).head? with
  | none =>
    rw [hh] at k
    refine ss_step fun R hR => ?_
    simp [encF, cmpD, isNonD, h2, pm]
    exact ⟨x, ws, s, r, z, bars, rfl, hx, hA, hz, ret_here k⟩
  | some ch =>
    rw [hh] at k
    have hm : ch ∈ lays s.toNat r bars ws := List.mem_of_head? hh
    have hl : ch.length ≤ 8 := by rw [(lays_mem hm).1]; exact hA.few
    refine ss_step fun R hR => ?_
    simp [encF, cmpD, isNonD]
    refine hR _ _ ?_
    clear hR R
    simp
    refine ⟨by show ch.length ≤ 16777216; omega, ?_⟩
    rw [enum_ints ch]
    refine compW_map (e := fun p : Int × Nat => D.tup [.int (p.2 : Nat), .int p.1]) (fun p => enc ((p.1, (((ch.take p.2).count p.1 : Nat) : Int)) : Pl)) still_self (fun p _ k2 hk2 => ?_) ?_
    · simp [wipeD]
      rw [cutG_take _ (by omega)]
      refine ⟨rfl, ?_⟩
      rw [Int.toNat_natCast, ← List.map_take]
      exact count_l (by simpa using hk2)
    · rw [show (ch.zipIdx.map fun p => (enc ((p.1, (((ch.take p.2).count p.1 : Nat) : Int)) : Pl) : D)) = (withR ch).map enc from by unfold withR; rw [List.map_map]; rfl]
      exact ret_here k
end C
end
section
set_option Elab.async false
set_option linter.all false
set_option maxRecDepth 100000
set_option maxHeartbeats 4000000
/-! Layings: the law's own ways. -/
namespace C
open T PySem L2
open T.Enc (enc)
variable {Γ : T.Ctx}
def pLApart : Pm := fun ds G q => ∃ (w o : Wk), ds = [enc w, enc o] ∧ q (.bl (apart w o)) G
theorem empty_filter {α : Type} (p : α → Bool) : ∀ l : List α, (l.filter p).isEmpty = !l.any p
  | [] => rfl
  | x :: l => by
    rw [List.filter_cons, List.any_cons]
    by_cases h : p x = true
    · simp [h]
    · simp [h, empty_filter p l]
theorem ok_lapart {ds : List D} {G : Store} {q : DK} (h : pLApart ds G q) : run Γ 3 ir__law_apart (fun _ _ => False) ds G q := by
  obtain ⟨w, o, rfl, k⟩ := h
  simp only [ir__law_apart]
  simp
  refine compW_filter (e := D.str) (fun a : Str => decide (a ∈ o.b.l)) (fun a => D.str a) trivial (fun a _ k2 hk => ?_) ?_
  · simp [wipeD]
    have e := in_tup' (x := a) (l := o.b.l) (b := decide (a ∈ o.b.l)) (by simp)
    simp only [enc_str] at e
    rw [e]
    simp
    by_cases c : a ∈ o.b.l
    · simpa [c] using hk
    · simpa [c] using hk
  · simp
    have e : ((w.b.l.filter fun a => decide (a ∈ o.b.l)).isEmpty) = apart w o := by rw [empty_filter]; rfl
    rw [e]
    exact ret_here k
/-! choices -/
def pChs (m : Nat) : Pm := fun ds G q => ∃ (ws : List Wk) (k : Nat), ds = [.lst (ws.map enc), .int k] ∧ ws.length ≤ 8 ∧ k ≤ 8 ∧ k < m ∧ q (.lst ((chs ws k).map enc)) G
theorem chs_few8 {ws : List Wk} (h : ws.length ≤ 8) (k : Nat) : (chs ws k).length ≤ 256 := Nat.le_trans (chs_few ws k) (Nat.pow_le_pow_right (by decide) h : 2 ^ ws.length ≤ 2 ^ 8)
theorem ok_chs {m : Nat} (h1 : Γ.fn "_law_choices_of" [] = some (pm (pChs m))) {ds : List D} {G : Store} {q : DK} (h : pChs (m + 1) ds G q) : run Γ 5 ir__law_choices_of (fun _ _ => False) ds G q := by
  obtain ⟨ws, k, rfl, h8, hk8, hm, kq⟩ := h
  rw [run_eq]
  show sSs Γ ir__law_choices_of _ _ (some (.lst (ws.map enc)) :: some (.int k) :: List.replicate 3 none) G
  unfold ir__law_choices_of
  refine ss_step fun R hR => ?_
  simp
  cases k with
  | zero =>
    rw [chs_zero] at kq
    simp
    exact ret_here (by simpa using kq)
  | succ k =>
    have hne : ¬ (((k + 1 : Nat) : Int) = 0) := by omega
    simp
    refine hR _ _ ?_
    clear hR R
    refine ss_step fun R hR => ?_
    simp
    refine hR _ _ ?_
    clear hR R
    rw [chs_at] at kq
    refine ss_step fun R hR => ?_
    refine for_it (e := fun i : Nat => D.int (i : Int)) (xs := List.range ws.length) (G1 := G) (gd := fun _ => True) (I := fun rr σ G' => ∃ (acc : List (List Wk)) (o3 o4 : Option D), G' = G ∧ (∀ i ∈ rr, i < ws.length) ∧ acc ++ rr.flatMap (chsI k ws) = (List.range ws.length).flatMap (chsI k ws) ∧ acc.length + 256 * rr.length ≤ 2048 ∧
        σ = [some (.lst (ws.map enc)), some (.int ((k : Int) + 1)), some (.lst (acc.map enc)), o3, o4])
      (fun p hp => ?_) (fun _ _ _ _ => trivial) ⟨[], _, _, rfl, fun i hi => List.mem_range.mp hi, rfl, by simp; omega, rfl⟩ (fun i rr σ G' kk hI hk => ?_) (fun σ G' hI => ?_)
    · simp
      refine ⟨by omega, ?_⟩
      simpa using hp
    · obtain ⟨acc, o3, o4, rfl, hi, hacc, hlen, rfl⟩ := hI
      have hi0 := hi i (by simp)
      show sSs Γ _ _ _ [some (.lst (ws.map enc)), some (.int ((k : Int) + 1)), some (.lst (acc.map enc)), some (.int i), o4] G'
      rw [List.flatMap_cons, chsI_at hi0] at hacc
      refine ss_step fun R2 hR2 => ?_
      simp [h1, pm]
      rw [cutG_drop _ (by omega)]
      refine ⟨ws.drop (i + 1), k, by rw [show ((i : Int) + 1).toNat = i + 1 by omega, List.map_drop], by rw [List.length_drop]; omega, by omega, by omega, ?_⟩
      have hc := chs_few8 (ws := ws.drop (i + 1)) (by rw [List.length_drop]; omega) k
      have hg : (ws.map enc)[i]? = some (enc ws[i] : D) := by rw [List.getElem?_map, List.getElem?_eq_getElem hi0]; rfl
      generalize hcs : chs (ws.drop (i + 1)) k = cs at hacc hc ⊢
      have h8' : ∀ x ∈ cs, x.length ≤ 8 := fun x hx => by rw [← hcs] at hx; rw [chs_len hx]; omega
      simp
      refine compW_map (e := fun l : List Wk => (D.lst (l.map enc))) (fun l => D.lst ((ws[i] :: l).map enc)) trivial (fun l hl k3 hk3 => ?_) ?_
      · have := h8' l hl
        simp [wipeD]
        rw [atI_nat hg]
        simp
        rw [add_ll (by simp; omega)]
        simpa using hk3
      · rw [add_ll (by simp at hlen ⊢; omega)]
        simp only [oqs]
        refine hR2 _ _ ?_
        simp only [ss_nil]
        have e : (acc.map enc ++ cs.map fun l : List Wk => D.lst ((ws[i] :: l).map enc)) = (acc ++ cs.map (ws[i] :: ·)).map enc := by rw [List.map_append, List.map_map]; rfl
        rw [e]
        exact hk _ _ ⟨acc ++ cs.map (ws[i] :: ·), _, _, rfl, fun j hj => hi j (by simp [hj]), by rw [List.append_assoc]; exact hacc, by simp at hlen ⊢; omega, rfl⟩
    · obtain ⟨acc, o3, o4, rfl, hi, hacc, hlen, rfl⟩ := hI
      rw [List.flatMap_nil, List.append_nil] at hacc
      rw [← hacc] at kq
      refine hR _ _ ?_
      simp
      exact ret_here kq
def pLotsW : Pm := fun ds G q => ∃ (x : D) (ws : List Wk), ds = [x] ∧ IsWs x ws ∧ ws.length ≤ 8 ∧ q (.lst ((lotsW ws 0).map enc)) G
theorem ok_lotsW (h1 : Γ.fn "_law_choices_of" [] = some (pm (pChs goTop))) {ds : List D} {G : Store} {q : DK} (h : pLotsW ds G q) : run Γ 4 ir__law_lots (fun _ _ => False) ds G q := by
  obtain ⟨x, ws, rfl, hx, h8, kq⟩ := h
  rw [run_eq]
  show sSs Γ ir__law_lots _ _ (some x :: List.replicate 3 none) G
  unfold ir__law_lots
  refine ss_step fun R hR => ?_
  simp
  refine hR _ _ ?_
  clear hR R
  refine ss_step fun R hR => ?_
  refine for_it (e := fun i : Nat => D.int (i : Int)) (xs := List.range (ws.length + 1)) (G1 := G) (gd := fun _ => True) (I := fun rr σ G' => ∃ (acc : List (List Wk)) (o2 o3 : Option D), G' = G ∧ (∀ i ∈ rr, i ≤ ws.length) ∧ acc ++ rr.flatMap (chs ws) = lotsW ws 0 ∧ acc.length + 256 * rr.length ≤ 3000 ∧ σ = [some x, some (.lst (acc.map enc)), o2, o3])
    (fun p hp => ?_) (fun _ _ _ _ => trivial) ⟨[], _, _, rfl, fun i hi => by have := List.mem_range.mp hi; omega, by unfold lotsW; rw [List.range_eq_range']; rfl, by simp; omega, rfl⟩ (fun i rr σ G' kk hI hk => ?_) (fun σ G' hI => ?_)
  · simp
    rw [hx.len]
    simp
    refine ⟨by omega, by omega, ?_⟩
    simpa using hp
  · obtain ⟨acc, o2, o3, rfl, hi, hacc, hlen, rfl⟩ := hI
    have hi0 := hi i (by simp)
    show sSs Γ _ _ _ [some x, some (.lst (acc.map enc)), some (.int i), o3] G'
    rw [List.flatMap_cons] at hacc
    refine ss_step fun R2 hR2 => ?_
    have el : ∀ q : DK, wBi .list [x] G' q = q (.lst (ws.map enc)) G' := fun q => by
      rcases hx with rfl | rfl <;> exact bi_of (by decide) rfl
    simp [h1, pm]
    rw [el]
    refine ⟨ws, i, rfl, h8, by omega, by simp [goTop]; omega, ?_⟩
    have hc := chs_few8 h8 i
    simp
    refine compW_map (e := fun l : List Wk => (D.lst (l.map enc))) (fun l => D.lst (l.map enc)) trivial (fun l hl k3 hk3 => ?_) ?_
    · simp [wipeD]
      simpa using hk3
    · rw [add_ll (by simp at hlen ⊢; omega)]
      simp only [oqs]
      refine hR2 _ _ ?_
      simp only [ss_nil]
      have e : (acc.map enc ++ (chs ws i).map fun l : List Wk => D.lst (l.map enc)) = (acc ++ chs ws i).map enc := by rw [List.map_append]; rfl
      rw [e]
      exact hk _ _ ⟨acc ++ chs ws i, _, _, rfl, fun j hj => hi j (by simp [hj]), by rw [List.append_assoc]; exact hacc, by simp at hlen ⊢; omega, rfl⟩
  · obtain ⟨acc, o2, o3, rfl, hi, hacc, hlen, rfl⟩ := hI
    rw [List.flatMap_nil, List.append_nil] at hacc
    rw [← hacc] at kq
    refine hR _ _ ?_
    simp
    exact ret_here kq
end C
end
section
set_option Elab.async false
set_option linter.all false
set_option maxRecDepth 100000
set_option maxHeartbeats 4000000
/-! Layings: whether works can be laid, by the law's way. -/
namespace C
open T PySem L2
open T.Enc (enc)
variable {Γ : T.Ctx}
abbrev tI (x : List Int) : D := .tup (x.map D.int)
/-- a table of lists of slots -/
abbrev dL (L : List (List Int)) : List (List Key × D) := L.map fun x => (x.map Sum.inl, D.bl true)
theorem inlL_inj : ∀ {a b : List Int}, (a.map Sum.inl : List Key) = b.map Sum.inl → a = b
  | [], [], _ => rfl
  | [], _ :: _, h => by cases h
  | _ :: _, [], h => by cases h
  | x :: a, y :: b, h => by
    have h' := List.cons.inj h
    rw [inlL_inj h'.2, Sum.inl.inj h'.1]
theorem keysOf_tI (x : List Int) : keysOf (tI x) = some (x.map Sum.inl) := by
  show (x.map D.int).mapM keyOf = _
  induction x with
  | nil => rfl
  | cons a x ih => rw [List.map_cons, List.mapM_cons, ih]; rfl
theorem dKeys_inl (x : List Int) : dKeys (x.map Sum.inl) = tI x := by
  show D.tup ((x.map Sum.inl).map dKey) = _
  rw [List.map_map]; rfl
theorem keys_dL (L : List (List Int)) : (dL L).map (fun p => dKeys p.1) = L.map tI := by
  rw [List.map_map]
  exact List.map_congr_left fun x _ => dKeys_inl x
theorem put_dL {L : List (List Int)} {x : List Int} (h : x ∉ L) : putG (dL L) (x.map Sum.inl) (D.bl true) = dL (L ++ [x]) := by
  rw [putG_new]
  · show dL L ++ [_] = List.map _ (L ++ [x])
    rw [List.map_append]; rfl
  · intro hm
    rw [List.map_map] at hm
    obtain ⟨y, hy, e⟩ := List.mem_map.mp hm
    exact h (inlL_inj e ▸ hy)
theorem zip_rng (t : List Int) : t.zipIdx = (List.range t.length).map fun i => (t.getD i 0, i) := by
  refine List.ext_getElem? fun i => ?_
  rw [List.getElem?_zipIdx, List.getElem?_map]
  by_cases h : i < t.length
  · rw [List.getElem?_range h, List.getElem?_eq_getElem h]
    simp [List.getD_eq_getElem?_getD, List.getElem?_eq_getElem h]
  · rw [List.getElem?_eq_none (by omega), List.getElem?_eq_none (by simpa using h)]; rfl
theorem in_slot2 {ws : List Wk} {ch : List Int} (hl : ch.length ≤ ws.length) (sl : Int) : ((List.range ch.length).filterMap fun i => if decide (ch.getD i 0 = sl) = true then (ws[i]?).map (enc : Wk → D) else none) = (inSlot ws ch sl).map enc := by
  rw [← in_slot hl sl, zip_rng, List.filterMap_map]; rfl
def canD (s : Nat) (r : Int) (bars : Bars) (ws : List Wk) : D := match (lays s r bars ws).head? with
  | none => .non
  | some ch => tI ch
def pCanLay : Pm := fun ds G q => ∃ x s r ws bars, ds = [x, .int s, .int r, .tup (bars.map (enc : Str × Int → D))] ∧ IsWs x ws ∧ ws.length ≤ 8 ∧ 0 ≤ s ∧ s ≤ 5 ∧ q (canD s.toNat r bars ws) G
section
variable {s : Nat} {r : Int} {bars : Bars} {ws : List Wk}
theorem fold_ex (dn : List Wk) : dn.foldl (fun L w => L.flatMap (stepL s r bars ws w)) [[]] = exts s r bars ws dn [] := by
  rw [exts_fold]; simp
theorem flat_few {α β : Type} {f : α → List β} {k : Nat} : ∀ {l : List α}, (∀ x ∈ l, (f x).length ≤ k) → (l.flatMap f).length ≤ k * l.length
  | [], _ => by simp
  | x :: l, h => by
    rw [List.flatMap_cons, List.length_append, List.length_cons, Nat.mul_succ]
    have := h x (by simp)
    have := flat_few (l := l) fun y hy => h y (by simp [hy])
    omega
theorem exts_few (hs : s ≤ 5) : ∀ (rest : List Wk) (ch : List Int), (exts s r bars ws rest ch).length ≤ 5 ^ rest.length
  | [], ch => by rw [exts_nil]; simp
  | w :: rest, ch => by
    rw [exts_cons, List.length_cons, Nat.pow_succ]
    refine Nat.le_trans (flat_few (k := 5 ^ rest.length) fun i _ => ?_) ?_
    · split
      · exact exts_few hs rest _
      · exact Nat.zero_le _
    · rw [List.length_range]
      exact Nat.mul_le_mul_left _ hs
theorem exts_nd (rest : List Wk) (ch : List Int) : (exts s r bars ws rest ch).Nodup := (exts_lt rest ch).imp fun h e => by subst e; exact absurd h (List.lt_irrefl _)
end
theorem ne_dT {l : List (List Key × D)} : cmpD .ne (.dT l) (.dK []) = some (.bl (!l.isEmpty)) := by simp [cmpD, eqOk, eqD]
theorem add_tI {t : List Int} {k : Int} (h : t.length ≤ 100) : binD .add (tI t) (.tup [.int k]) = some (tI (t ++ [k])) := by
  rw [add_tt (by simp; omega)]; simp
theorem at_tI {t : List Int} {i : Nat} (h : i < t.length) : atI (t.map D.int) (i : Int) = some (.int (t.getD i 0)) := by
  refine atI_nat ?_
  rw [List.getElem?_map, List.getElem?_eq_getElem h]
  simp [List.getD_eq_getElem?_getD, List.getElem?_eq_getElem h]
theorem all_not {α : Type} (p : α → Bool) (l : List α) : (l.filter fun x => !p x).isEmpty = l.all p := by
  rw [empty_filter]
  induction l with
  | nil => rfl
  | cons x l ih => rw [List.any_cons, List.all_cons, ← ih]; cases p x <;> simp
theorem ok_canLay (h1 : Γ.fn "_law_apart" [] = some (pm pLApart)) {ds : List D} {G : Store} {q : DK} (h : pCanLay ds G q) : run Γ 14 ir__law_can_lay (fun _ _ => False) ds G q := by
  obtain ⟨x, s, r, ws, bars, rfl, hx, h8, s0, s5, k⟩ := h
  obtain ⟨n, rfl⟩ := Int.eq_ofNat_of_zero_le s0
  simp only [Int.ofNat_eq_natCast, Int.toNat_natCast] at k
  have hn5 : n ≤ 5 := by omega
  rw [run_eq]
  show sSs Γ ir__law_can_lay _ _ (some x :: some (.int (n : Int)) :: some (.int r) :: some (.tup (bars.map enc)) :: List.replicate 10 none) G
  unfold ir__law_can_lay
  refine ss_step fun R hR => ?_
  simp
  refine ⟨[([], .bl true)], rfl, ?_⟩
  refine hR _ _ ?_
  clear hR R
  refine ss_step fun R hR => ?_
  refine for_it (e := fun w : Wk => enc w) (xs := ws) (G1 := G) (gd := fun _ => True) (I := fun rr σ G' => ∃ (dn : List Wk) (o5 o6 o7 o8 o9 o10 o11 o12 o13 : Option D), dn ++ rr = ws ∧ G' = G ∧ σ = [some x, some (.int (n : Int)), some (.int r), some (.tup (bars.map enc)), some (.dT (dL (exts n r bars ws dn []))), o5, o6, o7, o8, o9, o10, o11, o12, o13])
    (fun p hp => ?_) (fun _ _ _ _ => trivial) ⟨[], _, _, _, _, _, _, _, _, _, rfl, rfl, rfl⟩ (fun w rr σ G' kk hI hk => ?_) (fun σ G' hI => ?_)
  · simp
    rw [hx.walk]
    exact hp
  · obtain ⟨dn, o5, o6, o7, o8, o9, o10, o11, o12, o13, hd, rfl, rfl⟩ := hI
    show sSs Γ _ _ _ [some x, some (.int (n : Int)), some (.int r), some (.tup (bars.map enc)), some (.dT (dL (exts n r bars ws dn []))), some (enc w), o6, o7, o8, o9, o10, o11, o12, o13] G'
    have hdl : dn.length < ws.length := by rw [← hd]; simp
    have htot : (exts n r bars ws dn []).flatMap (stepL n r bars ws w) = exts n r bars ws (dn ++ [w]) [] := by
      rw [← fold_ex, ← fold_ex, List.foldl_append]; rfl
    have hnd : ((exts n r bars ws dn []).flatMap (stepL n r bars ws w)).Nodup := by rw [htot]; exact exts_nd _ _
    have hfew : ((exts n r bars ws dn []).flatMap (stepL n r bars ws w)).length ≤ 5 ^ 8 := by
      rw [htot]
      refine Nat.le_trans (exts_few hn5 _ _) (Nat.pow_le_pow_right (by decide) ?_)
      rw [List.length_append, List.length_singleton]; omega
    have hlen : ∀ t ∈ exts n r bars ws dn [], t.length = dn.length := fun t ht => by
      obtain ⟨y, rfl, hl, _⟩ := exts_mem ht
      simpa using hl
    refine ss_step fun R2 hR2 => ?_
    simp
    intro p hp
    refine hR2 _ _ ?_
    clear hR2 R2
    have j0 : Ob G' [(p, .dT (dL []))] (put G' p (.dT [])) := Ob.start.new hp
    generalize put G' p (.dT []) = G1 at j0 ⊢
    refine ss_step fun R2 hR2 => ?_
    generalize hT : exts n r bars ws dn [] = T0 at *
    refine for_it (e := tI) (xs := T0) (G1 := G1) (gd := fun _ => True) (I := fun r2 σ G2 => ∃ (acc : List (List Int)) (o7 o8 o9 o10 o11 o12 o13 : Option D), acc ++ r2.flatMap (stepL n r bars ws w) = T0.flatMap (stepL n r bars ws w) ∧ (∀ t ∈ r2, t.length = dn.length) ∧ Ob G' [(p, .dT (dL acc))] G2 ∧
        σ = [some x, some (.int (n : Int)), some (.int r), some (.tup (bars.map enc)), some (.dT (dL T0)), some (enc w), some (.ref p), o7, o8, o9, o10, o11, o12, o13])
      (fun p hp => ?_) (fun _ _ _ _ => trivial) ⟨[], _, _, _, _, _, _, _, rfl, hlen, j0, rfl⟩ (fun t r2 σ G2 k2 hI hk2 => ?_) (fun σ G2 hI => ?_)
    · simp
      refine ⟨_, rfl, ?_⟩
      rw [keys_dL]
      exact hp
    · obtain ⟨acc, o7, o8, o9, o10, o11, o12, o13, hacc, hl2, j, rfl⟩ := hI
      have htl := hl2 t (by simp)
      show sSs Γ _ _ _ [some x, some (.int (n : Int)), some (.int r), some (.tup (bars.map enc)), some (.dT (dL T0)), some (enc w), some (.ref p), some (tI t), o8, o9, o10, o11, o12, o13] G2
      refine ss_step fun R3 hR3 => ?_
      have hst : stepL n r bars ws w t = ((List.range n).filter fun i : Nat => freeF r bars ws t w i).map fun i : Nat => t ++ [(i : Int)] := rfl
      rw [List.flatMap_cons, hst] at hacc
      refine for_it (e := fun i : Nat => D.int (i : Int)) (xs := List.range n) (G1 := G2) (gd := fun _ => True) (I := fun r3 σ G3 => ∃ (acc : List (List Int)) (o8 o9 o10 o11 o12 o13 : Option D), acc ++ (((r3.filter fun i : Nat => freeF r bars ws t w i).map fun i : Nat => t ++ [(i : Int)]) ++ r2.flatMap (stepL n r bars ws w)) = T0.flatMap (stepL n r bars ws w) ∧ Ob G' [(p, .dT (dL acc))] G3 ∧
          σ = [some x, some (.int (n : Int)), some (.int r), some (.tup (bars.map enc)), some (.dT (dL T0)), some (enc w), some (.ref p), some (tI t), o8, o9, o10, o11, o12, o13])
        (fun p hp => ?_) (fun _ _ _ _ => trivial) ⟨acc, _, _, _, _, _, _, hacc, j, rfl⟩ (fun i r3 σ G3 k3 hI hk3 => ?_) (fun σ G3 hI => ?_)
      · simp
        refine ⟨by omega, ?_⟩
        simpa using hp
      · obtain ⟨acc, o8, o9, o10, o11, o12, o13, hacc, j, rfl⟩ := hI
        show sSs Γ _ _ _ [some x, some (.int (n : Int)), some (.int r), some (.tup (bars.map enc)), some (.dT (dL T0)), some (enc w), some (.ref p), some (tI t), some (.int (i : Int)), o9, o10, o11, o12, o13] G3
        refine ss_step fun R4 hR4 => ?_
        simp
        refine ⟨by omega, ?_⟩
        refine compW_t (e := fun i : Nat => D.int (i : Int)) (fun m : Nat => if decide (t.getD m 0 = (i : Int)) = true then (ws[m]?).map (enc : Wk → D) else none) trivial (List.range t.length) [] (fun m hm k hk => ?_) ?_
        · have hm' : m < t.length := List.mem_range.mp hm
          have hm2 : m < ws.length := by omega
          simp [wipeD]
          rw [at_tI hm']
          simp
          by_cases e : t.getD m 0 = (i : Int)
          · rw [List.getElem?_eq_getElem hm2] at hk
            rw [List.getD_eq_getElem?_getD] at e hk
            simp [e]
            rw [hx.at (List.getElem?_eq_getElem hm2)]
            simpa [e] using hk
          · rw [List.getD_eq_getElem?_getD] at e hk
            simp [e]
            simpa [e] using hk
        · rw [List.nil_append, in_slot2 (by omega)]
          refine hR4 _ _ ?_
          clear hR4 R4
          have hfr : freeF r bars ws t w i = ((decide (((inSlot ws t i).length : Int) < r) && (inSlot ws t i).all fun o => apart o w) && noBar bars w i) := by
            unfold freeF
            rw [show ((inSlot ws t i).all fun o => apart w o) = (inSlot ws t i).all fun o => apart o w from by congr 1; funext o; exact apart_symm w o]
            cases decide (((inSlot ws t i).length : Int) < r) <;> cases noBar bars w i <;> simp
          generalize inSlot ws t i = near at hfr ⊢
          rw [List.filter_cons] at hacc
          have fin : ∀ (b : Bool) (o12 o13 : Option D), b = freeF r bars ws t w i → sSs Γ [.ite (.var 11) [.asg (.psub (.var 6) (.bin .add (.var 7) (.tup [(.var 8)]))) (.bl true)] []] (fun e x G' => False) { nx := k3, ct := k3, bk := R3, rt := fun d G' => ∃ d' G'', ViewD d G' d' G'' ∧ q d' G'' }
              [some x, some (.int (n : Int)), some (.int r), some (.tup (bars.map enc)), some (.dT (dL T0)), some (enc w), some (.ref p), some (tI t), some (.int (i : Int)), some (.lst (near.map enc)), o10, some (.bl b), o12, o13] G3 := fun b o12 o13 hb => by
            refine ss_step fun R4 hR4 => ?_
            simp
            rw [← hb] at hacc
            cases b with
            | false =>
              simp at hacc
              simp
              refine hR4 _ _ ?_
              simp only [ss_nil]
              exact hk3 _ _ ⟨acc, _, _, _, _, _, _, hacc, j, rfl⟩
            | true =>
              simp at hacc
              simp
              rw [add_tI (by omega)]
              simp only [oqs]
              have hnot : (t ++ [(i : Int)]) ∉ acc := by
                rw [← hacc, List.nodup_append] at hnd
                intro hm
                exact hnd.2.2 _ hm _ (by simp) rfl
              have hac : acc.length < LN := by
                have := congrArg List.length hacc
                rw [List.length_append] at this
                have h5 : (5 : Nat) ^ 8 = 390625 := by decide
                rw [h5] at hfew
                show acc.length < 16777216
                omega
              rw [setI_dT j.get0 (by rw [List.length_map]; exact hac) (keysOf_tI _), put_dL hnot]
              refine hR4 _ _ ?_
              simp only [ss_nil]
              exact hk3 _ _ ⟨acc ++ [t ++ [(i : Int)]], _, _, _, _, _, _, by simpa using hacc, j.upd0 _, rfl⟩
          refine ss_step fun R4 hR4 => ?_
          simp
          refine hR4 _ _ ?_
          clear hR4 R4
          refine ss_step fun R4 hR4 => ?_
          simp
          refine compW_filter (e := fun o : Wk => (enc o : D)) (fun o => !apart o w) (fun o => (enc o : D)) trivial (fun o _ k4 hk4 => ?_) ?_
          · simp [wipeD, h1, pm]
            refine ⟨o, w, rfl, ?_⟩
            simp
            by_cases c : apart o w = true
            · rw [c] at hk4 ⊢; simpa using hk4
            · rw [show apart o w = false from by simpa using c] at hk4 ⊢; simpa using hk4
          · have hall := all_not (fun o : Wk => apart o w) near
            generalize hf : near.filter (fun o => !apart o w) = bad at hall ⊢
            simp
            have go2 : ∀ (b : Bool) (o12 : Option D), b = (decide ((near.length : Int) < r) && near.all fun o => apart o w) → sSs Γ [.ite (.cmp .ne (.lc false (.var 13) (.pname 13) (.idx (.var 5) (.int 1)) [(.cmp .in_ (.tup [(.var 13), (.var 8)]) (.var 3))] [13]) (.lst false [])) [.asg (.pname 11) (.bl false)] [], .ite (.var 11) [.asg (.psub (.var 6) (.bin .add (.var 7) (.tup [(.var 8)]))) (.bl true)] []] (fun e x G' => False) { nx := k3, ct := k3, bk := R3, rt := fun d G' => ∃ d' G'', ViewD d G' d' G'' ∧ q d' G'' }
                [some x, some (.int (n : Int)), some (.int r), some (.tup (bars.map enc)), some (.dT (dL T0)), some (enc w), some (.ref p), some (tI t), some (.int (i : Int)), some (.lst (near.map enc)), o10, some (.bl b), o12, o13] G3 := fun b o12 hb => by
              rw [← hb] at hfr
              refine ss_step fun R5 hR5 => ?_
              simp
              refine compW_filter (e := D.str) (fun a : Str => decide ((a, (i : Int)) ∈ bars)) (fun a => D.str a) trivial (fun a _ k4 hk4 => ?_) ?_
              · simp [wipeD]
                have e := in_tup' (x := ((a, (i : Int)) : Str × Int)) (l := bars) (b := decide ((a, (i : Int)) ∈ bars)) (by simp)
                simp only [enc_pair, enc_str, enc_int] at e
                rw [e]
                simp
                by_cases c : (a, (i : Int)) ∈ bars
                · simpa [c] using hk4
                · simpa [c] using hk4
              · have hno : (w.b.l.filter fun a => decide ((a, (i : Int)) ∈ bars)).isEmpty = noBar bars w i := by rw [empty_filter]; rfl
                generalize w.b.l.filter (fun a => decide ((a, (i : Int)) ∈ bars)) = hit at hno ⊢
                simp
                cases hit with
                | nil =>
                  simp at hno
                  simp
                  refine hR5 _ _ ?_
                  exact fin _ _ _ (by rw [hfr]; simp [hno])
                | cons a0 hit =>
                  simp at hno
                  simp
                  refine hR5 _ _ ?_
                  exact fin _ _ _ (by rw [hfr]; simp [hno])
            cases bad with
            | nil =>
              simp at hall
              simp
              refine hR4 _ _ ?_
              exact go2 _ _ (by simp; intro _; simpa using hall)
            | cons b0 bad =>
              simp at hall
              simp
              refine hR4 _ _ ?_
              exact go2 _ _ (by simp; intro _; simpa using hall)
      · obtain ⟨acc, o8, o9, o10, o11, o12, o13, hacc, j, rfl⟩ := hI
        refine hR3 _ _ ?_
        simp only [ss_nil]
        exact hk2 _ _ ⟨acc, _, _, _, _, _, _, _, by simpa using hacc, fun t2 h2 => hl2 t2 (by simp [h2]), j, rfl⟩
    · obtain ⟨acc, o7, o8, o9, o10, o11, o12, o13, hacc, hl2, j, rfl⟩ := hI
      rw [List.flatMap_nil, List.append_nil] at hacc
      refine hR2 _ _ ?_
      clear hR2 R2
      refine ss_view j.less (.same (.same (.same (.same (.same (.same (.fz j.fzT (SlV.refl _)))))))) ?_
      simp
      rw [hacc, htot]
      refine hk _ _ ?_
      exact ⟨dn ++ [w], _, _, _, _, _, _, _, _, _, by simpa using hd, rfl, rfl⟩
  · obtain ⟨dn, o5, o6, o7, o8, o9, o10, o11, o12, o13, hd, rfl, rfl⟩ := hI
    rw [List.append_nil] at hd
    subst hd
    refine hR _ _ ?_
    simp
    intro p hp
    have j : Ob G' [(p, .dK [])] (put G' p (.dK [])) := Ob.start.new hp
    rw [lk_k put_same, ne_dT]
    simp
    unfold canD at k
    have hL : exts n r bars dn dn [] = lays n r bars dn := rfl
    rw [hL]
    have hne : (List.map (fun x => ((x.map Sum.inl : List Key), D.bl true)) (lays n r bars dn)).isEmpty = (lays n r bars dn).isEmpty := by cases lays n r bars dn <;> rfl
    by_cases hh : (lays n r bars dn).isEmpty = true
    · rw [List.isEmpty_iff] at hh
      rw [hh] at k ⊢
      simp
      exact j.ret k
    · have hs : sortD ((lays n r bars dn).map tI) = (lays n r bars dn).map tI := by
        have e := sortD_enc ((lays n r bars dn).map fun x => (⟨x⟩ : Tup Int))
        rw [lays_sort, List.map_map] at e
        exact e
      have ho : sortOkS ((lays n r bars dn).map tI) = true := by
        have e := lays_srtOk (s := n) (r := r) (bars := bars) (ws := dn)
        rw [List.map_map] at e
        exact e
      rw [if_neg (by rw [← List.isEmpty_iff]; exact hh)]
      refine ⟨_, rfl, ?_⟩
      rw [keys_dL]
      dsimp only
      rw [hs]
      refine ⟨ho, ?_⟩
      cases hl : lays n r bars dn with
      | nil => rw [hl] at hh; exact absurd rfl hh
      | cons best tl =>
        rw [hl] at k
        simp
        exact j.ret k
end C
end
section
set_option Elab.async false
set_option linter.all false
set_option maxRecDepth 100000
set_option maxHeartbeats 4000000
/-! Looking at things of any kind: is_int, is_whole, is_tuple; is_laid. -/
namespace C
open T PySem L2
open T.Enc (enc)
variable {Γ : T.Ctx}
theorem lk_pure {d : D} (h : d.pure = true) (G : Store) : lk G d = d := by cases d <;> first | rfl | cases h
def isIntD : D → Bool
  | .int _ => true
  | _ => false
def inD' (lo hi : Int) : D → Bool
  | .int i => decide (lo ≤ i ∧ i ≤ hi)
  | _ => false
def isTupN (n : Int) : D → Bool
  | .tup l => decide ((l.length : Int) = n)
  | _ => false
def pIsInt : Pm := fun ds G q => ∃ d, ds = [d] ∧ d.pure = true ∧ q (.bl (isIntD d)) G
theorem ok_isInt {ds : List D} {G : Store} {q : DK} (h : pIsInt ds G q) : run Γ 1 ir_is_int (fun _ _ => False) ds G q := by
  obtain ⟨d, rfl, hp, k⟩ := h
  simp only [ir_is_int]
  cases d <;> first | (cases hp; done) | skip
  all_goals (simp [wBi, biD]; exact ret_here k)
def pIsWhole : Pm := fun ds G q => ∃ d lo hi, ds = [d, .int lo, .int hi] ∧ d.pure = true ∧ q (.bl (inD' lo hi d)) G
theorem ok_isWhole (h1 : Γ.fn "is_int" [] = some (pm pIsInt)) {ds : List D} {G : Store} {q : DK} (h : pIsWhole ds G q) : run Γ 3 ir_is_whole (fun _ _ => False) ds G q := by
  obtain ⟨d, lo, hi, rfl, hp, k⟩ := h
  simp only [ir_is_whole]
  simp [h1, pm]
  refine ⟨d, rfl, hp, ?_⟩
  cases d <;> first | (cases hp; done) | skip
  case int i =>
    simp [isIntD]
    by_cases c : lo ≤ i
    · simp [c]
      have e : inD' lo hi (.int i) = decide (i ≤ hi) := by simp [inD', c]
      rw [e] at k
      exact ret_here k
    · simp [c]
      have e : inD' lo hi (.int i) = false := by simp [inD', c]
      rw [e] at k
      exact ret_here k
  all_goals (simp [isIntD]; exact ret_here k)
def pIsTuple : Pm := fun ds G q => ∃ d n, ds = [d, .int n] ∧ d.pure = true ∧ q (.bl (isTupN n d)) G
theorem ok_isTuple {ds : List D} {G : Store} {q : DK} (h : pIsTuple ds G q) : run Γ 2 ir_is_tuple (fun _ _ => False) ds G q := by
  obtain ⟨d, n, rfl, hp, k⟩ := h
  simp only [ir_is_tuple]
  cases d <;> first | (cases hp; done) | skip
  all_goals (simp [wBi, biD]; exact ret_here k)
/-! is_laid -/
def plOf : List D → Option (List Pl)
  | [] => some []
  | .tup [.int a, .int b] :: r => (plOf r).map ((a, b) :: ·)
  | _ => none
def inR (s r : Int) (p : Pl) : Bool := decide (0 ≤ p.1 ∧ p.1 ≤ s - 1) && decide (0 ≤ p.2 ∧ p.2 ≤ r - 1)
def plAt (pl : List Pl) (i : Nat) : Pl := pl.getD i (0, 0)
def clash (ws : List Wk) (pl : List Pl) (p : Pl) (i o : Nat) : Bool := decide (plAt pl o = p) || (decide ((plAt pl o).1 = p.1) && !apart (wAt ws i) (wAt ws o))
def okAt (bars : Bars) (ws : List Wk) (pl : List Pl) (p : Pl × Nat) : Bool := noBar bars (wAt ws p.2) p.1.1 && (List.range p.2).all fun o => !clash ws pl p.1 p.2 o
def laidB (bars : Bars) (ws : List Wk) (pl : List Pl) : Bool := pl.zipIdx.all (okAt bars ws pl)
def laidOk (s r : Int) (bars : Bars) (ws : List Wk) : D → Bool
  | .lst ds => decide (ds.length = ws.length) && match plOf ds with
    | some pl => pl.all (inR s r) && laidB bars ws pl
    | none => false
  | _ => false
theorem laidOk_lst {s r : Int} {bars : Bars} {ws : List Wk} {ds : List D} : laidOk s r bars ws (.lst ds) = (decide (ds.length = ws.length) && match plOf ds with | some pl => pl.all (inR s r) && laidB bars ws pl | none => false) := rfl
def test2 (s r : Int) : D → Bool
  | .tup [a, b] => inD' 0 (s - 1) a && inD' 0 (r - 1) b
  | _ => false
theorem plOf_enc : ∀ {ds : List D} {pl : List Pl}, plOf ds = some pl → ds = pl.map enc
  | [], pl, h => by cases h; rfl
  | d :: r, pl, h => by
    unfold plOf at h
    split at h
    · rename_i e; cases e
    · rename_i a b r' e
      cases e
      cases hr : plOf r with
      | none => rw [hr] at h; cases h
      | some pl' => rw [hr] at h; cases h; rw [plOf_enc hr]; rfl
    · cases h
theorem plOf_map (pl : List Pl) : plOf (pl.map enc) = some pl := by
  induction pl with
  | nil => rfl
  | cons p pl ih => rw [List.map_cons]; show (plOf (pl.map enc)).map _ = _; rw [ih]; rfl
theorem test2_all (s r : Int) : ∀ ds : List D, ds.all (test2 s r) = match plOf ds with | some pl => pl.all (inR s r) | none => false
  | [] => rfl
  | d :: ds => by
    have ih := test2_all s r ds
    rw [List.all_cons, ih]
    match d with
    | .tup [.int a, .int b] =>
      show _ = match (plOf ds).map ((a, b) :: ·) with | some pl => pl.all (inR s r) | none => false
      cases plOf ds with
      | none => simp
      | some pl => rfl
    | .tup [.int a, .non] | .tup [.int a, .bl _] | .tup [.int a, .str _] | .tup [.int a, .tup _] | .tup [.int a, .lst _] | .tup [.int a, .dK _] | .tup [.int a, .dT _] | .tup [.int a, .ref _] | .tup [.int a, .scr _] | .tup [.int a, .ktup _] => simp [test2, inD', plOf]
    | .tup [.non, b] | .tup [.bl _, b] | .tup [.str _, b] | .tup [.tup _, b] | .tup [.lst _, b] | .tup [.dK _, b] | .tup [.dT _, b] | .tup [.ref _, b] | .tup [.scr _, b] | .tup [.ktup _, b] => simp [test2, inD', plOf]
    | .tup [] | .tup [_] | .tup (_ :: _ :: _ :: _) => simp [test2, plOf]
    | .non | .bl _ | .int _ | .str _ | .lst _ | .dK _ | .dT _ | .ref _ | .scr _ | .ktup _ => simp [test2, plOf]
theorem tup2_of {d : D} (h : isTupN 2 d = true) : ∃ a b, d = .tup [a, b] := by
  match d, h with
  | .tup [a, b], _ => exact ⟨a, b, rfl⟩
  | .tup [], h => simp [isTupN] at h
  | .tup [_], h => simp [isTupN] at h
  | .tup (_ :: _ :: _ :: _), h => simp [isTupN] at h; omega
theorem plOf_tup2 : ∀ {ds : List D} {pl : List Pl}, plOf ds = some pl → ds.all (isTupN 2) = true := fun {ds pl} h => by
  rw [plOf_enc h, List.all_map]
  rw [List.all_eq_true]
  intro p _
  rfl
theorem pure_mem {ds : List D} (h : D.pureL ds = true) : ∀ d ∈ ds, d.pure = true := fun d hd => by
  induction ds with
  | nil => cases hd
  | cons x ds ih =>
    rw [D.pureL, Bool.and_eq_true] at h
    rcases List.mem_cons.mp hd with e | e
    · subst e; exact h.1
    · exact ih h.2 e
theorem plAt_get {pl : List Pl} {i : Nat} (h : i < pl.length) : pl[i]? = some (plAt pl i) := by
  unfold plAt; rw [List.getD_eq_getElem?_getD, List.getElem?_eq_getElem h]; rfl
@[simp] theorem bi_isLst_l {l : List D} {G : Store} {q : DK} : wBi .isLst [.lst l] G q = q (.bl true) G := bi_of (by decide) rfl
def pIsLaid : Pm := fun ds G q => ∃ x s r d z ws bars, ds = [x, .int s, .int r, d, z] ∧ IsWs x ws ∧ ws.length ≤ 8 ∧ IsBars z bars ∧ d.pure = true ∧ q (.bl (laidOk s r bars ws d)) G
theorem ok_isLaid (h1 : Γ.fn "is_tuple" [] = some (pm pIsTuple)) (h2 : Γ.fn "is_whole" [] = some (pm pIsWhole)) (h3 : Γ.fn "can_stand" [] = some (pm pCanStand)) {ds : List D} {G : Store} {q : DK} (h : pIsLaid ds G q) : run Γ 11 ir_is_laid (fun _ _ => False) ds G q := by
  obtain ⟨x, s, r, d, z, ws, bars, rfl, hx, h8, hz, hp, k⟩ := h
  rw [run_eq]
  show sSs Γ ir_is_laid _ _ (some x :: some (.int s) :: some (.int r) :: some d :: some z :: List.replicate 6 none) G
  unfold ir_is_laid
  refine ss_step fun R hR => ?_
  by_cases hlst : ∃ es, d = .lst es
  case neg =>
    have e : laidOk s r bars ws d = false := by
      cases d <;> first | rfl | exact absurd ⟨_, rfl⟩ hlst
    rw [e] at k
    cases d <;> first | (cases hp; done) | (exact absurd ⟨_, rfl⟩ hlst) | skip
    all_goals (simp [wBi, biD]; exact ret_here k)
  obtain ⟨es, rfl⟩ := hlst
  have hpe : D.pureL es = true := hp
  simp
  rw [hx.len]
  simp
  by_cases hl : es.length = ws.length
  case neg =>
    have e : laidOk s r bars ws (.lst es) = false := by simp [laidOk, hl]
    rw [e] at k
    have hl' : ¬ ((es.length : Int) = (ws.length : Int)) := by omega
    simp [hl']
    exact ret_here k
  simp [hl]
  refine compW_id (fun d => D.bl (isTupN 2 d)) trivial (fun d hd k2 hk2 => ?_) ?_
  · simp [wipeD, h1, pm]
    exact ⟨d, 2, rfl, pure_mem hpe d hd, by simpa using hk2⟩
  rw [show (es.map fun d => D.bl (isTupN 2 d)) = (es.map (isTupN 2)).map D.bl from by rw [List.map_map]; rfl, bi_all_b, all_map']
  simp only [lk_bl, truth_bl, oqs]
  by_cases h2t : es.all (isTupN 2) = true
  case neg =>
    have e : laidOk s r bars ws (.lst es) = false := by
      rw [laidOk_lst]
      cases hpl : plOf es with
      | none => simp
      | some pl => exact absurd (plOf_tup2 hpl) h2t
    rw [e] at k
    rw [show es.all (isTupN 2) = false from by simpa using h2t]
    simp
    exact ret_here k
  rw [h2t]
  simp
  refine hR _ _ ?_
  clear hR R
  have htup : ∀ d ∈ es, ∃ a b, d = .tup [a, b] := fun d hd => tup2_of (List.all_eq_true.mp h2t d hd)
  refine ss_step fun R hR => ?_
  simp
  refine compW_id (fun d => D.bl (test2 s r d)) trivial (fun d hd k2 hk2 => ?_) ?_
  · obtain ⟨a, b, rfl⟩ := htup d hd
    have hpd := pure_mem hpe _ hd
    have hpa : a.pure = true ∧ b.pure = true := by simpa [D.pure, D.pureL] using hpd
    simp [wipeD, h2, pm]
    refine ⟨a, 0, s - 1, rfl, hpa.1, ?_⟩
    simp
    by_cases c : inD' 0 (s - 1) a = true
    · rw [c]
      simp
      refine ⟨b, 0, r - 1, rfl, hpa.2, ?_⟩
      simpa [test2, c] using hk2
    · rw [show inD' 0 (s - 1) a = false from by simpa using c]
      simp
      simpa [test2, c] using hk2
  rw [show (es.map fun d => D.bl (test2 s r d)) = (es.map (test2 s r)).map D.bl from by rw [List.map_map]; rfl, bi_all_b, all_map', test2_all]
  cases hpl : plOf es with
  | none =>
    have e : laidOk s r bars ws (.lst es) = false := by rw [laidOk_lst, hpl]; simp
    rw [e] at k
    simp
    exact ret_here k
  | some pl =>
    have e : laidOk s r bars ws (.lst es) = (pl.all (inR s r) && laidB bars ws pl) := by rw [laidOk_lst, hpl]; simp [hl]
    rw [e] at k
    simp only [lk_bl, truth_bl, oqs]
    by_cases hin : pl.all (inR s r) = true
    case neg =>
      rw [show pl.all (inR s r) = false from by simpa using hin] at k ⊢
      simp
      exact ret_here k
    rw [hin, Bool.true_and] at k
    rw [hin]
    simp
    refine hR _ _ ?_
    clear hR R
    have hes := plOf_enc hpl
    subst hes
    rw [List.length_map] at hl
    refine ss_step fun R hR => ?_
    refine for_it (e := fun p : Pl × Nat => D.tup [.int (p.2 : Nat), enc p.1]) (xs := pl.zipIdx) (G1 := G) (gd := still G (.lst (pl.map enc))) (I := fun rr σ G' => G' = G ∧ (∀ p ∈ rr, p.2 < pl.length ∧ plAt pl p.2 = p.1) ∧ laidB bars ws pl = rr.all (okAt bars ws pl) ∧ ∃ o5 o6 o7 o8 o9 o10 : Option D, σ = [some x, some (.int s), some (.int r), some (.lst (pl.map enc)), some z, o5, o6, o7, o8, o9, o10])
      (fun p hp => ?_) (fun rr σ G' hI => by rw [hI.1]; exact still_self) ⟨rfl, fun p hp => ?_, rfl, _, _, _, _, _, _, rfl⟩ (fun p rr σ G' kk hI hk => ?_) (fun σ G' hI => ?_)
    · simp
      refine ⟨by show pl.length ≤ 16777216; omega, ?_⟩
      have : ((pl.map (enc : Pl → D)).zipIdx.map fun p => D.tup [.int (p.2 : Nat), p.1]) = pl.zipIdx.map fun p => D.tup [.int (p.2 : Nat), enc p.1] := by rw [List.zipIdx_map, List.map_map]; rfl
      rw [this]
      exact hp
    · have h1 := List.snd_lt_of_mem_zipIdx hp
      refine ⟨by simpa using h1, ?_⟩
      have h2 := List.mk_mem_zipIdx_iff_getElem?.mp hp
      unfold plAt
      rw [List.getD_eq_getElem?_getD, h2]; rfl
    · obtain ⟨rfl, hpr, hall, o5, o6, o7, o8, o9, o10, rfl⟩ := hI
      obtain ⟨hp2, hpe2⟩ := hpr p (by simp)
      have hpw : p.2 < ws.length := by omega
      have pt : ∀ K : Sl → Store → Prop, K [some x, some (.int s), some (.int r), some (.lst (pl.map enc)), some z, o5, some (.int p.1.1), some (.int p.1.2), some (.int (p.2 : Nat)), o9, o10] G' → (sem Γ (.ptup [(.pname 8), (.ptup [(.pname 6), (.pname 7)])])).p (fun e x G' => False) (D.tup [.int (p.2 : Nat), enc p.1]) [some x, some (.int s), some (.int r), some (.lst (pl.map enc)), some z, o5, o6, o7, o8, o9, o10] G' K := fun K hK => by
        simp
        exact hK
      refine pt _ ?_
      rw [List.all_cons] at hall
      refine ss_step fun R2 hR2 => ?_
      simp
      rw [hx.at (wAt_get hpw)]
      simp
      refine compW_map (e := D.str) (fun a => D.bl (decide ((a, p.1.1) ∈ bars))) trivial (fun a _ k2 hk2 => ?_) ?_
      · simp [wipeD]
        rw [hz.in a p.1.1 G']
        simpa using hk2
      · rw [show ((wAt ws p.2).b.l.map fun a => D.bl (decide ((a, p.1.1) ∈ bars))) = ((wAt ws p.2).b.l.map fun a => decide ((a, p.1.1) ∈ bars)).map D.bl from by rw [List.map_map]; rfl]
        rw [bi_any_b, any_map]
        simp only [lk_bl, truth_bl, oqs]
        have enb : noBar bars (wAt ws p.2) p.1.1 = !((wAt ws p.2).b.l.any fun a => decide ((a, p.1.1) ∈ bars)) := rfl
        by_cases cb : ((wAt ws p.2).b.l.any fun a => decide ((a, p.1.1) ∈ bars)) = true
        · rw [if_pos cb]
          have : okAt bars ws pl p = false := by unfold okAt; rw [enb, cb]; rfl
          rw [hall, this] at k
          exact ret_here k
        · rw [if_neg cb]
          have enb' : noBar bars (wAt ws p.2) p.1.1 = true := by rw [enb]; simpa using cb
          have eok : okAt bars ws pl p = (List.range p.2).all fun o => !clash ws pl p.1 p.2 o := by unfold okAt; rw [enb', Bool.true_and]
          rw [eok] at hall
          refine hR2 _ _ ?_
          clear hR2 R2
          refine ss_step fun R2 hR2 => ?_
          refine for_it (e := fun i : Nat => D.int (i : Int)) (xs := List.range p.2) (G1 := G') (gd := fun _ => True) (I := fun r2 σ G2 => G2 = G' ∧ (∀ i ∈ r2, i < p.2) ∧ laidB bars ws pl = ((r2.all fun o => !clash ws pl p.1 p.2 o) && rr.all (okAt bars ws pl)) ∧ ∃ o10 : Option D, σ = [some x, some (.int s), some (.int r), some (.lst (pl.map enc)), some z, o5, some (.int p.1.1), some (.int p.1.2), some (.int (p.2 : Nat)), o9, o10])
            (fun p hp => ?_) (fun _ _ _ _ => trivial) ⟨rfl, fun i hi => List.mem_range.mp hi, hall, _, rfl⟩ (fun i r2 σ G2 k2 hI hk2 => ?_) (fun σ G2 hI => ?_)
          · simp
            refine ⟨by omega, ?_⟩
            simpa using hp
          · obtain ⟨rfl, hi, hall, o10, rfl⟩ := hI
            have hi0 := hi i (by simp)
            rw [List.all_cons] at hall
            show sSs Γ _ _ _ [some x, some (.int s), some (.int r), some (.lst (pl.map enc)), some z, o5, some (.int p.1.1), some (.int p.1.2), some (.int (p.2 : Nat)), o9, some (.int (i : Int))] G2
            have ga : atI (pl.map (enc : Pl → D)) (i : Int) = some (enc (plAt pl i)) := atI_nat (by rw [List.getElem?_map, plAt_get (by omega)]; rfl)
            have gb : atI (pl.map (enc : Pl → D)) (p.2 : Int) = some (enc p.1) := atI_nat (by rw [List.getElem?_map, plAt_get hp2, hpe2]; rfl)
            have ec : cmpD .eq (enc (plAt pl i)) (enc p.1) = some (.bl (decide (plAt pl i = p.1))) := eq_enc' (by simp)
            simp only [enc_pair, enc_int] at ga gb ec
            refine ss_step fun R3 hR3 => ?_
            simp
            rw [ga, gb]
            simp
            rw [ec]
            simp only [lk_bl, truth_bl, oqs]
            have fin : clash ws pl p.1 p.2 i = false → R3 [some x, some (.int s), some (.int r), some (.lst (pl.map enc)), some z, o5, some (.int p.1.1), some (.int p.1.2), some (.int (p.2 : Nat)), o9, some (.int (i : Int))] G2 := fun hc => by
              refine hR3 _ _ ?_
              simp only [ss_nil]
              rw [hc] at hall
              exact hk2 _ _ ⟨rfl, fun j hj => hi j (by simp [hj]), by simpa using hall, _, rfl⟩
            have bad : clash ws pl p.1 p.2 i = true → ∃ d' G'', ViewD (D.bl false) G2 d' G'' ∧ q d' G'' := fun hc => by
              rw [hc] at hall
              simp at hall
              rw [hall] at k
              exact ret_here k
            by_cases c1 : plAt pl i = p.1
            · simp [c1]
              exact bad (by unfold clash; simp [c1])
            · simp [c1]
              by_cases c2 : (plAt pl i).1 = p.1.1
              · simp [c2]
                rw [hx.at (wAt_get hpw), hx.at (wAt_get (show i < ws.length by omega))]
                simp [h3, pm]
                refine ⟨wAt ws p.2, wAt ws i, rfl, ?_⟩
                simp
                by_cases c3 : apart (wAt ws p.2) (wAt ws i) = true
                · rw [c3]
                  simp
                  exact fin (by unfold clash; simp [c1, c3])
                · rw [show apart (wAt ws p.2) (wAt ws i) = false from by simpa using c3]
                  simp
                  exact bad (by unfold clash; simp [c2, c3])
              · simp [c2]
                exact fin (by unfold clash; simp [c1, c2])
          · obtain ⟨rfl, hi, hall, o10, rfl⟩ := hI
            refine hR2 _ _ ?_
            simp only [ss_nil]
            exact hk _ _ ⟨rfl, fun p2 h2 => hpr p2 (by simp [h2]), by simpa using hall, _, _, _, _, _, _, rfl⟩
    · obtain ⟨rfl, _, hall, o5, o6, o7, o8, o9, o10, rfl⟩ := hI
      rw [hall] at k
      refine hR _ _ ?_
      simp
      exact ret_here k
end C
end
section
set_option Elab.async false
set_option linter.all false
set_option maxRecDepth 100000
set_option maxHeartbeats 1000000
/-! Layings: which lists of slots they are; with rooms they are layings (no program in sight). -/
namespace C
open T PySem L2
open T.Enc (enc)
def sAt (x : List Int) (i : Nat) : Int := x.getD i 0
section
variable {s : Nat} {r : Int} {bars : Bars} {ws : List Wk}
theorem drop_wAt {n : Nat} {w : Wk} {rest : List Wk} (h : ws.drop n = w :: rest) : n < ws.length ∧ wAt ws n = w ∧ ws.drop (n + 1) = rest := by
  have hn : n < ws.length := by
    rcases Nat.lt_or_ge n ws.length with h1 | h1
    · exact h1
    · rw [List.drop_of_length_le h1] at h; cases h
  have h2 := List.drop_eq_getElem_cons hn
  rw [h] at h2
  refine ⟨hn, ?_, ?_⟩
  · have := (List.cons.inj h2).1
    unfold wAt
    rw [List.getD_eq_getElem?_getD, List.getElem?_eq_getElem hn]
    exact this.symm
  · exact (List.cons.inj h2).2.symm
theorem getD_app (ch y : List Int) (j : Int) : sAt (ch ++ [j] ++ y) ch.length = j := by simp [sAt, List.getD_eq_getElem?_getD]
theorem mem_exts : ∀ {rest : List Wk} {ch x : List Int}, ws.drop ch.length = rest → (x ∈ exts s r bars ws rest ch ↔ ∃ y : List Int, x = ch ++ y ∧ y.length = rest.length ∧ ∀ i, ch.length ≤ i → i < x.length → (0 ≤ sAt x i ∧ sAt x i < s) ∧ freeF r bars ws (x.take i) (wAt ws i) (sAt x i) = true)
  | [], ch, x, hd => by
    rw [exts_nil, List.mem_singleton]
    constructor
    · rintro rfl
      exact ⟨[], by simp, rfl, fun i h1 h2 => by omega⟩
    · rintro ⟨y, rfl, hl, _⟩
      have : y = [] := List.length_eq_zero_iff.mp (by simpa using hl)
      rw [this, List.append_nil]
  | w :: rest, ch, x, hd => by
    obtain ⟨hn, hw, hd2⟩ := drop_wAt hd
    rw [exts_cons, List.mem_flatMap]
    constructor
    · rintro ⟨i, hi, hx⟩
      split at hx
      · rename_i hf
        have ih := (mem_exts (ch := ch ++ [(i : Int)]) (by rw [List.length_append]; exact hd2)).mp hx
        obtain ⟨y, rfl, hl, hb⟩ := ih
        refine ⟨(i : Int) :: y, by simp, by simp [hl], fun j h1 h2 => ?_⟩
        rcases Nat.lt_or_ge ch.length j with h3 | h3
        · exact hb j (by rw [List.length_append]; exact h3) h2
        · have e : j = ch.length := by omega
          subst e
          rw [getD_app, hw]
          refine ⟨⟨by omega, by have := List.mem_range.mp hi; omega⟩, ?_⟩
          rw [show (ch ++ [(i : Int)] ++ y).take ch.length = ch by simp]
          exact hf
      · cases hx
    · rintro ⟨y, rfl, hl, hb⟩
      cases y with
      | nil => cases hl
      | cons a y =>
        have h0 := hb ch.length (Nat.le_refl _) (by simp)
        rw [show ch ++ a :: y = ch ++ [a] ++ y by simp] at h0 hb ⊢
        rw [getD_app, hw, show (ch ++ [a] ++ y).take ch.length = ch by simp] at h0
        obtain ⟨⟨h1, h2⟩, h3⟩ := h0
        obtain ⟨n, rfl⟩ := Int.eq_ofNat_of_zero_le h1
        refine ⟨n, List.mem_range.mpr (by omega), ?_⟩
        rw [if_pos h3]
        refine (mem_exts (ch := ch ++ [((n : Nat) : Int)]) (by rw [List.length_append]; exact hd2)).mpr ⟨y, rfl, by simpa using hl, fun i h1 h2 => hb i (by rw [List.length_append] at h1; omega) h2⟩
theorem mem_lays {x : List Int} : x ∈ lays s r bars ws ↔ x.length = ws.length ∧ ∀ i, i < ws.length → (0 ≤ sAt x i ∧ sAt x i < s) ∧ freeF r bars ws (x.take i) (wAt ws i) (sAt x i) = true := by
  have h := mem_exts (s := s) (r := r) (bars := bars) (ws := ws) (rest := ws) (ch := []) (x := x) rfl
  rw [show lays s r bars ws = exts s r bars ws ws [] from rfl, h]
  constructor
  · rintro ⟨y, rfl, hl, hb⟩
    refine ⟨by simpa using hl, fun i hi => hb i (Nat.zero_le _) (by omega)⟩
  · rintro ⟨hl, hb⟩
    exact ⟨x, rfl, hl, fun i _ hi => hb i (by omega)⟩
/-- who stands in a slot ahead of a place -/
theorem inSlot_mem {x : List Int} {i o : Nat} (hx : x.length = ws.length) (hi : i < ws.length) (ho : o < i) : wAt ws o ∈ inSlot ws (x.take i) (sAt x o) := by
  unfold inSlot
  refine List.mem_map.mpr ⟨(wAt ws o, sAt x o), List.mem_filter.mpr ⟨?_, by simp⟩, rfl⟩
  refine List.mem_iff_getElem?.mpr ⟨o, ?_⟩
  rw [List.getElem?_zip_eq_some]
  refine ⟨wAt_get (by omega), ?_⟩
  rw [List.getElem?_take, if_pos ho, List.getElem?_eq_getElem (by omega)]
  simp [sAt, List.getD_eq_getElem?_getD, List.getElem?_eq_getElem (show o < x.length by omega)]
theorem inSlot_len : ∀ (ws : List Wk) (ch : List Int) (sl : Int), ch.length ≤ ws.length → (inSlot ws ch sl).length = ch.count sl
  | ws, [], sl, _ => by simp [inSlot]
  | [], _ :: _, _, h => by simp at h
  | w :: ws, c :: ch, sl, h => by
    have ih := inSlot_len ws ch sl (by simpa using h)
    unfold inSlot at ih ⊢
    rw [List.length_map] at ih ⊢
    rw [List.zip_cons_cons, List.filter_cons, List.count_cons]
    by_cases e : c = sl
    · simpa [e] using ih
    · simpa [e] using ih
theorem withR_len (x : List Int) : (withR x).length = x.length := by unfold withR; simp
theorem withR_at {x : List Int} {i : Nat} (h : i < x.length) : plAt (withR x) i = (sAt x i, (((x.take i).count (sAt x i) : Nat) : Int)) := by
  unfold plAt withR
  rw [List.getD_eq_getElem?_getD, List.getElem?_map, List.getElem?_zipIdx, List.getElem?_eq_getElem h]
  simp [sAt, List.getD_eq_getElem?_getD, List.getElem?_eq_getElem h]
theorem count_lt {x : List Int} {o i : Nat} (ho : o < i) (hi : i ≤ x.length) : (x.take o).count (sAt x o) < (x.take i).count (sAt x o) := by
  have e : x.take (o + 1) = x.take o ++ [sAt x o] := by
    rw [List.take_add_one, List.getElem?_eq_getElem (show o < x.length by omega)]
    simp [sAt, List.getD_eq_getElem?_getD, List.getElem?_eq_getElem (show o < x.length by omega)]
  have h1 : (x.take (o + 1)).count (sAt x o) = (x.take o).count (sAt x o) + 1 := by rw [e, List.count_append]; simp
  have h2 : (x.take (o + 1)).count (sAt x o) ≤ (x.take i).count (sAt x o) := (List.take_sublist_take_left (by omega)).count_le _
  omega
theorem free_parts {ch : List Int} {w : Wk} {sl : Int} (h : freeF r bars ws ch w sl = true) : ((inSlot ws ch sl).length : Int) < r ∧ noBar bars w sl = true ∧ ∀ o ∈ inSlot ws ch sl, apart w o = true := by
  unfold freeF at h
  simp only [Bool.and_eq_true, decide_eq_true_eq, List.all_eq_true] at h
  exact ⟨h.1.1, h.1.2, h.2⟩
theorem told_ok {x : List Int} (h : x ∈ lays s r bars ws) : laidOk (s : Int) r bars ws (.lst ((withR x).map enc)) = true := by
  obtain ⟨hl, hb⟩ := mem_lays.mp h
  rw [laidOk_lst, List.length_map, withR_len, hl, plOf_map]
  simp only [decide_true, Bool.true_and, Bool.and_eq_true, List.all_eq_true]
  constructor
  · intro p hp
    obtain ⟨i, hi⟩ := List.mem_iff_getElem?.mp hp
    have hi2 : i < x.length := by rw [← withR_len]; exact (List.getElem?_eq_some_iff.mp hi).1
    have e : p = plAt (withR x) i := by
      unfold plAt; rw [List.getD_eq_getElem?_getD, hi]; rfl
    subst e
    rw [withR_at hi2]
    obtain ⟨⟨h1, h2⟩, h3⟩ := hb i (by omega)
    have h4 := (free_parts h3).1
    rw [inSlot_len _ _ _ (by rw [List.length_take]; omega)] at h4
    unfold inR
    simp only [Bool.and_eq_true, decide_eq_true_eq]
    exact ⟨⟨h1, by omega⟩, by omega, by omega⟩
  · unfold laidB
    rw [List.all_eq_true]
    intro p hp
    have hp1 : p.2 < x.length := by have := List.snd_lt_of_mem_zipIdx hp; rw [withR_len] at this; simpa using this
    have hp2 : p.1 = plAt (withR x) p.2 := by
      have h2 := List.mk_mem_zipIdx_iff_getElem?.mp hp
      unfold plAt; rw [List.getD_eq_getElem?_getD, h2]; rfl
    obtain ⟨_, h3⟩ := hb p.2 (by omega)
    obtain ⟨_, h5, h6⟩ := free_parts h3
    unfold okAt
    rw [hp2, withR_at hp1]
    simp only [Bool.and_eq_true, List.all_eq_true]
    refine ⟨h5, fun o ho => ?_⟩
    have ho' := List.mem_range.mp ho
    unfold clash
    rw [withR_at (show o < x.length by omega)]
    by_cases e : sAt x o = sAt x p.2
    · have hc := count_lt (x := x) ho' (by omega)
      have hm := inSlot_mem (ws := ws) hl (show p.2 < ws.length by omega) ho'
      rw [e] at hm hc
      have ha := h6 _ hm
      simp [ha, e]
      omega
    · simp [e]
end
end C
end
section
set_option Elab.async false
set_option linter.all false
set_option maxRecDepth 100000
set_option maxHeartbeats 4000000
/-! k32: the law's own look at a laying. -/
namespace C
open T PySem L2
open T.Enc (enc)
variable {Γ : T.Ctx}
def pLawInt : Pm := fun ds G q => ∃ d lo hi, ds = [d, .int lo, .int hi] ∧ d.pure = true ∧ q (.bl (inD' lo hi d)) G
theorem ok_lawInt {ds : List D} {G : Store} {q : DK} (h : pLawInt ds G q) : run Γ 3 ir__law_is_int (fun _ _ => False) ds G q := by
  obtain ⟨d, lo, hi, rfl, hp, k⟩ := h
  simp only [ir__law_is_int]
  cases d <;> first | (cases hp; done) | skip
  case int i =>
    simp [wBi, biD]
    by_cases c : lo ≤ i
    · have e : inD' lo hi (.int i) = decide (i ≤ hi) := by simp [inD', c]
      rw [e] at k
      simp [c]
      exact ret_here k
    · have e : inD' lo hi (.int i) = false := by simp [inD', c]
      rw [e] at k
      simp [c]
      exact ret_here k
  all_goals (simp [wBi, biD]; exact ret_here k)
def pSays : Pm := fun ds G q => ∃ a b, ds = [.bl a, .bl b] ∧ q (.bl (decide (a = b))) G
theorem ok_says {ds : List D} {G : Store} {q : DK} (h : pSays ds G q) : run Γ 2 ir__law_says (fun _ _ => False) ds G q := by
  obtain ⟨a, b, rfl, k⟩ := h
  simp only [ir__law_says]
  simp [wBi, biD]
  exact ret_here k
/-- what is asked of those that are left -/
def tailOk (s r : Int) (bars : Bars) (ws : List Wk) (dn : List Pl) (rr : List D) : Bool := match plOf rr with
  | some pl => pl.all (inR s r) && (pl.zipIdx dn.length).all (okAt bars ws (dn ++ pl))
  | none => false
section
variable {s r : Int} {bars : Bars} {ws : List Wk}
theorem tail_start {es : List D} (h : es.length = ws.length) : laidOk s r bars ws (.lst es) = tailOk s r bars ws [] es := by
  rw [laidOk_lst]
  unfold tailOk laidB
  cases plOf es with
  | none => simp
  | some pl => simp [h]
theorem tail_bad {dn : List Pl} {d : D} {rr : List D} (h : test2 s r d = false) : tailOk s r bars ws dn (d :: rr) = false := by
  have e := test2_all s r (d :: rr)
  rw [List.all_cons, h, Bool.false_and] at e
  unfold tailOk
  cases hp : plOf (d :: rr) with
  | none => rfl
  | some pl =>
    rw [hp] at e
    simp only at e ⊢
    rw [← e]; rfl
theorem test2_of {d : D} (h : test2 s r d = true) : ∃ p : Pl, d = enc p ∧ inR s r p = true := by
  match d, h with
  | .tup [.int a, .int b], h => exact ⟨(a, b), rfl, h⟩
  | .tup [.int a, .non], h | .tup [.int a, .bl _], h | .tup [.int a, .str _], h | .tup [.int a, .tup _], h | .tup [.int a, .lst _], h | .tup [.int a, .dK _], h | .tup [.int a, .dT _], h | .tup [.int a, .ref _], h | .tup [.int a, .scr _], h | .tup [.int a, .ktup _], h => simp [test2, inD'] at h
  | .tup [.non, b], h | .tup [.bl _, b], h | .tup [.str _, b], h | .tup [.tup _, b], h | .tup [.lst _, b], h | .tup [.dK _, b], h | .tup [.dT _, b], h | .tup [.ref _, b], h | .tup [.scr _, b], h | .tup [.ktup _, b], h => simp [test2, inD'] at h
theorem plAt_pre {dn pl : List Pl} {o : Nat} (h : o < dn.length) : plAt (dn ++ pl) o = plAt dn o := by
  unfold plAt
  rw [List.getD_eq_getElem?_getD, List.getD_eq_getElem?_getD, List.getElem?_append_left h]
theorem all_eq' {α : Type} {l : List α} {f g : α → Bool} (h : ∀ x ∈ l, f x = g x) : l.all f = l.all g := by
  rw [Bool.eq_iff_iff, List.all_eq_true, List.all_eq_true]
  exact ⟨fun k x hx => (h x hx) ▸ k x hx, fun k x hx => (h x hx).symm ▸ k x hx⟩
theorem okAt_pre {dn pl : List Pl} {p : Pl} : okAt bars ws (dn ++ pl) (p, dn.length) = okAt bars ws dn (p, dn.length) := by
  unfold okAt
  congr 1
  refine all_eq' fun o ho => ?_
  have ho' : o < dn.length := List.mem_range.mp ho
  unfold clash
  rw [plAt_pre ho']
theorem tail_cons {dn : List Pl} {p : Pl} {rr : List D} (h : inR s r p = true) : tailOk s r bars ws dn (enc p :: rr) = (okAt bars ws dn (p, dn.length) && tailOk s r bars ws (dn ++ [p]) rr) := by
  unfold tailOk
  have e : plOf ((enc p : D) :: rr) = (plOf rr).map (p :: ·) := rfl
  rw [e]
  cases plOf rr with
  | none => simp
  | some pl =>
    simp only [Option.map_some, List.all_cons, h, Bool.true_and, List.zipIdx_cons, List.append_assoc, List.singleton_append, List.length_append, List.length_singleton]
    rw [okAt_pre]
    cases okAt bars ws dn (p, dn.length) <;> simp
end
def pLawLaid : Pm := fun ds G q => ∃ (ws : List Wk) (s r : Int) (d : D) (bars : Bars), ds = [.tup (ws.map enc), .int s, .int r, d, .tup (bars.map enc)] ∧ ws.length ≤ 8 ∧ d.pure = true ∧ q (.bl (laidOk s r bars ws d)) G
theorem ok_lawLaid (h1 : Γ.fn "_law_is_int" [] = some (pm pLawInt)) (h2 : Γ.fn "_law_apart" [] = some (pm pLApart)) {ds : List D} {G : Store} {q : DK} (h : pLawLaid ds G q) : run Γ 9 ir__law_is_laid (fun _ _ => False) ds G q := by
  obtain ⟨ws, s, r, d, bars, rfl, h8, hp, k⟩ := h
  have hX : IsWs (.tup (ws.map enc)) ws := .inl rfl
  have hz : IsBars (.tup (bars.map enc)) bars := .inl rfl
  rw [run_eq]
  show sSs Γ ir__law_is_laid _ _ (some (.tup (ws.map enc)) :: some (.int s) :: some (.int r) :: some d :: some (.tup (bars.map enc)) :: List.replicate 4 none) G
  unfold ir__law_is_laid
  refine ss_step fun R hR => ?_
  by_cases hlst : ∃ es, d = .lst es
  case neg =>
    have e : laidOk s r bars ws d = false := by
      cases d <;> first | rfl | exact absurd ⟨_, rfl⟩ hlst
    rw [e] at k
    cases d <;> first | (cases hp; done) | (exact absurd ⟨_, rfl⟩ hlst) | skip
    all_goals (simp [wBi, biD]; exact ret_here k)
  obtain ⟨es, rfl⟩ := hlst
  have hpe : D.pureL es = true := hp
  by_cases hl : es.length = ws.length
  case neg =>
    have e : laidOk s r bars ws (.lst es) = false := by simp [laidOk, hl]
    rw [e] at k
    have hl' : ¬ ((es.length : Int) = (ws.length : Int)) := by omega
    simp [hl']
    exact ret_here k
  simp [hl]
  refine hR _ _ ?_
  clear hR R
  rw [tail_start hl] at k
  refine ss_step fun R hR => ?_
  refine for_it (e := fun p : D × Nat => D.tup [.int (p.2 : Nat), p.1]) (xs := es.zipIdx) (G1 := G) (gd := still G (.lst es)) (I := fun rr σ G' => G' = G ∧ ∃ (dn : List Pl) (o5 o6 o7 o8 : Option D), dn.map enc ++ rr.map (·.1) = es ∧ rr = (rr.map (·.1)).zipIdx dn.length ∧ tailOk s r bars ws [] es = tailOk s r bars ws dn (rr.map (·.1)) ∧ σ = [some (.tup (ws.map enc)), some (.int s), some (.int r), some (.lst es), some (.tup (bars.map enc)), o5, o6, o7, o8])
    (fun p hp => ?_) (fun rr σ G' hI => by rw [hI.1]; exact still_self) ⟨rfl, [], _, _, _, _, by rw [List.zipIdx_map_fst]; rfl, by rw [List.zipIdx_map_fst]; rfl, by rw [List.zipIdx_map_fst], rfl⟩ (fun p rr σ G' kk hI hk => ?_) (fun σ G' hI => ?_)
  · simp
    refine ⟨by show es.length ≤ 16777216; omega, ?_⟩
    exact hp
  · obtain ⟨rfl, dn, o5, o6, o7, o8, hes, hrr, htl, rfl⟩ := hI
    obtain ⟨d, i⟩ := p
    simp only [List.map_cons] at hes hrr htl
    rw [List.zipIdx_cons] at hrr
    obtain ⟨hi0, hrr⟩ := List.cons.inj hrr
    have hi : i = dn.length := congrArg Prod.snd hi0
    subst hi
    have hle : dn.length < es.length := by rw [← hes]; simp
    have hiw : dn.length < ws.length := by omega
    have hdp : d.pure = true := pure_mem hpe d (by rw [← hes]; simp)
    have bad : test2 s r d = false → ∃ d' G'', ViewD (D.bl false) G' d' G'' ∧ q d' G'' := fun hc => by
      rw [htl, tail_bad hc] at k
      exact ret_here k
    have pt : ∀ K : Sl → Store → Prop, K [some (.tup (ws.map enc)), some (.int s), some (.int r), some (.lst es), some (.tup (bars.map enc)), some (.int (dn.length : Nat)), some d, o7, o8] G' → (sem Γ (.ptup [(.pname 5), (.pname 6)])).p (fun e x G' => False) (D.tup [.int (dn.length : Nat), d]) [some (.tup (ws.map enc)), some (.int s), some (.int r), some (.lst es), some (.tup (bars.map enc)), o5, o6, o7, o8] G' K := fun K hK => by
      simp
      exact hK
    refine pt _ ?_
    refine ss_step fun R2 hR2 => ?_
    by_cases ht2 : ∃ a b, d = .tup [a, b]
    case neg =>
      have hc : test2 s r d = false := by
        match d with
        | .tup [a, b] => exact absurd ⟨a, b, rfl⟩ ht2
        | .tup [] | .tup [_] | .tup (_ :: _ :: _ :: _) => rfl
        | .non | .bl _ | .int _ | .str _ | .lst _ | .dK _ | .dT _ | .ref _ | .scr _ | .ktup _ => rfl
      have bad2 := bad hc
      clear bad
      cases d <;> first | (cases hdp; done) | skip
      case tup l =>
        have hl2 : ¬ ((l.length : Int) = 2) := fun e => by
          have e : l.length = 2 := by omega
          match l, e with
          | [a, b], _ => exact ht2 ⟨a, b, rfl⟩
        simp [wBi, biD, hl2]
        exact bad2
      all_goals (simp [wBi, biD]; exact bad2)
    obtain ⟨a, b, rfl⟩ := ht2
    have hpa : a.pure = true ∧ b.pure = true := by simpa [D.pure, D.pureL] using hdp
    simp [wBi, biD]
    refine hR2 _ _ ?_
    clear hR2 R2
    refine ss_step fun R2 hR2 => ?_
    simp [h1, pm]
    refine ⟨a, 0, s - 1, rfl, hpa.1, ?_⟩
    simp
    by_cases ca : inD' 0 (s - 1) a = true
    case neg =>
      have ca' : inD' 0 (s - 1) a = false := by simpa using ca
      rw [ca']
      simp
      exact bad (by simp [test2, ca'])
    rw [ca]
    simp
    refine ⟨b, 0, r - 1, rfl, hpa.2, ?_⟩
    simp
    by_cases cb : inD' 0 (r - 1) b = true
    case neg =>
      have cb' : inD' 0 (r - 1) b = false := by simpa using cb
      rw [cb']
      simp
      exact bad (by simp [test2, cb'])
    rw [cb]
    simp
    refine hR2 _ _ ?_
    clear hR2 R2
    obtain ⟨p, hpe2, hpr⟩ := test2_of (s := s) (r := r) (d := .tup [a, b]) (by simp [test2, ca, cb])
    rw [hpe2] at htl hes
    have hpe3 : a = .int p.1 ∧ b = .int p.2 := by
      injection hpe2 with h
      injection h with h1 h2
      injection h2 with h2
      exact ⟨h1, h2⟩
    obtain ⟨rfl, rfl⟩ := hpe3
    clear bad ca cb hpa hdp
    rw [tail_cons hpr] at htl
    refine ss_step fun R2 hR2 => ?_
    have gw : ∀ i < ws.length, atI (ws.map (enc : Wk → D)) ((i : Nat) : Int) = some (enc (wAt ws i)) := fun i hi => atI_nat (by rw [List.getElem?_map, wAt_get hi]; rfl)
    simp
    rw [gw _ hiw]
    simp
    refine compW_filter (e := D.str) (fun a => decide ((a, p.1) ∈ bars)) D.str trivial (fun a _ k2 hk2 => ?_) ?_
    · simp [wipeD]
      have e := in_tup' (x := (a, p.1)) (l := bars) (b := decide ((a, p.1) ∈ bars)) (by simp)
      simp only [enc_pair, enc_str, enc_int] at e
      rw [e]
      simp only [decide_eq_true_eq] at hk2
      by_cases c : (a, p.1) ∈ bars
      · simpa [c] using hk2
      · simpa [c] using hk2
    · have enb : noBar bars (wAt ws dn.length) p.1 = decide ((wAt ws dn.length).b.l.filter (fun a => decide ((a, p.1) ∈ bars)) = []) := by
        unfold noBar
        rw [Bool.eq_iff_iff, decide_eq_true_iff, List.filter_eq_nil_iff]
        simp
      have eok : okAt bars ws dn (p, dn.length) = (noBar bars (wAt ws dn.length) p.1 && (List.range dn.length).all fun o => !clash ws dn p dn.length o) := rfl
      by_cases cn : (wAt ws dn.length).b.l.filter (fun a => decide ((a, p.1) ∈ bars)) = []
      case neg =>
        rw [htl, eok, enb] at k
        simp [cn] at k ⊢
        exact ret_here k
      rw [enb] at eok
      simp only [cn, decide_true, Bool.true_and] at eok
      rw [eok] at htl
      rw [cn]
      simp
      refine hR2 _ _ ?_
      clear hR2 R2
      refine ss_step fun R2 hR2 => ?_
      refine for_it (e := fun i : Nat => D.int (i : Int)) (xs := List.range dn.length) (G1 := G') (gd := fun _ => True) (I := fun r2 σ G2 => G2 = G' ∧ (∀ i ∈ r2, i < dn.length) ∧ tailOk s r bars ws [] es = ((r2.all fun o => !clash ws dn p dn.length o) && tailOk s r bars ws (dn ++ [p]) (rr.map (·.1))) ∧ ∃ o8 : Option D, σ = [some (.tup (ws.map enc)), some (.int s), some (.int r), some (.lst es), some (.tup (bars.map enc)), some (.int (dn.length : Nat)), some (enc p), o7, o8])
        (fun p hp => ?_) (fun _ _ _ _ => trivial) ⟨rfl, fun i hi => List.mem_range.mp hi, htl, _, rfl⟩ (fun i r2 σ G2 k2 hI hk2 => ?_) (fun σ G2 hI => ?_)
      · simp
        exact ⟨by omega, by simpa using hp⟩
      · obtain ⟨rfl, hi, hall, o8, rfl⟩ := hI
        have hi0 := hi i (by simp)
        rw [List.all_cons] at hall
        show sSs Γ _ _ _ [some (.tup (ws.map enc)), some (.int s), some (.int r), some (.lst es), some (.tup (bars.map enc)), some (.int (dn.length : Nat)), some (enc p), o7, some (.int (i : Int))] G2
        have ga : atI es (i : Int) = some (enc (plAt dn i)) := atI_nat (by rw [← hes, List.getElem?_append_left (by simpa using hi0), List.getElem?_map, plAt_get hi0]; rfl)
        have ec : cmpD .eq (enc (plAt dn i)) (enc p) = some (.bl (decide (plAt dn i = p))) := eq_enc' (by simp)
        simp only [enc_pair, enc_int] at ga ec
        have bad : clash ws dn p dn.length i = true → ∃ d' G'', ViewD (D.bl false) G2 d' G'' ∧ q d' G'' := fun hc => by
          rw [hc] at hall
          simp at hall
          rw [hall] at k
          exact ret_here k
        refine ss_step fun R3 hR3 => ?_
        simp
        rw [ga]
        simp
        rw [ec]
        simp only [lk_bl, truth_bl, oqs]
        by_cases c1 : plAt dn i = p
        · simp [c1]
          exact bad (by unfold clash; simp [c1])
        simp [c1]
        refine hR3 _ _ ?_
        clear hR3 R3
        refine ss_step fun R3 hR3 => ?_
        have fin : clash ws dn p dn.length i = false → R3 [some (.tup (ws.map enc)), some (.int s), some (.int r), some (.lst es), some (.tup (bars.map enc)), some (.int (dn.length : Nat)), some (D.tup [.int p.1, .int p.2]), o7, some (.int (i : Int))] G2 := fun hc => by
          refine hR3 _ _ ?_
          simp only [ss_nil]
          rw [hc] at hall
          exact hk2 _ _ ⟨rfl, fun j hj => hi j (by simp [hj]), by simpa using hall, _, rfl⟩
        simp
        rw [ga]
        simp
        by_cases c2 : (plAt dn i).1 = p.1
        · simp [c2]
          rw [gw _ (show i < ws.length by omega), gw _ hiw]
          simp [h2, pm]
          refine ⟨wAt ws i, wAt ws dn.length, rfl, ?_⟩
          rw [apart_symm]
          simp
          by_cases c3 : apart (wAt ws dn.length) (wAt ws i) = true
          · rw [c3]
            simp
            exact fin (by unfold clash; simp [c1, c3])
          · rw [show apart (wAt ws dn.length) (wAt ws i) = false from by simpa using c3]
            simp
            exact bad (by unfold clash; simp [c2, c3])
        · simp [c2]
          exact fin (by unfold clash; simp [c1, c2])
      · obtain ⟨rfl, hi, hall, o8, rfl⟩ := hI
        refine hR2 _ _ ?_
        simp only [ss_nil]
        exact hk _ _ ⟨rfl, dn ++ [p], _, _, _, _, by rw [← hes]; simp, by simpa using hrr, by simpa using hall, rfl⟩
  · obtain ⟨rfl, dn, o5, o6, o7, o8, hes, hrr, htl, rfl⟩ := hI
    refine hR _ _ ?_
    rw [htl] at k
    simp
    exact ret_here k
end C
end
section
set_option Elab.async false
set_option linter.all false
set_option maxRecDepth 100000
set_option maxHeartbeats 4000000
/-! things that are drawn. -/
namespace C
open T PySem L2
open T.Enc (enc)
variable {Γ : T.Ctx}
/- pure data of few items and short texts -/
mutual
def smD (n : Nat) : D → Bool
  | .non | .bl _ | .int _ => true
  | .str s => decide (s.length ≤ n)
  | .tup ds => decide (ds.length ≤ n) && smL n ds
  | .lst ds => decide (ds.length ≤ n) && smL n ds
  | _ => false
def smL (n : Nat) : List D → Bool
  | [] => true
  | d :: ds => smD n d && smL n ds
end
theorem smL_iff {n : Nat} : ∀ {ds : List D}, smL n ds = true ↔ ∀ d ∈ ds, smD n d = true
  | [] => by simp [smL]
  | d :: ds => by rw [smL, Bool.and_eq_true, smL_iff]; simp
theorem sm_tup {n : Nat} {ds : List D} : smD n (.tup ds) = true ↔ ds.length ≤ n ∧ ∀ d ∈ ds, smD n d = true := by rw [smD, Bool.and_eq_true, smL_iff, decide_eq_true_iff]
theorem sm_lst {n : Nat} {ds : List D} : smD n (.lst ds) = true ↔ ds.length ≤ n ∧ ∀ d ∈ ds, smD n d = true := by rw [smD, Bool.and_eq_true, smL_iff, decide_eq_true_iff]
mutual
theorem sm_pure {n : Nat} : ∀ {d : D}, smD n d = true → d.pure = true
  | .non, _ | .bl _, _ | .int _, _ | .str _, _ => rfl
  | .tup ds, h => by
    rw [smD, Bool.and_eq_true] at h
    exact smL_pure h.2
  | .lst ds, h => by
    rw [smD, Bool.and_eq_true] at h
    exact smL_pure h.2
  | .dK _, h | .dT _, h | .ref _, h | .scr _, h | .ktup _, h => by cases h
theorem smL_pure {n : Nat} : ∀ {ds : List D}, smL n ds = true → D.pureL ds = true
  | [], _ => rfl
  | d :: ds, h => by
    rw [smL, Bool.and_eq_true] at h
    rw [D.pureL, Bool.and_eq_true]
    exact ⟨sm_pure h.1, smL_pure h.2⟩
end
mutual
theorem sm_mono {n m : Nat} (hm : n ≤ m) : ∀ {d : D}, smD n d = true → smD m d = true
  | .non, _ | .bl _, _ | .int _, _ => rfl
  | .str s, h => decide_eq_true (Nat.le_trans (of_decide_eq_true h) hm)
  | .tup ds, h => by
    rw [smD, Bool.and_eq_true] at h ⊢
    exact ⟨decide_eq_true (Nat.le_trans (of_decide_eq_true h.1) hm), smL_mono hm h.2⟩
  | .lst ds, h => by
    rw [smD, Bool.and_eq_true] at h ⊢
    exact ⟨decide_eq_true (Nat.le_trans (of_decide_eq_true h.1) hm), smL_mono hm h.2⟩
  | .dK _, h | .dT _, h | .ref _, h | .scr _, h | .ktup _, h => by cases h
theorem smL_mono {n m : Nat} (hm : n ≤ m) : ∀ {ds : List D}, smL n ds = true → smL m ds = true
  | [], _ => rfl
  | d :: ds, h => by
    rw [smL, Bool.and_eq_true] at h ⊢
    exact ⟨sm_mono hm h.1, smL_mono hm h.2⟩
end
theorem atI_in {l : List D} {r : Int} (h0 : 0 ≤ r) (h1 : r < l.length) : ∃ d ∈ l, atI l r = some d := by
  obtain ⟨k, rfl⟩ := Int.eq_ofNat_of_zero_le h0
  have hk : k < l.length := by omega
  exact ⟨l[k], List.getElem_mem hk, atI_nat (List.getElem?_eq_getElem hk)⟩
def someL : List D := [.int 0, .int (-1), .int 1, .bl true, .bl false, .non, .str "", .str "a", .str "ab", .str "A", .str "a b", .str "abcdefghi", .int 2, .int 3, .int (-7), .str "take", .int (10 ^ 11), .int 8]
def someM : List D := [.tup [], .lst [], .tup [.int 0, .int 1]]
theorem some_small : smL 100 (someL ++ someM) = true := by decide
def pThing (m : Nat) : Pm := fun ds G q => ∃ p a b c k, ds = [.ref p, .int k] ∧ G p = some (wellO a b c) ∧ WellOk b c ∧ 0 ≤ k ∧ k < m ∧ ∀ d a' b', smD 100 d = true → WellOk b' c → q d (put G p (wellO a' b' c))
theorem z_thing : ∀ ds G q, ¬ pThing 0 ds G q := fun ds G q h => by
  obtain ⟨p, a, b, c, k, _, _, _, h0, h1, _⟩ := h
  omega
theorem ok_thing {m : Nat} (ht : Γ.fn "_law_take" [] = some (pm pTake)) (hs : Γ.fn "_law_thing" [] = some (pm (pThing m))) {ds : List D} {G : Store} {q : DK} (h : pThing (m + 1) ds G q) : run Γ 6 ir__law_thing (fun _ _ => False) ds G q := by
  obtain ⟨p, a, b, c, k, rfl, hG, hw, h0, hm, kq⟩ := h
  rw [run_eq]
  show sSs Γ ir__law_thing _ _ (some (.ref p) :: some (.int k) :: List.replicate 4 none) G
  unfold ir__law_thing
  refine ss_step fun R hR => ?_
  simp [ht, pm]
  refine ⟨p, a, b, c, 9, rfl, hG, hw, by omega, by omega, fun t a1 b1 t0 t9 hw1 => ?_⟩
  refine hR _ _ ?_
  clear hR R
  refine ss_step fun R hR => ?_
  by_cases hc : t < 6 ∨ k = 0
  · refine ite_T (G1 := put G p (wellO a1 b1 c)) (fun r hr => ?_) ?_
    · simp
      by_cases c1 : t < 6
      · simpa [c1] using hr
      · have c2 : k = 0 := by omega
        simpa [c1, c2] using hr
    · refine ss_step fun R2 hR2 => ?_
      simp
      rw [show binD .pow (.int 10) (.int 11) = some (.int (10 ^ 11)) from rfl]
      simp only [oqs]
      refine hR2 _ _ ?_
      clear hR2 R2
      refine ss_step fun R2 hR2 => ?_
      simp
      rw [add_ll (by simp)]
      simp [ht, pm]
      refine ⟨p, a1, b1, c, 21, rfl, put_same, hw1, by omega, by omega, fun u a2 b2 u0 u1 hw2 => ?_⟩
      rw [put_put]
      obtain ⟨d, hd, he⟩ := atI_in (l := someL ++ someM) u0 (by simpa [someL, someM] using u1)
      have e : idxD (.lst (someL ++ someM)) (.int u) = some d := he
      show oq (idxD (.lst (someL ++ someM)) (.int u)) _
      rw [e, oqs]
      exact ret_here (kq d a2 b2 (smL_iff.mp some_small d hd) hw2)
  · refine ite_F (G1 := put G p (wellO a1 b1 c)) (fun r hr => ?_) ?_
    · have c1 : ¬ t < 6 := by omega
      have c2 : ¬ k = 0 := by omega
      simpa [c1, c2] using hr
    · simp only [ss_nil]
      refine hR _ _ ?_
      clear hR R
      refine ss_step fun R hR => ?_
      simp [ht, pm]
      refine ⟨p, a1, b1, c, 6, rfl, put_same, hw1, by omega, by omega, fun u a2 b2 u0 u1 hw2 => ?_⟩
      rw [put_put]
      simp
      refine ⟨by omega, by omega, ?_⟩
      refine compW_st (e := fun i : Nat => D.int (i : Int)) (fun rest acc G' => ∃ (a' b' : Int), acc.length + rest.length ≤ 5 ∧ (∀ d ∈ acc, smD 100 d = true) ∧ WellOk b' c ∧ G' = put G p (wellO a' b' c))
        (fun _ _ _ _ => trivial) (fun x rr acc G' k' hI hk => ?_) (fun acc G' hI => ?_) (List.range u.toNat) _ _ ⟨a2, b2, by simp; omega, by simp, hw2, rfl⟩
      · obtain ⟨a', b', hl, hacc, hw', rfl⟩ := hI
        simp [wipeD, hs, pm]
        refine ⟨p, a', b', c, k - 1, rfl, put_same, hw', by omega, by omega, fun d a3 b3 hd hw3 => ?_⟩
        rw [put_put]
        refine hk _ _ ⟨a3, b3, by simp at hl ⊢; omega, fun y hy => ?_, hw3, rfl⟩
        rcases List.mem_append.mp hy with e | e
        · exact hacc y e
        · have : y = d := by simpa using e
          subst this; exact hd
      · obtain ⟨a', b', hl, hacc, hw', rfl⟩ := hI
        refine hR _ _ ?_
        clear hR R
        refine ss_step fun R hR => ?_
        have hl5 : acc.length ≤ 100 := by simp at hl; omega
        have st : smD 100 (.tup acc) = true := sm_tup.mpr ⟨hl5, hacc⟩
        have sl : smD 100 (.lst acc) = true := sm_lst.mpr ⟨hl5, hacc⟩
        have : t = 6 ∨ t = 7 ∨ t = 8 := by omega
        simp
        rcases this with rfl | rfl | rfl
        · show oq (some (D.lst acc)) _
          rw [oqs]
          exact ret_here (kq _ a' b' sl hw')
        · show oq (some (D.tup acc)) _
          rw [oqs]
          exact ret_here (kq _ a' b' st hw')
        · show oq (some (D.tup acc)) _
          rw [oqs]
          exact ret_here (kq _ a' b' st hw')
end C
end
section
set_option Elab.async false
set_option linter.all false
set_option maxRecDepth 100000
set_option maxHeartbeats 4000000
/-! a tuple with one thing otherwise. -/
namespace C
open T PySem L2
open T.Enc (enc)
def so_0 : S := .asg (.pname 3) (.bi .listM [(.var 1)])
def so_1 : S := .ite (.cmp .eq (.var 3) (.lst false [])) [.ret (.tup [(.call "_law_thing" [(.var 0), (.int 1)] [] [])])] []
def so_2 : S := .asg (.pname 4) (.call "_law_take" [(.var 0), (.bi .len [(.var 3)])] [] [])
def so_3 : S := .ite (.and [(.bi .isTup [(.idx (.var 3) (.var 4))]), (.cmp .gt (.var 2) (.int 0)), (.cmp .gt (.call "_law_take" [(.var 0), (.int 4)] [] []) (.int 0))]) [.asg (.psub (.var 3) (.var 4)) (.call "_law_otherwise" [(.var 0), (.idx (.var 3) (.var 4)), (.bin .sub (.var 2) (.int 1))] [] []), .ret (.bi .tuple [(.var 3)])] []
def so_4 : S := .asg (.pname 5) (.call "_law_take" [(.var 0), (.int 9)] [] [])
def so_5 : S := .ite (.cmp .eq (.var 5) (.int 0)) [.exp (.bm (.var 3) .popAt [(.var 4)])] [.ite (.cmp .eq (.var 5) (.int 1)) [.exp (.bm (.var 3) .insert [(.var 4), (.idx (.var 3) (.var 4))])] [.ite (.cmp .eq (.var 5) (.int 2)) [.asg (.pcut (.var 3) (.var 4) (.bin .add (.var 4) (.int 2))) (.rev (.cut (.var 3) (.var 4) (.bin .add (.var 4) (.int 2))))] [.ite (.cmp .eq (.var 5) (.int 3)) [.asg (.psub (.var 3) (.var 4)) (.call "_law_thing" [(.var 0), (.int 2)] [] [])] [.ite (.or [(.cmp .eq (.var 5) (.int 4)), (.cmp .eq (.var 5) (.int 5))]) [.asg (.pname 6) (.lst false [(.int 0), (.int 1), (.neg (.int 1)), (.int 2), (.int 8), (.int 9), (.int 200), (.int 201), (.int 400), (.int 401), .non, (.bl true), (.bl false), (.str "a"), (.tup []), (.tup [(.int 1), (.int 1)]), (.tup [(.int 2), (.int 4)]), (.tup [(.int 0), (.int 1)]), (.int 7), (.str "cut")]), .asg (.psub (.var 3) (.var 4)) (.idx (.var 6) (.call "_law_take" [(.var 0), (.int 20)] [] []))] [.ite (.and [(.cmp .eq (.var 5) (.int 6)), (.bi .isInt [(.idx (.var 3) (.var 4))]), (.not (.bi .isBool [(.idx (.var 3) (.var 4))]))]) [.asg (.psub (.var 3) (.var 4)) (.bin .add (.idx (.var 3) (.var 4)) (.idx (.lst false [(.int 1), (.neg (.int 1)), (.int 8), (.neg (.int 12))]) (.call "_law_take" [(.var 0), (.int 4)] [] [])))] [.ite (.and [(.cmp .eq (.var 5) (.int 7)), (.bi .isTup [(.idx (.var 3) (.var 4))])]) [.asg (.psub (.var 3) (.var 4)) (.bi .list [(.idx (.var 3) (.var 4))])] [.ite (.and [(.cmp .eq (.var 5) (.int 8)), (.bi .isStr [(.idx (.var 3) (.var 4))])]) [.asg (.psub (.var 3) (.var 4)) (.bin .add (.idx (.var 3) (.var 4)) (.idx (.lst false [(.str "a"), (.str "A"), (.str " "), (.str "bbbbbbbb")]) (.call "_law_take" [(.var 0), (.int 4)] [] [])))] [.ret (.var 3)]]]]]]]]
def so_6 : S := .ret (.bi .tuple [(.var 3)])
section
variable {Γ : T.Ctx} {W : Wi} {D0 : Ed} {σ : Sl} {G : Store}
theorem ss_one {s : S} (h : sS Γ s W D0 σ G) : sSs Γ [s] W D0 σ G := h
theorem p_pcut {o lo hi : E} {d : D} {k : Sl → Store → Prop} : (sem Γ (.pcut o lo hi)).p W d σ G k = (sem Γ o).e W σ G fun x G1 => (sem Γ lo).o W σ G1 fun l G2 => (sem Γ hi).o W σ G2 fun h G3 => setC x l h d G3 fun G4 => k σ G4 := rfl
end
section
variable {n : Nat} {es : List D}
theorem ixN_at {m t : Nat} (h : t < m) : ixN m (t : Int) = some t := by
  unfold ixN
  rw [if_pos (by omega), if_pos (by omega), Int.toNat_natCast]
theorem cut2 (t : Nat) : (cutG es (some (t : Int)) (some ((t : Int) + 2))).length ≤ 2 ∧ ∀ d ∈ cutG es (some (t : Int)) (some ((t : Int) + 2)), d ∈ es := by
  have e : ((t : Int) + 2) = ((t + 2 : Nat) : Int) := by omega
  rw [e]
  unfold cutG
  rw [HT.sIx_nat, HT.sIx_nat]
  refine ⟨by rw [List.length_take]; omega, fun d hd => List.mem_of_mem_drop (List.mem_of_mem_take hd)⟩
theorem sm_set {x : D} {i : Nat} (h : smD n (.tup es) = true) (hx : smD (n + 8) x = true) : smD (n + 8) (.tup (es.set i x)) = true := by
  obtain ⟨h1, h2⟩ := sm_tup.mp h
  refine sm_tup.mpr ⟨by rw [List.length_set]; omega, fun d hd => ?_⟩
  rcases List.mem_or_eq_of_mem_set hd with e | e
  · exact sm_mono (by omega) (h2 d e)
  · rw [e]; exact hx
theorem sm_of {l : List D} (h : smD n (.tup es) = true) (hl : l.length ≤ es.length + 8) (hm : ∀ d ∈ l, d ∈ es) : smD (n + 8) (.tup l) = true := by
  obtain ⟨h1, h2⟩ := sm_tup.mp h
  exact sm_tup.mpr ⟨by omega, fun d hd => sm_mono (by omega) (h2 d (hm d hd))⟩
end
def nearL : List D := [.int 0, .int 1, .int (-1), .int 2, .int 8, .int 9, .int 200, .int 201, .int 400, .int 401, .non, .bl true, .bl false, .str "a", .tup [], .tup [.int 1, .int 1], .tup [.int 2, .int 4], .tup [.int 0, .int 1], .int 7, .str "cut"]
theorem near_small : smL 100 nearL = true := by decide
section
variable {Γ : T.Ctx} {W : Wi} {G G0 : Store} {q : DK}
theorem other_rest (ht : Γ.fn "_law_take" [] = some (pm pTake)) (hs : Γ.fn "_law_thing" [] = some (pm (pThing goTop))) {p pp : Addr} {a b c : Int} {es : List D} {n t : Nat} {o1 o2 o5 o6 : Option D} {N : Sl → Store → Prop}
    (hG : G0 p = some (wellO a b c)) (hw : WellOk b c) (j : Ob G0 [(pp, .lst es)] G) (hn0 : 100 ≤ n) (hn1 : n ≤ 500) (hes : smD n (.tup es) = true) (t1 : t < es.length)
    (kq : ∀ d a' b', smD (n + 8) d = true → (∃ l, d = .tup l ∨ d = .lst l) → WellOk b' c → q d (put G0 p (wellO a' b' c))) :
    sSs Γ [so_4, so_5, so_6] W { nx := N, rt := fun d G' => ∃ d' G'', ViewD d G' d' G'' ∧ q d' G'' } [some (.ref p), o1, o2, some (.ref pp), some (.int (t : Int)), o5, o6] G := by
  unfold so_4
  refine ss_step fun R hR => ?_
  simp [ht, pm]
  refine ⟨p, a, b, c, 9, rfl, j.old p _ hG, hw, by omega, by omega, fun w a1 b1 w0 w9 hw1 => ?_⟩
  have j1 := j.out hG (wellO a1 b1 c)
  have hG1 : put G0 p (wellO a1 b1 c) p = some (wellO a1 b1 c) := put_same
  refine hR _ _ ?_
  clear hR R
  generalize put G p (wellO a1 b1 c) = G2 at j1 ⊢
  have kq1 : ∀ d a' b', smD (n + 8) d = true → (∃ l, d = .tup l ∨ d = .lst l) → WellOk b' c → q d (put (put G0 p (wellO a1 b1 c)) p (wellO a' b' c)) := fun d a' b' x y z => by rw [put_put]; exact kq d a' b' x y z
  clear kq j hG hw
  generalize put G0 p (wellO a1 b1 c) = G1 at j1 hG1 kq1
  obtain ⟨h1, h2⟩ := sm_tup.mp hes
  have hx : es[t]? = some es[t] := List.getElem?_eq_getElem t1
  have ha : atI es (t : Int) = some es[t] := atI_nat hx
  have hsx : smD n es[t] = true := h2 _ (List.getElem_mem t1)
  have hix : ixN es.length (t : Int) = some t := ixN_at t1
  generalize es[t] = x at hx ha hsx
  refine ss_step fun R hR => ?_
  have fin : ∀ (l : List D) (G3 : Store) (a' b' : Int) (o6 : Option D), Ob (put G1 p (wellO a' b' c)) [(pp, .lst l)] G3 → smD (n + 8) (.tup l) = true → WellOk b' c → R [some (.ref p), o1, o2, some (.ref pp), some (.int (t : Int)), some (.int w), o6] G3 := fun l G3 a' b' o6 j3 hsm hw' => by
    refine hR _ _ ?_
    unfold so_6
    refine ss_step fun R hR => ?_
    simp
    rw [bi_tup_r j3.lk0]
    exact j3.ret (kq1 _ a' b' hsm ⟨l, .inl rfl⟩ hw')
  have fin1 : ∀ (l : List D) (o6 : Option D), smD (n + 8) (.tup l) = true → R [some (.ref p), o1, o2, some (.ref pp), some (.int (t : Int)), some (.int w), o6] (put G2 pp (.lst l)) := fun l o6 hsm => by
    refine fin l _ a1 b1 o6 ?_ hsm hw1
    rw [put_id' hG1]
    exact j1.upd0 _
  have tell : ∃ d' G'', ViewD (.ref pp) G2 d' G'' ∧ q d' G'' := j1.tells (.inr (by
    have := kq1 (.lst es) a1 b1 (sm_lst.mpr (sm_tup.mp (sm_mono (m := n + 8) (by omega) hes))) ⟨es, .inr rfl⟩ hw1
    rw [put_id' hG1] at this
    exact this))
  clear hR
  have hw9 : w = 0 ∨ w = 1 ∨ w = 2 ∨ w = 3 ∨ w = 4 ∨ w = 5 ∨ w = 6 ∨ w = 7 ∨ w = 8 := by omega
  unfold so_5
  rcases hw9 with rfl | rfl | rfl | rfl | rfl | rfl | rfl | rfl | rfl
  · refine ite_T (G1 := G2) (fun r hr => by simp; exact hr) (ss_one ?_)
    simp
    rw [j1.lk0]
    have e : bmW .popAt (.lst es) [.int (t : Int)] = some (x, .lst (es.eraseIdx t)) := by
      show (ixN es.length (t : Int)).bind _ = _
      rw [hix]
      show (es[t]?).map _ = _
      rw [hx]; rfl
    refine ⟨rfl, pp, _, rfl, j1.get0, ?_⟩
    show oq (bmW .popAt (.lst es) [.int (t : Int)]) _
    rw [e, oqs]
    exact fin1 _ _ (sm_of hes (by have := List.length_eraseIdx_le es t; omega) fun d hd => List.mem_of_mem_eraseIdx hd)
  · refine ite_F (G1 := _) (fun r hr => by simp; exact hr) (ss_one ?_)
    refine ite_T (G1 := G2) (fun r hr => by simp; exact hr) (ss_one ?_)
    simp
    rw [j1.lk0]
    refine ⟨rfl, ?_⟩
    simp
    rw [ha]
    simp
    have e : bmW .insert (.lst es) [.int (t : Int), x] = some (.non, .lst (es.take t ++ x :: es.drop t)) := by
      show (if _ then _ else _) = _
      rw [if_pos (by simp; exact ⟨by omega, lt_LN (m := 1000) (by omega)⟩)]; rfl
    refine ⟨pp, _, rfl, j1.get0, ?_⟩
    show oq (bmW .insert (.lst es) [.int (t : Int), x]) _
    rw [e, oqs]
    refine fin1 _ _ (sm_of hes (by simp; omega) fun d hd => ?_)
    rcases List.mem_append.mp hd with e | e
    · exact List.mem_of_mem_take e
    · rcases List.mem_cons.mp e with e | e
      · rw [e]; exact List.mem_of_getElem? hx
      · exact List.mem_of_mem_drop e
  · refine ite_F (G1 := _) (fun r hr => by simp; exact hr) (ss_one ?_)
    refine ite_F (G1 := _) (fun r hr => by simp; exact hr) (ss_one ?_)
    refine ite_T (G1 := G2) (fun r hr => by simp; exact hr) (ss_one ?_)
    simp [p_pcut]
    rw [j1.lk0]
    show oq (some (D.lst (cutG es (some (t : Int)) (some ((t : Int) + 2))))) _
    rw [oqs]
    obtain ⟨c1, c2⟩ := cut2 (es := es) t
    generalize cutG es (some (t : Int)) (some ((t : Int) + 2)) = cc at c1 c2 ⊢
    show oq (some (D.lst cc.reverse)) _
    rw [oqs]
    refine ⟨pp, es, cc.reverse, _, _, rfl, j1.get0, rfl, rfl, rfl, by omega, by omega, by omega, ?_, ?_⟩
    · rw [List.length_reverse]
      show es.length + cc.length ≤ 16777216
      omega
    · refine fin1 _ _ (sm_of hes ?_ fun d hd => ?_)
      · rw [List.length_append, List.length_append, List.length_take, List.length_drop, List.length_reverse]
        omega
      · rcases List.mem_append.mp hd with e | e
        · rcases List.mem_append.mp e with e | e
          · exact List.mem_of_mem_take e
          · exact c2 d (List.mem_reverse.mp e)
        · exact List.mem_of_mem_drop e
  · refine ite_F (G1 := _) (fun r hr => by simp; exact hr) (ss_one ?_)
    refine ite_F (G1 := _) (fun r hr => by simp; exact hr) (ss_one ?_)
    refine ite_F (G1 := _) (fun r hr => by simp; exact hr) (ss_one ?_)
    refine ite_T (G1 := G2) (fun r hr => by simp; exact hr) (ss_one ?_)
    simp [hs, pm]
    refine ⟨p, a1, b1, c, 2, rfl, j1.old p _ hG1, hw1, by omega, by decide, fun d a2 b2 hd hw2 => ?_⟩
    have j2 := j1.out hG1 (wellO a2 b2 c)
    dsimp only
    rw [setI_l j2.get0 hix]
    exact fin _ _ a2 b2 _ (j2.upd0 _) (sm_set hes (sm_mono (by omega) hd)) hw2
  · refine ite_F (G1 := _) (fun r hr => by simp; exact hr) (ss_one ?_)
    refine ite_F (G1 := _) (fun r hr => by simp; exact hr) (ss_one ?_)
    refine ite_F (G1 := _) (fun r hr => by simp; exact hr) (ss_one ?_)
    refine ite_F (G1 := _) (fun r hr => by simp; exact hr) (ss_one ?_)
    refine ite_T (G1 := G2) (fun r hr => by simp; exact hr) ?_
    refine ss_step fun R2 hR2 => ?_
    simp
    refine hR2 _ _ (ss_one ?_)
    clear hR2 R2
    simp [ht, pm]
    refine ⟨p, a1, b1, c, 20, rfl, j1.old p _ hG1, hw1, by omega, by omega, fun u a2 b2 u0 u1 hw2 => ?_⟩
    obtain ⟨d, hd, he⟩ := atI_in (l := nearL) u0 (by simpa [nearL] using u1)
    have e : idxD (.lst nearL) (.int u) = some d := he
    show oq (idxD (.lst nearL) (.int u)) _
    rw [e, oqs]
    have j2 := j1.out hG1 (wellO a2 b2 c)
    rw [setI_l j2.get0 hix]
    exact fin _ _ a2 b2 _ (j2.upd0 _) (sm_set hes (sm_mono (by omega) (smL_iff.mp near_small d hd))) hw2
  · refine ite_F (G1 := _) (fun r hr => by simp; exact hr) (ss_one ?_)
    refine ite_F (G1 := _) (fun r hr => by simp; exact hr) (ss_one ?_)
    refine ite_F (G1 := _) (fun r hr => by simp; exact hr) (ss_one ?_)
    refine ite_F (G1 := _) (fun r hr => by simp; exact hr) (ss_one ?_)
    refine ite_T (G1 := G2) (fun r hr => by simp; exact hr) ?_
    refine ss_step fun R2 hR2 => ?_
    simp
    refine hR2 _ _ (ss_one ?_)
    clear hR2 R2
    simp [ht, pm]
    refine ⟨p, a1, b1, c, 20, rfl, j1.old p _ hG1, hw1, by omega, by omega, fun u a2 b2 u0 u1 hw2 => ?_⟩
    obtain ⟨d, hd, he⟩ := atI_in (l := nearL) u0 (by simpa [nearL] using u1)
    have e : idxD (.lst nearL) (.int u) = some d := he
    show oq (idxD (.lst nearL) (.int u)) _
    rw [e, oqs]
    have j2 := j1.out hG1 (wellO a2 b2 c)
    rw [setI_l j2.get0 hix]
    exact fin _ _ a2 b2 _ (j2.upd0 _) (sm_set hes (sm_mono (by omega) (smL_iff.mp near_small d hd))) hw2
  · refine ite_F (G1 := _) (fun r hr => by simp; exact hr) (ss_one ?_)
    refine ite_F (G1 := _) (fun r hr => by simp; exact hr) (ss_one ?_)
    refine ite_F (G1 := _) (fun r hr => by simp; exact hr) (ss_one ?_)
    refine ite_F (G1 := _) (fun r hr => by simp; exact hr) (ss_one ?_)
    refine ite_F (G1 := _) (fun r hr => by simp; exact hr) (ss_one ?_)
    by_cases hi : ∃ i, x = .int i
    case neg =>
      refine ite_F (G1 := G2) (fun r hr => ?_) (ss_one ?_)
      · simp [j1.lk0, ha]
        cases x <;> first | (cases hsx; done) | exact absurd ⟨_, rfl⟩ hi | (simp [wBi, biD, j1.lk0, ha]; exact hr)
      · refine ite_F (G1 := _) (fun r hr => by simp; exact hr) (ss_one ?_)
        refine ite_F (G1 := _) (fun r hr => by simp; exact hr) (ss_one ?_)
        simp
        exact tell
    obtain ⟨i, rfl⟩ := hi
    refine ite_T (G1 := G2) (fun r hr => by simp [j1.lk0, ha, wBi, biD]; exact hr) (ss_one ?_)
    simp [j1.lk0, ha, ht, pm]
    refine ⟨p, a1, b1, c, 4, rfl, j1.old p _ hG1, hw1, by omega, by omega, fun u a2 b2 u0 u1 hw2 => ?_⟩
    obtain ⟨i2, hi2⟩ : ∃ i2 : Int, idxD (.lst [D.int 1, .int (-1), .int 8, .int (-12)]) (.int u) = some (.int i2) := by
      have : u = 0 ∨ u = 1 ∨ u = 2 ∨ u = 3 := by omega
      rcases this with rfl | rfl | rfl | rfl <;> exact ⟨_, rfl⟩
    rw [hi2]
    simp
    have j2 := j1.out hG1 (wellO a2 b2 c)
    rw [setI_l j2.get0 hix]
    exact fin _ _ a2 b2 _ (j2.upd0 _) (sm_set hes rfl) hw2
  · refine ite_F (G1 := _) (fun r hr => by simp; exact hr) (ss_one ?_)
    refine ite_F (G1 := _) (fun r hr => by simp; exact hr) (ss_one ?_)
    refine ite_F (G1 := _) (fun r hr => by simp; exact hr) (ss_one ?_)
    refine ite_F (G1 := _) (fun r hr => by simp; exact hr) (ss_one ?_)
    refine ite_F (G1 := _) (fun r hr => by simp; exact hr) (ss_one ?_)
    refine ite_F (G1 := _) (fun r hr => by simp; exact hr) (ss_one ?_)
    by_cases hi : ∃ l, x = .tup l
    case neg =>
      refine ite_F (G1 := G2) (fun r hr => ?_) (ss_one ?_)
      · simp [j1.lk0, ha]
        cases x <;> first | (cases hsx; done) | exact absurd ⟨_, rfl⟩ hi | (simp [wBi, biD, j1.lk0, ha]; exact hr)
      · refine ite_F (G1 := _) (fun r hr => by simp; exact hr) (ss_one ?_)
        simp
        exact tell
    obtain ⟨l, rfl⟩ := hi
    refine ite_T (G1 := G2) (fun r hr => by simp [j1.lk0, ha, wBi, biD]; exact hr) (ss_one ?_)
    simp [j1.lk0, ha, wBi, biD]
    rw [setI_l j1.get0 hix]
    exact fin1 _ _ (sm_set hes (sm_lst.mpr (sm_tup.mp (sm_mono (m := n + 8) (by omega) hsx))))
  · refine ite_F (G1 := _) (fun r hr => by simp; exact hr) (ss_one ?_)
    refine ite_F (G1 := _) (fun r hr => by simp; exact hr) (ss_one ?_)
    refine ite_F (G1 := _) (fun r hr => by simp; exact hr) (ss_one ?_)
    refine ite_F (G1 := _) (fun r hr => by simp; exact hr) (ss_one ?_)
    refine ite_F (G1 := _) (fun r hr => by simp; exact hr) (ss_one ?_)
    refine ite_F (G1 := _) (fun r hr => by simp; exact hr) (ss_one ?_)
    refine ite_F (G1 := _) (fun r hr => by simp; exact hr) (ss_one ?_)
    by_cases hi : ∃ z, x = .str z
    case neg =>
      refine ite_F (G1 := G2) (fun r hr => ?_) ?_
      · simp [j1.lk0, ha]
        cases x <;> first | (cases hsx; done) | exact absurd ⟨_, rfl⟩ hi | (simp [wBi, biD, j1.lk0, ha]; exact hr)
      · refine ss_one ?_
        simp
        exact tell
    obtain ⟨z, rfl⟩ := hi
    refine ite_T (G1 := G2) (fun r hr => by simp [j1.lk0, ha, wBi, biD]; exact hr) (ss_one ?_)
    simp [j1.lk0, ha, ht, pm]
    refine ⟨p, a1, b1, c, 4, rfl, j1.old p _ hG1, hw1, by omega, by omega, fun u a2 b2 u0 u1 hw2 => ?_⟩
    obtain ⟨y, hy, hyl⟩ : ∃ y : Str, idxD (.lst [D.str "a", .str "A", .str " ", .str "bbbbbbbb"]) (.int u) = some (.str y) ∧ y.length ≤ 8 := by
      have : u = 0 ∨ u = 1 ∨ u = 2 ∨ u = 3 := by omega
      rcases this with rfl | rfl | rfl | rfl <;> exact ⟨_, rfl, by decide⟩
    have hz : z.length ≤ n := of_decide_eq_true hsx
    rw [hy]
    simp
    rw [add_ss (by omega), oqs]
    have j2 := j1.out hG1 (wellO a2 b2 c)
    rw [setI_l j2.get0 hix]
    exact fin _ _ a2 b2 _ (j2.upd0 _) (sm_set hes (decide_eq_true (by rw [Str.length_append]; omega))) hw2
end
theorem isTup_t {l : List D} {G : Store} {q : DK} : wBi .isTup [.tup l] G q = q (.bl true) G := bi_of (by decide) rfl
def pOther (m : Nat) : Pm := fun ds G q => ∃ p a b c es k n, ds = [.ref p, .tup es, .int k] ∧ G p = some (wellO a b c) ∧ WellOk b c ∧ 0 ≤ k ∧ k < m ∧ 100 ≤ n ∧ n ≤ 500 ∧ smD n (.tup es) = true ∧ ∀ d a' b', smD (n + 8) d = true → (∃ l, d = .tup l ∨ d = .lst l) → WellOk b' c → q d (put G p (wellO a' b' c))
theorem z_other : ∀ ds G q, ¬ pOther 0 ds G q := fun ds G q h => by
  obtain ⟨p, a, b, c, es, k, n, _, _, _, h0, h1, _⟩ := h
  omega
theorem ok_other {Γ : T.Ctx} {m : Nat} (ht : Γ.fn "_law_take" [] = some (pm pTake)) (hs : Γ.fn "_law_thing" [] = some (pm (pThing goTop))) (hr : Γ.fn "_law_otherwise" [] = some (pm (pOther m))) {ds : List D} {G : Store} {q : DK} (h : pOther (m + 1) ds G q) : run Γ 7 ir__law_otherwise (fun _ _ => False) ds G q := by
  obtain ⟨p, a, b, c, es, k, n, rfl, hG, hw, k0, km, hn0, hn1, hes, kq⟩ := h
  rw [run_eq]
  show sSs Γ [so_0, so_1, so_2, so_3, so_4, so_5, so_6] _ _ (some (.ref p) :: some (.tup es) :: some (.int k) :: List.replicate 4 none) G
  obtain ⟨h1, h2⟩ := sm_tup.mp hes
  unfold so_0
  refine ss_step fun R hR => ?_
  simp
  show oq (some (D.lst es)) _
  rw [oqs]
  show oq (some es) _
  rw [oqs]
  intro pp hpp
  have j : Ob G [(pp, .lst es)] (put G pp (.lst es)) := Ob.start.new hpp
  refine hR _ _ ?_
  clear hR R
  generalize put G pp (.lst es) = G1 at j ⊢
  unfold so_1
  refine ss_step fun R hR => ?_
  by_cases hes0 : es = []
  · subst hes0
    refine ite_T (G1 := G1) (fun r hr => by simp [j.lk0]; exact hr) (ss_one ?_)
    simp [hs, pm]
    refine ⟨p, a, b, c, 1, rfl, j.old p _ hG, hw, by omega, by decide, fun d a2 b2 hd hw2 => ?_⟩
    have j2 := j.out hG (wellO a2 b2 c)
    exact j2.ret (kq _ a2 b2 (sm_tup.mpr ⟨by simp, fun x hx => by
      have : x = d := by simpa using hx
      subst this
      exact sm_mono (by omega) hd⟩) ⟨[d], .inl rfl⟩ hw2)
  refine ite_F (G1 := G1) (fun r hr => by simp [j.lk0, show es.isEmpty = false from by simpa using hes0]; exact hr) ?_
  simp only [ss_nil]
  refine hR _ _ ?_
  clear hR R
  have hpos : 0 < es.length := List.length_pos_iff.mpr hes0
  unfold so_2
  refine ss_step fun R hR => ?_
  simp [ht, pm]
  rw [bi_len_r j.lk0]
  refine ⟨p, a, b, c, es.length, rfl, j.old p _ hG, hw, by omega, by omega, fun t a1 b1 t0 t1 hw1 => ?_⟩
  obtain ⟨t, rfl⟩ := Int.eq_ofNat_of_zero_le t0
  simp only [Int.ofNat_eq_natCast] at *
  have t1 : t < es.length := by omega
  have j1 := j.out hG (wellO a1 b1 c)
  have hG1 : put G p (wellO a1 b1 c) p = some (wellO a1 b1 c) := put_same
  refine hR _ _ ?_
  clear hR R
  generalize put G1 p (wellO a1 b1 c) = G2 at j1 ⊢
  have kq1 : ∀ d a' b', smD (n + 8) d = true → (∃ l, d = .tup l ∨ d = .lst l) → WellOk b' c → q d (put (put G p (wellO a1 b1 c)) p (wellO a' b' c)) := fun d a' b' x y z => by rw [put_put]; exact kq d a' b' x y z
  clear kq j hG hw hpp
  generalize put G p (wellO a1 b1 c) = G0 at j1 hG1 kq1
  have hx : es[t]? = some es[t] := List.getElem?_eq_getElem t1
  have ha : atI es (t : Int) = some es[t] := atI_nat hx
  have hsx : smD n es[t] = true := h2 _ (List.getElem_mem t1)
  have hix : ixN es.length (t : Int) = some t := ixN_at t1
  generalize es[t] = x at hx ha hsx
  unfold so_3
  refine ss_step fun R hR => ?_
  by_cases hc : (∃ l, x = .tup l) ∧ 0 < k
  case neg =>
    refine ite_F (G1 := G2) (fun r hr => ?_) ?_
    · simp [j1.lk0, ha]
      by_cases hk : 0 < k
      · cases x <;> first | (cases hsx; done) | exact absurd ⟨⟨_, rfl⟩, hk⟩ hc | (simp [wBi, biD]; exact hr)
      · cases x <;> first | (cases hsx; done) | (simp [wBi, biD, hk]; exact hr)
    · simp only [ss_nil]
      refine hR _ _ ?_
      exact other_rest ht hs hG1 hw1 j1 hn0 hn1 hes t1 kq1
  obtain ⟨⟨l, rfl⟩, hk⟩ := hc
  rw [s_ite]
  simp [j1.lk0, ha, isTup_t, hk, ht, pm]
  refine ⟨p, a1, b1, c, 4, rfl, j1.old p _ hG1, hw1, by omega, by omega, fun u a2 b2 u0 u1 hw2 => ?_⟩
  have j2 := j1.out hG1 (wellO a2 b2 c)
  have hG2 : put G0 p (wellO a2 b2 c) p = some (wellO a2 b2 c) := put_same
  generalize put G2 p (wellO a2 b2 c) = G3 at j2 ⊢
  have kq2 : ∀ d a' b', smD (n + 8) d = true → (∃ l, d = .tup l ∨ d = .lst l) → WellOk b' c → q d (put (put G0 p (wellO a2 b2 c)) p (wellO a' b' c)) := fun d a' b' x y z => by rw [put_put]; exact kq1 d a' b' x y z
  clear kq1 j1 hG1 hw1
  generalize put G0 p (wellO a2 b2 c) = G4 at j2 hG2 kq2
  dsimp only
  rw [lk_int, gt_ii]
  simp only [oqs, lk_bl, truth_bl]
  by_cases hu : 0 < u
  case neg =>
    rw [if_neg (by simpa using hu)]
    refine hR _ _ ?_
    exact other_rest ht hs hG2 hw2 j2 hn0 hn1 hes t1 kq2
  rw [if_pos (by simpa using hu)]
  simp [j2.lk0, ha, hr, pm]
  refine ⟨p, a2, b2, c, l, k - 1, n, rfl, j2.old p _ hG2, hw2, by omega, by omega, hn0, hn1, hsx, fun d a3 b3 hd hl hw3 => ?_⟩
  have j3 := j2.out hG2 (wellO a3 b3 c)
  dsimp only
  rw [setI_l j3.get0 hix]
  have j4 := j3.upd0 (.lst (es.set t d))
  rw [bi_tup_r j4.lk0]
  exact j4.ret (kq2 _ a3 b3 (sm_set hes hd) ⟨_, .inl rfl⟩ hw3)
end C
end
section
set_option Elab.async false
set_option linter.all false
set_option maxRecDepth 100000
set_option maxHeartbeats 4000000
/-! k32: the law. -/
namespace C
open T PySem L2
open T.Enc (enc)
variable {Γ : T.Ctx}
abbrev appD (a b : List D) : List D := a ++ b
theorem laidD_two {s : Nat} {r : Int} {bars : Bars} {ws : List Wk} : ∃ a b, laidD s r bars ws = .tup [a, b] := by
  unfold laidD
  cases (lays s r bars ws).head? with
  | none => exact ⟨_, _, rfl⟩
  | some ch => exact ⟨_, _, rfl⟩
/-- a for over what is drawn as it starts -/
theorem for_gen {Γ : T.Ctx} {pat it : E} {body : List S} {W : Wi} {D0 : Ed} {σ : Sl} {G : Store} (h : ∀ LP : WI, (∀ (xs : List D) (gd : Store → Prop) (G1 : Store) (I : List D → Sl → Store → Prop), (∀ r σ G, I r σ G → gd G) → I xs σ G1 →
    (∀ x r σ G (k : Sl → Store → Prop), I (x :: r) σ G → (∀ σ' G', I r σ' G' → k σ' G') → (sem Γ pat).p W x σ G fun σ2 G3 => sSs Γ body W { nx := k, ct := k, bk := D0.nx, rt := D0.rt } σ2 G3) → (∀ σ G, I [] σ G → D0.nx σ G) → LP xs gd G1) → (sem Γ it).i W σ G LP) : sS Γ (.for_ pat it body) W D0 σ G := by
  rw [s_for]
  refine h _ fun xs gd G1 I hg h0 hs hf => ?_
  have := loopW_t (e := fun d : D => d) I hg hs hf xs σ G1 h0
  rwa [List.map_id'] at this
theorem walk_l {ds : List D} {G : Store} {p : WI} : walkV (.lst ds) G p = p ds (fun _ => True) G := by
  unfold walkV
  show oq (some ds) _ = _
  rw [oqs]; rfl
theorem two_inj' {a b c d : D} (h : (.tup [a, b] : D) = .tup [c, d]) : a = c ∧ b = d := by
  injection h with h
  injection h with h1 h2
  injection h2 with h2
  exact ⟨h1, h2⟩
theorem told_c (n : Nat) (r : Int) (bars : Bars) (ws : List Wk) : (∃ pl : List Pl, pl.length = ws.length ∧ laidD n r bars ws = .tup [.str "laid", .lst (pl.map enc)]) ∨ laidD n r bars ws = .tup [.str "barred", .lst ((fewest n r bars ws).map fun w => D.str w.a)] := by
  unfold laidD
  cases e : (lays n r bars ws).head? with
  | none => exact .inr rfl
  | some ch => exact .inl ⟨withR ch, by rw [withR_len, (lays_mem (List.mem_of_head? e)).1], rfl⟩
theorem pl_small {pl : List Pl} (h : pl.length ≤ 8) : smD 100 (.tup (pl.map enc)) = true := by
  refine sm_tup.mpr ⟨by rw [List.length_map]; omega, fun d hd => ?_⟩
  obtain ⟨p, _, rfl⟩ := List.mem_map.mp hd
  rfl
theorem pl_pure (pl : List Pl) : (D.lst (pl.map enc)).pure = true := pureL_enc _
theorem ok_law32 (h1 : Γ.fn "_law_well" [] = some (pm pWell)) (h2 : Γ.fn "_law_take" [] = some (pm pTake)) (h3 : Γ.fn "_law_to_lay" [] = some (pm pToLay)) (h4 : Γ.fn "laid" ["bars"] = some (pmK appD 3 1 pLaid))
    (h5 : Γ.fn "_law_thing" [] = some (pm (pThing goTop))) (h6 : Γ.fn "_law_otherwise" [] = some (pm (pOther goTop))) (h7 : Γ.fn "is_laid" ["bars"] = some (pmK appD 4 1 pIsLaid)) (h8 : Γ.fn "_law_is_laid" [] = some (pm pLawLaid)) (h9 : Γ.fn "_law_says" [] = some (pm pSays)) {ds : List D} {G : Store} {q : DK} (h : pLaw ds G q) : run Γ 18 ir_law_k32 (fun _ _ => False) ds G q := by
  obtain ⟨is, rfl, hl, kk⟩ := h
  rw [run_eq]
  show sSs Γ ir_law_k32 _ _ (some (.scr is) :: none :: List.replicate 16 none) G
  unfold ir_law_k32
  refine rounds hl (by omega) (by omega) (m := 16) (fun kN tl G K hk0 hk1 htl hK => ?_) (fun o tl G htl => ?_) _ _ _ rfl
  · match tl, htl with
    | [o2, o3, o4, o5, o6, o7, o8, o9, o10, o11, o12, o13, o14, o15, o16, o17], _ =>
    refine ss_step fun R hR => ?_
    simp [h1, pm]
    refine ⟨is, kN, rfl, hk0, hk1, fun p a b c hp hw => hR _ _ ?_⟩
    clear hR R
    generalize hG : put G p (wellO a b c) = G1
    have g1 : G1 p = some (wellO a b c) := by rw [← hG, put_same]
    clear hG hp G
    refine ss_step fun R hR => ?_
    simp [h3, pm]
    refine ⟨p, a, b, c, 5, rfl, g1, hw, by omega, by omega, fun ws s r bars a1 b1 hlay hw1 => ?_⟩
    simp
    refine hR _ _ ?_
    clear hR R
    have g2 : put G1 p (wellO a1 b1 c) p = some (wellO a1 b1 c) := put_same
    generalize put G1 p (wellO a1 b1 c) = G2 at g2 ⊢
    clear g1 hw G1
    obtain ⟨nn, hnn, enm⟩ := hlay.nm
    have hw8 : ws.length ≤ 8 := by
      have := congrArg List.length enm
      rw [List.length_map, List.length_take] at this
      omega
    have hs1 := hlay.s1
    have hs5 := hlay.s5
    have hr1 := hlay.r1
    have hr3 := hlay.r3
    obtain ⟨n, rfl⟩ := Int.eq_ofNat_of_zero_le (show 0 ≤ s by omega)
    simp only [Int.ofNat_eq_natCast] at *
    obtain ⟨wd, td, ht⟩ := laidD_two (s := n) (r := r) (bars := bars) (ws := ws)
    have htc := told_c n r bars ws
    refine ss_step fun R hR => ?_
    simp [h4, pmK]
    refine ⟨_, n, r, _, ws, bars, rfl, .inl rfl, ⟨hw8, by omega, by omega⟩, .inl rfl, ?_⟩
    rw [Int.toNat_natCast, ht]
    rw [ht] at htc
    simp
    refine hR _ _ ?_
    clear hR R
    -- by chance
    refine ss_step fun R hR => ?_
    simp
    refine compW_st (e := fun w : Wk => (enc w : D)) (fun rest acc G' => ∃ (pl : List Pl) (a' b' : Int), pl.length + rest.length = ws.length ∧ WellOk b' c ∧ G' = put G2 p (wellO a' b' c) ∧ acc = pl.map enc)
      (fun _ _ _ _ => trivial) (fun x rr acc G' k' hI hk => ?_) (fun acc G' hI => ?_) ws _ _ ⟨[], a1, b1, by simp, hw1, (put_id' g2).symm, rfl⟩
    · obtain ⟨pl, a', b', hpl, hw', rfl, rfl⟩ := hI
      simp [wipeD, h2, pm]
      refine ⟨p, a', b', c, (n : Int) + 1, rfl, put_same, hw', by omega, by omega, fun u a3 b3 u0 u1 hw3 => ?_⟩
      rw [put_put]
      simp [h2, pm]
      refine ⟨p, a3, b3, c, r + 1, rfl, put_same, hw3, by omega, by omega, fun v a4 b4 v0 v1 hw4 => ?_⟩
      rw [put_put]
      exact hk _ _ ⟨pl ++ [(u, v)], a4, b4, by simp at hpl ⊢; omega, hw4, rfl, by simp⟩
    · obtain ⟨chance, a2, b2, hcl, hw2, rfl, rfl⟩ := hI
      have g3 : put G2 p (wellO a2 b2 c) p = some (wellO a2 b2 c) := put_same
      generalize put G2 p (wellO a2 b2 c) = G3 at g3 ⊢
      refine hR _ _ ?_
      clear hR R
      -- told, or by chance
      refine ss_step fun R hR => ?_
      have rest : ∀ told : List Pl, told.length ≤ 8 → R [some (.scr is), some (.int kN), some (.ref p), some (.tup (ws.map enc)), some (.int (n : Int)), some (.int r), some (.tup (bars.map enc)), some wd, some (.lst (told.map enc)), some (.lst (chance.map enc)), o10, o11, o12, o13, o14, o15, o16, o17] G3 := fun told h8t => by
        refine hR _ _ ?_
        clear hR R htc
        -- bent
        refine ss_step fun R hR => ?_
        simp [h6, pm]
        refine ⟨p, a2, b2, c, told.map enc, 2, 100, by simp, g3, hw2, by omega, by decide, by omega, by omega, pl_small h8t, fun d a3 b3 hd hdl hw3 => ?_⟩
        have g4 : put G3 p (wellO a3 b3 c) p = some (wellO a3 b3 c) := put_same
        generalize put G3 p (wellO a3 b3 c) = G4 at g4 ⊢
        obtain ⟨bent, hbent, hbp⟩ : ∃ bent, (∀ q : DK, q (.lst bent) G4 → wBi .list [d] G4 q) ∧ (D.lst bent).pure = true := by
          obtain ⟨l, rfl | rfl⟩ := hdl
          · exact ⟨l, fun q h => by simpa [wBi, biD] using h, sm_pure hd⟩
          · exact ⟨l, fun q h => by simpa [wBi, biD] using h, sm_pure hd⟩
        refine hbent _ ?_
        refine hR _ _ ?_
        clear hR R
        -- turned
        refine ss_step fun R hR => ?_
        simp
        refine compW_map (e := fun p : Pl => (enc p : D)) (fun p => enc ((p.1, r - 1 - p.2) : Pl)) trivial (fun p hp k2 hk2 => ?_) ?_
        · simp [wipeD]
          simpa using hk2
        rw [show (told.map fun p => (enc ((p.1, r - 1 - p.2) : Pl) : D)) = (told.map fun p => ((p.1, r - 1 - p.2) : Pl)).map enc from by rw [List.map_map]; rfl]
        generalize (told.map fun p => ((p.1, r - 1 - p.2) : Pl)) = turned
        refine hR _ _ ?_
        clear hR R
        refine ss_step fun R hR => ?_
        simp
        show oq (some (D.lst (told.map enc).reverse)) _
        rw [oqs, cutG_drop _ (by omega)]
        refine hR _ _ ?_
        clear hR R
        refine ss_step fun R hR => for_gen fun LP hLP => ?_
        simp [h5, pm]
        rw [cutG_take _ (by omega), add_ll (by simp; omega), oqs]
        refine ⟨p, a3, b3, c, 2, rfl, g4, hw3, by omega, by decide, fun th a5 b5 hth hw5 => ?_⟩
        dsimp only
        rw [add_ll (by simp), oqs]
        generalize put G4 p (wellO a5 b5 c) = G5
        rw [walk_l]
        refine hLP _ _ G5 (fun rr σ G' => G' = G5 ∧ (∀ d ∈ rr, d.pure = true) ∧ ∃ o15 o16 o17 : Option D, σ = [some (.scr is), some (.int kN), some (.ref p), some (.tup (ws.map enc)), some (.int (n : Int)), some (.int r), some (.tup (bars.map enc)), some wd, some (.lst (told.map enc)), some (.lst (chance.map enc)), o10, some (.lst bent), some (.lst (turned.map enc)), o13, o14, o15, o16, o17]) (fun _ _ _ _ => True.intro) ⟨rfl, ?_, _, _, _, rfl⟩ (fun d rr σ G' k hI hk => ?_) (fun σ G' hI => ?_)
        · intro d hd
          simp at hd
          rcases hd with rfl | rfl | rfl | rfl | rfl | rfl | rfl | rfl | rfl
          · exact pl_pure _
          · exact pl_pure _
          · exact hbp
          · exact pl_pure _
          · rw [← List.map_reverse]; exact pl_pure _
          · exact pl_pure told
          · rw [← List.map_tail]; exact pl_pure _
          · rw [← List.map_take, ← List.map_append]; exact pl_pure _
          · exact sm_pure hth
        · obtain ⟨rfl, hpu, o15, o16, o17, rfl⟩ := hI
          have hpd := hpu d (by simp)
          simp only [p_name]
          refine ss_step fun R2 hR2 => ?_
          simp [h8, pm]
          refine ⟨ws, _, r, d, bars, rfl, hw8, hpd, ?_⟩
          dsimp only
          refine hR2 _ _ ?_
          clear hR2 R2
          refine ss_step fun R2 hR2 => ite_F (G1 := G') (fun r2 hr2 => ?_) ?_
          · simp [h7, pmK]
            refine ⟨_, _, r, d, _, ws, bars, rfl, .inl rfl, hw8, .inl rfl, hpd, ?_⟩
            simp [h9, pm]
            refine ⟨_, _, rfl, ?_⟩
            simp
            exact hr2
          · simp only [ss_nil]
            refine hR2 _ _ ?_
            simp only [ss_nil]
            exact hk _ _ ⟨rfl, fun d2 h2 => hpu d2 (by simp [h2]), _, _, _, rfl⟩
        · obtain ⟨rfl, _, o15, o16, o17, rfl⟩ := hI
          refine hR _ _ ?_
          simp only [ss_nil]
          exact hK _ _ rfl
      rcases htc with ⟨pl, hpl, e⟩ | e
      · obtain ⟨rfl, rfl⟩ := two_inj' e
        simp
        exact rest pl (by omega)
      · obtain ⟨rfl, rfl⟩ := two_inj' e
        simp
        exact rest chance (by simp at hcl; omega)
  · match tl, htl with
    | [o2, o3, o4, o5, o6, o7, o8, o9, o10, o11, o12, o13, o14, o15, o16, o17], _ =>
    refine ss_step fun R hR => ?_
    simp
    exact ret_here (kk _)
theorem z_go : ∀ ds G q, ¬ pGo 0 ds G q := fun ds G q h => by
  obtain ⟨x, y, ws, ch, s, r, z, bars, _, _, _, h1, _, _, _, _, h2, _⟩ := h
  omega
end C
end
section
set_option Elab.async false
set_option linter.all false
set_option maxRecDepth 100000
namespace C
open T PySem PySem.Spec PyProof.Rows L2
def topS (i : Nat) : Stmt := PySem.Challenge.pw_callhouse_k32_layings_spoilt.main.body.getD i (.Pass ⟨0, 0, 0, 0⟩)
abbrev st_is_int : Stmt := topS 1
theorem sc_is_int : FnScope n_is_int p_is_int (defScope st_is_int) := ⟨rfl, rfl, rfl, by decide +kernel, rfl, by decide +kernel, by decide +kernel⟩
def F_is_int : List (Str × List Str) := []
theorem ck_is_int : chkSs n_is_int F_is_int ir_is_int (defScope st_is_int) (fun _ => true) (defBody st_is_int) = true := by decide +kernel
abbrev st_is_whole : Stmt := topS 2
theorem sc_is_whole : FnScope n_is_whole p_is_whole (defScope st_is_whole) := ⟨rfl, rfl, rfl, by decide +kernel, rfl, by decide +kernel, by decide +kernel⟩
def F_is_whole : List (Str × List Str) := [("is_int", [])]
theorem ck_is_whole : chkSs n_is_whole F_is_whole ir_is_whole (defScope st_is_whole) (fun _ => true) (defBody st_is_whole) = true := by decide +kernel
abbrev st_is_tuple : Stmt := topS 3
theorem sc_is_tuple : FnScope n_is_tuple p_is_tuple (defScope st_is_tuple) := ⟨rfl, rfl, rfl, by decide +kernel, rfl, by decide +kernel, by decide +kernel⟩
def F_is_tuple : List (Str × List Str) := []
theorem ck_is_tuple : chkSs n_is_tuple F_is_tuple ir_is_tuple (defScope st_is_tuple) (fun _ => true) (defBody st_is_tuple) = true := by decide +kernel
abbrev st_can_stand : Stmt := topS 5
theorem sc_can_stand : FnScope n_can_stand p_can_stand (defScope st_can_stand) := ⟨rfl, rfl, rfl, by decide +kernel, rfl, by decide +kernel, by decide +kernel⟩
def F_can_stand : List (Str × List Str) := []
theorem ck_can_stand : chkSs n_can_stand F_can_stand ir_can_stand (defScope st_can_stand) (fun _ => true) (defBody st_can_stand) = true := by decide +kernel
abbrev st_free_for : Stmt := topS 6
theorem sc_free_for : FnScope n_free_for p_free_for (defScope st_free_for) := ⟨rfl, rfl, rfl, by decide +kernel, rfl, by decide +kernel, by decide +kernel⟩
def F_free_for : List (Str × List Str) := [("can_stand", [])]
theorem ck_free_for : chkSs n_free_for F_free_for ir_free_for (defScope st_free_for) (fun _ => true) (defBody st_free_for) = true := by decide +kernel
abbrev st_can_go_on : Stmt := topS 7
theorem sc_can_go_on : FnScope n_can_go_on p_can_go_on (defScope st_can_go_on) := ⟨rfl, rfl, rfl, by decide +kernel, rfl, by decide +kernel, by decide +kernel⟩
def F_can_go_on : List (Str × List Str) := [("free_for", []), ("can_go_on", [])]
theorem ck_can_go_on : chkSs n_can_go_on F_can_go_on ir_can_go_on (defScope st_can_go_on) (fun _ => true) (defBody st_can_go_on) = true := by decide +kernel
abbrev st_first_slots : Stmt := topS 8
theorem sc_first_slots : FnScope n_first_slots p_first_slots (defScope st_first_slots) := ⟨rfl, rfl, rfl, by decide +kernel, rfl, by decide +kernel, by decide +kernel⟩
def F_first_slots : List (Str × List Str) := [("can_go_on", []), ("free_for", [])]
theorem ck_first_slots : chkSs n_first_slots F_first_slots ir_first_slots (defScope st_first_slots) (fun _ => true) (defBody st_first_slots) = true := by decide +kernel
abbrev st_lots_of : Stmt := topS 9
theorem sc_lots_of : FnScope n_lots_of p_lots_of (defScope st_lots_of) := ⟨rfl, rfl, rfl, by decide +kernel, rfl, by decide +kernel, by decide +kernel⟩
def F_lots_of : List (Str × List Str) := []
theorem ck_lots_of : chkSs n_lots_of F_lots_of ir_lots_of (defScope st_lots_of) (fun _ => true) (defBody st_lots_of) = true := by decide +kernel
abbrev st_fewest_barred : Stmt := topS 10
theorem sc_fewest_barred : FnScope n_fewest_barred p_fewest_barred (defScope st_fewest_barred) := ⟨rfl, rfl, rfl, by decide +kernel, rfl, by decide +kernel, by decide +kernel⟩
def F_fewest_barred : List (Str × List Str) := [("lots_of", []), ("can_go_on", [])]
theorem ck_fewest_barred : chkSs n_fewest_barred F_fewest_barred ir_fewest_barred (defScope st_fewest_barred) (fun _ => true) (defBody st_fewest_barred) = true := by decide +kernel
abbrev st_laid : Stmt := topS 11
theorem sc_laid : FnScope n_laid p_laid (defScope st_laid) := ⟨rfl, rfl, rfl, by decide +kernel, rfl, by decide +kernel, by decide +kernel⟩
def F_laid : List (Str × List Str) := [("first_slots", []), ("fewest_barred", [])]
theorem ck_laid : chkSs n_laid F_laid ir_laid (defScope st_laid) (fun _ => true) (defBody st_laid) = true := by decide +kernel
abbrev st_is_laid : Stmt := topS 12
theorem sc_is_laid : FnScope n_is_laid p_is_laid (defScope st_is_laid) := ⟨rfl, rfl, rfl, by decide +kernel, rfl, by decide +kernel, by decide +kernel⟩
def F_is_laid : List (Str × List Str) := [("is_tuple", []), ("is_whole", []), ("can_stand", [])]
theorem ck_is_laid : chkSs n_is_laid F_is_laid ir_is_laid (defScope st_is_laid) (fun _ => true) (defBody st_is_laid) = true := by decide +kernel
abbrev st__law_well : Stmt := topS 14
theorem sc__law_well : FnScope n__law_well p__law_well (defScope st__law_well) := ⟨rfl, rfl, rfl, by decide +kernel, rfl, by decide +kernel, by decide +kernel⟩
def F__law_well : List (Str × List Str) := []
theorem ck__law_well : chkSs n__law_well F__law_well ir__law_well (defScope st__law_well) (fun _ => true) (defBody st__law_well) = true := by decide +kernel
abbrev st__law_take : Stmt := topS 15
theorem sc__law_take : FnScope n__law_take p__law_take (defScope st__law_take) := ⟨rfl, rfl, rfl, by decide +kernel, rfl, by decide +kernel, by decide +kernel⟩
def F__law_take : List (Str × List Str) := []
theorem ck__law_take : chkSs n__law_take F__law_take ir__law_take (defScope st__law_take) (fun _ => true) (defBody st__law_take) = true := by decide +kernel
abbrev st__law_is_int : Stmt := topS 16
theorem sc__law_is_int : FnScope n__law_is_int p__law_is_int (defScope st__law_is_int) := ⟨rfl, rfl, rfl, by decide +kernel, rfl, by decide +kernel, by decide +kernel⟩
def F__law_is_int : List (Str × List Str) := []
theorem ck__law_is_int : chkSs n__law_is_int F__law_is_int ir__law_is_int (defScope st__law_is_int) (fun _ => true) (defBody st__law_is_int) = true := by decide +kernel
abbrev st__law_says : Stmt := topS 17
theorem sc__law_says : FnScope n__law_says p__law_says (defScope st__law_says) := ⟨rfl, rfl, rfl, by decide +kernel, rfl, by decide +kernel, by decide +kernel⟩
def F__law_says : List (Str × List Str) := []
theorem ck__law_says : chkSs n__law_says F__law_says ir__law_says (defScope st__law_says) (fun _ => true) (defBody st__law_says) = true := by decide +kernel
abbrev st__law_thing : Stmt := topS 18
theorem sc__law_thing : FnScope n__law_thing p__law_thing (defScope st__law_thing) := ⟨rfl, rfl, rfl, by decide +kernel, rfl, by decide +kernel, by decide +kernel⟩
def F__law_thing : List (Str × List Str) := [("_law_take", []), ("_law_thing", [])]
theorem ck__law_thing : chkSs n__law_thing F__law_thing ir__law_thing (defScope st__law_thing) (fun _ => true) (defBody st__law_thing) = true := by decide +kernel
abbrev st__law_otherwise : Stmt := topS 19
theorem sc__law_otherwise : FnScope n__law_otherwise p__law_otherwise (defScope st__law_otherwise) := ⟨rfl, rfl, rfl, by decide +kernel, rfl, by decide +kernel, by decide +kernel⟩
def F__law_otherwise : List (Str × List Str) := [("_law_thing", []), ("_law_take", []), ("_law_otherwise", [])]
theorem ck__law_otherwise : chkSs n__law_otherwise F__law_otherwise ir__law_otherwise (defScope st__law_otherwise) (fun _ => true) (defBody st__law_otherwise) = true := by decide +kernel
abbrev st__law_some_names : Stmt := topS 20
theorem sc__law_some_names : FnScope n__law_some_names p__law_some_names (defScope st__law_some_names) := ⟨rfl, rfl, rfl, by decide +kernel, rfl, by decide +kernel, by decide +kernel⟩
def F__law_some_names : List (Str × List Str) := [("_law_take", [])]
theorem ck__law_some_names : chkSs n__law_some_names F__law_some_names ir__law_some_names (defScope st__law_some_names) (fun _ => true) (defBody st__law_some_names) = true := by decide +kernel
abbrev st__law_to_lay : Stmt := topS 21
theorem sc__law_to_lay : FnScope n__law_to_lay p__law_to_lay (defScope st__law_to_lay) := ⟨rfl, rfl, rfl, by decide +kernel, rfl, by decide +kernel, by decide +kernel⟩
def F__law_to_lay : List (Str × List Str) := [("_law_take", []), ("_law_some_names", [])]
theorem ck__law_to_lay : chkSs n__law_to_lay F__law_to_lay ir__law_to_lay (defScope st__law_to_lay) (fun _ => true) (defBody st__law_to_lay) = true := by decide +kernel
abbrev st__law_apart : Stmt := topS 22
theorem sc__law_apart : FnScope n__law_apart p__law_apart (defScope st__law_apart) := ⟨rfl, rfl, rfl, by decide +kernel, rfl, by decide +kernel, by decide +kernel⟩
def F__law_apart : List (Str × List Str) := []
theorem ck__law_apart : chkSs n__law_apart F__law_apart ir__law_apart (defScope st__law_apart) (fun _ => true) (defBody st__law_apart) = true := by decide +kernel
abbrev st__law_is_laid : Stmt := topS 23
theorem sc__law_is_laid : FnScope n__law_is_laid p__law_is_laid (defScope st__law_is_laid) := ⟨rfl, rfl, rfl, by decide +kernel, rfl, by decide +kernel, by decide +kernel⟩
def F__law_is_laid : List (Str × List Str) := [("_law_is_int", []), ("_law_apart", [])]
theorem ck__law_is_laid : chkSs n__law_is_laid F__law_is_laid ir__law_is_laid (defScope st__law_is_laid) (fun _ => true) (defBody st__law_is_laid) = true := by decide +kernel
abbrev st_law : Stmt := topS 24
theorem sc_law : FnScope n_law_k32 p_law_k32 (defScope st_law) := ⟨rfl, rfl, rfl, by decide +kernel, rfl, by decide +kernel, by decide +kernel⟩
def F_law : List (Str × List Str) := [("_law_well", []), ("_law_to_lay", []), ("laid", ["bars"]), ("_law_take", []), ("_law_otherwise", []), ("_law_thing", []), ("_law_is_laid", []), ("_law_says", []), ("is_laid", ["bars"])]
theorem ck_law : chkSs n_law_k32 F_law ir_law_k32 (defScope st_law) (fun _ => true) (defBody st_law) = true := by decide +kernel
def gl : Str → Option D := fun _ => none
abbrev L_0 : FnL := []
abbrev L_1 : FnL := (("is_int", []), pm pIsInt) :: L_0
abbrev L_2 : FnL := (("is_whole", []), pm pIsWhole) :: L_1
abbrev L_3 : FnL := (("is_tuple", []), pm pIsTuple) :: L_2
abbrev L_4 : FnL := (("can_stand", []), pm pCanStand) :: L_3
abbrev L_5 : FnL := (("free_for", []), pm pFree) :: L_4
abbrev L_6 : FnL := (("can_go_on", []), pm (pGo goTop)) :: L_5
abbrev L_7 : FnL := (("first_slots", []), pm pFirst) :: L_6
abbrev L_8 : FnL := (("lots_of", []), pm pLots) :: L_7
abbrev L_9 : FnL := (("fewest_barred", []), pm pFewB) :: L_8
abbrev L_10 : FnL := (("laid", ["bars"]), pmK appD 3 1 pLaid) :: L_9
abbrev L_11 : FnL := (("is_laid", ["bars"]), pmK appD 4 1 pIsLaid) :: L_10
abbrev L_12 : FnL := (("_law_well", []), pm pWell) :: L_11
abbrev L_13 : FnL := (("_law_take", []), pm pTake) :: L_12
abbrev L_14 : FnL := (("_law_is_int", []), pm pLawInt) :: L_13
abbrev L_15 : FnL := (("_law_says", []), pm pSays) :: L_14
abbrev L_16 : FnL := (("_law_thing", []), pm (pThing goTop)) :: L_15
abbrev L_17 : FnL := (("_law_otherwise", []), pm (pOther goTop)) :: L_16
abbrev L_18 : FnL := (("_law_some_names", []), pm pSome) :: L_17
abbrev L_19 : FnL := (("_law_to_lay", []), pm pToLay) :: L_18
abbrev L_20 : FnL := (("_law_apart", []), pm pLApart) :: L_19
abbrev L_21 : FnL := (("_law_is_laid", []), pm pLawLaid) :: L_20
section
variable {Pr : Program} {w : World} {K : PySem.W.Frag} {mg : Str → Option Value} {base : Heap}
theorem w_1 {f : Addr} {fd : FuncData} (W : Wld (mkΓ gl L_0) Pr w K mg base 0) (Fd : Fun K "is_int" "is_int" st_is_int f fd) (hm : mg "is_int" = some (.ref f)) : Wld (mkΓ gl L_1) Pr w K mg base 2 := by
  refine wld_def W Fd hm (Fd.binds (ps := p_is_int) fun _ _ _ _ _ _ us hl => match us, hl with | [_], _ => rfl) sc_is_int (by decide) ck_is_int (fun ds G q h => ?_) (fun ds G q h => ?_)
  · unfold pIsInt at h; (obtain ⟨_, rfl, _⟩ := h); rfl
  · exact ok_isInt  h
theorem w_2 {f : Addr} {fd : FuncData} (W : Wld (mkΓ gl L_1) Pr w K mg base 2) (Fd : Fun K "is_whole" "is_whole" st_is_whole f fd) (hm : mg "is_whole" = some (.ref f)) : Wld (mkΓ gl L_2) Pr w K mg base 4 := by
  refine wld_def W Fd hm (Fd.binds (ps := p_is_whole) fun _ _ _ _ _ _ us hl => match us, hl with | [_, _, _], _ => rfl) sc_is_whole (by decide) ck_is_whole (fun ds G q h => ?_) (fun ds G q h => ?_)
  · unfold pIsWhole at h; (obtain ⟨_, _, _, rfl, _⟩ := h); rfl
  · exact ok_isWhole mkΓ_hd h
theorem w_3 {f : Addr} {fd : FuncData} (W : Wld (mkΓ gl L_2) Pr w K mg base 4) (Fd : Fun K "is_tuple" "is_tuple" st_is_tuple f fd) (hm : mg "is_tuple" = some (.ref f)) : Wld (mkΓ gl L_3) Pr w K mg base 6 := by
  refine wld_def W Fd hm (Fd.binds (ps := p_is_tuple) fun _ _ _ _ _ _ us hl => match us, hl with | [_, _], _ => rfl) sc_is_tuple (by decide) ck_is_tuple (fun ds G q h => ?_) (fun ds G q h => ?_)
  · unfold pIsTuple at h; (obtain ⟨_, _, rfl, _⟩ := h); rfl
  · exact ok_isTuple  h
theorem w_4 {f : Addr} {fd : FuncData} (W : Wld (mkΓ gl L_3) Pr w K mg base 6) (Fd : Fun K "can_stand" "can_stand" st_can_stand f fd) (hm : mg "can_stand" = some (.ref f)) : Wld (mkΓ gl L_4) Pr w K mg base 8 := by
  refine wld_def W Fd hm (Fd.binds (ps := p_can_stand) fun _ _ _ _ _ _ us hl => match us, hl with | [_, _], _ => rfl) sc_can_stand (by decide) ck_can_stand (fun ds G q h => ?_) (fun ds G q h => ?_)
  · unfold pCanStand at h; (obtain ⟨_, _, rfl, _⟩ := h); rfl
  · exact ok_canStand  h
theorem w_5 {f : Addr} {fd : FuncData} (W : Wld (mkΓ gl L_4) Pr w K mg base 8) (Fd : Fun K "free_for" "free_for" st_free_for f fd) (hm : mg "free_for" = some (.ref f)) : Wld (mkΓ gl L_5) Pr w K mg base 10 := by
  refine wld_def W Fd hm (Fd.binds (ps := p_free_for) fun _ _ _ _ _ _ us hl => match us, hl with | [_, _, _, _, _, _], _ => rfl) sc_free_for (by decide) ck_free_for (fun ds G q h => ?_) (fun ds G q h => ?_)
  · unfold pFree at h; (obtain ⟨_, _, _, _, _, _, _, _, _, rfl, _⟩ := h); rfl
  · exact ok_free mkΓ_hd h
theorem w_6 {f : Addr} {fd : FuncData} (W : Wld (mkΓ gl L_5) Pr w K mg base 10) (Fd : Fun K "can_go_on" "can_go_on" st_can_go_on f fd) (hm : mg "can_go_on" = some (.ref f)) : Wld (mkΓ gl L_6) Pr w K mg base 36 := by
  refine wld_rec (P := pGo) W Fd hm (Fd.binds (ps := p_can_go_on) fun _ _ _ _ _ _ us hl => match us, hl with | [_, _, _, _, _], _ => rfl) sc_can_go_on (by decide) ck_can_go_on (fun m ds G q h => ?_) z_go (fun m ds G q h => ?_) goTop
  · unfold pGo at h; (obtain ⟨_, _, _, _, _, _, _, _, rfl, _⟩ := h); rfl
  · exact ok_go (mkΓ_tl rfl mkΓ_hd) mkΓ_hd h
theorem w_7 {f : Addr} {fd : FuncData} (W : Wld (mkΓ gl L_6) Pr w K mg base 36) (Fd : Fun K "first_slots" "first_slots" st_first_slots f fd) (hm : mg "first_slots" = some (.ref f)) : Wld (mkΓ gl L_7) Pr w K mg base 38 := by
  refine wld_def W Fd hm (Fd.binds (ps := p_first_slots) fun _ _ _ _ _ _ us hl => match us, hl with | [_, _, _, _], _ => rfl) sc_first_slots (by decide) ck_first_slots (fun ds G q h => ?_) (fun ds G q h => ?_)
  · unfold pFirst at h; (obtain ⟨_, _, _, _, _, _, rfl, _⟩ := h); rfl
  · exact ok_first (mkΓ_tl rfl mkΓ_hd) mkΓ_hd h
theorem w_8 {f : Addr} {fd : FuncData} (W : Wld (mkΓ gl L_7) Pr w K mg base 38) (Fd : Fun K "lots_of" "lots_of" st_lots_of f fd) (hm : mg "lots_of" = some (.ref f)) : Wld (mkΓ gl L_8) Pr w K mg base 40 := by
  refine wld_def W Fd hm (Fd.binds (ps := p_lots_of) fun _ _ _ _ _ _ us hl => match us, hl with | [_, _], _ => rfl) sc_lots_of (by decide) ck_lots_of (fun ds G q h => ?_) (fun ds G q h => ?_)
  · unfold pLots at h; (obtain ⟨_, _, rfl, _⟩ := h); rfl
  · exact ok_lots  h
theorem w_9 {f : Addr} {fd : FuncData} (W : Wld (mkΓ gl L_8) Pr w K mg base 40) (Fd : Fun K "fewest_barred" "fewest_barred" st_fewest_barred f fd) (hm : mg "fewest_barred" = some (.ref f)) : Wld (mkΓ gl L_9) Pr w K mg base 42 := by
  refine wld_def W Fd hm (Fd.binds (ps := p_fewest_barred) fun _ _ _ _ _ _ us hl => match us, hl with | [_, _, _, _], _ => rfl) sc_fewest_barred (by decide) ck_fewest_barred (fun ds G q h => ?_) (fun ds G q h => ?_)
  · unfold pFewB at h; (obtain ⟨_, _, _, _, _, _, rfl, _⟩ := h); rfl
  · exact ok_fewB mkΓ_hd (mkΓ_tl rfl (mkΓ_tl rfl mkΓ_hd)) h
theorem w_10 {f : Addr} {fd : FuncData} (W : Wld (mkΓ gl L_9) Pr w K mg base 42) (Fd : Fun K "laid" "laid" st_laid f fd) (hm : mg "laid" = some (.ref f)) : Wld (mkΓ gl L_10) Pr w K mg base 44 := by
  refine wld_kw (ks := ["bars"]) (n := 3) (gD := appD) W Fd hm (kbn_of (ps := p_laid) Fd fun _ _ _ _ _ _ us ws hu hw => match us, ws, hu, hw with | [_, _, _], [_], _, _ => rfl) (fun _ _ _ _ _ _ a b => a.append b) (by decide) sc_laid (by decide) ck_laid (fun ds G q h => ?_) (fun ds G q h => ?_)
  · unfold pLaid at h; (obtain ⟨_, _, _, _, _, _, rfl, _⟩ := h); rfl
  · exact ok_laid (mkΓ_tl rfl (mkΓ_tl rfl mkΓ_hd)) mkΓ_hd h
theorem w_11 {f : Addr} {fd : FuncData} (W : Wld (mkΓ gl L_10) Pr w K mg base 44) (Fd : Fun K "is_laid" "is_laid" st_is_laid f fd) (hm : mg "is_laid" = some (.ref f)) : Wld (mkΓ gl L_11) Pr w K mg base 46 := by
  refine wld_kw (ks := ["bars"]) (n := 4) (gD := appD) W Fd hm (kbn_of (ps := p_is_laid) Fd fun _ _ _ _ _ _ us ws hu hw => match us, ws, hu, hw with | [_, _, _, _], [_], _, _ => rfl) (fun _ _ _ _ _ _ a b => a.append b) (by decide) sc_is_laid (by decide) ck_is_laid (fun ds G q h => ?_) (fun ds G q h => ?_)
  · unfold pIsLaid at h; (obtain ⟨_, _, _, _, _, _, _, rfl, _⟩ := h); rfl
  · exact ok_isLaid (mkΓ_tl rfl (mkΓ_tl rfl (mkΓ_tl rfl (mkΓ_tl rfl (mkΓ_tl rfl (mkΓ_tl rfl (mkΓ_tl rfl mkΓ_hd))))))) (mkΓ_tl rfl (mkΓ_tl rfl (mkΓ_tl rfl (mkΓ_tl rfl (mkΓ_tl rfl (mkΓ_tl rfl (mkΓ_tl rfl (mkΓ_tl rfl mkΓ_hd)))))))) (mkΓ_tl rfl (mkΓ_tl rfl (mkΓ_tl rfl (mkΓ_tl rfl (mkΓ_tl rfl (mkΓ_tl rfl mkΓ_hd)))))) h
theorem w_12 {f : Addr} {fd : FuncData} (W : Wld (mkΓ gl L_11) Pr w K mg base 46) (Fd : Fun K "_law_well" "_law_well" st__law_well f fd) (hm : mg "_law_well" = some (.ref f)) : Wld (mkΓ gl L_12) Pr w K mg base 48 := by
  refine wld_def W Fd hm (Fd.binds (ps := p__law_well) fun _ _ _ _ _ _ us hl => match us, hl with | [_, _], _ => rfl) sc__law_well (by decide) ck__law_well (fun ds G q h => ?_) (fun ds G q h => ?_)
  · unfold pWell at h; (obtain ⟨_, _, rfl, _⟩ := h); rfl
  · exact ok_well  h
theorem w_13 {f : Addr} {fd : FuncData} (W : Wld (mkΓ gl L_12) Pr w K mg base 48) (Fd : Fun K "_law_take" "_law_take" st__law_take f fd) (hm : mg "_law_take" = some (.ref f)) : Wld (mkΓ gl L_13) Pr w K mg base 50 := by
  refine wld_def W Fd hm (Fd.binds (ps := p__law_take) fun _ _ _ _ _ _ us hl => match us, hl with | [_, _], _ => rfl) sc__law_take (by decide) ck__law_take (fun ds G q h => ?_) (fun ds G q h => ?_)
  · unfold pTake at h; (obtain ⟨_, _, _, _, _, rfl, _⟩ := h); rfl
  · exact ok_take  h
theorem w_14 {f : Addr} {fd : FuncData} (W : Wld (mkΓ gl L_13) Pr w K mg base 50) (Fd : Fun K "_law_is_int" "_law_is_int" st__law_is_int f fd) (hm : mg "_law_is_int" = some (.ref f)) : Wld (mkΓ gl L_14) Pr w K mg base 52 := by
  refine wld_def W Fd hm (Fd.binds (ps := p__law_is_int) fun _ _ _ _ _ _ us hl => match us, hl with | [_, _, _], _ => rfl) sc__law_is_int (by decide) ck__law_is_int (fun ds G q h => ?_) (fun ds G q h => ?_)
  · unfold pLawInt at h; (obtain ⟨_, _, _, rfl, _⟩ := h); rfl
  · exact ok_lawInt  h
theorem w_15 {f : Addr} {fd : FuncData} (W : Wld (mkΓ gl L_14) Pr w K mg base 52) (Fd : Fun K "_law_says" "_law_says" st__law_says f fd) (hm : mg "_law_says" = some (.ref f)) : Wld (mkΓ gl L_15) Pr w K mg base 54 := by
  refine wld_def W Fd hm (Fd.binds (ps := p__law_says) fun _ _ _ _ _ _ us hl => match us, hl with | [_, _], _ => rfl) sc__law_says (by decide) ck__law_says (fun ds G q h => ?_) (fun ds G q h => ?_)
  · unfold pSays at h; (obtain ⟨_, _, rfl, _⟩ := h); rfl
  · exact ok_says  h
theorem w_16 {f : Addr} {fd : FuncData} (W : Wld (mkΓ gl L_15) Pr w K mg base 54) (Fd : Fun K "_law_thing" "_law_thing" st__law_thing f fd) (hm : mg "_law_thing" = some (.ref f)) : Wld (mkΓ gl L_16) Pr w K mg base 80 := by
  refine wld_rec (P := pThing) W Fd hm (Fd.binds (ps := p__law_thing) fun _ _ _ _ _ _ us hl => match us, hl with | [_, _], _ => rfl) sc__law_thing (by decide) ck__law_thing (fun m ds G q h => ?_) z_thing (fun m ds G q h => ?_) goTop
  · unfold pThing at h; (obtain ⟨_, _, _, _, _, rfl, _⟩ := h); rfl
  · exact ok_thing (mkΓ_tl rfl (mkΓ_tl rfl (mkΓ_tl rfl mkΓ_hd))) mkΓ_hd h
theorem w_17 {f : Addr} {fd : FuncData} (W : Wld (mkΓ gl L_16) Pr w K mg base 80) (Fd : Fun K "_law_otherwise" "_law_otherwise" st__law_otherwise f fd) (hm : mg "_law_otherwise" = some (.ref f)) : Wld (mkΓ gl L_17) Pr w K mg base 106 := by
  refine wld_rec (P := pOther) W Fd hm (Fd.binds (ps := p__law_otherwise) fun _ _ _ _ _ _ us hl => match us, hl with | [_, _, _], _ => rfl) sc__law_otherwise (by decide) ck__law_otherwise (fun m ds G q h => ?_) z_other (fun m ds G q h => ?_) goTop
  · unfold pOther at h; (obtain ⟨_, _, _, _, _, _, _, rfl, _⟩ := h); rfl
  · exact ok_other (mkΓ_tl rfl (mkΓ_tl rfl (mkΓ_tl rfl (mkΓ_tl rfl mkΓ_hd)))) (mkΓ_tl rfl mkΓ_hd) mkΓ_hd h
theorem w_18 {f : Addr} {fd : FuncData} (W : Wld (mkΓ gl L_17) Pr w K mg base 106) (Fd : Fun K "_law_some_names" "_law_some_names" st__law_some_names f fd) (hm : mg "_law_some_names" = some (.ref f)) : Wld (mkΓ gl L_18) Pr w K mg base 108 := by
  refine wld_def W Fd hm (Fd.binds (ps := p__law_some_names) fun _ _ _ _ _ _ us hl => match us, hl with | [_, _], _ => rfl) sc__law_some_names (by decide) ck__law_some_names (fun ds G q h => ?_) (fun ds G q h => ?_)
  · unfold pSome at h; (obtain ⟨_, _, _, _, _, rfl, _⟩ := h); rfl
  · exact ok_some (mkΓ_tl rfl (mkΓ_tl rfl (mkΓ_tl rfl (mkΓ_tl rfl mkΓ_hd)))) h
theorem w_19 {f : Addr} {fd : FuncData} (W : Wld (mkΓ gl L_18) Pr w K mg base 108) (Fd : Fun K "_law_to_lay" "_law_to_lay" st__law_to_lay f fd) (hm : mg "_law_to_lay" = some (.ref f)) : Wld (mkΓ gl L_19) Pr w K mg base 110 := by
  refine wld_def W Fd hm (Fd.binds (ps := p__law_to_lay) fun _ _ _ _ _ _ us hl => match us, hl with | [_, _], _ => rfl) sc__law_to_lay (by decide) ck__law_to_lay (fun ds G q h => ?_) (fun ds G q h => ?_)
  · unfold pToLay at h; (obtain ⟨_, _, _, _, _, rfl, _⟩ := h); rfl
  · exact ok_toLay (mkΓ_tl rfl (mkΓ_tl rfl (mkΓ_tl rfl (mkΓ_tl rfl (mkΓ_tl rfl mkΓ_hd))))) mkΓ_hd h
theorem w_20 {f : Addr} {fd : FuncData} (W : Wld (mkΓ gl L_19) Pr w K mg base 110) (Fd : Fun K "_law_apart" "_law_apart" st__law_apart f fd) (hm : mg "_law_apart" = some (.ref f)) : Wld (mkΓ gl L_20) Pr w K mg base 112 := by
  refine wld_def W Fd hm (Fd.binds (ps := p__law_apart) fun _ _ _ _ _ _ us hl => match us, hl with | [_, _], _ => rfl) sc__law_apart (by decide) ck__law_apart (fun ds G q h => ?_) (fun ds G q h => ?_)
  · unfold pLApart at h; (obtain ⟨_, _, rfl, _⟩ := h); rfl
  · exact ok_lapart  h
theorem w_21 {f : Addr} {fd : FuncData} (W : Wld (mkΓ gl L_20) Pr w K mg base 112) (Fd : Fun K "_law_is_laid" "_law_is_laid" st__law_is_laid f fd) (hm : mg "_law_is_laid" = some (.ref f)) : Wld (mkΓ gl L_21) Pr w K mg base 114 := by
  refine wld_def W Fd hm (Fd.binds (ps := p__law_is_laid) fun _ _ _ _ _ _ us hl => match us, hl with | [_, _, _, _, _], _ => rfl) sc__law_is_laid (by decide) ck__law_is_laid (fun ds G q h => ?_) (fun ds G q h => ?_)
  · unfold pLawLaid at h; (obtain ⟨_, _, _, _, _, rfl, _⟩ := h); rfl
  · exact ok_lawLaid (mkΓ_tl rfl (mkΓ_tl rfl (mkΓ_tl rfl (mkΓ_tl rfl (mkΓ_tl rfl (mkΓ_tl rfl mkΓ_hd)))))) mkΓ_hd h
theorem w_law {f : Addr} {fd : FuncData} (W : Wld (mkΓ gl L_21) Pr w K mg base 114) (Fd : Fun K "law" "law" st_law f fd) : FnOk Pr w K mg base CX0 116 f fd ["script"] (spL K 63) :=
  law_ok Fd sc_law W (fun f h => mkΓ_some ((by decide : ∀ f ∈ F_law, f ∈ L_21.map (·.1)) f h)) ck_law fun is hl => ok_law32 (mkΓ_tl rfl (mkΓ_tl rfl (mkΓ_tl rfl (mkΓ_tl rfl (mkΓ_tl rfl (mkΓ_tl rfl (mkΓ_tl rfl (mkΓ_tl rfl (mkΓ_tl rfl mkΓ_hd))))))))) (mkΓ_tl rfl (mkΓ_tl rfl (mkΓ_tl rfl (mkΓ_tl rfl (mkΓ_tl rfl (mkΓ_tl rfl (mkΓ_tl rfl (mkΓ_tl rfl mkΓ_hd)))))))) (mkΓ_tl rfl (mkΓ_tl rfl mkΓ_hd)) (mkΓ_tl rfl (mkΓ_tl rfl (mkΓ_tl rfl (mkΓ_tl rfl (mkΓ_tl rfl (mkΓ_tl rfl (mkΓ_tl rfl (mkΓ_tl rfl (mkΓ_tl rfl (mkΓ_tl rfl (mkΓ_tl rfl mkΓ_hd))))))))))) (mkΓ_tl rfl (mkΓ_tl rfl (mkΓ_tl rfl (mkΓ_tl rfl (mkΓ_tl rfl mkΓ_hd))))) (mkΓ_tl rfl (mkΓ_tl rfl (mkΓ_tl rfl (mkΓ_tl rfl mkΓ_hd)))) (mkΓ_tl rfl (mkΓ_tl rfl (mkΓ_tl rfl (mkΓ_tl rfl (mkΓ_tl rfl (mkΓ_tl rfl (mkΓ_tl rfl (mkΓ_tl rfl (mkΓ_tl rfl (mkΓ_tl rfl mkΓ_hd)))))))))) mkΓ_hd (mkΓ_tl rfl (mkΓ_tl rfl (mkΓ_tl rfl (mkΓ_tl rfl (mkΓ_tl rfl (mkΓ_tl rfl mkΓ_hd)))))) ⟨is, rfl, hl, fun _ => rfl⟩
end
theorem all_mk {l : PySem.W.OpenLaw} {w : World} {K : PySem.W.Frag} {h : Heap} {mg : Str → Option Value} {fa : Addr} (X : K.In h) (G : h.Ns mainGlobals mg) (hfa : mg "law" = some (.ref fa))
    {f0 f1 f2 f3 f4 f5 f6 f7 f8 f9 f10 f11 f12 f13 f14 f15 f16 f17 f18 f19 f20 f21 : Addr} {od0 an0 od1 an1 od2 an2 od3 an3 od4 an4 od5 an5 od6 an6 od7 an7 od8 an8 od9 an9 od10 an10 od11 an11 od12 an12 od13 an13 od14 an14 od15 an15 od16 an16 od17 an17 od18 an18 od19 an19 od20 an20 od21 an21 : Option Addr} {sl0 sl1 sl2 sl3 sl4 sl5 sl6 sl7 sl8 sl9 sl10 sl11 sl12 sl13 sl14 sl15 sl16 sl17 sl18 sl19 sl20 sl21 : Array (Option Value)} {oc0 kV0 dc0 pm0 cd0 ct0 oc1 kV1 dc1 pm1 cd1 ct1 oc2 kV2 dc2 pm2 cd2 ct2 oc3 kV3 dc3 pm3 cd3 ct3 oc4 kV4 dc4 pm4 cd4 ct4 oc5 kV5 dc5 pm5 cd5 ct5 oc6 kV6 dc6 pm6 cd6 ct6 oc7 kV7 dc7 pm7 cd7 ct7 oc8 kV8 dc8 pm8 cd8 ct8 oc9 kV9 dc9 pm9 cd9 ct9 oc10 kV10 dc10 pm10 cd10 ct10 oc11 kV11 dc11 pm11 cd11 ct11 oc12 kV12 dc12 pm12 cd12 ct12 oc13 kV13 dc13 pm13 cd13 ct13 oc14 kV14 dc14 pm14 cd14 ct14 oc15 kV15 dc15 pm15 cd15 ct15 oc16 kV16 dc16 pm16 cd16 ct16 oc17 kV17 dc17 pm17 cd17 ct17 oc18 kV18 dc18 pm18 cd18 ct18 oc19 kV19 dc19 pm19 cd19 ct19 oc20 kV20 dc20 pm20 cd20 ct20 oc21 kV21 dc21 pm21 cd21 ct21 : Value}
    (a0 : PySem.W.nsIn K mainGlobals "is_int" = some (some (.ref f0))) (l0 : K.lookup f0 = some ⟨oc0, od0, .func (PySem.W.fnOf "is_int" "is_int" (defArgs st_is_int) (defBody st_is_int) (defScope st_is_int) .none kV0 dc0 pm0 an0 cd0 ct0), sl0⟩) (c0 : PySem.W.codeIn K cd0 "is_int" = true) (k0 : PySem.W.keepIn K (.ref f0) = true)
    (a1 : PySem.W.nsIn K mainGlobals "is_whole" = some (some (.ref f1))) (l1 : K.lookup f1 = some ⟨oc1, od1, .func (PySem.W.fnOf "is_whole" "is_whole" (defArgs st_is_whole) (defBody st_is_whole) (defScope st_is_whole) .none kV1 dc1 pm1 an1 cd1 ct1), sl1⟩) (c1 : PySem.W.codeIn K cd1 "is_whole" = true) (k1 : PySem.W.keepIn K (.ref f1) = true)
    (a2 : PySem.W.nsIn K mainGlobals "is_tuple" = some (some (.ref f2))) (l2 : K.lookup f2 = some ⟨oc2, od2, .func (PySem.W.fnOf "is_tuple" "is_tuple" (defArgs st_is_tuple) (defBody st_is_tuple) (defScope st_is_tuple) .none kV2 dc2 pm2 an2 cd2 ct2), sl2⟩) (c2 : PySem.W.codeIn K cd2 "is_tuple" = true) (k2 : PySem.W.keepIn K (.ref f2) = true)
    (a3 : PySem.W.nsIn K mainGlobals "can_stand" = some (some (.ref f3))) (l3 : K.lookup f3 = some ⟨oc3, od3, .func (PySem.W.fnOf "can_stand" "can_stand" (defArgs st_can_stand) (defBody st_can_stand) (defScope st_can_stand) .none kV3 dc3 pm3 an3 cd3 ct3), sl3⟩) (c3 : PySem.W.codeIn K cd3 "can_stand" = true) (k3 : PySem.W.keepIn K (.ref f3) = true)
    (a4 : PySem.W.nsIn K mainGlobals "free_for" = some (some (.ref f4))) (l4 : K.lookup f4 = some ⟨oc4, od4, .func (PySem.W.fnOf "free_for" "free_for" (defArgs st_free_for) (defBody st_free_for) (defScope st_free_for) .none kV4 dc4 pm4 an4 cd4 ct4), sl4⟩) (c4 : PySem.W.codeIn K cd4 "free_for" = true) (k4 : PySem.W.keepIn K (.ref f4) = true)
    (a5 : PySem.W.nsIn K mainGlobals "can_go_on" = some (some (.ref f5))) (l5 : K.lookup f5 = some ⟨oc5, od5, .func (PySem.W.fnOf "can_go_on" "can_go_on" (defArgs st_can_go_on) (defBody st_can_go_on) (defScope st_can_go_on) .none kV5 dc5 pm5 an5 cd5 ct5), sl5⟩) (c5 : PySem.W.codeIn K cd5 "can_go_on" = true) (k5 : PySem.W.keepIn K (.ref f5) = true)
    (a6 : PySem.W.nsIn K mainGlobals "first_slots" = some (some (.ref f6))) (l6 : K.lookup f6 = some ⟨oc6, od6, .func (PySem.W.fnOf "first_slots" "first_slots" (defArgs st_first_slots) (defBody st_first_slots) (defScope st_first_slots) .none kV6 dc6 pm6 an6 cd6 ct6), sl6⟩) (c6 : PySem.W.codeIn K cd6 "first_slots" = true) (k6 : PySem.W.keepIn K (.ref f6) = true)
    (a7 : PySem.W.nsIn K mainGlobals "lots_of" = some (some (.ref f7))) (l7 : K.lookup f7 = some ⟨oc7, od7, .func (PySem.W.fnOf "lots_of" "lots_of" (defArgs st_lots_of) (defBody st_lots_of) (defScope st_lots_of) .none kV7 dc7 pm7 an7 cd7 ct7), sl7⟩) (c7 : PySem.W.codeIn K cd7 "lots_of" = true) (k7 : PySem.W.keepIn K (.ref f7) = true)
    (a8 : PySem.W.nsIn K mainGlobals "fewest_barred" = some (some (.ref f8))) (l8 : K.lookup f8 = some ⟨oc8, od8, .func (PySem.W.fnOf "fewest_barred" "fewest_barred" (defArgs st_fewest_barred) (defBody st_fewest_barred) (defScope st_fewest_barred) .none kV8 dc8 pm8 an8 cd8 ct8), sl8⟩) (c8 : PySem.W.codeIn K cd8 "fewest_barred" = true) (k8 : PySem.W.keepIn K (.ref f8) = true)
    (a9 : PySem.W.nsIn K mainGlobals "laid" = some (some (.ref f9))) (l9 : K.lookup f9 = some ⟨oc9, od9, .func (PySem.W.fnOf "laid" "laid" (defArgs st_laid) (defBody st_laid) (defScope st_laid) .none kV9 dc9 pm9 an9 cd9 ct9), sl9⟩) (c9 : PySem.W.codeIn K cd9 "laid" = true) (k9 : PySem.W.keepIn K (.ref f9) = true)
    (a10 : PySem.W.nsIn K mainGlobals "is_laid" = some (some (.ref f10))) (l10 : K.lookup f10 = some ⟨oc10, od10, .func (PySem.W.fnOf "is_laid" "is_laid" (defArgs st_is_laid) (defBody st_is_laid) (defScope st_is_laid) .none kV10 dc10 pm10 an10 cd10 ct10), sl10⟩) (c10 : PySem.W.codeIn K cd10 "is_laid" = true) (k10 : PySem.W.keepIn K (.ref f10) = true)
    (a11 : PySem.W.nsIn K mainGlobals "_law_well" = some (some (.ref f11))) (l11 : K.lookup f11 = some ⟨oc11, od11, .func (PySem.W.fnOf "_law_well" "_law_well" (defArgs st__law_well) (defBody st__law_well) (defScope st__law_well) .none kV11 dc11 pm11 an11 cd11 ct11), sl11⟩) (c11 : PySem.W.codeIn K cd11 "_law_well" = true) (k11 : PySem.W.keepIn K (.ref f11) = true)
    (a12 : PySem.W.nsIn K mainGlobals "_law_take" = some (some (.ref f12))) (l12 : K.lookup f12 = some ⟨oc12, od12, .func (PySem.W.fnOf "_law_take" "_law_take" (defArgs st__law_take) (defBody st__law_take) (defScope st__law_take) .none kV12 dc12 pm12 an12 cd12 ct12), sl12⟩) (c12 : PySem.W.codeIn K cd12 "_law_take" = true) (k12 : PySem.W.keepIn K (.ref f12) = true)
    (a13 : PySem.W.nsIn K mainGlobals "_law_is_int" = some (some (.ref f13))) (l13 : K.lookup f13 = some ⟨oc13, od13, .func (PySem.W.fnOf "_law_is_int" "_law_is_int" (defArgs st__law_is_int) (defBody st__law_is_int) (defScope st__law_is_int) .none kV13 dc13 pm13 an13 cd13 ct13), sl13⟩) (c13 : PySem.W.codeIn K cd13 "_law_is_int" = true) (k13 : PySem.W.keepIn K (.ref f13) = true)
    (a14 : PySem.W.nsIn K mainGlobals "_law_says" = some (some (.ref f14))) (l14 : K.lookup f14 = some ⟨oc14, od14, .func (PySem.W.fnOf "_law_says" "_law_says" (defArgs st__law_says) (defBody st__law_says) (defScope st__law_says) .none kV14 dc14 pm14 an14 cd14 ct14), sl14⟩) (c14 : PySem.W.codeIn K cd14 "_law_says" = true) (k14 : PySem.W.keepIn K (.ref f14) = true)
    (a15 : PySem.W.nsIn K mainGlobals "_law_thing" = some (some (.ref f15))) (l15 : K.lookup f15 = some ⟨oc15, od15, .func (PySem.W.fnOf "_law_thing" "_law_thing" (defArgs st__law_thing) (defBody st__law_thing) (defScope st__law_thing) .none kV15 dc15 pm15 an15 cd15 ct15), sl15⟩) (c15 : PySem.W.codeIn K cd15 "_law_thing" = true) (k15 : PySem.W.keepIn K (.ref f15) = true)
    (a16 : PySem.W.nsIn K mainGlobals "_law_otherwise" = some (some (.ref f16))) (l16 : K.lookup f16 = some ⟨oc16, od16, .func (PySem.W.fnOf "_law_otherwise" "_law_otherwise" (defArgs st__law_otherwise) (defBody st__law_otherwise) (defScope st__law_otherwise) .none kV16 dc16 pm16 an16 cd16 ct16), sl16⟩) (c16 : PySem.W.codeIn K cd16 "_law_otherwise" = true) (k16 : PySem.W.keepIn K (.ref f16) = true)
    (a17 : PySem.W.nsIn K mainGlobals "_law_some_names" = some (some (.ref f17))) (l17 : K.lookup f17 = some ⟨oc17, od17, .func (PySem.W.fnOf "_law_some_names" "_law_some_names" (defArgs st__law_some_names) (defBody st__law_some_names) (defScope st__law_some_names) .none kV17 dc17 pm17 an17 cd17 ct17), sl17⟩) (c17 : PySem.W.codeIn K cd17 "_law_some_names" = true) (k17 : PySem.W.keepIn K (.ref f17) = true)
    (a18 : PySem.W.nsIn K mainGlobals "_law_to_lay" = some (some (.ref f18))) (l18 : K.lookup f18 = some ⟨oc18, od18, .func (PySem.W.fnOf "_law_to_lay" "_law_to_lay" (defArgs st__law_to_lay) (defBody st__law_to_lay) (defScope st__law_to_lay) .none kV18 dc18 pm18 an18 cd18 ct18), sl18⟩) (c18 : PySem.W.codeIn K cd18 "_law_to_lay" = true) (k18 : PySem.W.keepIn K (.ref f18) = true)
    (a19 : PySem.W.nsIn K mainGlobals "_law_apart" = some (some (.ref f19))) (l19 : K.lookup f19 = some ⟨oc19, od19, .func (PySem.W.fnOf "_law_apart" "_law_apart" (defArgs st__law_apart) (defBody st__law_apart) (defScope st__law_apart) .none kV19 dc19 pm19 an19 cd19 ct19), sl19⟩) (c19 : PySem.W.codeIn K cd19 "_law_apart" = true) (k19 : PySem.W.keepIn K (.ref f19) = true)
    (a20 : PySem.W.nsIn K mainGlobals "_law_is_laid" = some (some (.ref f20))) (l20 : K.lookup f20 = some ⟨oc20, od20, .func (PySem.W.fnOf "_law_is_laid" "_law_is_laid" (defArgs st__law_is_laid) (defBody st__law_is_laid) (defScope st__law_is_laid) .none kV20 dc20 pm20 an20 cd20 ct20), sl20⟩) (c20 : PySem.W.codeIn K cd20 "_law_is_laid" = true) (k20 : PySem.W.keepIn K (.ref f20) = true)
    (a21 : PySem.W.nsIn K mainGlobals "law" = some (some (.ref f21))) (l21 : K.lookup f21 = some ⟨oc21, od21, .func (PySem.W.fnOf "law" "law" (defArgs st_law) (defBody st_law) (defScope st_law) .none kV21 dc21 pm21 an21 cd21 ct21), sl21⟩) (c21 : PySem.W.codeIn K cd21 "law" = true) (k21 : PySem.W.keepIn K (.ref f21) = true)
    (z0 : PySem.W.nsIn K mainGlobals "len" = some none)
    (z1 : PySem.W.nsIn K mainGlobals "sum" = some none)
    (z2 : PySem.W.nsIn K mainGlobals "all" = some none)
    (z3 : PySem.W.nsIn K mainGlobals "any" = some none)
    (z4 : PySem.W.nsIn K mainGlobals "min" = some none)
    (z5 : PySem.W.nsIn K mainGlobals "max" = some none)
    (z6 : PySem.W.nsIn K mainGlobals "sorted" = some none)
    (z7 : PySem.W.nsIn K mainGlobals "tuple" = some none)
    (z8 : PySem.W.nsIn K mainGlobals "list" = some none)
    (z9 : PySem.W.nsIn K mainGlobals "set" = some none)
    (z10 : PySem.W.nsIn K mainGlobals "dict" = some none)
    (z11 : PySem.W.nsIn K mainGlobals "int" = some none)
    (z12 : PySem.W.nsIn K mainGlobals "str" = some none)
    (z13 : PySem.W.nsIn K mainGlobals "abs" = some none)
    (z14 : PySem.W.nsIn K mainGlobals "isinstance" = some none)
    (z15 : PySem.W.nsIn K mainGlobals "range" = some none)
    (z16 : PySem.W.nsIn K mainGlobals "enumerate" = some none)
    (z17 : PySem.W.nsIn K mainGlobals "zip" = some none)
    (z18 : PySem.W.nsIn K mainGlobals "bool" = some none)
    : ∃ fd : FuncData, (∀ (s : Shared) (v : Value), BindsTo s fd ⟨[v], []⟩ [("script", v)]) ∧ ∀ base : Heap, K.In base → base.Ns mainGlobals mg → FnOk l.prog w K mg base CX0 116 fa fd ["script"] (spL K 63) := by
  have e := hfa.symm.trans (PySem.W.mg_of X G a21)
  cases e
  refine ⟨PySem.W.fnOf "law" "law" (defArgs st_law) (defBody st_law) (defScope st_law) .none kV21 dc21 pm21 an21 cd21 ct21, fun s v => .of_eq rfl, fun base _ _ => ?_⟩
  have W0 : Wld (mkΓ gl L_0) l.prog w K mg base 0 := wld_nil 0 (nobs_of X G (⟨z0, z1, z2, z3, z4, z5, z6, z7, z8, z9, z10, z11, z12, z13, z14, z15, z16, z17, z18, trivial⟩)) fun x d e => by
    cases e
  have W1 := w_1 W0 (fun_mk (st := st_is_int) l0 c0 k0) (PySem.W.mg_of X G a0)
  have W2 := w_2 W1 (fun_mk (st := st_is_whole) l1 c1 k1) (PySem.W.mg_of X G a1)
  have W3 := w_3 W2 (fun_mk (st := st_is_tuple) l2 c2 k2) (PySem.W.mg_of X G a2)
  have W4 := w_4 W3 (fun_mk (st := st_can_stand) l3 c3 k3) (PySem.W.mg_of X G a3)
  have W5 := w_5 W4 (fun_mk (st := st_free_for) l4 c4 k4) (PySem.W.mg_of X G a4)
  have W6 := w_6 W5 (fun_mk (st := st_can_go_on) l5 c5 k5) (PySem.W.mg_of X G a5)
  have W7 := w_7 W6 (fun_mk (st := st_first_slots) l6 c6 k6) (PySem.W.mg_of X G a6)
  have W8 := w_8 W7 (fun_mk (st := st_lots_of) l7 c7 k7) (PySem.W.mg_of X G a7)
  have W9 := w_9 W8 (fun_mk (st := st_fewest_barred) l8 c8 k8) (PySem.W.mg_of X G a8)
  have W10 := w_10 W9 (fun_mk (st := st_laid) l9 c9 k9) (PySem.W.mg_of X G a9)
  have W11 := w_11 W10 (fun_mk (st := st_is_laid) l10 c10 k10) (PySem.W.mg_of X G a10)
  have W12 := w_12 W11 (fun_mk (st := st__law_well) l11 c11 k11) (PySem.W.mg_of X G a11)
  have W13 := w_13 W12 (fun_mk (st := st__law_take) l12 c12 k12) (PySem.W.mg_of X G a12)
  have W14 := w_14 W13 (fun_mk (st := st__law_is_int) l13 c13 k13) (PySem.W.mg_of X G a13)
  have W15 := w_15 W14 (fun_mk (st := st__law_says) l14 c14 k14) (PySem.W.mg_of X G a14)
  have W16 := w_16 W15 (fun_mk (st := st__law_thing) l15 c15 k15) (PySem.W.mg_of X G a15)
  have W17 := w_17 W16 (fun_mk (st := st__law_otherwise) l16 c16 k16) (PySem.W.mg_of X G a16)
  have W18 := w_18 W17 (fun_mk (st := st__law_some_names) l17 c17 k17) (PySem.W.mg_of X G a17)
  have W19 := w_19 W18 (fun_mk (st := st__law_to_lay) l18 c18 k18) (PySem.W.mg_of X G a18)
  have W20 := w_20 W19 (fun_mk (st := st__law_apart) l19 c19 k19) (PySem.W.mg_of X G a19)
  have W21 := w_21 W20 (fun_mk (st := st__law_is_laid) l20 c20 k20) (PySem.W.mg_of X G a20)
  exact w_law W21 (fun_mk (st := st_law) l21 c21 k21)
end C
open PySem PySem.W PyProof.Rows
set_option maxHeartbeats 0 in
theorem PySem.Challenge.cw_callhouse_k32_layings_spoilt_holds : PySem.Challenge.rw_callhouse_k32_layings_spoilt.Holds := by
  w_on; o_law; k_head; (case hw => w_witness2)
  k_fill
  refine L2.walk_of (l := PySem.Challenge.rw_callhouse_k32_layings_spoilt) (n := 63) (k := 116) (x := "script") (CX := fun _ => L2.CX0) (sp := fun w => T.spL _ 63) rfl (by decide) rfl ⟨rfl, by decide, by decide⟩ (fun w h Y => PySem.W.kIn_of Y) ?F (fun _ _ a ns hl _ hS => ⟨a, ns, rfl, hS, hl, fun _ => rfl⟩) (fun _ _ _ _ _ h => h)
  case F =>
    intro w mg fa h KX G hmg
    refine' C.all_mk KX G hmg ?a0 ?l0 ?c0 ?k0 ?a1 ?l1 ?c1 ?k1 ?a2 ?l2 ?c2 ?k2 ?a3 ?l3 ?c3 ?k3 ?a4 ?l4 ?c4 ?k4 ?a5 ?l5 ?c5 ?k5 ?a6 ?l6 ?c6 ?k6 ?a7 ?l7 ?c7 ?k7 ?a8 ?l8 ?c8 ?k8 ?a9 ?l9 ?c9 ?k9 ?a10 ?l10 ?c10 ?k10 ?a11 ?l11 ?c11 ?k11 ?a12 ?l12 ?c12 ?k12 ?a13 ?l13 ?c13 ?k13 ?a14 ?l14 ?c14 ?k14 ?a15 ?l15 ?c15 ?k15 ?a16 ?l16 ?c16 ?k16 ?a17 ?l17 ?c17 ?k17 ?a18 ?l18 ?c18 ?k18 ?a19 ?l19 ?c19 ?k19 ?a20 ?l20 ?c20 ?k20 ?a21 ?l21 ?c21 ?k21 ?z0 ?z1 ?z2 ?z3 ?z4 ?z5 ?z6 ?z7 ?z8 ?z9 ?z10 ?z11 ?z12 ?z13 ?z14 ?z15 ?z16 ?z17 ?z18
    (case a0 => k_is)
    (case l0 => k_is)
    (case c0 => k_is)
    (case k0 => k_is)
    (case a1 => k_is)
    (case l1 => k_is)
    (case c1 => k_is)
    (case k1 => k_is)
    (case a2 => k_is)
    (case l2 => k_is)
    (case c2 => k_is)
    (case k2 => k_is)
    (case a3 => k_is)
    (case l3 => k_is)
    (case c3 => k_is)
    (case k3 => k_is)
    (case a4 => k_is)
    (case l4 => k_is)
    (case c4 => k_is)
    (case k4 => k_is)
    (case a5 => k_is)
    (case l5 => k_is)
    (case c5 => k_is)
    (case k5 => k_is)
    (case a6 => k_is)
    (case l6 => k_is)
    (case c6 => k_is)
    (case k6 => k_is)
    (case a7 => k_is)
    (case l7 => k_is)
    (case c7 => k_is)
    (case k7 => k_is)
    (case a8 => k_is)
    (case l8 => k_is)
    (case c8 => k_is)
    (case k8 => k_is)
    (case a9 => k_is)
    (case l9 => k_is)
    (case c9 => k_is)
    (case k9 => k_is)
    (case a10 => k_is)
    (case l10 => k_is)
    (case c10 => k_is)
    (case k10 => k_is)
    (case a11 => k_is)
    (case l11 => k_is)
    (case c11 => k_is)
    (case k11 => k_is)
    (case a12 => k_is)
    (case l12 => k_is)
    (case c12 => k_is)
    (case k12 => k_is)
    (case a13 => k_is)
    (case l13 => k_is)
    (case c13 => k_is)
    (case k13 => k_is)
    (case a14 => k_is)
    (case l14 => k_is)
    (case c14 => k_is)
    (case k14 => k_is)
    (case a15 => k_is)
    (case l15 => k_is)
    (case c15 => k_is)
    (case k15 => k_is)
    (case a16 => k_is)
    (case l16 => k_is)
    (case c16 => k_is)
    (case k16 => k_is)
    (case a17 => k_is)
    (case l17 => k_is)
    (case c17 => k_is)
    (case k17 => k_is)
    (case a18 => k_is)
    (case l18 => k_is)
    (case c18 => k_is)
    (case k18 => k_is)
    (case a19 => k_is)
    (case l19 => k_is)
    (case c19 => k_is)
    (case k19 => k_is)
    (case a20 => k_is)
    (case l20 => k_is)
    (case c20 => k_is)
    (case k20 => k_is)
    (case a21 => k_is)
    (case l21 => k_is)
    (case c21 => k_is)
    (case k21 => k_is)
    (case z0 => k_is)
    (case z1 => k_is)
    (case z2 => k_is)
    (case z3 => k_is)
    (case z4 => k_is)
    (case z5 => k_is)
    (case z6 => k_is)
    (case z7 => k_is)
    (case z8 => k_is)
    (case z9 => k_is)
    (case z10 => k_is)
    (case z11 => k_is)
    (case z12 => k_is)
    (case z13 => k_is)
    (case z14 => k_is)
    (case z15 => k_is)
    (case z16 => k_is)
    (case z17 => k_is)
    (case z18 => k_is)
end
