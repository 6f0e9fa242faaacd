import PyProof.Rows.All
import Wide.All
import OpenK.AllK
import Wide.FinOn
import HandS.ForMost
import HandS.TupAny
import HandS.TupMul
import HandS.TupLe
import HandS.Deep
import HandS.Strs
import HandS.SetFor
import HandS.SortOrd
import HandS.TupSets
import HandS.DictTup
import HandS.DictEq
import HandS.IsInst
import HandS.Zip
import HandS.Conv
import HandS.Wide
import KE.KDictKeyed
import HandS.SortInts
import PySem.Challenge.RW_flankturns_k34_whole_wished_ends
import HandS.NamedTupSort
import KE.GoesEnum
import KE.GoesMore
import HandS.Zip0
import KE.KDictWalk
import KE.KDictDisplayH
import KE.KDictSum
import HandS.Codes
import KE.GoesZip
import KE.KDictZip
import KE.SortData
import KE.DatumOrd
set_option Elab.async false
set_option linter.all false
set_option maxRecDepth 100000
/-! text DL1 -/
/-! DL1: a data layer over the hand layer: values as trees (D), environments of data, judgements EvP, WSs. -/
namespace DL
open PySem PySem.Spec L2
open PyProof.Rows hiding St
/-! ### data -/
inductive D where
  | non | bl (b : Bool) | int (i : Int) | ty (n : String)
  | tup (xs : List D) | lst (xs : List D)
  | dI (kvs : List (Int × D)) | dT (kvs : List (List Int × D))
  | obj (C : Addr) (fs : List (Str × D))
  | self (x C : Addr) (fs : List (Str × D))
  | row
  | adr (a : Addr)
  | dL (kvs : List (Int × D))
  | dN (w : World) (kvs : List ((List Int × List Int) × D))
/-- a key that is a pair of tuples of ints -/
abbrev NK := List Int × List Int
def nkey (k : NK) : NestedKey := .tup [.tup (k.1.map NestedKey.num), .tup (k.2.map NestedKey.num)]
/-- the object at a is o -/
def HObj (a : Addr) (o : Obj) : HO := .ext fun h => h.get? a = some o
/-- o is a dict with such keys: where the keys and the values stand -/
def NOb (w : World) (a : Addr) (o : Obj) (xs : List (NK × Addr × Addr)) : Prop := o.ExactDict ∧ (a == sysModules) = false ∧ xs.length ≤ 100000 ∧ (xs.map (·.1)).Nodup ∧ ∃ es ep, o.data = .dict es ep ∧ es.toList = xs.map fun x => ⟨(nkey x.1).hash w, .ref x.2.1, .ref x.2.2⟩
def KeyAt (G : Hp) (k : NK) (a : Addr) : Prop := ∃ p q, G a = some (.tup [.ref p, .ref q]) ∧ G p = some (.tup (k.1.map V.int)) ∧ G q = some (.tup (k.2.map V.int))
mutual
inductive DV (r : Option Addr) (G : Hp) : V → D → Prop
  | non : DV r G .non .non
  | bl (b : Bool) : DV r G (.bl b) (.bl b)
  | int (i : Int) : DV r G (.int i) (.int i)
  | ty (n : String) : DV r G (.ty n) (.ty n)
  | tup {a : Addr} {vs : List V} {ds : List D} : G a = some (.tup vs) → DVs r G vs ds → DV r G (.ref a) (.tup ds)
  | lst {a : Addr} {vs : List V} {ds : List D} : G a = some (.lst vs) → DVs r G vs ds → DV r G (.ref a) (.lst ds)
  | dI {a : Addr} {kvs : List (Key × V)} {ds : List (Int × D)} : Rd G a (.dK kvs) → kvs.map (·.1) = ds.map (fun p => (Sum.inl p.1 : Key)) → DVs r G (kvs.map (·.2)) (ds.map (·.2)) → DV r G (.ref a) (.dI ds)
  | dT {a : Addr} {kvs : List (List Key × V)} {ds : List (List Int × D)} : Rd G a (.dT kvs) → kvs.map (·.1) = ds.map (fun p => p.1.map (fun i => (Sum.inl i : Key))) → DVs r G (kvs.map (·.2)) (ds.map (·.2)) → DV r G (.ref a) (.dT ds)
  | obj {a C dx : Addr} {fs : List (Str × V)} {ds : List (Str × D)} : G a = some (.ins C dx fs) → fs.map (·.1) = ds.map (·.1) → DVs r G (fs.map (·.2)) (ds.map (·.2)) → DV r G (.ref a) (.obj C ds)
  | self {a C dx : Addr} {fs : List (Str × V)} {ds : List (Str × D)} : G a = some (.ins C dx fs) → fs.map (·.1) = ds.map (·.1) → DVs r G (fs.map (·.2)) (ds.map (·.2)) → DV r G (.ref a) (.self a C ds)
  | row {a : Addr} : r = some a → DV r G (.ref a) .row
  | adr (a : Addr) : DV r G (.ref a) (.adr a)
  | dL {a : Addr} {ob : Obj} {kvs : List (Key × V)} {ds : List (Int × D)} : G a = some (.frz ob (.dK kvs)) → kvs.map (·.1) = ds.map (fun p => (Sum.inl p.1 : Key)) → DVs r G (kvs.map (·.2)) (ds.map (·.2)) → DV r G (.ref a) (.dL ds)
  | dN {w : World} {a : Addr} {ob : Obj} {xs : List (NK × Addr × Addr)} {ds : List (NK × D)} : G a = some (HObj a ob) → NOb w a ob xs → xs.map (·.1) = ds.map (·.1) → (∀ x ∈ xs, KeyAt G x.1 x.2.1) → DVs r G (xs.map fun x => V.ref x.2.2) (ds.map (·.2)) → DV r G (.ref a) (.dN w ds)
inductive DVs (r : Option Addr) (G : Hp) : List V → List D → Prop
  | nil : DVs r G [] []
  | cons {v : V} {vs : List V} {d : D} {ds : List D} : DV r G v d → DVs r G vs ds → DVs r G (v :: vs) (d :: ds)
end
/-- a heap that reads the same (locked or not) and more -/
def SubR (G G' : Hp) : Prop := (∀ a o, G a = some o → (∀ ob u, o ≠ .frz ob u) → (∀ kvs, o ≠ .dK kvs) → (∀ kvs, o ≠ .dT kvs) → G' a = some o) ∧ (∀ a kvs, Rd G a (.dK kvs) → Rd G' a (.dK kvs)) ∧ (∀ a kvs, Rd G a (.dT kvs) → Rd G' a (.dT kvs)) ∧ ∀ a ob kvs, G a = some (.frz ob (.dK kvs)) → G' a = some (.frz ob (.dK kvs))
def Sub (G G' : Hp) : Prop := ∀ a o, G a = some o → G' a = some o
theorem Sub.refl (G : Hp) : Sub G G := fun _ _ h => h
theorem Sub.trans {G G1 G2 : Hp} (a : Sub G G1) (b : Sub G1 G2) : Sub G G2 := fun x o h => b x o (a x o h)
theorem Sub.rd {G G' : Hp} (h : Sub G G') {a : Addr} {u : HO} (e : Rd G a u) : Rd G' a u := by
  rcases e with e | ⟨o, e⟩
  · exact .inl (h _ _ e)
  · exact .inr ⟨o, h _ _ e⟩
theorem Sub.r {G G' : Hp} (h : Sub G G') : SubR G G' := ⟨fun a o e _ _ _ => h a o e, fun _ _ e => h.rd e, fun _ _ e => h.rd e, fun a _ _ e => h a _ e⟩
mutual
theorem DV.monoR {r : Option Addr} {G G' : Hp} (h : SubR G G') : ∀ {v : V} {d : D}, DV r G v d → DV r G' v d
  | _, _, .non => .non
  | _, _, .bl b => .bl b
  | _, _, .int i => .int i
  | _, _, .ty n => .ty n
  | _, _, .tup e t => .tup (h.1 _ _ e (fun _ _ z => nomatch z) (fun _ z => nomatch z) (fun _ z => nomatch z)) (DVs.monoR h t)
  | _, _, .lst e t => .lst (h.1 _ _ e (fun _ _ z => nomatch z) (fun _ z => nomatch z) (fun _ z => nomatch z)) (DVs.monoR h t)
  | _, _, .dI e k t => .dI (h.2.1 _ _ e) k (DVs.monoR h t)
  | _, _, .dT e k t => .dT (h.2.2.1 _ _ e) k (DVs.monoR h t)
  | _, _, .obj e k t => .obj (h.1 _ _ e (fun _ _ z => nomatch z) (fun _ z => nomatch z) (fun _ z => nomatch z)) k (DVs.monoR h t)
  | _, _, .self e k t => .self (h.1 _ _ e (fun _ _ z => nomatch z) (fun _ z => nomatch z) (fun _ z => nomatch z)) k (DVs.monoR h t)
  | _, _, .row e => .row e
  | _, _, .adr a => .adr a
  | _, _, .dL e k t => .dL (h.2.2.2 _ _ _ e) k (DVs.monoR h t)
  | _, _, .dN e n k ks t => .dN (h.1 _ _ e (fun _ _ z => nomatch z) (fun _ z => nomatch z) (fun _ z => nomatch z)) n k (fun x hx => let ⟨p, q, a, b, c⟩ := ks x hx; ⟨p, q, h.1 _ _ a (fun _ _ z => nomatch z) (fun _ z => nomatch z) (fun _ z => nomatch z), h.1 _ _ b (fun _ _ z => nomatch z) (fun _ z => nomatch z) (fun _ z => nomatch z), h.1 _ _ c (fun _ _ z => nomatch z) (fun _ z => nomatch z) (fun _ z => nomatch z)⟩) (DVs.monoR h t)
theorem DVs.monoR {r : Option Addr} {G G' : Hp} (h : SubR G G') : ∀ {vs : List V} {ds : List D}, DVs r G vs ds → DVs r G' vs ds
  | _, _, .nil => .nil
  | _, _, .cons e t => .cons (DV.monoR h e) (DVs.monoR h t)
end
theorem DV.mono {r : Option Addr} {G G' : Hp} (h : Sub G G') {v : V} {d : D} (x : DV r G v d) : DV r G' v d := x.monoR h.r
theorem DVs.mono {r : Option Addr} {G G' : Hp} (h : Sub G G') {v : List V} {d : List D} (x : DVs r G v d) : DVs r G' v d := x.monoR h.r
theorem DVs.length {r : Option Addr} {G : Hp} : ∀ {vs : List V} {ds : List D}, DVs r G vs ds → vs.length = ds.length
  | _, _, .nil => rfl
  | _, _, .cons _ t => by rw [List.length_cons, List.length_cons, DVs.length t]
theorem DVs.get {r : Option Addr} {G : Hp} : ∀ {vs : List V} {ds : List D} {i : Nat} {d : D}, DVs r G vs ds → ds[i]? = some d → ∃ v, vs[i]? = some v ∧ DV r G v d
  | _, _, _, _, .nil, e => by simp at  e
  | _, _, 0, _, .cons x _, e => by simp at e; subst e; exact ⟨_, rfl, x⟩
  | _, _, i + 1, d, .cons _ t, e => by
    obtain ⟨v, h1, h2⟩ := DVs.get (i := i) (d := d) t (by simpa using e)
    exact ⟨v, by simpa using h1, h2⟩
theorem DVs.getV {r : Option Addr} {G : Hp} : ∀ {vs : List V} {ds : List D} {i : Nat} {v : V}, DVs r G vs ds → vs[i]? = some v → ∃ d, ds[i]? = some d ∧ DV r G v d
  | _, _, _, _, .nil, e => by simp at  e
  | _, _, 0, _, .cons x _, e => by simp at e; subst e; exact ⟨_, rfl, x⟩
  | _, _, i + 1, v, .cons _ t, e => by
    obtain ⟨d, h1, h2⟩ := DVs.getV (i := i) (v := v) t (by simpa using e)
    exact ⟨d, by simpa using h1, h2⟩
theorem DVs.append {r : Option Addr} {G : Hp} : ∀ {vs ws : List V} {ds es : List D}, DVs r G vs ds → DVs r G ws es → DVs r G (vs ++ ws) (ds ++ es)
  | _, _, _, _, .nil, s => s
  | _, _, _, _, .cons x t, s => .cons x (DVs.append t s)
theorem DVs.take {r : Option Addr} {G : Hp} : ∀ {vs : List V} {ds : List D} (n : Nat), DVs r G vs ds → DVs r G (vs.take n) (ds.take n)
  | _, _, 0, _ => .nil
  | _, _, _ + 1, .nil => .nil
  | _, _, n + 1, .cons x t => .cons x (DVs.take n t)
theorem DVs.drop {r : Option Addr} {G : Hp} : ∀ {vs : List V} {ds : List D} (n : Nat), DVs r G vs ds → DVs r G (vs.drop n) (ds.drop n)
  | _, _, 0, t => t
  | _, _, _ + 1, .nil => .nil
  | _, _, n + 1, .cons _ t => DVs.drop n t
theorem DVs.set {r : Option Addr} {G : Hp} {v : V} {d : D} (x : DV r G v d) : ∀ {vs : List V} {ds : List D} (i : Nat), DVs r G vs ds → DVs r G (vs.set i v) (ds.set i d)
  | _, _, _, .nil => .nil
  | _, _, 0, .cons _ t => .cons x t
  | _, _, i + 1, .cons y t => .cons y (DVs.set x i t)
theorem DVs.replicate {r : Option Addr} {G : Hp} {v : V} {d : D} (x : DV r G v d) : ∀ n : Nat, DVs r G (List.replicate n v) (List.replicate n d)
  | 0 => .nil
  | n + 1 => .cons x (DVs.replicate x n)
/-- lists of ints -/
theorem DVs.ints {r : Option Addr} {G : Hp} : ∀ {vs : List V} {ns : List Int}, DVs r G vs (ns.map D.int) → vs = ns.map V.int
  | _, [], .nil => rfl
  | _, _ :: _, .cons (.int _) t => by rw [List.map_cons, DVs.ints t]
theorem DVs.of_ints {r : Option Addr} {G : Hp} : ∀ ns : List Int, DVs r G (ns.map V.int) (ns.map D.int)
  | [] => .nil
  | n :: r => .cons (.int n) (DVs.of_ints r)
theorem DVs.bls {r : Option Addr} {G : Hp} : ∀ {vs : List V} {ns : List Bool}, DVs r G vs (ns.map D.bl) → vs = ns.map V.bl
  | _, [], .nil => rfl
  | _, _ :: _, .cons (.bl _) t => by rw [List.map_cons, DVs.bls t]
/-! ### static context -/
structure Cfg where
  P : Program
  w : World
  K : PySem.W.Frag
  mg : Str → Option Value
  base : Heap
  N : List Str
  sc : Scope
  lv : Nat
  /-- a def's own body (no comprehension's block) -/
  dd : Bool
  /-- where the row of draws stands, the script, its ints -/
  r : Option Addr
  rs : Addr
  ns : List Int
structure XOk (C : Cfg) (X : Cx) : Prop where
  P : C.P = X.prog
  w : C.w = X.w
  K : C.K = X.K
  mg : C.mg = X.mg
  base : C.base = X.base
  N : C.N = X.N
  sc : C.sc = X.env.scope
  calm : X.calm = true
  room : Room C.lv X.A
  fn : C.dd = true → ∀ x, X.fn x = true
  xe : X.xe = fun _ _ => False
/-- the row of draws stands -/
def RowAt (C : Cfg) (H : Hp) (a : Addr) : Prop := ∃ (i seed great : Int), H a = some (.lst [.ref C.rs, .int i, .int seed, .int great]) ∧ SqL C.K H C.rs (C.ns.map V.int) ∧ 0 ≤ i ∧ 0 ≤ seed ∧ seed < 2147483647 ∧ 0 ≤ great
def RowOk (C : Cfg) (H : Hp) : Prop := ∀ a, C.r = some a → RowAt C H a
/-- a list of ints that the top has written -/
def KSq (C : Cfg) : Prop := ∃ (o : Obj) (its : Array Value) (n : Nat), C.K.lookup C.rs = some o ∧ o.cls = .type "list" ∧ o.dict = none ∧ o.data = .seq its n ∧ its.size ≤ sizeLine ∧ Vals (C.ns.map V.int) its.toList
def Fr (r : Option Addr) (H H' : Hp) : Prop := ∀ a o, some a ≠ r → H a = some o → H' a = some o
def Ext (C : Cfg) (H H' : Hp) : Prop := Fr C.r H H' ∧ (RowOk C H → RowOk C H')
theorem Ext.refl (C : Cfg) (H : Hp) : Ext C H H := ⟨fun _ _ _ h => h, fun h => h⟩
theorem Ext.trans {C : Cfg} {H H1 H2 : Hp} (a : Ext C H H1) (b : Ext C H1 H2) : Ext C H H2 := ⟨fun x o n h => b.1 x o n (a.1 x o n h), fun h => b.2 (a.2 h)⟩
theorem sq_int_ne {ns : List Int} {sa : Addr} {xs : List V} : ns.map V.int ≠ V.ref sa :: xs := by
  cases ns with
  | nil => intro h; cases h
  | cons n r => intro h; injection h with h1 _; cases h1
theorem RowAt.ne {C : Cfg} {H : Hp} {a : Addr} (x : RowAt C H a) {u : HO} (e : Rd H C.rs (.lst (C.ns.map V.int))) : C.rs ≠ a := fun z => by
  obtain ⟨i, seed, great, q, _⟩ := x
  rw [z] at e
  rcases e with e | ⟨ob, e⟩
  · rw [q] at e; injection e with e; injection e with e; exact sq_int_ne e.symm
  · rw [q] at e; injection e with e; cases e
theorem RowAt.keep {C : Cfg} {H H' : Hp} {a : Addr} (x : RowAt C H a) (h0 : H' a = H a) (h : KSq C ∨ ∀ o, C.rs ≠ a → H C.rs = some o → H' C.rs = some o) : RowAt C H' a := by
  obtain ⟨i, seed, great, e, s, p⟩ := id x
  refine ⟨i, seed, great, h0.trans e, ?_, p⟩
  rcases h with h | h
  · exact .inr h
  · rcases s with s | s
    · have ne := x.ne (u := .lst []) s
      rcases s with s | ⟨ob, s⟩
      · exact .inl (.inl (h _ ne s))
      · exact .inl (.inr ⟨ob, h _ ne s⟩)
    · exact .inr s
/-- a new object, or a changed one that is not the row -/
theorem Ext.new {C : Cfg} {H : Hp} {p : Addr} {o : HO} (h : H p = none) : Ext C H (upd H p o) :=
  ⟨fun b u _ e => by rw [upd_ne (ne_of_none e h)]; exact e, fun k a ha => (k a ha).keep (upd_ne (by obtain ⟨_, _, _, e, _⟩ := k a ha; exact ne_of_none e h)) (.inr fun u _ e => by rw [upd_ne (ne_of_none e h)]; exact e)⟩
theorem Ext.fresh {C : Cfg} {H H' : Hp} {p : Addr} (x : Ext C H H') (h : H' p = none) (hr : C.r ≠ some p) : H p = none := by
  cases q : H p with
  | none => rfl
  | some o => rw [x.1 p o (fun z => hr z.symm) q] at h; cases h
/-! ### environments of data -/
inductive Ent where
  | v (d : D)
  | o (d : D)
abbrev DEnv := List (Option Ent)
def hid (H : Hp) (Y : Addr → Bool) : Hp := fun a => if Y a = true then none else H a
theorem hid_some {H : Hp} {Y : Addr → Bool} {a : Addr} {o : HO} (h : hid H Y a = some o) : Y a = false ∧ H a = some o := by
  unfold hid at h
  split at h
  · cases h
  · rename_i z; exact ⟨by simpa using z, h⟩
theorem hid_of {H : Hp} {Y : Addr → Bool} {a : Addr} {o : HO} (y : Y a = false) (h : H a = some o) : hid H Y a = some o := by
  unfold hid; rw [if_neg (by rw [y]; exact Bool.false_ne_true)]; exact h
theorem hid_sub {H H' : Hp} {Y Y' : Addr → Bool} (h : ∀ a o, Y a = false → H a = some o → H' a = some o) (y : ∀ a o, H a = some o → Y' a = true → Y a = true) : Sub (hid H Y) (hid H' Y') := fun a o e => by
  obtain ⟨e1, e2⟩ := hid_some e
  refine hid_of ?_ (h a o e1 e2)
  cases q : Y' a with
  | false => rfl
  | true => rw [y a o e2 q] at e1; cases e1
def isTup : HO → Bool
  | .tup _ => true
  | _ => false
/-- an owned container at a -/
def OV (r : Option Addr) (G H : Hp) (a : Addr) : D → Prop
  | .lst ds => ∃ vs, H a = some (.lst vs) ∧ DVs r G vs ds
  | .dI ds => ∃ kvs : List (Key × V), H a = some (.dK kvs) ∧ kvs.map (·.1) = ds.map (fun p => (Sum.inl p.1 : Key)) ∧ DVs r G (kvs.map (·.2)) (ds.map (·.2))
  | .dT ds => ∃ kvs : List (List Key × V), H a = some (.dT kvs) ∧ kvs.map (·.1) = ds.map (fun p => p.1.map (fun i => (Sum.inl i : Key))) ∧ DVs r G (kvs.map (·.2)) (ds.map (·.2))
  | .self x K ds => a = x ∧ ∃ (dx : Addr) (fs : List (Str × V)), H a = some (.ins K dx fs) ∧ fs.map (·.1) = ds.map (·.1) ∧ DVs r G (fs.map (·.2)) (ds.map (·.2))
  | .obj K ds => ∃ (dx : Addr) (fs : List (Str × V)), H a = some (.ins K dx fs) ∧ fs.map (·.1) = ds.map (·.1) ∧ DVs r G (fs.map (·.2)) (ds.map (·.2))
  | _ => False
theorem OV.mono {r : Option Addr} {G G' H H' : Hp} {a : Addr} (h : Sub G G') (e : ∀ o, H a = some o → H' a = some o) : ∀ {d : D}, OV r G H a d → OV r G' H' a d
  | .lst _, ⟨vs, x, y⟩ => ⟨vs, e _ x, y.mono h⟩
  | .dI _, ⟨vs, x, k, y⟩ => ⟨vs, e _ x, k, y.mono h⟩
  | .dT _, ⟨vs, x, k, y⟩ => ⟨vs, e _ x, k, y.mono h⟩
  | .obj _ _, ⟨dx, fs, x, k, y⟩ => ⟨dx, fs, e _ x, k, y.mono h⟩
  | .self _ _ _, ⟨q, dx, fs, x, k, y⟩ => ⟨q, dx, fs, e _ x, k, y.mono h⟩
theorem OV.some {r : Option Addr} {G H : Hp} {a : Addr} : ∀ {d : D}, OV r G H a d → ∃ o, H a = some o ∧ isTup o = false
  | .lst _, ⟨_, x, _⟩ => ⟨_, x, rfl⟩
  | .dI _, ⟨_, x, _⟩ => ⟨_, x, rfl⟩
  | .dT _, ⟨_, x, _⟩ => ⟨_, x, rfl⟩
  | .obj _ _, ⟨_, _, x, _⟩ => ⟨_, x, rfl⟩
  | .self _ _ _, ⟨_, _, _, x, _⟩ => ⟨_, x, rfl⟩
/-- frozen -/
theorem OV.dv {r : Option Addr} {G G' H : Hp} {a : Addr} (h : Sub G G') (e : ∀ o, H a = .some o → G' a = .some o) : ∀ {d : D}, OV r G H a d → DV r G' (.ref a) d
  | .lst _, ⟨_, x, y⟩ => .lst (e _ x) (y.mono h)
  | .dI _, ⟨_, x, k, y⟩ => .dI (.inl (e _ x)) k (y.mono h)
  | .dT _, ⟨_, x, k, y⟩ => .dT (.inl (e _ x)) k (y.mono h)
  | .obj _ _, ⟨_, _, x, k, y⟩ => .obj (e _ x) k (y.mono h)
  | .self _ _ _, ⟨q, _, _, x, k, y⟩ => q ▸ .self (e _ x) k (y.mono h)
structure Rl (C : Cfg) (B : Hp) (Z Y : Addr → Bool) (ρ : DEnv) (σ : St) (H : Hp) : Prop where
  base : ∀ a o, some a ≠ C.r → B a = some o → H a = some o
  row : RowOk C H
  rowZ : ∀ a, C.r = some a → Z a = true
  rowS : ∀ a, C.r = some a → Z C.rs = true ∨ KSq C
  zOk : ∀ a, Z a = true → ∃ o, H a = some o ∧ isTup o = false
  len : ρ.length = σ.length
  fz : ∀ (i : Nat) (d : D), ρ[i]? = some (some (.v d)) → ∃ v, σ[i]? = some (some v) ∧ DV C.r (hid H Y) v d
  ow : ∀ (i : Nat) (d : D), ρ[i]? = some (some (.o d)) → ∃ a, σ[i]? = some (some (.ref a)) ∧ B a = none ∧ Z a = false ∧ OV C.r (hid H Y) H a d
  uq : ∀ (i j : Nat) (d e : D) (a : Addr), ρ[i]? = some (some (.o d)) → ρ[j]? = some (some (.o e)) → σ[i]? = some (some (.ref a)) → σ[j]? = some (some (.ref a)) → i = j
  yI : ∀ a, Y a = true ↔ Z a = true ∨ ∃ (i : Nat) (d : D), ρ[i]? = some (some (.o d)) ∧ σ[i]? = some (some (.ref a))
section
variable {C : Cfg} {B : Hp} {Z Y : Addr → Bool} {ρ : DEnv} {σ : St} {H H' : Hp}
theorem Rl.rowY (R : Rl C B Z Y ρ σ H) {a : Addr} (h : C.r = some a) : Y a = true := (R.yI a).mpr (.inl (R.rowZ a h))
theorem Rl.notRow (R : Rl C B Z Y ρ σ H) {a : Addr} (h : Z a = false) : some a ≠ C.r := fun e => by rw [R.rowZ a e.symm] at h; cases h
theorem Rl.notRowY (R : Rl C B Z Y ρ σ H) {a : Addr} (h : Y a = false) : some a ≠ C.r := fun e => by rw [R.rowY e.symm] at h; cases h
theorem Rl.sub (R : Rl C B Z Y ρ σ H) (x : Ext C H H') : Sub (hid H Y) (hid H' Y) := hid_sub (fun a o y e => x.1 a o (R.notRowY y) e) fun _ _ _ h => h
/-- what is hidden is there, and is no tuple -/
theorem Rl.yOk (R : Rl C B Z Y ρ σ H) {a : Addr} (h : Y a = true) : ∃ o, H a = some o ∧ isTup o = false := by
  rcases (R.yI a).mp h with z | ⟨i, d, e1, e2⟩
  · exact R.zOk a z
  · obtain ⟨b, e3, _, _, ov⟩ := R.ow i d e1
    rw [e2] at e3; cases e3
    exact ov.some
theorem Rl.freshY (R : Rl C B Z Y ρ σ H) {p : Addr} (h : H p = none) : Y p = false := by
  cases q : Y p with
  | false => rfl
  | true => obtain ⟨o, e, _⟩ := R.yOk q; rw [e] at h; cases h
theorem Rl.freshR (R : Rl C B Z Y ρ σ H) {p : Addr} (h : H p = none) : C.r ≠ some p := fun e => by
  have := R.freshY h
  rw [R.rowY e] at this; cases this
theorem Rl.ext (R : Rl C B Z Y ρ σ H) (x : Ext C H H') : Rl C B Z Y ρ σ H' := by
  have hs := R.sub x
  refine ⟨fun a o n e => x.1 a o n (R.base a o n e), x.2 R.row, R.rowZ, R.rowS, fun a z => ?_, R.len, fun i d e => ?_, fun i d e => ?_, R.uq, R.yI⟩
  · by_cases hr : some a = C.r
    · obtain ⟨_, _, _, e, _⟩ := x.2 R.row a hr.symm
      exact ⟨_, e, rfl⟩
    · obtain ⟨o, e, t⟩ := R.zOk a z
      exact ⟨o, x.1 a o hr e, t⟩
  · obtain ⟨v, e1, h⟩ := R.fz i d e
    exact ⟨v, e1, h.mono hs⟩
  · obtain ⟨a, e1, b, z, ov⟩ := R.ow i d e
    exact ⟨a, e1, b, z, ov.mono hs fun o q => x.1 a o (R.notRow z) q⟩
/-- the hidden places for other slots -/
theorem exY (Z : Addr → Bool) (ρ : DEnv) (σ : St) : ∃ Y : Addr → Bool, ∀ a, Y a = true ↔ Z a = true ∨ ∃ (i : Nat) (d : D), ρ[i]? = some (some (.o d)) ∧ σ[i]? = some (some (.ref a)) :=
  ⟨fun a => @decide _ (Classical.propDecidable (Z a = true ∨ ∃ (i : Nat) (d : D), ρ[i]? = some (some (.o d)) ∧ σ[i]? = some (some (.ref a)))), fun a => by simp⟩
theorem set_get {α : Type} {l : List α} {i j : Nat} {x y : α} (h : (l.set i x)[j]? = some y) : (i = j ∧ x = y ∧ i < l.length) ∨ (i ≠ j ∧ l[j]? = some y) := by
  by_cases e : i = j
  · subst e
    by_cases hi : i < l.length
    · rw [List.getElem?_set_self hi] at h; cases h; exact .inl ⟨rfl, rfl, hi⟩
    · rw [List.getElem?_eq_none (by simpa using hi)] at h; cases h
  · rw [List.getElem?_set_ne e] at h; exact .inr ⟨e, h⟩
theorem Rl.setv {v : V} {d : D} (R : Rl C B Z Y ρ σ H) (i : Nat) (hv : DV C.r (hid H Y) v d) : ∃ Y', (∀ a, Y' a = true → Y a = true) ∧ Rl C B Z Y' (ρ.set i (some (.v d))) (σ.set i (some v)) H := by
  obtain ⟨Y', hY⟩ := exY Z (ρ.set i (some (.v d))) (σ.set i (some v))
  have sub : ∀ a, Y' a = true → Y a = true := fun a h => (R.yI a).mpr (by
    rcases (hY a).mp h with z | ⟨j, e, h1, h2⟩
    · exact .inl z
    · rcases set_get h1 with ⟨_, z, _⟩ | ⟨ne, h1⟩
      · cases z
      · rw [List.getElem?_set_ne ne] at h2
        exact .inr ⟨j, e, h1, h2⟩)
  have hs : Sub (hid H Y) (hid H Y') := hid_sub (fun _ _ _ e => e) fun a _ _ h => sub a h
  refine ⟨Y', sub, R.base, R.row, R.rowZ, R.rowS, R.zOk, by simpa using R.len, fun j e h => ?_, fun j e h => ?_, fun j k e f a h1 h2 h3 h4 => ?_, hY⟩
  · rcases set_get h with ⟨rfl, z, hl⟩ | ⟨ne, h1⟩
    · cases z
      exact ⟨v, List.getElem?_set_self (by rw [← R.len]; exact hl), hv.mono hs⟩
    · obtain ⟨u, e1, x⟩ := R.fz j e h1
      exact ⟨u, by rw [List.getElem?_set_ne ne]; exact e1, x.mono hs⟩
  · rcases set_get h with ⟨rfl, z, hl⟩ | ⟨ne, h1⟩
    · cases z
    · obtain ⟨a, e1, b, z, ov⟩ := R.ow j e h1
      exact ⟨a, by rw [List.getElem?_set_ne ne]; exact e1, b, z, ov.mono hs fun _ q => q⟩
  · rcases set_get h1 with ⟨_, z, _⟩ | ⟨n1, h1⟩
    · cases z
    rcases set_get h2 with ⟨_, z, _⟩ | ⟨n2, h2⟩
    · cases z
    rw [List.getElem?_set_ne n1] at h3
    rw [List.getElem?_set_ne n2] at h4
    exact R.uq j k e f a h1 h2 h3 h4
theorem Rl.unset (R : Rl C B Z Y ρ σ H) (i : Nat) : ∃ Y', (∀ a, Y' a = true → Y a = true) ∧ Rl C B Z Y' (ρ.set i none) (σ.set i none) H := by
  obtain ⟨Y', hY⟩ := exY Z (ρ.set i none) (σ.set i none)
  have sub : ∀ a, Y' a = true → Y a = true := fun a h => (R.yI a).mpr (by
    rcases (hY a).mp h with z | ⟨j, e, h1, h2⟩
    · exact .inl z
    · rcases set_get h1 with ⟨_, z, _⟩ | ⟨ne, h1⟩
      · cases z
      · rw [List.getElem?_set_ne ne] at h2
        exact .inr ⟨j, e, h1, h2⟩)
  have hs : Sub (hid H Y) (hid H Y') := hid_sub (fun _ _ _ e => e) fun a _ _ h => sub a h
  refine ⟨Y', sub, R.base, R.row, R.rowZ, R.rowS, R.zOk, by simpa using R.len, fun j e h => ?_, fun j e h => ?_, fun j k e f a h1 h2 h3 h4 => ?_, hY⟩
  · rcases set_get h with ⟨rfl, z, hl⟩ | ⟨ne, h1⟩
    · cases z
    · obtain ⟨u, e1, x⟩ := R.fz j e h1
      exact ⟨u, by rw [List.getElem?_set_ne ne]; exact e1, x.mono hs⟩
  · rcases set_get h with ⟨rfl, z, hl⟩ | ⟨ne, h1⟩
    · cases z
    · obtain ⟨a, e1, b, z, ov⟩ := R.ow j e h1
      exact ⟨a, by rw [List.getElem?_set_ne ne]; exact e1, b, z, ov.mono hs fun _ q => q⟩
  · rcases set_get h1 with ⟨_, z, _⟩ | ⟨n1, h1⟩
    · cases z
    rcases set_get h2 with ⟨_, z, _⟩ | ⟨n2, h2⟩
    · cases z
    rw [List.getElem?_set_ne n1] at h3
    rw [List.getElem?_set_ne n2] at h4
    exact R.uq j k e f a h1 h2 h3 h4
/-- with one place more hidden -/
def hidY (Y : Addr → Bool) (p : Addr) : Addr → Bool := fun a => Y a || decide (a = p)
theorem hidY_iff {Y : Addr → Bool} {p a : Addr} : hidY Y p a = true ↔ Y a = true ∨ a = p := by simp [hidY]
/-- a new container, owned by the slot i -/
theorem Rl.seto {p : Addr} {d : D} (R : Rl C B Z Y ρ σ H) (i : Nat) (x : Ext C H H') (hp : H p = none) (ov : OV C.r (hid H' (hidY Y p)) H' p d) : ∃ Y', (∀ a, Y' a = true → hidY Y p a = true) ∧ Rl C B Z Y' (ρ.set i (some (.o d))) (σ.set i (some (.ref p))) H' := by
  have R' := R.ext x
  have pY : Y p = false := R.freshY hp
  have pZ : Z p = false := by
    cases q : Z p with
    | false => rfl
    | true => obtain ⟨o, e, _⟩ := R.zOk p q; rw [e] at hp; cases hp
  have pB : B p = none := by
    cases q : B p with
    | none => rfl
    | some o => rw [R.base p o (R.notRow pZ) q] at hp; cases hp
  obtain ⟨Y', hY⟩ := exY Z (ρ.set i (some (.o d))) (σ.set i (some (.ref p)))
  have sub : ∀ a, Y' a = true → hidY Y p a = true := fun a h => hidY_iff.mpr (by
    rcases (hY a).mp h with z | ⟨j, e, h1, h2⟩
    · exact .inl ((R.yI a).mpr (.inl z))
    · rcases set_get h1 with ⟨rfl, z, hl⟩ | ⟨ne, h1⟩
      · rw [List.getElem?_set_self (by rw [← R.len]; exact hl)] at h2
        cases h2; exact .inr rfl
      · rw [List.getElem?_set_ne ne] at h2
        exact .inl ((R.yI a).mpr (.inr ⟨j, e, h1, h2⟩)))
  have hs' : Sub (hid H' (hidY Y p)) (hid H' Y') := hid_sub (fun _ _ _ e => e) fun a _ _ h => sub a h
  have hs : Sub (hid H Y) (hid H' Y') := hid_sub (fun a o y e => x.1 a o (R.notRowY y) e) fun a o e h => by
    rcases hidY_iff.mp (sub a h) with z | z
    · exact z
    · rw [z, hp] at e; cases e
  refine ⟨Y', sub, R'.base, R'.row, R'.rowZ, R'.rowS, R'.zOk, by simpa using R.len, fun j e h => ?_, fun j e h => ?_, fun j k e f a h1 h2 h3 h4 => ?_, hY⟩
  · rcases set_get h with ⟨rfl, z, hl⟩ | ⟨ne, h1⟩
    · cases z
    · obtain ⟨u, e1, q⟩ := R.fz j e h1
      exact ⟨u, by rw [List.getElem?_set_ne ne]; exact e1, q.mono hs⟩
  · rcases set_get h with ⟨rfl, z, hl⟩ | ⟨ne, h1⟩
    · cases z
      exact ⟨p, List.getElem?_set_self (by rw [← R.len]; exact hl), pB, pZ, ov.mono hs' fun _ q => q⟩
    · obtain ⟨a, e1, b, z, ov'⟩ := R.ow j e h1
      exact ⟨a, by rw [List.getElem?_set_ne ne]; exact e1, b, z, ov'.mono hs fun o q => x.1 a o (R.notRow z) q⟩
  · have np : ∀ (m : Nat) (g : D), ρ[m]? = some (some (.o g)) → σ[m]? = some (some (.ref p)) → False := fun m g q1 q2 => by
      rw [(R.yI p).mpr (.inr ⟨m, g, q1, q2⟩)] at pY; cases pY
    rcases set_get h1 with ⟨rfl, z, hl⟩ | ⟨n1, h1⟩
    · rcases set_get h2 with ⟨q, _, _⟩ | ⟨n2, h2⟩
      · exact q
      · rw [List.getElem?_set_self (by rw [← R.len]; exact hl)] at h3
        rw [List.getElem?_set_ne n2] at h4
        cases h3
        exact (np k f h2 h4).elim
    · rcases set_get h2 with ⟨rfl, z, hl⟩ | ⟨n2, h2⟩
      · rw [List.getElem?_set_self (by rw [← R.len]; exact hl)] at h4
        rw [List.getElem?_set_ne n1] at h3
        cases h4
        exact (np j e h1 h3).elim
      · rw [List.getElem?_set_ne n1] at h3
        rw [List.getElem?_set_ne n2] at h4
        exact R.uq j k e f a h1 h2 h3 h4
/-- the owner of slot i lets go: what it has is frozen -/
theorem Rl.freeze {d : D} (R : Rl C B Z Y ρ σ H) (i : Nat) (hi : ρ[i]? = some (some (.o d))) : ∃ Y', (∀ a, Y' a = true → Y a = true) ∧ Rl C B Z Y' (ρ.set i (some (.v d))) σ H := by
  obtain ⟨a0, e0, b0, z0, ov0⟩ := R.ow i d hi
  obtain ⟨Y', hY⟩ := exY Z (ρ.set i (some (.v d))) σ
  have sub : ∀ a, Y' a = true → Y a = true := fun a h => (R.yI a).mpr (by
    rcases (hY a).mp h with z | ⟨j, e, h1, h2⟩
    · exact .inl z
    · rcases set_get h1 with ⟨_, z, _⟩ | ⟨ne, h1⟩
      · cases z
      · exact .inr ⟨j, e, h1, h2⟩)
  have hs : Sub (hid H Y) (hid H Y') := hid_sub (fun _ _ _ e => e) fun a _ _ h => sub a h
  have y0 : Y' a0 = false := by
    cases q : Y' a0 with
    | false => rfl
    | true =>
      rcases (hY a0).mp q with z | ⟨j, e, h1, h2⟩
      · rw [z0] at z; cases z
      · rcases set_get h1 with ⟨_, z, _⟩ | ⟨ne, h1⟩
        · cases z
        · exact absurd (R.uq i j d e a0 hi h1 e0 h2) ne
  refine ⟨Y', sub, R.base, R.row, R.rowZ, R.rowS, R.zOk, by simpa using R.len, fun j e h => ?_, fun j e h => ?_, fun j k e f a h1 h2 h3 h4 => ?_, hY⟩
  · rcases set_get h with ⟨rfl, z, hl⟩ | ⟨ne, h1⟩
    · cases z
      exact ⟨_, e0, ov0.dv hs fun o q => hid_of y0 q⟩
    · obtain ⟨u, e1, x⟩ := R.fz j e h1
      exact ⟨u, e1, x.mono hs⟩
  · rcases set_get h with ⟨rfl, z, hl⟩ | ⟨ne, h1⟩
    · cases z
    · obtain ⟨a, e1, b, z, ov⟩ := R.ow j e h1
      exact ⟨a, e1, b, z, ov.mono hs fun _ q => q⟩
  · rcases set_get h1 with ⟨_, z, _⟩ | ⟨n1, h1⟩
    · cases z
    rcases set_get h2 with ⟨_, z, _⟩ | ⟨n2, h2⟩
    · cases z
    exact R.uq j k e f a h1 h2 h3 h4
/-- the owned container is changed -/
theorem Rl.mut {d d' : D} {a : Addr} {o : HO} (R : Rl C B Z Y ρ σ H) {i : Nat} (hi : ρ[i]? = some (some (.o d))) (ha : σ[i]? = some (some (.ref a))) (ov : OV C.r (hid H Y) (upd H a o) a d') : Rl C B Z Y (ρ.set i (some (.o d'))) σ (upd H a o) := by
  obtain ⟨a0, e0, b0, z0, ov0⟩ := R.ow i d hi
  rw [ha] at e0; cases e0
  have yA : Y a = true := (R.yI a).mpr (.inr ⟨i, d, hi, ha⟩)
  have hil : i < ρ.length := (List.getElem?_eq_some_iff.mp hi).1
  have hs : Sub (hid H Y) (hid (upd H a o) Y) := hid_sub (fun b u y e => by
    rw [upd_ne (fun z => by rw [z, yA] at y; cases y)]; exact e) fun _ _ _ h => h
  obtain ⟨ou, hou, tou⟩ := ov0.some
  have ot : isTup o = false := by
    obtain ⟨u, e, t⟩ := ov.some
    rw [upd_same] at e; cases e; exact t
  refine ⟨fun b u n e => ?_, fun b hb => ?_, R.rowZ, R.rowS, fun b z => ?_, by simpa using R.len, fun j e h => ?_, fun j e h => ?_, fun j k e f b h1 h2 h3 h4 => ?_, fun b => ?_⟩
  · rw [upd_ne (fun z => by rw [z, b0] at e; cases e)]; exact R.base b u n e
  · have ne : b ≠ a := fun z => by
      have := R.rowZ b hb
      rw [z, z0] at this; cases this
    refine (R.row b hb).keep (upd_ne ne) ?_
    rcases R.rowS b hb with q | q
    · exact .inr fun u _ e => by rw [upd_ne (fun z => by rw [z, z0] at q; cases q)]; exact e
    · exact .inl q
  · rw [upd_ne (fun q => by rw [q, z0] at z; cases z)]; exact R.zOk b z
  · rcases set_get h with ⟨rfl, z, hl⟩ | ⟨ne, h1⟩
    · cases z
    · obtain ⟨u, e1, x⟩ := R.fz j e h1
      exact ⟨u, e1, x.mono hs⟩
  · rcases set_get h with ⟨rfl, z, hl⟩ | ⟨ne, h1⟩
    · cases z
      exact ⟨a, ha, b0, z0, ov.mono hs fun _ q => q⟩
    · obtain ⟨b, e1, b1, z1, ov1⟩ := R.ow j e h1
      have nab : b ≠ a := fun q => ne (R.uq i j d e a hi h1 ha (q ▸ e1))
      exact ⟨b, e1, b1, z1, ov1.mono hs fun u q => by rw [upd_ne nab]; exact q⟩
  · rcases set_get h1 with ⟨rfl, z, hl⟩ | ⟨n1, h1⟩
    · rcases set_get h2 with ⟨q, _, _⟩ | ⟨n2, h2⟩
      · exact q
      · exact R.uq i k d f b hi h2 h3 h4
    · rcases set_get h2 with ⟨rfl, z, hl⟩ | ⟨n2, h2⟩
      · exact R.uq j i e d b h1 hi h3 h4
      · exact R.uq j k e f b h1 h2 h3 h4
  · rw [R.yI b]
    refine or_congr Iff.rfl ⟨fun ⟨j, e, h1, h2⟩ => ?_, fun ⟨j, e, h1, h2⟩ => ?_⟩
    · by_cases hj : i = j
      · subst hj; exact ⟨i, d', List.getElem?_set_self hil, h2⟩
      · exact ⟨j, e, by rw [List.getElem?_set_ne hj]; exact h1, h2⟩
    · rcases set_get h1 with ⟨rfl, z, hl⟩ | ⟨ne, h1⟩
      · exact ⟨i, d, hi, h2⟩
      · exact ⟨j, e, h1, h2⟩
end
end DL
/-! text DL2 -/
/-! DL2: judgements over data, expressions. -/
namespace DL
open PySem PySem.Spec L2
open PyProof.Rows hiding St
section
variable {C : Cfg} {B : Hp} {Z Y : Addr → Bool} {ρ : DEnv} {σ : St} {H H' : Hp}
/-- a new object that nobody owns yet is hidden, too -/
theorem Rl.pend {p : Addr} {o : HO} (R : Rl C B Z Y ρ σ H) (x : Ext C H H') (hp : H p = none) (hp' : H' p = some o) (ht : isTup o = false) : Rl C B (hidY Z p) (hidY Y p) ρ σ H' ∧ B p = none ∧ Z p = false := by
  have R' := R.ext x
  have pY : Y p = false := R.freshY hp
  have pZ : Z p = false := by
    cases q : Z p with
    | false => rfl
    | true => obtain ⟨o, e, _⟩ := R.zOk p q; rw [e] at hp; cases hp
  have pB : B p = none := by
    cases q : B p with
    | none => rfl
    | some o => rw [R.base p o (R.notRow pZ) q] at hp; cases hp
  have hs : Sub (hid H Y) (hid H' (hidY Y p)) := hid_sub (fun a o y e => x.1 a o (R.notRowY y) e) fun a o e h => by
    rcases hidY_iff.mp h with z | z
    · exact z
    · rw [z, hp] at e; cases e
  refine ⟨⟨R'.base, R'.row, fun a h => hidY_iff.mpr (.inl (R.rowZ a h)), fun a h => (R.rowS a h).imp (fun z => hidY_iff.mpr (.inl z)) id, fun a z => ?_, R.len, fun i d e => ?_, fun i d e => ?_, R.uq, fun a => ?_⟩, pB, pZ⟩
  · rcases hidY_iff.mp z with z | z
    · exact R'.zOk a z
    · rw [z]; exact ⟨o, hp', ht⟩
  · obtain ⟨u, e1, q⟩ := R.fz i d e
    exact ⟨u, e1, q.mono hs⟩
  · obtain ⟨a, e1, b, z, ov⟩ := R.ow i d e
    refine ⟨a, e1, b, ?_, ov.mono hs fun o q => x.1 a o (R.notRow z) q⟩
    cases q : hidY Z p a with
    | false => rfl
    | true =>
      rcases hidY_iff.mp q with q | q
      · rw [z] at q; cases q
      · obtain ⟨_, e, _⟩ := ov.some
        rw [q, hp] at e; cases e
  · rw [hidY_iff, hidY_iff, R.yI a]
    exact ⟨fun h => h.elim (fun h => h.elim (fun h => .inl (.inl h)) .inr) fun h => .inl (.inr h), fun h => h.elim (fun h => h.elim (fun h => .inl (.inl h)) .inr) fun h => .inl (.inr h)⟩
/-- what waits changes -/
theorem Rl.pendmut {p : Addr} {o : HO} (R : Rl C B (hidY Z p) Y ρ σ H) (hr : ∀ a, C.r = some a → Z a = true ∧ (Z C.rs = true ∨ KSq C)) (hB : B p = none) (hZ : Z p = false) (ht : isTup o = false) : Rl C B (hidY Z p) Y ρ σ (upd H p o) := by
  have yp : Y p = true := (R.yI p).mpr (.inl (hidY_iff.mpr (.inr rfl)))
  have hs : Sub (hid H Y) (hid (upd H p o) Y) := hid_sub (fun a u y e => by rw [upd_ne (fun z => by rw [z, yp] at y; cases y)]; exact e) fun _ _ _ h => h
  refine ⟨fun a u n e => ?_, fun b hb => ?_, R.rowZ, R.rowS, fun a z => ?_, R.len, fun i d e => ?_, fun i d e => ?_, R.uq, R.yI⟩
  · rw [upd_ne (fun z => by rw [z, hB] at e; cases e)]; exact R.base a u n e
  · obtain ⟨h1, h2⟩ := hr b hb
    refine (R.row b hb).keep (upd_ne (fun z => by rw [z, hZ] at h1; cases h1)) ?_
    rcases h2 with q | q
    · exact .inr fun u _ e => by rw [upd_ne (fun z => by rw [z, hZ] at q; cases q)]; exact e
    · exact .inl q
  · by_cases ha : a = p
    · rw [ha]; exact ⟨o, upd_same, ht⟩
    · rw [upd_ne ha]; exact R.zOk a z
  · obtain ⟨u, e1, q⟩ := R.fz i d e
    exact ⟨u, e1, q.mono hs⟩
  · obtain ⟨a, e1, b, z, ov⟩ := R.ow i d e
    refine ⟨a, e1, b, z, ov.mono hs fun u q => ?_⟩
    rw [upd_ne (fun q' => by rw [q', hidY_iff.mpr (.inr rfl)] at z; cases z)]; exact q
/-- what waits comes into the slot i -/
theorem Rl.claim {p : Addr} {d : D} (R : Rl C B (hidY Z p) Y ρ σ H) (hr : ∀ a, C.r = some a → Z a = true ∧ (Z C.rs = true ∨ KSq C)) (i : Nat) (hB : B p = none) (hZ : Z p = false) (ov : OV C.r (hid H Y) H p d) :
    ∃ Y', (∀ a, Y' a = true → Y a = true) ∧ Rl C B Z Y' (ρ.set i (some (.o d))) (σ.set i (some (.ref p))) H := by
  obtain ⟨Y', hY⟩ := exY Z (ρ.set i (some (.o d))) (σ.set i (some (.ref p)))
  have sub : ∀ a, Y' a = true → Y a = true := fun a h => (R.yI a).mpr (by
    rcases (hY a).mp h with z | ⟨j, e, h1, h2⟩
    · exact .inl (hidY_iff.mpr (.inl z))
    · rcases set_get h1 with ⟨rfl, z, hl⟩ | ⟨ne, h1⟩
      · rw [List.getElem?_set_self (by rw [← R.len]; exact hl)] at h2
        cases h2; exact .inl (hidY_iff.mpr (.inr rfl))
      · rw [List.getElem?_set_ne ne] at h2
        exact .inr ⟨j, e, h1, h2⟩)
  have hs : Sub (hid H Y) (hid H Y') := hid_sub (fun _ _ _ e => e) fun a _ _ h => sub a h
  have zz : ∀ a, hidY Z p a = false → Z a = false := fun a h => by
    cases q : Z a with
    | false => rfl
    | true => rw [hidY_iff.mpr (.inl q)] at h; cases h
  have np : ∀ (m : Nat) (g : D), ρ[m]? = some (some (.o g)) → σ[m]? = some (some (.ref p)) → False := fun m g q1 q2 => by
    obtain ⟨a, e1, _, z, _⟩ := R.ow m g q1
    rw [q2] at e1; cases e1
    rw [hidY_iff.mpr (.inr rfl)] at z; cases z
  refine ⟨Y', sub, R.base, R.row, fun a h => (hr a h).1, fun a h => (hr a h).2, fun a z => R.zOk a (hidY_iff.mpr (.inl z)), by simpa using R.len, fun j e h => ?_, fun j e h => ?_, fun j k e f a h1 h2 h3 h4 => ?_, hY⟩
  · rcases set_get h with ⟨rfl, z, hl⟩ | ⟨ne, h1⟩
    · cases z
    · obtain ⟨u, e1, q⟩ := R.fz j e h1
      exact ⟨u, by rw [List.getElem?_set_ne ne]; exact e1, q.mono hs⟩
  · rcases set_get h with ⟨rfl, z, hl⟩ | ⟨ne, h1⟩
    · cases z
      exact ⟨p, List.getElem?_set_self (by rw [← R.len]; exact hl), hB, hZ, ov.mono hs fun _ q => q⟩
    · obtain ⟨a, e1, b, z, ov'⟩ := R.ow j e h1
      exact ⟨a, by rw [List.getElem?_set_ne ne]; exact e1, b, zz a z, ov'.mono hs fun o q => q⟩
  · rcases set_get h1 with ⟨rfl, z, hl⟩ | ⟨n1, h1⟩
    · rcases set_get h2 with ⟨q, _, _⟩ | ⟨n2, h2⟩
      · exact q
      · rw [List.getElem?_set_self (by rw [← R.len]; exact hl)] at h3
        rw [List.getElem?_set_ne n2] at h4
        cases h3
        exact (np k f h2 h4).elim
    · rcases set_get h2 with ⟨rfl, z, hl⟩ | ⟨n2, h2⟩
      · rw [List.getElem?_set_self (by rw [← R.len]; exact hl)] at h4
        rw [List.getElem?_set_ne n1] at h3
        cases h4
        exact (np j e h1 h3).elim
      · rw [List.getElem?_set_ne n1] at h3
        rw [List.getElem?_set_ne n2] at h4
        exact R.uq j k e f a h1 h2 h3 h4
theorem Rl.rr (R : Rl C B Z Y ρ σ H) : ∀ a, C.r = some a → Z a = true ∧ (Z C.rs = true ∨ KSq C) := fun a h => ⟨R.rowZ a h, R.rowS a h⟩
/-- more that stands -/
theorem Rl.rebase (R : Rl C B Z Y ρ σ H) : Rl C (fun a => if Y a = true then B a else H a) Z Y ρ σ H := by
  refine ⟨fun a o n e => ?_, R.row, R.rowZ, R.rowS, R.zOk, R.len, R.fz, fun i d e => ?_, R.uq, R.yI⟩
  · by_cases y : Y a = true
    · simp only [y, if_true] at e; exact R.base a o n e
    · simp only [y, Bool.false_eq_true, if_false] at e; exact e
  · obtain ⟨a, e1, b, z, ov⟩ := R.ow i d e
    exact ⟨a, e1, by rw [if_pos ((R.yI a).mpr (.inr ⟨i, d, e, e1⟩))]; exact b, z, ov⟩
theorem Rl.weak {B' : Hp} (R : Rl C B Z Y ρ σ H) (h : ∀ a o, some a ≠ C.r → B' a = some o → B a = some o) : Rl C B' Z Y ρ σ H := by
  refine ⟨fun a o n e => R.base a o n (h a o n e), R.row, R.rowZ, R.rowS, R.zOk, R.len, R.fz, fun i d e => ?_, R.uq, R.yI⟩
  obtain ⟨a, e1, b, z, ov⟩ := R.ow i d e
  refine ⟨a, e1, ?_, z, ov⟩
  cases q : B' a with
  | none => rfl
  | some o => rw [h a o (R.notRow z) q] at b; cases b
end
/-! ### the weakest readings -/
def WE (X : Cx) (e : Expr) : TE := fun σ H Q => ∀ (pins : List (Addr × Obj)) (s : Shared), Inv X pins σ H s → wpAny (model X.prog X.w) X.A (eval e X.env) (EP X pins σ Q) X.xe s
def WT (X : Cx) (e : Expr) : TT := fun σ H Q => ∀ (pins : List (Addr × Obj)) (s : Shared), Inv X pins σ H s → wpAny (model X.prog X.w) X.A (isTrue e X.env (eval e X.env)) (TP X pins σ Q) X.xe s
def WW (X : Cx) (e : Expr) : TT := fun σ H Q => ∀ (whole : Sem Value) (pins : List (Addr × Obj)) (s : Shared), Inv X pins σ H s → wpAny (model X.prog X.w) X.A (isTrue e X.env whole) (TP X pins σ Q) X.xe s
def WA (X : Cx) (es : List Expr) : TA := fun σ H Q => ∀ (pos : Pos) (pins : List (Addr × Obj)) (s : Shared), Inv X pins σ H s → wpAny (model X.prog X.w) X.A (spliced (backTo pos (starEach es X.env))) (AP X pins σ Q) X.xe s
section
variable {X : Cx} {e : Expr} {es : List Expr} {σ : St} {H : Hp}
theorem pe_we : PE X e (WE X e) := ⟨fun pins s _ _ _ I h => h pins s I⟩
theorem pt_wt : PT X e (WT X e) := ⟨fun pins s _ _ _ I h => h pins s I⟩
theorem pw_ww : PW X e (WW X e) := ⟨fun wh pins s _ _ _ I h => h wh pins s I⟩
theorem pa_wa : PA X es (WA X es) := ⟨fun pos pins s _ _ _ I h => h pos pins s I⟩
theorem WE.of {t : TE} {Q : VK} (h : PE X e t) (q : t σ H Q) : WE X e σ H Q := fun pins s I => h.run pins s σ H Q I q
theorem WT.of {t : TT} {Q : Bool → Hp → Prop} (h : PT X e t) (q : t σ H Q) : WT X e σ H Q := fun pins s I => h.run pins s σ H Q I q
theorem WW.of {t : TT} {Q : Bool → Hp → Prop} (h : PW X e t) (q : t σ H Q) : WW X e σ H Q := fun wh pins s I => h.run wh pins s σ H Q I q
theorem WA.of {t : TA} {Q : List V → Hp → Prop} (h : PA X es t) (q : t σ H Q) : WA X es σ H Q := fun pos pins s I => h.run pos pins s σ H Q I q
end
/-! ### judgements -/
/-- e comes to some value that is d with p d -/
def EvP (C : Cfg) (e : Expr) (ρ : DEnv) (p : D → Prop) : Prop := ∀ X, XOk C X → ∀ B Z Y σ H, Rl C B Z Y ρ σ H → ∀ Q : VK, (∀ v d H', p d → Ext C H H' → DV C.r (hid H' Y) v d → Q v H') → WE X e σ H Q
abbrev EvD (C : Cfg) (e : Expr) (ρ : DEnv) (d : D) : Prop := EvP C e ρ (· = d)
/-- e makes a new container -/
def EvO (C : Cfg) (e : Expr) (ρ : DEnv) (p : D → Prop) : Prop := ∀ X, XOk C X → ∀ B Z Y σ H, Rl C B Z Y ρ σ H → ∀ Q : VK, (∀ a d H', p d → H a = none → Ext C H H' → OV C.r (hid H' (hidY Y a)) H' a d → Q (.ref a) H') → WE X e σ H Q
def EvT (C : Cfg) (e : Expr) (ρ : DEnv) (p : Bool → Prop) : Prop := ∀ X, XOk C X → ∀ B Z Y σ H, Rl C B Z Y ρ σ H → ∀ Q : Bool → Hp → Prop, (∀ b H', p b → Ext C H H' → Q b H') → WT X e σ H Q
def EvW (C : Cfg) (e : Expr) (ρ : DEnv) (p : Bool → Prop) : Prop := ∀ X, XOk C X → ∀ B Z Y σ H, Rl C B Z Y ρ σ H → ∀ Q : Bool → Hp → Prop, (∀ b H', p b → Ext C H H' → Q b H') → WW X e σ H Q
def EvA (C : Cfg) (es : List Expr) (ρ : DEnv) (p : List D → Prop) : Prop := ∀ X, XOk C X → ∀ B Z Y σ H, Rl C B Z Y ρ σ H → ∀ Q : List V → Hp → Prop, (∀ vs ds H', p ds → Ext C H H' → DVs C.r (hid H' Y) vs ds → Q vs H') → WA X es σ H Q
/-- what an operation on values may lean on -/
structure YOk (C : Cfg) (Y : Addr → Bool) (H : Hp) : Prop where
  row : ∀ a, C.r = some a → Y a = true
  fresh : ∀ p, H p = none → Y p = false
  ok : RowOk C H
  tup : ∀ a, Y a = true → ∃ o, H a = some o ∧ isTup o = false
theorem Rl.y {C : Cfg} {B : Hp} {Z Y : Addr → Bool} {ρ : DEnv} {σ : St} {H : Hp} (R : Rl C B Z Y ρ σ H) : YOk C Y H := ⟨fun _ h => R.rowY h, fun _ h => R.freshY h, R.row, fun _ h => R.yOk h⟩
section
variable {C : Cfg} {Y : Addr → Bool} {H H' : Hp}
theorem YOk.notRow (y : YOk C Y H) {a : Addr} (h : Y a = false) : some a ≠ C.r := fun e => by rw [y.row a e.symm] at h; cases h
theorem YOk.sub (y : YOk C Y H) (x : Ext C H H') : Sub (hid H Y) (hid H' Y) := hid_sub (fun a o q e => x.1 a o (y.notRow q) e) fun _ _ _ h => h
theorem YOk.tup' (y : YOk C Y H) (x : Ext C H H') (a : Addr) (h : Y a = true) : ∃ o, H' a = some o ∧ isTup o = false := by
  by_cases hr : some a = C.r
  · obtain ⟨_, _, _, e', _⟩ := x.2 y.ok a hr.symm
    exact ⟨_, e', rfl⟩
  · obtain ⟨o, e, t⟩ := y.tup a h
    exact ⟨o, x.1 a o hr e, t⟩
theorem YOk.ext (y : YOk C Y H) (x : Ext C H H') : YOk C Y H' where
  row := y.row
  fresh := fun p h => by
    cases q : Y p with
    | false => rfl
    | true =>
      obtain ⟨o, e, _⟩ := y.tup' x p q
      rw [e] at h; cases h
  ok := x.2 y.ok
  tup := y.tup' x
/-- a new tuple -/
theorem YOk.newTup (y : YOk C Y H) {p : Addr} {vs : List V} {ds : List D} (hp : H p = none) (h : DVs C.r (hid H Y) vs ds) : DV C.r (hid (upd H p (.tup vs)) Y) (.ref p) (.tup ds) :=
  .tup (hid_of (y.fresh p hp) upd_same) (h.mono (y.sub (Ext.new hp)))
/-- a new list, owned -/
theorem YOk.newLst (y : YOk C Y H) {p : Addr} {vs : List V} {ds : List D} (hp : H p = none) (h : DVs C.r (hid H Y) vs ds) : OV C.r (hid (upd H p (.lst vs)) (hidY Y p)) (upd H p (.lst vs)) p (.lst ds) :=
  ⟨vs, upd_same, h.mono (hid_sub (fun a o _ e => by rw [upd_ne (ne_of_none e hp)]; exact e) fun a o e h => by
    rcases hidY_iff.mp h with z | z
    · exact z
    · rw [z, hp] at e; cases e)⟩
theorem YOk.frz (y : YOk C Y H) {p : Addr} {d : D} (hp : H p = none) (ov : OV C.r (hid H' (hidY Y p)) H' p d) : DV C.r (hid H' Y) (.ref p) d :=
  ov.dv (hid_sub (fun _ _ _ e => e) fun a _ _ h => hidY_iff.mpr (.inl h)) fun o e => hid_of (y.fresh p hp) e
end
def OpD (C : Cfg) (f : Value → Value → Sem Value) (x y : D) (p : D → Prop) : Prop := ∀ X, XOk C X → ∀ Y H u v (Q : VK), YOk C Y H → DV C.r (hid H Y) u x → DV C.r (hid H Y) v y → (∀ z d H', p d → Ext C H H' → DV C.r (hid H' Y) z d → Q z H') → ∃ r, OpR X f r ∧ r u v H Q
/-- one that makes a new container -/
def OpO (C : Cfg) (f : Value → Value → Sem Value) (x y : D) (p : D → Prop) : Prop := ∀ X, XOk C X → ∀ Y H u v (Q : VK), YOk C Y H → DV C.r (hid H Y) u x → DV C.r (hid H Y) v y → (∀ a d H', p d → H a = none → Ext C H H' → OV C.r (hid H' (hidY Y a)) H' a d → Q (.ref a) H') → ∃ r, OpR X f r ∧ r u v H Q
def IxD (C : Cfg) (x y : D) (p : D → Prop) : Prop := ∀ X, XOk C X → ∀ Y H u v (Q : VK), YOk C Y H → DV C.r (hid H Y) u x → DV C.r (hid H Y) v y → (∀ z d H', p d → Ext C H H' → DV C.r (hid H' Y) z d → Q z H') → ∃ r, IxR X r ∧ r u v H Q
def CallD (C : Cfg) (f : Value) (xs : List D) (p : D → Prop) : Prop := ∀ X, XOk C X → ∀ Y H us (Q : VK), YOk C Y H → DVs C.r (hid H Y) us xs → (∀ z d H', p d → Ext C H H' → DV C.r (hid H' Y) z d → Q z H') → ∃ r, CallR X f r ∧ r us H Q
def CallO (C : Cfg) (f : Value) (xs : List D) (p : D → Prop) : Prop := ∀ X, XOk C X → ∀ Y H us (Q : VK), YOk C Y H → DVs C.r (hid H Y) us xs → (∀ a d H', p d → H a = none → Ext C H H' → OV C.r (hid H' (hidY Y a)) H' a d → Q (.ref a) H') → ∃ r, CallR X f r ∧ r us H Q
def oAny (X : Cx) (f : Value → Value → Sem Value) : R2 := fun u v H Q => ∃ r, OpR X f r ∧ r u v H Q
theorem op_any {X : Cx} {f : Value → Value → Sem Value} : OpR X f (oAny X f) := fun pins s σ H x y v u Q I rx ry ⟨r, h, q⟩ => h pins s σ H x y v u Q I rx ry q
def iAny (X : Cx) : R2 := fun u v H Q => ∃ r, IxR X r ∧ r u v H Q
theorem ix_any {X : Cx} : IxR X (iAny X) := fun a b pins s σ H x y v u Q I rx ry ⟨r, h, q⟩ hs => h a b pins s σ H x y v u Q I rx ry q hs
def cAny (X : Cx) (f : Value) : List V → Hp → VK → Prop := fun us H Q => ∃ r, CallR X f r ∧ r us H Q
theorem call_any {X : Cx} {f : Value} : CallR X f (cAny X f) := fun pins s σ H xs us Q I rx ⟨r, h, q⟩ => h pins s σ H xs us Q I rx q
section
variable {C : Cfg} {ρ : DEnv} {a b c e : Expr} {es : List Expr} {pos : Pos}
theorem EvP.imp {p q : D → Prop} (h : EvP C e ρ p) (k : ∀ d, p d → q d) : EvP C e ρ q := fun X hX B Z Y σ H R Q hQ => h X hX B Z Y σ H R Q fun v d H' hp => hQ v d H' (k d hp)
theorem EvT.imp {p q : Bool → Prop} (h : EvT C e ρ p) (k : ∀ d, p d → q d) : EvT C e ρ q := fun X hX B Z Y σ H R Q hQ => h X hX B Z Y σ H R Q fun d H' hp => hQ d H' (k d hp)
theorem EvD.is {d d' : D} (h : EvD C e ρ d) (k : d = d') : EvD C e ρ d' := k ▸ h
theorem EvO.is {d d' : D} (h : EvO C e ρ (· = d)) (k : d = d') : EvO C e ρ (· = d') := k ▸ h
/-- a new container, frozen at once -/
theorem ev_o {p : D → Prop} (h : EvO C e ρ p) : EvP C e ρ p := fun X hX B Z Y σ H R Q hQ => h X hX B Z Y σ H R Q fun a d H' hp ha x ov => hQ _ d H' hp x (R.y.frz ha ov)
/-! #### names, constants -/
theorem ev_var (i : Nat) {x : Str} {d : D} (h : ρ[i]? = some (some (.v d)) := by rfl) (hN : C.N[i]? = some x := by rfl) (hv : Vis C.sc x := by first | exact Or.inl rfl | exact Or.inr (Or.inl rfl) | exact Or.inr (Or.inr rfl)) (hd : (x == ("__debug__" : Str)) = false := by decide)
    (hcd : (x == ("__classdict__" : Str)) = false := by decide) : EvD C (.Name x pos) ρ d := fun X hX B Z Y σ H R Q hQ => by
  obtain ⟨v, e, dv⟩ := R.fz i d h
  exact WE.of (pe_var (by rw [← hX.N]; exact hN) (by rw [← hX.sc]; exact hv) hd hcd) ⟨v, e, hQ v d H rfl (Ext.refl C H) dv⟩
theorem ev_int {i : Int} {j} : EvD C (.Constant (.int i) j pos) ρ (.int i) := fun X hX B Z Y σ H R Q hQ => WE.of pe_int (hQ _ _ H rfl (Ext.refl C H) (.int i))
theorem ev_bl {i : Bool} {j} : EvD C (.Constant (.bool i) j pos) ρ (.bl i) := fun X hX B Z Y σ H R Q hQ => WE.of pe_bl (hQ _ _ H rfl (Ext.refl C H) (.bl i))
theorem ev_non {j} : EvD C (.Constant .none j pos) ρ .non := fun X hX B Z Y σ H R Q hQ => WE.of pe_non (hQ _ _ H rfl (Ext.refl C H) .non)
def GlC (C : Cfg) (x : Str) : Prop := C.sc.names.lookup x = some .globalImplicit
theorem XOk.gl {X : Cx} {x : Str} (hX : XOk C X) (h : GlC C x) : Gl X x := by
  show X.env.scope.names.lookup x = _
  rw [← hX.sc]; exact h
theorem ev_globI {x : Str} {i : Int} {t : Tok} (hm : C.mg x = some (.int i t)) (hg : GlC C x := by rfl) (hd : (x == ("__debug__" : Str)) = false := by decide) : EvD C (.Name x pos) ρ (.int i) := fun X hX B Z Y σ H R Q hQ =>
  WE.of (pe_glob (v := .int i) (hX.gl hg) (by rw [← hX.mg]; exact hm) ⟨t, rfl⟩ hd) (hQ _ _ H rfl (Ext.refl C H) (.int i))
theorem ev_ty {x : Str} {n : String} (hm : C.mg x = none) (hv : bootBuiltins x = some (.type n) := by decide +kernel) (hg : GlC C x := by rfl) (hn : x ≠ "__name__" := by decide) (hd : (x == ("__debug__" : Str)) = false := by decide) : EvD C (.Name x pos) ρ (.ty n) := fun X hX B Z Y σ H R Q hQ =>
  WE.of (pe_bltn (v := .ty n) (hX.gl hg) (by rw [← hX.mg]; exact hm) hv rfl hn hd) (hQ _ _ H rfl (Ext.refl C H) (.ty n))
/-! #### argument lists, displays -/
theorem ea_nil : EvA C [] ρ (· = []) := fun X hX B Z Y σ H R Q hQ => WA.of pa_nil (hQ _ _ H rfl (Ext.refl C H) .nil)
theorem ea_consP {pa : D → Prop} {ps p : List D → Prop} (ha : EvP C e ρ pa) (hr : EvA C es ρ ps) (h : ∀ d ds, pa d → ps ds → p (d :: ds)) (hs : ∀ env, starEach (e :: es) env = (false, eval e env) :: starEach es env := by intro _; rfl) : EvA C (e :: es) ρ p := fun X hX B Z Y σ H R Q hQ => by
  refine WA.of (pa_cons pe_we pa_wa (hs _)) (ha X hX B Z Y σ H R _ fun v d H1 hd x1 dv => ?_)
  refine hr X hX B Z Y σ H1 (R.ext x1) _ fun vs ds H2 hds x2 dvs => ?_
  exact hQ _ _ H2 (h d ds hd hds) (x1.trans x2) (.cons (dv.mono ((R.ext x1).sub x2)) dvs)
theorem ea_cons {d : D} {ds : List D} (ha : EvD C e ρ d) (hr : EvA C es ρ (· = ds)) (hs : ∀ env, starEach (e :: es) env = (false, eval e env) :: starEach es env := by intro _; rfl) : EvA C (e :: es) ρ (· = d :: ds) :=
  ea_consP ha hr (by rintro _ _ rfl rfl; rfl) hs
theorem ev_tupP {k} {ps : List D → Prop} {p : D → Prop} (h : EvA C es ρ ps) (k1 : ∀ ds, ps ds → ds.length ≤ 100000 ∧ p (.tup ds)) : EvP C (.Tuple es k pos) ρ p := fun X hX B Z Y σ H R Q hQ =>
  WE.of (pe_tup pa_wa) (h X hX B Z Y σ H R _ fun vs ds H1 hds x dvs => by
    obtain ⟨hl, hp⟩ := k1 ds hds
    refine ⟨by rw [dvs.length]; exact Nat.le_trans hl (by decide), fun p hp' => ?_⟩
    exact hQ _ _ _ hp (x.trans (Ext.new hp')) ((R.ext x).y.newTup hp' dvs))
theorem ev_tup {k} {ds : List D} (h : EvA C es ρ (· = ds)) (hl : ds.length ≤ 100000 := by first | decide | simp) : EvD C (.Tuple es k pos) ρ (.tup ds) := ev_tupP h (by rintro _ rfl; exact ⟨hl, rfl⟩)
theorem eo_lstP {ps : List D → Prop} {p : D → Prop} (h : EvA C es ρ ps) (k1 : ∀ ds, ps ds → ds.length ≤ 100000 ∧ p (.lst ds)) : EvO C (.List es pos) ρ p := fun X hX B Z Y σ H R Q hQ =>
  WE.of (pe_lst pa_wa) (h X hX B Z Y σ H R _ fun vs ds H1 hds x dvs => by
    obtain ⟨hl, hp⟩ := k1 ds hds
    refine ⟨by rw [dvs.length]; exact Nat.le_trans hl (by decide), fun p hp' => ?_⟩
    exact hQ _ _ _ hp ((fun z => x.fresh z ((R.ext x).freshR hp')) hp') (x.trans (Ext.new hp')) ((R.ext x).y.newLst hp' dvs))
theorem eo_lst {ds : List D} (h : EvA C es ρ (· = ds)) (hl : ds.length ≤ 100000 := by first | decide | simp) : EvO C (.List es pos) ρ (· = .lst ds) := eo_lstP h (by rintro _ rfl; exact ⟨hl, rfl⟩)
theorem eo_dictI : EvO C (.Dict [] [] pos) ρ (· = .dI []) := fun X hX B Z Y σ H R Q hQ => WE.of pe_dnewK fun p hp => hQ p _ _ rfl hp (Ext.new hp) ⟨[], upd_same, rfl, .nil⟩
theorem eo_dictT : EvO C (.Dict [] [] pos) ρ (· = .dT []) := fun X hX B Z Y σ H R Q hQ => WE.of pe_dnewT fun p hp => hQ p _ _ rfl hp (Ext.new hp) ⟨[], upd_same, rfl, .nil⟩
/-! #### operators -/
theorem ev_binP {op : Operator} {pa pb p : D → Prop} (ha : EvP C a ρ pa) (hb : EvP C b ρ pb) (h : ∀ x y, pa x → pb y → OpD C (binaryOp op) x y p) : EvP C (.BinOp a op b pos) ρ p := fun X hX B Z Y σ H R Q hQ => by
  refine WE.of (pe_op op_any pe_we pe_we) (ha X hX B Z Y σ H R _ fun v x H1 px x1 dv => ?_)
  refine hb X hX B Z Y σ H1 (R.ext x1) _ fun u y H2 py x2 du => ?_
  exact h x y px py X hX Y H2 v u Q ((R.ext x1).ext x2).y (dv.mono ((R.ext x1).sub x2)) du fun z d H3 pd x3 dz => hQ z d H3 pd ((x1.trans x2).trans x3) dz
theorem ev_bin {op : Operator} {x y z : D} (ha : EvD C a ρ x) (hb : EvD C b ρ y) (h : OpD C (binaryOp op) x y (· = z)) : EvD C (.BinOp a op b pos) ρ z := ev_binP ha hb (by rintro _ _ rfl rfl; exact h)
theorem eo_bin {op : Operator} {x y z : D} (ha : EvD C a ρ x) (hb : EvD C b ρ y) (h : OpO C (binaryOp op) x y (· = z)) : EvO C (.BinOp a op b pos) ρ (· = z) := fun X hX B Z Y σ H R Q hQ => by
  refine WE.of (pe_op op_any pe_we pe_we) (ha X hX B Z Y σ H R _ fun v x H1 px x1 dv => ?_)
  refine hb X hX B Z Y σ H1 (R.ext x1) _ fun u y H2 py x2 du => ?_
  cases px; cases py
  exact h X hX Y H2 v u Q ((R.ext x1).ext x2).y (dv.mono ((R.ext x1).sub x2)) du fun z d H3 pd hz x3 dz => hQ z d H3 pd ((x1.trans x2).fresh hz (((R.ext x1).ext x2).freshR hz)) ((x1.trans x2).trans x3) dz
theorem ev_cmpP {op : CmpOp} {pa pb p : D → Prop} (ha : EvP C a ρ pa) (hb : EvP C b ρ pb) (h : ∀ x y, pa x → pb y → OpD C (compareOp op) x y p) (hm : behindInMarks op b = false := by first | exact nomark _ | rfl) : EvP C (.Compare a [op] [b] pos) ρ p := fun X hX B Z Y σ H R Q hQ => by
  refine WE.of (pe_cmpR op_any pe_we pe_we hm) (ha X hX B Z Y σ H R _ fun v x H1 px x1 dv => ?_)
  refine hb X hX B Z Y σ H1 (R.ext x1) _ fun u y H2 py x2 du => ?_
  exact h x y px py X hX Y H2 v u Q ((R.ext x1).ext x2).y (dv.mono ((R.ext x1).sub x2)) du fun z d H3 pd x3 dz => hQ z d H3 pd ((x1.trans x2).trans x3) dz
theorem ev_cmp {op : CmpOp} {x y z : D} (ha : EvD C a ρ x) (hb : EvD C b ρ y) (h : OpD C (compareOp op) x y (· = z)) (hm : behindInMarks op b = false := by first | exact nomark _ | rfl) : EvD C (.Compare a [op] [b] pos) ρ z := ev_cmpP ha hb (by rintro _ _ rfl rfl; exact h) hm
theorem et_cmpP {op : CmpOp} {pa pb : D → Prop} {p : Bool → Prop} (ha : EvP C a ρ pa) (hb : EvP C b ρ pb) (h : ∀ x y, pa x → pb y → OpD C (compareOp op) x y (fun d => ∃ k, d = .bl k ∧ p k)) (hm : behindInMarks op b = false := by first | exact nomark _ | rfl) : EvT C (.Compare a [op] [b] pos) ρ p := fun X hX B Z Y σ H R Q hQ => by
  refine WT.of (pt_cmpR op_any pe_we pe_we hm) (ha X hX B Z Y σ H R _ fun v x H1 px x1 dv => ?_)
  refine hb X hX B Z Y σ H1 (R.ext x1) _ fun u y H2 py x2 du => ?_
  refine h x y px py X hX Y H2 v u _ ((R.ext x1).ext x2).y (dv.mono ((R.ext x1).sub x2)) du fun z d H3 pd x3 dz => ?_
  obtain ⟨k, rfl, pk⟩ := pd
  cases dz
  exact ⟨k, rfl, hQ k H3 pk ((x1.trans x2).trans x3)⟩
theorem et_cmp {op : CmpOp} {x y : D} {k : Bool} (ha : EvD C a ρ x) (hb : EvD C b ρ y) (h : OpD C (compareOp op) x y (· = .bl k)) (hm : behindInMarks op b = false := by first | exact nomark _ | rfl) : EvT C (.Compare a [op] [b] pos) ρ (· = k) :=
  et_cmpP ha hb (by rintro _ _ rfl rfl; exact fun X hX Y H u v Q y du dv hQ => h X hX Y H u v Q y du dv fun z d H' hd => hQ z d H' ⟨k, hd, rfl⟩) hm
/-- a chain of two -/
theorem ev_chain {op op' : CmpOp} {x y z : D} {k k' : Bool} (ha : EvD C a ρ x) (hb : EvD C b ρ y) (hc : k = true → EvD C c ρ z) (h : OpD C (compareOp op) x y (· = .bl k)) (h' : k = true → OpD C (compareOp op') y z (· = .bl k')) (hm : lastMarks [op, op'] [b, c] = false := by with_unfolding_all rfl) :
    EvD C (.Compare a [op, op'] [b, c] pos) ρ (.bl (k && k')) := fun X hX B Z Y σ H R Q hQ => by
  refine WE.of (pe_chain op_any op_any pe_we pe_we pe_we hm) (ha X hX B Z Y σ H R _ fun v x H1 px x1 dv => ?_)
  refine hb X hX B Z Y σ H1 (R.ext x1) _ fun u y H2 py x2 du => ?_
  cases px; cases py
  have R2 := (R.ext x1).ext x2
  refine h X hX Y H2 v u _ R2.y (dv.mono ((R.ext x1).sub x2)) du fun w d H3 pd x3 dz => ?_
  subst pd
  cases dz
  refine ⟨k, rfl, ?_⟩
  cases k with
  | false => exact iteF (hQ _ _ H3 rfl ((x1.trans x2).trans x3) (.bl _))
  | true =>
    refine iteT (hc rfl X hX B Z Y σ H3 (R2.ext x3) _ fun w d H4 pd x4 dw => ?_)
    subst pd
    exact h' rfl X hX Y H4 u w Q ((R2.ext x3).ext x4).y (du.mono (R2.sub (x3.trans x4))) dw fun q d H5 pd x5 dq => hQ q d H5 pd ((x1.trans x2).trans ((x3.trans x4).trans x5)) dq
theorem et_chain {op op' : CmpOp} {x y z : D} {k k' : Bool} (ha : EvD C a ρ x) (hb : EvD C b ρ y) (hc : k = true → EvD C c ρ z) (h : OpD C (compareOp op) x y (· = .bl k)) (h' : k = true → OpD C (compareOp op') y z (· = .bl k')) (hm : lastMarks [op, op'] [b, c] = false := by with_unfolding_all rfl) :
    EvT C (.Compare a [op, op'] [b, c] pos) ρ (· = (k && k')) := fun X hX B Z Y σ H R Q hQ => by
  refine WT.of (pt_chain op_any op_any pe_we pe_we pe_we hm) (ha X hX B Z Y σ H R _ fun v x H1 px x1 dv => ?_)
  refine hb X hX B Z Y σ H1 (R.ext x1) _ fun u y H2 py x2 du => ?_
  cases px; cases py
  have R2 := (R.ext x1).ext x2
  refine h X hX Y H2 v u _ R2.y (dv.mono ((R.ext x1).sub x2)) du fun w d H3 pd x3 dz => ?_
  subst pd
  cases dz
  refine ⟨k, rfl, ?_⟩
  cases k with
  | false => exact iteF ⟨_, rfl, hQ _ H3 rfl ((x1.trans x2).trans x3)⟩
  | true =>
    refine iteT (hc rfl X hX B Z Y σ H3 (R2.ext x3) _ fun w d H4 pd x4 dw => ?_)
    subst pd
    refine h' rfl X hX Y H4 u w _ ((R2.ext x3).ext x4).y (du.mono (R2.sub (x3.trans x4))) dw fun q d H5 pd x5 dq => ?_
    subst pd
    cases dq
    exact ⟨_, rfl, hQ _ H5 (by simp) ((x1.trans x2).trans ((x3.trans x4).trans x5))⟩
theorem ev_neg {i : Int} (ha : EvD C a ρ (.int i)) : EvD C (.UnaryOp .USub a pos) ρ (.int (-i)) := fun X hX B Z Y σ H R Q hQ => by
  refine WE.of (pe_un un_neg pe_we) (ha X hX B Z Y σ H R _ fun v x H1 px x1 dv => ?_)
  subst px
  cases dv
  exact ⟨i, rfl, hQ _ _ H1 rfl x1 (.int _)⟩
/-! #### truth -/
/-- an expression whose value is a bool, as a test  -/
theorem et_valP {p : Bool → Prop} (h : EvP C e ρ (fun d => ∃ k, d = .bl k ∧ p k)) (he : ∀ env whole, isTrue e env whole = (do let v ← whole; standAt e.pos; holding [v] (truthy v)) := by intro _ _; rfl) : EvT C e ρ p := fun X hX B Z Y σ H R Q hQ => by
  refine WT.of (pt_val pe_we (he _)) (h X hX B Z Y σ H R _ fun v x H1 px x1 dv => ?_)
  obtain ⟨k, rfl, pk⟩ := px
  cases dv
  exact ⟨k, rfl, hQ k H1 pk x1⟩
theorem et_val {k : Bool} (h : EvD C e ρ (.bl k)) (he : ∀ env whole, isTrue e env whole = (do let v ← whole; standAt e.pos; holding [v] (truthy v)) := by intro _ _; rfl) : EvT C e ρ (· = k) := et_valP (h.imp fun d hd => ⟨k, hd, rfl⟩) he
theorem et_w {p : Bool → Prop} (h : EvW C e ρ p) : EvT C e ρ p := fun X hX B Z Y σ H R Q hQ => WT.of pw_ww.pt (h X hX B Z Y σ H R Q hQ)
theorem ew_and1 {p : Bool → Prop} (h : EvT C a ρ p) : EvW C (.BoolOp .And [a] pos) ρ p := fun X hX B Z Y σ H R Q hQ => WW.of (pw_and1 pt_wt) (h X hX B Z Y σ H R Q hQ)
theorem ew_or1 {p : Bool → Prop} (h : EvT C a ρ p) : EvW C (.BoolOp .Or [a] pos) ρ p := fun X hX B Z Y σ H R Q hQ => WW.of (pw_or1 pt_wt) (h X hX B Z Y σ H R Q hQ)
theorem ew_and {k k' : Bool} (ha : EvT C a ρ (· = k)) (hb : k = true → EvW C (.BoolOp .And (b :: es) pos) ρ (· = k')) : EvW C (.BoolOp .And (a :: b :: es) pos) ρ (· = (k && k')) := fun X hX B Z Y σ H R Q hQ => by
  refine WW.of (pw_and pt_wt pw_ww) (ha X hX B Z Y σ H R _ fun j H1 pj x1 => ?_)
  subst pj
  cases j with
  | false => exact iteF (hQ _ H1 rfl x1)
  | true => exact iteT (hb rfl X hX B Z Y σ H1 (R.ext x1) _ fun j H2 pj x2 => hQ j H2 (by rw [pj]; simp) (x1.trans x2))
theorem ew_andP {k : Bool} {p : Bool → Prop} (ha : EvT C a ρ (· = k)) (hf : k = false → p false) (hb : k = true → EvW C (.BoolOp .And (b :: es) pos) ρ p) : EvW C (.BoolOp .And (a :: b :: es) pos) ρ p := fun X hX B Z Y σ H R Q hQ => by
  refine WW.of (pw_and pt_wt pw_ww) (ha X hX B Z Y σ H R _ fun j H1 pj x1 => ?_)
  subst pj
  cases j with
  | false => exact iteF (hQ _ H1 (hf rfl) x1)
  | true => exact iteT (hb rfl X hX B Z Y σ H1 (R.ext x1) _ fun j H2 pj x2 => hQ j H2 pj (x1.trans x2))
theorem ew_or {k k' : Bool} (ha : EvT C a ρ (· = k)) (hb : k = false → EvW C (.BoolOp .Or (b :: es) pos) ρ (· = k')) : EvW C (.BoolOp .Or (a :: b :: es) pos) ρ (· = (k || k')) := fun X hX B Z Y σ H R Q hQ => by
  refine WW.of (pw_or pt_wt pw_ww) (ha X hX B Z Y σ H R _ fun j H1 pj x1 => ?_)
  subst pj
  cases j with
  | true => exact iteT (hQ _ H1 rfl x1)
  | false => exact iteF (hb rfl X hX B Z Y σ H1 (R.ext x1) _ fun j H2 pj x2 => hQ j H2 (by rw [pj]; simp) (x1.trans x2))
theorem et_not {k : Bool} (h : EvT C a ρ (· = k)) : EvT C (.UnaryOp .Not a pos) ρ (· = !k) := fun X hX B Z Y σ H R Q hQ =>
  WT.of (pt_not pt_wt) (h X hX B Z Y σ H R _ fun j H1 pj x1 => hQ _ H1 (by rw [pj]) x1)
/-- as values -/
theorem ev_one {op} {p : D → Prop} (h : EvP C a ρ p) : EvP C (.BoolOp op [a] pos) ρ p := fun X hX B Z Y σ H R Q hQ => WE.of (pe_one pe_we) (h X hX B Z Y σ H R Q hQ)
theorem ev_and {k k' : Bool} (ha : EvD C a ρ (.bl k)) (hb : k = true → EvD C (.BoolOp .And (b :: es) pos) ρ (.bl k')) : EvD C (.BoolOp .And (a :: b :: es) pos) ρ (.bl (k && k')) := fun X hX B Z Y σ H R Q hQ => by
  refine WE.of (pe_and pe_we pe_we) (ha X hX B Z Y σ H R _ fun v d H1 pd x1 dv => ?_)
  subst pd
  cases dv
  refine ⟨k, rfl, ?_⟩
  cases k with
  | false => exact iteF (hQ _ _ H1 rfl x1 (.bl _))
  | true => exact iteT (hb rfl X hX B Z Y σ H1 (R.ext x1) _ fun v d H2 pd x2 dv => hQ v d H2 (by rw [pd]; simp) (x1.trans x2) dv)
theorem ev_or {k k' : Bool} (ha : EvD C a ρ (.bl k)) (hb : k = false → EvD C (.BoolOp .Or (b :: es) pos) ρ (.bl k')) : EvD C (.BoolOp .Or (a :: b :: es) pos) ρ (.bl (k || k')) := fun X hX B Z Y σ H R Q hQ => by
  refine WE.of (pe_or pe_we pe_we) (ha X hX B Z Y σ H R _ fun v d H1 pd x1 dv => ?_)
  subst pd
  cases dv
  refine ⟨k, rfl, ?_⟩
  cases k with
  | true => exact iteT (hQ _ _ H1 rfl x1 (.bl _))
  | false => exact iteF (hb rfl X hX B Z Y σ H1 (R.ext x1) _ fun v d H2 pd x2 dv => hQ v d H2 (by rw [pd]; simp) (x1.trans x2) dv)
theorem ev_not {k : Bool} (ha : EvD C a ρ (.bl k)) : EvD C (.UnaryOp .Not a pos) ρ (.bl (!k)) := fun X hX B Z Y σ H R Q hQ => by
  refine WE.of (pe_not pe_we) (ha X hX B Z Y σ H R _ fun v d H1 pd x1 dv => ?_)
  subst pd
  cases dv
  exact ⟨k, rfl, hQ _ _ H1 rfl x1 (.bl _)⟩
theorem ev_ifP {p : D → Prop} {pk : Bool → Prop} (hc : EvT C c ρ pk) (ha : pk true → EvP C a ρ p) (hb : pk false → EvP C b ρ p) : EvP C (.IfExp c a b pos) ρ p := fun X hX B Z Y σ H R Q hQ => by
  refine WE.of (pe_ifExp pt_wt pe_we pe_we) (hc X hX B Z Y σ H R _ fun j H1 pj x1 => ?_)
  cases j with
  | true => exact iteT (ha pj X hX B Z Y σ H1 (R.ext x1) _ fun v d H2 pd x2 dv => hQ v d H2 pd (x1.trans x2) dv)
  | false => exact iteF (hb pj X hX B Z Y σ H1 (R.ext x1) _ fun v d H2 pd x2 dv => hQ v d H2 pd (x1.trans x2) dv)
theorem ev_if {k : Bool} {x y : D} (hc : EvT C c ρ (· = k)) (ha : k = true → EvD C a ρ x) (hb : k = false → EvD C b ρ y) : EvD C (.IfExp c a b pos) ρ (if k = true then x else y) :=
  ev_ifP hc (fun h => by subst h; exact (ha rfl).is (by simp)) (fun h => by subst h; exact (hb rfl).is (by simp))
/-! #### subscripts -/
theorem ev_ixP {pa pb p : D → Prop} (ha : EvP C a ρ pa) (hb : EvP C b ρ pb) (h : ∀ x y, pa x → pb y → IxD C x y p) (hs : PlainIx b := by intro _ _; rfl) : EvP C (.Subscript a b pos) ρ p := fun X hX B Z Y σ H R Q hQ => by
  refine WE.of (pe_ix ix_any pe_we pe_we hs) (ha X hX B Z Y σ H R _ fun v x H1 px x1 dv => ?_)
  refine hb X hX B Z Y σ H1 (R.ext x1) _ fun u y H2 py x2 du => ?_
  exact h x y px py X hX Y H2 v u Q ((R.ext x1).ext x2).y (dv.mono ((R.ext x1).sub x2)) du fun z d H3 pd x3 dz => hQ z d H3 pd ((x1.trans x2).trans x3) dz
theorem ev_ix {x y z : D} (ha : EvD C a ρ x) (hb : EvD C b ρ y) (h : IxD C x y (· = z)) (hs : PlainIx b := by intro _ _; rfl) : EvD C (.Subscript a b pos) ρ z := ev_ixP ha hb (by rintro _ _ rfl rfl; exact h) hs
/-! #### calls of built-ins -/
theorem ev_callBP {x : Str} {id : String} {ps : List D → Prop} {p : D → Prop} {pp : Pos} (ha : EvA C (e :: es) ρ ps) (h : ∀ ds, ps ds → CallD C (.builtin id) ds p) (hm : C.mg x = none) (hv : bootBuiltins x = some (.builtin id) := by decide +kernel) (hg : GlC C x := by rfl) (hn : x ≠ "__name__" := by decide) (hdb : (x == ("__debug__" : Str)) = false := by decide)
    (he : ∀ env, starEach (e :: es) env = (false, eval e env) :: starEach es env := by intro _; rfl) (hpl : ∀ env, (backTo pos (starEach es env)).any (·.1) = false := by intro _; rfl) : EvP C (.Call (.Name x pp) (e :: es) [] pos) ρ p := fun X hX B Z Y σ H R Q hQ => by
  refine WE.of (pe_callB call_any (hX.gl hg) (by rw [← hX.mg]; exact hm) hv pa_wa hn hdb (he _) (hpl _)) (ha X hX B Z Y σ H R _ fun vs ds H1 pd x1 dvs => ?_)
  exact h ds pd X hX Y H1 vs Q (R.ext x1).y dvs fun z d H2 pd x2 dz => hQ z d H2 pd (x1.trans x2) dz
theorem ev_callB {x : Str} {id : String} {ds : List D} {d : D} {pp : Pos} (ha : EvA C (e :: es) ρ (· = ds)) (h : CallD C (.builtin id) ds (· = d)) (hm : C.mg x = none) (hv : bootBuiltins x = some (.builtin id) := by decide +kernel) (hg : GlC C x := by rfl) (hn : x ≠ "__name__" := by decide) (hdb : (x == ("__debug__" : Str)) = false := by decide)
    (he : ∀ env, starEach (e :: es) env = (false, eval e env) :: starEach es env := by intro _; rfl) (hpl : ∀ env, (backTo pos (starEach es env)).any (·.1) = false := by intro _; rfl) : EvD C (.Call (.Name x pp) (e :: es) [] pos) ρ d := ev_callBP ha (by rintro _ rfl; exact h) hm hv hg hn hdb he hpl
theorem ev_callTP {x : Str} {T : String} {ps : List D → Prop} {p : D → Prop} {pp : Pos} (ha : EvA C (e :: es) ρ ps) (h : ∀ ds, ps ds → CallD C (.type T) ds p) (hm : C.mg x = none) (hv : bootBuiltins x = some (.type T) := by decide +kernel) (hg : GlC C x := by rfl) (hn : x ≠ "__name__" := by decide) (hdb : (x == ("__debug__" : Str)) = false := by decide)
    (he : ∀ env, starEach (e :: es) env = (false, eval e env) :: starEach es env := by intro _; rfl) (hpl : ∀ env, (backTo pos (starEach es env)).any (·.1) = false := by intro _; rfl) : EvP C (.Call (.Name x pp) (e :: es) [] pos) ρ p := fun X hX B Z Y σ H R Q hQ => by
  refine WE.of (pe_callTy call_any (hX.gl hg) (by rw [← hX.mg]; exact hm) hv pa_wa hn hdb (he _) (hpl _)) (ha X hX B Z Y σ H R _ fun vs ds H1 pd x1 dvs => ?_)
  exact h ds pd X hX Y H1 vs Q (R.ext x1).y dvs fun z d H2 pd x2 dz => hQ z d H2 pd (x1.trans x2) dz
theorem ev_callT {x : Str} {T : String} {ds : List D} {d : D} {pp : Pos} (ha : EvA C (e :: es) ρ (· = ds)) (h : CallD C (.type T) ds (· = d)) (hm : C.mg x = none) (hv : bootBuiltins x = some (.type T) := by decide +kernel) (hg : GlC C x := by rfl) (hn : x ≠ "__name__" := by decide) (hdb : (x == ("__debug__" : Str)) = false := by decide)
    (he : ∀ env, starEach (e :: es) env = (false, eval e env) :: starEach es env := by intro _; rfl) (hpl : ∀ env, (backTo pos (starEach es env)).any (·.1) = false := by intro _; rfl) : EvD C (.Call (.Name x pp) (e :: es) [] pos) ρ d := ev_callTP ha (by rintro _ rfl; exact h) hm hv hg hn hdb he hpl
theorem eo_callB {x : Str} {id : String} {ds : List D} {p : D → Prop} {pp : Pos} (ha : EvA C (e :: es) ρ (· = ds)) (h : CallO C (.builtin id) ds p) (hm : C.mg x = none) (hv : bootBuiltins x = some (.builtin id) := by decide +kernel) (hg : GlC C x := by rfl) (hn : x ≠ "__name__" := by decide) (hdb : (x == ("__debug__" : Str)) = false := by decide)
    (he : ∀ env, starEach (e :: es) env = (false, eval e env) :: starEach es env := by intro _; rfl) (hpl : ∀ env, (backTo pos (starEach es env)).any (·.1) = false := by intro _; rfl) : EvO C (.Call (.Name x pp) (e :: es) [] pos) ρ p := fun X hX B Z Y σ H R Q hQ => by
  refine WE.of (pe_callB call_any (hX.gl hg) (by rw [← hX.mg]; exact hm) hv pa_wa hn hdb (he _) (hpl _)) (ha X hX B Z Y σ H R _ fun vs ds H1 pd x1 dvs => ?_)
  subst pd
  exact h X hX Y H1 vs Q (R.ext x1).y dvs fun z d H2 pd hz x2 dz => hQ z d H2 pd (x1.fresh hz ((R.ext x1).freshR hz)) (x1.trans x2) dz
theorem eo_callT {x : Str} {T : String} {ds : List D} {p : D → Prop} {pp : Pos} (ha : EvA C (e :: es) ρ (· = ds)) (h : CallO C (.type T) ds p) (hm : C.mg x = none) (hv : bootBuiltins x = some (.type T) := by decide +kernel) (hg : GlC C x := by rfl) (hn : x ≠ "__name__" := by decide) (hdb : (x == ("__debug__" : Str)) = false := by decide)
    (he : ∀ env, starEach (e :: es) env = (false, eval e env) :: starEach es env := by intro _; rfl) (hpl : ∀ env, (backTo pos (starEach es env)).any (·.1) = false := by intro _; rfl) : EvO C (.Call (.Name x pp) (e :: es) [] pos) ρ p := fun X hX B Z Y σ H R Q hQ => by
  refine WE.of (pe_callTy call_any (hX.gl hg) (by rw [← hX.mg]; exact hm) hv pa_wa hn hdb (he _) (hpl _)) (ha X hX B Z Y σ H R _ fun vs ds H1 pd x1 dvs => ?_)
  subst pd
  exact h X hX Y H1 vs Q (R.ext x1).y dvs fun z d H2 pd hz x2 dz => hQ z d H2 pd (x1.fresh hz ((R.ext x1).freshR hz)) (x1.trans x2) dz
end
end DL
/-! text DL3 -/
/-! DL3: what is walked, comprehensions, statements, defs and their calls. -/
namespace DL
open PySem PySem.Spec L2
open PyProof.Rows hiding St
/-! ### what a loop walks -/
def WI (X : Cx) (tg it : Expr) : TI := fun σ H R => ∀ (pins : List (Addr × Obj)) (s : Shared), Inv X pins σ H s → wpAny (model X.prog X.w) X.A (eval it X.env) (fun v s1 => wpAny (model X.prog X.w) X.A (pyIter v) (PIE X pins σ tg R) X.xe s1) X.xe s
theorem pi_wi {X : Cx} {tg it : Expr} : PI X tg it (WI X tg it) := ⟨fun pins s _ _ _ I h => h pins s I⟩
theorem WI.of {X : Cx} {tg it : Expr} {σ : St} {H : Hp} {t : TI} {R : It → Hp → Prop} (h : PI X tg it t) (q : t σ H R) : WI X tg it σ H R := fun pins s I => h.run pins s σ H R I q
/-- the iterator gives these items as long as what stood in G can be read -/
structure Feeds (C : Cfg) (J : It) (items : List D) (G : Hp) : Prop where
  go : ∀ (i : Nat) (d : D) Y H, items[i]? = some d → YOk C Y H → Sub G (hid H Y) → J.go i H ∧ ∀ x H', J.yld i H x H' → Ext C H H' ∧ DV C.r (hid H' Y) x d
  stop : ∀ (i : Nat) Y H, items.length ≤ i → YOk C Y H → Sub G (hid H Y) → J.stop i H
def EvI (C : Cfg) (tg it : Expr) (ρ : DEnv) (items : List D) : Prop := ∀ X, XOk C X → ∀ B Z Y σ H, Rl C B Z Y ρ σ H → ∀ R : It → Hp → Prop, (∀ J H1, Ext C H H1 → Feeds C J items (hid H1 Y) → R J H1) → WI X tg it σ H R
section
variable {C : Cfg} {ρ : DEnv} {tg e a b : Expr} {pos pp tpos : Pos} {ds es : List D}
theorem get_len {α : Type} {l : List α} {i : Nat} (h : l.length ≤ i) {x : α} (e : l[i]? = some x) : False := by
  rw [List.getElem?_eq_none h] at e; cases e
theorem hid_sq {H : Hp} {Y : Addr → Bool} {K : PySem.W.Frag} {p : Addr} {vs : List V} (h : hid H Y p = some (.lst vs)) : SqL K H p vs := .inl (.inl (hid_some h).2)
theorem hid_st {H : Hp} {Y : Addr → Bool} {K : PySem.W.Frag} {p : Addr} {vs : List V} (h : hid H Y p = some (.tup vs)) : SqT K H p vs := .inl (.inl (hid_some h).2)
theorem ei_list (h : EvD C e ρ (.lst ds)) : EvI C tg e ρ ds := fun X hX B Z Y σ H R Rr hR => by
  refine WI.of (pi_list pe_we) (h X hX B Z Y σ H R _ fun v d H1 hd x1 dv => ?_)
  subst hd
  cases dv with
  | @lst p vs _ e1 dvs =>
    refine ⟨p, rfl, ⟨vs, hid_sq e1⟩, hR _ H1 x1 ⟨fun i d Y' H' hi y hs => ?_, fun i Y' H' hi y hs => ?_⟩⟩
    · obtain ⟨v, h1, h2⟩ := (dvs.mono hs).get hi
      refine ⟨⟨vs, v, hid_sq (hs _ _ e1), h1⟩, fun x H'' hy => ?_⟩
      obtain ⟨rfl, hy⟩ := hy
      rw [hy vs (hid_sq (hs _ _ e1))] at h1
      cases h1
      exact ⟨Ext.refl C H'', h2⟩
    · exact ⟨vs, hid_sq (hs _ _ e1), by rw [dvs.length]; exact hi⟩
theorem ei_tup (h : EvD C e ρ (.tup ds)) : EvI C tg e ρ ds := fun X hX B Z Y σ H R Rr hR => by
  refine WI.of (pi_tup pe_we) (h X hX B Z Y σ H R _ fun v d H1 hd x1 dv => ?_)
  subst hd
  cases dv with
  | @tup p vs _ e1 dvs =>
    refine ⟨p, rfl, ⟨vs, hid_st e1⟩, hR _ H1 x1 ⟨fun i d Y' H' hi y hs => ?_, fun i Y' H' hi y hs => ?_⟩⟩
    · obtain ⟨v, h1, h2⟩ := (dvs.mono hs).get hi
      refine ⟨⟨vs, v, hid_st (hs _ _ e1), h1⟩, fun x H'' hy => ?_⟩
      obtain ⟨rfl, hy⟩ := hy
      rw [hy vs (hid_st (hs _ _ e1))] at h1
      cases h1
      exact ⟨Ext.refl C H'', h2⟩
    · exact ⟨vs, hid_st (hs _ _ e1), by rw [dvs.length]; exact hi⟩
def rangeD (lo : Int) (n : Nat) : List D := (List.range n).map fun (k : Nat) => D.int (lo + (k : Int))
theorem feeds_range (lo : Int) (n : Nat) (G : Hp) : Feeds C (Itr lo n) (rangeD lo n) G := by
  refine ⟨fun i d Y' H' hi y hs => ?_, fun i Y' H' hi y hs => ?_⟩
  · have hl : i < n := by
      have := (List.getElem?_eq_some_iff.mp  hi).1
      simpa [rangeD] using this
    refine ⟨hl, fun x H'' hy => ?_⟩
    obtain ⟨rfl, rfl⟩ := hy
    have : d = .int (lo + (i : Int)) := by
      simp [rangeD, List.getElem?_map, List.getElem?_range hl] at hi
      exact hi.symm
    subst this
    exact ⟨Ext.refl C H'', .int _⟩
  · show n ≤ i
    simpa [rangeD] using hi
theorem ei_range1 {n : Nat} (h : EvD C a ρ (.int n)) (hn : n ≤ 1000000) (hm : C.mg "range" = none) (hg : GlC C "range" := by rfl) (hs : ∀ env, starEach [a] env = [(false, eval a env)] := by intro _; rfl) : EvI C tg (.Call (.Name "range" pp) [a] [] pos) ρ (rangeD 0 n) := fun X hX B Z Y σ H R Rr hR => by
  refine WI.of (pi_range1 (hX.gl hg) (by rw [← hX.mg]; exact hm) pa_wa (hs _)) ((ea_cons h ea_nil hs) X hX B Z Y σ H R _ fun vs d H1 hd x1 dv => ?_)
  subst hd
  cases dv with
  | cons h1 h2 =>
    cases h1; cases h2
    have q := hR _ H1 x1 (feeds_range 0 n _)
    exact ⟨n, rfl, by omega, by omega, q⟩
theorem ei_range2 {i j : Int} (ha : EvD C a ρ (.int i)) (hb : EvD C b ρ (.int j)) (hi : -1000000 ≤ i ∧ i ≤ 1000000) (hj : -1000000 ≤ j ∧ j ≤ 1000000) (hm : C.mg "range" = none) (hg : GlC C "range" := by rfl) (hs : ∀ env, starEach [a, b] env = [(false, eval a env), (false, eval b env)] := by intro _; rfl) (hs2 : ∀ env, starEach [b] env = [(false, eval b env)] := by intro _; rfl) :
    EvI C tg (.Call (.Name "range" pp) [a, b] [] pos) ρ (rangeD i (j - i).toNat) := fun X hX B Z Y σ H R Rr hR => by
  refine WI.of (pi_range2 (hX.gl hg) (by rw [← hX.mg]; exact hm) pa_wa (hs _) (hs2 _)) ((ea_cons ha (ea_cons hb ea_nil hs2) (fun env => by rw [hs, hs2])) X hX B Z Y σ H R _ fun vs d H1 hd x1 dv => ?_)
  subst hd
  cases dv with
  | cons h1 h2 =>
    cases h1
    cases h2 with
    | cons h3 h4 =>
      cases h3; cases h4
      have q := hR _ H1 x1 (feeds_range i (j - i).toNat _)
      exact ⟨i, j, rfl, ⟨by omega, by omega, by omega, by omega⟩, q⟩
def enumD (n : Nat) : List D → List D
  | [] => []
  | d :: r => .tup [.int n, d] :: enumD (n + 1) r
theorem enumD_get : ∀ (ds : List D) (n i : Nat), (enumD n ds)[i]? = (ds[i]?).map fun d => D.tup [.int ((n + i : Nat) : Int), d]
  | [], _, i => by simp [enumD]
  | d :: r, n, 0 => by simp [enumD]
  | d :: r, n, i + 1 => by
    rw [enumD, List.getElem?_cons_succ, List.getElem?_cons_succ, enumD_get r (n + 1) i]
    congr 1
    funext d
    rw [show n + 1 + i = n + (i + 1) by omega]
theorem enumD_len : ∀ (ds : List D) (n : Nat), (enumD n ds).length = ds.length
  | [], _ => rfl
  | d :: r, n => by rw [enumD, List.length_cons, List.length_cons, enumD_len r]
theorem ei_enum {elts : List Expr} {kk : Nat} (h : EvD C e ρ (.lst ds)) (hm : C.mg "enumerate" = none) (hg : GlC C "enumerate" := by rfl) (hs : ∀ env, starEach [e] env = [(false, eval e env)] := by intro _; rfl) : EvI C (.Tuple elts kk tpos) (.Call (.Name "enumerate" pp) [e] [] pos) ρ (enumD 0 ds) := fun X hX B Z Y σ H R Rr hR => by
  refine WI.of (pi_enum (hX.gl hg) (by rw [← hX.mg]; exact hm) pa_wa (hs _)) ((ea_cons h ea_nil hs) X hX B Z Y σ H R _ fun vs d H1 hd x1 dv => ?_)
  subst hd
  cases dv with
  | cons h1 h2 =>
    cases h2
    cases h1 with
    | @lst p vs _ e1 dvs =>
      refine ⟨p, vs, rfl, hid_sq e1, hR _ H1 x1 ⟨fun i d Y' H' hi y hs => ?_, fun i Y' H' hi y hs => ?_⟩⟩
      · rw [enumD_get, Nat.zero_add] at hi
        cases q : ds[i]? with
        | none => rw [q] at hi; cases hi
        | some d0 =>
          rw [q] at hi; cases hi
          obtain ⟨v, h1, h2⟩ := (dvs.mono hs).get q
          refine ⟨⟨vs, v, hid_sq (hs _ _ e1), h1⟩, fun x H'' hy => ?_⟩
          obtain ⟨T, x0, rfl, nT, rfl, hy⟩ := hy
          rw [hy vs (hid_sq (hs _ _ e1))] at h1
          cases h1
          exact ⟨Ext.new nT, y.newTup nT (.cons (.int _) (.cons h2 .nil))⟩
      · exact ⟨vs, hid_sq (hs _ _ e1), by rw [dvs.length]; rw [enumD_len] at hi; exact hi⟩
def zipD : List D → List D → List D
  | x :: xs, y :: ys => .tup [x, y] :: zipD xs ys
  | _, _ => []
theorem zipD_get : ∀ (ds es : List D) (i : Nat) (d : D), (zipD ds es)[i]? = some d → ∃ x y, ds[i]? = some x ∧ es[i]? = some y ∧ d = .tup [x, y]
  | [], _, i, d, h => by simp [zipD] at h
  | _ :: _, [], i, d, h => by simp [zipD] at h
  | x :: xs, y :: ys, 0, d, h => by simp [zipD] at h; exact ⟨x, y, rfl, rfl, h.symm⟩
  | x :: xs, y :: ys, i + 1, d, h => zipD_get xs ys i d (by simpa [zipD] using h)
theorem zipD_len : ∀ (ds es : List D), (zipD ds es).length = min ds.length es.length
  | [], _ => by simp [zipD]
  | _ :: _, [] => by simp [zipD]
  | x :: xs, y :: ys => by rw [zipD, List.length_cons, zipD_len xs ys, List.length_cons, List.length_cons]; omega
theorem ei_zipLL {elts : List Expr} {kk : Nat} (ha : EvD C a ρ (.lst ds)) (hb : EvD C b ρ (.lst es)) (hm : C.mg "zip" = none) (hg : GlC C "zip" := by rfl) (hs : ∀ env, starEach [a, b] env = (false, eval a env) :: starEach [b] env := by intro _; rfl) (hs2 : ∀ env, starEach [b] env = (false, eval b env) :: starEach [] env := by intro _; rfl)
    (hpl : ∀ env, (backTo pos (starEach [b] env)).any (·.1) = false := by intro _; rfl) : EvI C (.Tuple elts kk tpos) (.Call (.Name "zip" pp) [a, b] [] pos) ρ (zipD ds es) := fun X hX B Z Y σ H R Rr hR => by
  refine WI.of (RZ.pi_zipA (hX.gl hg) (by rw [← hX.mg]; exact hm) pa_wa (hs _) (hpl _)) ((ea_cons ha (ea_cons hb ea_nil hs2) hs) X hX B Z Y σ H R _ fun vs d H1 hd x1 dv => ?_)
  subst hd
  cases dv with
  | cons h1 h2 =>
    cases h2 with
    | cons h2 h3 =>
      cases h3
      cases h1 with
      | @lst p vs _ e1 dvs =>
        cases h2 with
        | @lst q ws _ e2 dws =>
          refine ⟨p, q, vs, ws, rfl, .inl ⟨hid_sq e1, hid_sq e2, hR _ H1 x1 ⟨fun i d Y' H' hi y hs => ?_, fun i Y' H' hi y hs => ?_⟩⟩⟩
          · obtain ⟨dx, dy, h1, h2, rfl⟩ := zipD_get ds es i d hi
            obtain ⟨v, g1, g2⟩ := (dvs.mono hs).get h1
            obtain ⟨w, g3, g4⟩ := (dws.mono hs).get h2
            refine ⟨⟨vs, ws, v, w, hid_sq (hs _ _ e1), hid_sq (hs _ _ e2), g1, g3⟩, fun x H'' hy => ?_⟩
            obtain ⟨T, x0, y0, rfl, nT, rfl, f1, f2⟩ := hy
            rw [f1 vs (hid_sq (hs _ _ e1))] at g1
            rw [f2 ws (hid_sq (hs _ _ e2))] at g3
            cases g1; cases g3
            exact ⟨Ext.new nT, y.newTup nT (.cons g2 (.cons g4 .nil))⟩
          · rw [zipD_len] at hi
            exact ⟨vs, ws, hid_sq (hs _ _ e1), hid_sq (hs _ _ e2), by rw [dvs.length, dws.length]; omega⟩
end
/-! ### targets -/
def WG (X : Cx) (tg : Expr) : TG := fun v σ H Q => ∀ (pins : List (Addr × Obj)) (s : Shared) (u : Value), Inv X pins σ H s → RelV v u → wpAny (model X.prog X.w) X.A (assign tg X.env u) (fun _ s' => ∃ σ' H', Inv X pins σ' H' s' ∧ Q σ' H') X.xe s
theorem pg_wg {X : Cx} {tg : Expr} : PG X tg (WG X tg) := ⟨fun pins s _ _ v u _ I r h => h pins s u I r⟩
theorem WG.of {X : Cx} {tg : Expr} {v : V} {σ : St} {H : Hp} {t : TG} {Q : St → Hp → Prop} (h : PG X tg t) (q : t v σ H Q) : WG X tg v σ H Q := fun pins s u I r => h.run pins s σ H v u Q I r q
/-- the slots that a target stores into; outside all is as it was -/
def Outside (sl : List Nat) (σ σ' : St) : Prop := σ'.length = σ.length ∧ ∀ j, j ∉ sl → σ'[j]? = σ[j]?
structure StG (C : Cfg) (tg : Expr) (sl : List Nat) (g : D → DEnv → Option DEnv) : Prop where
  run : ∀ X, XOk C X → ∀ B Z Y σ H ρ v d ρ' (Q : St → Hp → Prop), Rl C B Z Y ρ σ H → DV C.r (hid H Y) v d → g d ρ = some ρ' → (∀ Y' σ', (∀ a, Y' a = true → Y a = true) → Outside sl σ σ' → Rl C B Z Y' ρ' σ' H → Q σ' H) → WG X tg v σ H Q
def LocC (C : Cfg) (x : Str) : Prop := C.sc.names.lookup x = some .local ∨ (C.sc.names.lookup x = some .cell ∧ C.dd = true)
theorem XOk.loc {C : Cfg} {X : Cx} {x : Str} (hX : XOk C X) (h : LocC C x) : Loc X.env.scope x ∧ (X.fn x = true ∨ X.env.scope.names.lookup x = some .local) := by
  rcases h with h | ⟨h, hd⟩
  · rw [hX.sc] at h; exact ⟨.inl h, .inr h⟩
  · rw [hX.sc] at h; exact ⟨.inr h, .inl (hX.fn hd x)⟩
section
variable {C : Cfg} {pos : Pos}
theorem outside_set {sl : List Nat} {σ : St} {i : Nat} {v : Option V} (h : i ∈ sl) : Outside sl σ (σ.set i v) := ⟨by simp, fun j hj => by rw [List.getElem?_set_ne (fun e => hj (by rw [← e]; exact h))]⟩
theorem Outside.trans {sl sl' : List Nat} {σ σ1 σ2 : St} (a : Outside sl σ σ1) (b : Outside sl' σ1 σ2) : Outside (sl ++ sl') σ σ2 := ⟨b.1.trans a.1, fun j hj => by
  simp only [List.mem_append, not_or] at hj
  rw [b.2 j hj.2, a.2 j hj.1]⟩
theorem sg_name (i : Nat) {x : Str} (hnd : C.N.Nodup) (hN : C.N[i]? = some x := by rfl) (hl : LocC C x := by first | exact Or.inl rfl | exact Or.inr ⟨rfl, rfl⟩) : StG C (.Name x pos) [i] (fun d ρ => some (ρ.set i (some (.v d)))) := ⟨fun X hX B Z Y σ H ρ v d ρ' Q R dv e hQ => by
  cases e
  obtain ⟨h1, h2⟩ := hX.loc hl
  refine WG.of (pg_name (by rw [← hX.N]; exact hnd) (by rw [← hX.N]; exact hN) h1 h2) ?_
  obtain ⟨Y', s, R'⟩ := R.setv i dv
  exact hQ Y' _ s (outside_set (by simp)) R'⟩
def WGs (X : Cx) (ts : List Expr) : TGs := fun vs σ H Q => ∀ (pins : List (Addr × Obj)) (s : Shared) (us : List Value), Inv X pins σ H s → Vals vs us → wpAny (model X.prog X.w) X.A (assignInOrder ((assignEach ts X.env).map (·.2)) us) (fun _ s' => ∃ σ' H', Inv X pins σ' H' s' ∧ Q σ' H') X.xe s
theorem pgs_wgs {X : Cx} {ts : List Expr} : PGs X ts (WGs X ts) := ⟨fun pins s _ _ vs us _ I r h => h pins s us I r⟩
theorem WGs.of {X : Cx} {ts : List Expr} {vs : List V} {σ : St} {H : Hp} {t : TGs} {Q : St → Hp → Prop} (h : PGs X ts t) (q : t vs σ H Q) : WGs X ts vs σ H Q := fun pins s us I r => h.run pins s σ H vs us Q I r q
structure StGs (C : Cfg) (ts : List Expr) (sl : List Nat) (g : List D → DEnv → Option DEnv) : Prop where
  run : ∀ X, XOk C X → ∀ B Z Y σ H ρ vs ds ρ' (Q : St → Hp → Prop), Rl C B Z Y ρ σ H → DVs C.r (hid H Y) vs ds → g ds ρ = some ρ' → (∀ Y' σ', (∀ a, Y' a = true → Y a = true) → Outside sl σ σ' → Rl C B Z Y' ρ' σ' H → Q σ' H) → WGs X ts vs σ H Q
def gNilD : List D → DEnv → Option DEnv
  | [], ρ => some ρ
  | _, _ => none
def gConsD (g : D → DEnv → Option DEnv) (u : List D → DEnv → Option DEnv) : List D → DEnv → Option DEnv
  | d :: ds, ρ => (g d ρ).bind (u ds)
  | _, _ => none
theorem sgs_nil : StGs C [] [] gNilD := ⟨fun X hX B Z Y σ H ρ vs ds ρ' Q R dv e hQ => by
  cases dv with
  | nil => cases e; exact WGs.of pgs_nil ⟨rfl, hQ Y σ (fun _ h => h) ⟨rfl, fun _ _ => rfl⟩ R⟩
  | cons _ _ => cases e⟩
theorem sgs_cons {t : Expr} {ts : List Expr} {sl sl' : List Nat} {g : D → DEnv → Option DEnv} {u : List D → DEnv → Option DEnv} (h1 : StG C t sl g) (h2 : StGs C ts sl' u) (hs : ∀ env, (assignEach (t :: ts) env).map (·.2) = assign t env :: (assignEach ts env).map (·.2) := by intro _; rfl) : StGs C (t :: ts) (sl ++ sl') (gConsD g u) := ⟨fun X hX B Z Y σ H ρ vs ds ρ' Q R dv e hQ => by
  cases dv with
  | nil => cases e
  | @cons v vs d ds h h' =>
    cases q : g d ρ with
    | none => simp only [gConsD, q, Option.bind_none] at e; cases e
    | some ρ1 =>
      simp only [gConsD, q, Option.bind_some] at e
      refine WGs.of (pgs_cons pg_wg pgs_wgs (hs _)) ⟨v, vs, rfl, h1.run X hX B Z Y σ H ρ v d ρ1 _ R h q fun Y1 σ1 s1 o1 R1 => ?_⟩
      exact h2.run X hX B Z Y1 σ1 H ρ1 vs ds ρ' Q R1 (h'.mono (hid_sub (fun _ _ _ e => e) fun a _ _ hh => s1 a hh)) e fun Y2 σ2 s2 o2 R2 => hQ Y2 σ2 (fun a hh => s1 a (s2 a hh)) (o1.trans o2) R2⟩
def gTupD (u : List D → DEnv → Option DEnv) : D → DEnv → Option DEnv
  | .tup ds, ρ => u ds ρ
  | _, _ => none
theorem sg_tup {ts : List Expr} {k n : Nat} {sl : List Nat} {u : List D → DEnv → Option DEnv} (h : StGs C ts sl u) (hu : ∀ ds ρ ρ', u ds ρ = some ρ' → ds.length = n) (hn : ∀ env, (assignEach ts env).length = n := by intro _; rfl) (hst : ∀ env, (assignEach ts env).findIdx? (·.1) = none := by intro _; rfl) : StG C (.Tuple ts k pos) sl (gTupD u) := ⟨fun X hX B Z Y σ H ρ v d ρ' Q R dv e hQ => by
  cases dv with
  | @tup p vs ds e1 dvs =>
    refine WG.of (pg_tup hX.calm pgs_wgs (hn _) (hst _)) ⟨p, vs, rfl, hid_st e1, by rw [dvs.length]; exact hu _ _ _ e, h.run X hX B Z Y σ H ρ vs ds ρ' Q R dvs e hQ⟩
  | _ => cases e⟩
/-- i, j = pair; i, j, k = triple -/
def g2 (i j : Nat) : D → DEnv → Option DEnv
  | .tup [x, y], ρ => some ((ρ.set i (some (.v x))).set j (some (.v y)))
  | _, _ => none
def g3 (i j k : Nat) : D → DEnv → Option DEnv
  | .tup [x, y, z], ρ => some (((ρ.set i (some (.v x))).set j (some (.v y))).set k (some (.v z)))
  | _, _ => none
theorem StG.imp {tg : Expr} {sl : List Nat} {g g' : D → DEnv → Option DEnv} (h : StG C tg sl g) (k : ∀ d ρ ρ', g' d ρ = some ρ' → g d ρ = some ρ') : StG C tg sl g' := ⟨fun X hX B Z Y σ H ρ v d ρ' Q R dv e hQ => h.run X hX B Z Y σ H ρ v d ρ' Q R dv (k _ _ _ e) hQ⟩
theorem sg_2 (i j : Nat) {x y : Str} {p1 p2 : Pos} {k} (hnd : C.N.Nodup) (hN : C.N[i]? = some x := by rfl) (hN2 : C.N[j]? = some y := by rfl) (hl : LocC C x := by first | exact Or.inl rfl | exact Or.inr ⟨rfl, rfl⟩) (hl2 : LocC C y := by first | exact Or.inl rfl | exact Or.inr ⟨rfl, rfl⟩) : StG C (.Tuple [.Name x p1, .Name y p2] k pos) [i, j] (g2 i j) :=
  (sg_tup (n := 2) (sgs_cons (sg_name i hnd hN hl) (sgs_cons (sg_name j hnd hN2 hl2) sgs_nil)) (fun ds ρ ρ' h => by
    match ds, h with
    | [_, _], _ => rfl)).imp fun d ρ ρ' h => by
    match d, h with
    | .tup [_, _], h => exact h
theorem sg_3 (i j l : Nat) {x y z : Str} {p1 p2 p3 : Pos} {k} (hnd : C.N.Nodup) (hN : C.N[i]? = some x := by rfl) (hN2 : C.N[j]? = some y := by rfl) (hN3 : C.N[l]? = some z := by rfl) (hl : LocC C x := by first | exact Or.inl rfl | exact Or.inr ⟨rfl, rfl⟩) (hl2 : LocC C y := by first | exact Or.inl rfl | exact Or.inr ⟨rfl, rfl⟩) (hl3 : LocC C z := by first | exact Or.inl rfl | exact Or.inr ⟨rfl, rfl⟩) :
    StG C (.Tuple [.Name x p1, .Name y p2, .Name z p3] k pos) [i, j, l] (g3 i j l) :=
  (sg_tup (n := 3) (sgs_cons (sg_name i hnd hN hl) (sgs_cons (sg_name j hnd hN2 hl2) (sgs_cons (sg_name l hnd hN3 hl3) sgs_nil))) (fun ds ρ ρ' h => by
    match ds, h with
    | [_, _, _], _ => rfl)).imp fun d ρ ρ' h => by
    match d, h with
    | .tup [_, _, _], h => exact h
end
end DL
/-! text DL4 -/
/-! DL4: comprehensions, statements. -/
namespace DL
open PySem PySem.Spec L2
open PyProof.Rows hiding St
section
variable {C : Cfg} {B : Hp} {Z Y : Addr → Bool} {ρ : DEnv} {σ : St} {H H' : Hp}
theorem Rl.with {N : List Str} {sc : Scope} {lv : Nat} {dd : Bool} (R : Rl C B Z Y ρ σ H) : Rl { C with N := N, sc := sc, lv := lv, dd := dd } B Z Y ρ σ H := ⟨R.base, R.row, R.rowZ, R.rowS, R.zOk, R.len, R.fz, R.ow, R.uq, R.yI⟩
/-- the owned ones forgotten -/
def dropO (ρ : DEnv) : DEnv := ρ.map fun e => match e with
  | some (.o _) => none
  | e => e
theorem dropO_get {i : Nat} {e : Ent} (h : (dropO ρ)[i]? = some (some e)) : ∃ d, e = .v d ∧ ρ[i]? = some (some (.v d)) := by
  unfold dropO at h
  rw [List.getElem?_map] at h
  cases q : ρ[i]? with
  | none => rw [q] at h; cases h
  | some x =>
    rw [q] at h
    cases x with
    | none => simp at h
    | some y =>
      cases y with
      | v d => simp at h; exact ⟨d, h.symm, rfl⟩
      | o d => simp at h
theorem Rl.seal (R : Rl C B Z Y ρ σ H) : Rl C B Y Y (dropO ρ) σ H := by
  refine ⟨R.base, R.row, fun a h => R.rowY h, fun a h => (R.rowS a h).imp (fun z => (R.yI _).mpr (.inl z)) id, fun a h => R.yOk h, by simpa [dropO] using R.len, fun i d h => ?_, fun i d h => ?_, fun i j d e a h _ _ _ => ?_, fun a => ⟨.inl, fun h => ?_⟩⟩
  · obtain ⟨d', e, h'⟩ := dropO_get h
    cases e
    exact R.fz i d h'
  · obtain ⟨d', e, _⟩ := dropO_get h
    cases e
  · obtain ⟨d', e, _⟩ := dropO_get h
    cases e
  · rcases h with h | ⟨i, d, h, _⟩
    · exact h
    · obtain ⟨d', e, _⟩ := dropO_get h
      cases e
def wipeD (ρ : DEnv) : List Nat → DEnv
  | [] => ρ
  | v :: vs => (wipeD ρ vs).set v none
theorem Rl.wiped (R : Rl C B Z Y ρ σ H) : ∀ vs : List Nat, ∃ Y', (∀ a, Y' a = true → Y a = true) ∧ Rl C B Z Y' (wipeD ρ vs) (wipe σ vs) H
  | [] => ⟨Y, fun _ h => h, R⟩
  | v :: vs => by
    obtain ⟨Y1, s1, R1⟩ := R.wiped vs
    obtain ⟨Y2, s2, R2⟩ := R1.unset v
    exact ⟨Y2, fun a h => s1 a (s2 a h), R2⟩
theorem wipe_get : ∀ (vs : List Nat) {σ σ' : St} {j : Nat}, σ'.length = σ.length → (j ∉ vs → σ'[j]? = σ[j]?) → (wipe σ' vs)[j]? = (wipe σ vs)[j]?
  | [], _, _, _, _, h => h (by simp)
  | v :: vs, σ, σ', j, hl, h => by
    unfold wipe
    by_cases e : v = j
    · subst e
      rw [List.getElem?_set, List.getElem?_set]
      simp [wipe_length, hl]
    · rw [List.getElem?_set_ne e, List.getElem?_set_ne e]
      exact wipe_get vs hl fun hj => h (by simp only [List.mem_cons, not_or]; exact ⟨fun z => e z.symm, hj⟩)
theorem wipe_out' {sl vs : List Nat} {σ σ' : St} (h : Outside sl (wipe σ vs) σ') (hs : ∀ i ∈ sl, i ∈ vs) : wipe σ' vs = wipe σ vs := by
  have hw : wipe (wipe σ vs) vs = wipe σ vs := by
    apply List.ext_getElem?
    intro j
    refine wipe_get vs (wipe_length σ vs) fun hj => ?_
    exact L2.wipe_out hj
  rw [← hw]
  apply List.ext_getElem?
  intro j
  exact wipe_get vs h.1 fun hj => h.2 j fun q => hj (hs j q)
end
/-! ### tests of a clause -/
def WTs (X : Cx) (ifs : List Expr) : TT := fun σ H Q => ∀ (pins : List (Addr × Obj)) (s : Shared), Inv X pins σ H s →
  wpAny (model X.prog X.w) X.A (forIn ifs true fun c r => if r = true then do let ok ← isTrue c X.env (eval c X.env); pure (ForInStep.yield ok) else pure (ForInStep.yield r)) (TP X pins σ Q) X.xe  s
theorem pts_wts {X : Cx} {ifs : List Expr} : PTs X ifs (WTs X ifs) := ⟨fun pins s _ _ _ I h => h pins s I⟩
theorem WTs.of {X : Cx} {ifs : List Expr} {σ : St} {H : Hp} {t : TT} {Q : Bool → Hp → Prop} (h : PTs X ifs t) (q : t σ H Q) : WTs X ifs σ H Q := fun pins s I => h.run pins s σ H Q I q
def EvTs (C : Cfg) (ifs : List Expr) (ρ : DEnv) (p : Bool → Prop) : Prop := ∀ X, XOk C X → ∀ B Z Y σ H, Rl C B Z Y ρ σ H → ∀ Q : Bool → Hp → Prop, (∀ b H', p b → Ext C H H' → Q b H') → WTs X ifs σ H Q
section
variable {C : Cfg} {ρ : DEnv} {c : Expr}
theorem ets_nil : EvTs C [] ρ (· = true) := fun X hX B Z Y σ H R Q hQ => WTs.of pts_nil (hQ true H rfl (Ext.refl C H))
theorem ets_one {p : Bool → Prop} (h : EvT C c ρ p) : EvTs C [c] ρ p := fun X hX B Z Y σ H R Q hQ => WTs.of (pts_one pt_wt) (h X hX B Z Y σ H R Q hQ)
end
/-! ### comprehensions -/
abbrev blkCfg (C : Cfg) (scope : Scope) : Cfg := { C with N := C.N, sc := relS scope C.sc, lv := C.lv, dd := false }
theorem XOk.blk {C : Cfg} {X : Cx} (hX : XOk C X) {scope : Scope} (s : Shared) (H : Hp) (c : Addr) (cl : List (Str × Addr)) (fp : List Addr) : XOk (blkCfg C scope) (X.blk s H scope (compEnvC scope cl c X.env) fp) :=
  ⟨hX.P, hX.w, hX.K, hX.mg, hX.base, hX.N, by show relS scope C.sc = relS scope X.env.scope; rw [hX.sc], hX.calm, hX.room, (by intro h; cases h), rfl⟩
section
variable {C : Cfg} {B : Hp} {Z Y : Addr → Bool} {ρ : DEnv} {σ : St} {H : Hp} {X : Cx} {tg it elt : Expr} {ifs : List Expr} {scope : Scope} {own : List (Str × Nat)} {pos : Pos}
def cG (X : Cx) (scope : Scope) (tg : Expr) : TG := fun v σ H Q => ∀ (s : Shared) (H0 : Hp) (c : Addr) (cl : List (Str × Addr)) (fp : List Addr), WG (X.blk s H0 scope (compEnvC scope cl c X.env) fp) tg v σ H Q
def cT (X : Cx) (scope : Scope) (ifs : List Expr) : TT := fun σ H Q => ∀ (s : Shared) (H0 : Hp) (c : Addr) (cl : List (Str × Addr)) (fp : List Addr), WTs (X.blk s H0 scope (compEnvC scope cl c X.env) fp) ifs σ H Q
def cE (X : Cx) (scope : Scope) (e : Expr) : TE := fun σ H Q => ∀ (s : Shared) (H0 : Hp) (c : Addr) (cl : List (Str × Addr)) (fp : List Addr), WE (X.blk s H0 scope (compEnvC scope cl c X.env) fp) e σ H Q
theorem pe_comp (hX : XOk C X) (hnd : C.N.Nodup) (ok : blkC C.N C.sc scope own = true) (hs : ∀ env x, foldedSetIterable it env x = pure x) : PE X (.ListComp elt [⟨tg, it, ifs, 0⟩] scope pos) (tLc (WI X tg it) (cG X scope tg) (cT X scope ifs) (cE X scope elt) (own.map (·.2))) :=
  pe_lc hX.calm (by rw [← hX.N]; exact hnd) pi_wi (by rw [← hX.N, ← hX.sc]; exact blkOk_by ok) (fun s H c cl fp => ⟨fun pins s' σ H' v u Q I r h => h s H c cl fp pins s' u I r⟩) (fun s H c cl fp => ⟨fun pins s' σ H' Q I h => h s H c cl fp pins s' I⟩) (fun s H c cl fp => ⟨fun pins s' σ H' Q I h => h s H c cl fp pins s' I⟩) (hs _)
/-- one turn, in data -/
structure Turns (C : Cfg) (scope : Scope) (tg elt : Expr) (ifs : List Expr) (own : List (Str × Nat)) (ρ : DEnv) (items : List D) (Iv : Nat → List D → Prop) : Prop where
  tgt : ∃ sl g, StG (blkCfg C scope) tg sl g ∧ (∀ i ∈ sl, i ∈ own.map (·.2)) ∧ ∀ (i : Nat) (d : D) (acc : List D), items[i]? = some d → Iv i acc → ∃ ρ' p, g d (wipeD (dropO ρ) (own.map (·.2))) = some ρ' ∧ EvTs (blkCfg C scope) ifs ρ' p ∧
    (p true → EvP (blkCfg C scope) elt ρ' fun y => Iv (i + 1) (acc ++ [y])) ∧ (p false → Iv (i + 1) acc)
theorem comp_core {I : List D → Prop} {IV : List D → Nat → List D → Prop} {p : D → Prop} {Q : VK} (hX : XOk C X) (R : Rl C B Z Y ρ σ H) (hWI : ∀ RR : It → Hp → Prop, (∀ J H1 items, I items → Ext C H H1 → Feeds C J items (hid H1 Y) → RR J H1) → WI X tg it σ H RR)
    (TT : ∀ items, I items → Turns C scope tg elt ifs own ρ items (IV items)) (hh0 : ∀ items, I items → IV items 0 []) (hhlen : ∀ items, I items → items.length ≤ 100000) (hhd : ∀ items, I items → ∀ acc, IV items items.length acc → p (.lst acc)) (hQ : ∀ a d H', p d → H a = none → Ext C H H' → OV C.r (hid H' (hidY Y a)) H' a d → Q (.ref a) H') :
    tLc (WI X tg it) (cG X scope tg) (cT X scope ifs) (cE X scope elt) (own.map (·.2)) σ H Q := by
  refine hWI _ fun J H1 items hI x1 fd L hL => ?_
  obtain ⟨sl, g, hg, hsl, turn⟩ := (TT items hI).tgt
  have h0 := hh0 items hI
  have hlen := hhlen items hI
  have hd := hhd items hI
  generalize IV items = Iv at turn h0 hd
  have R1 := R.ext x1
  obtain ⟨R2, hB, hZ⟩ := R1.pend (Ext.new (o := .lst []) hL) hL upd_same rfl
  have xL : ∀ {H'}, Rl C B (hidY Z L) (hidY Y L) ρ σ H' → (∀ a o, some a ≠ C.r → H1 a = some o → H' a = some o) → Sub (hid H1 Y) (hid H' (hidY Y L)) := fun R' f => hid_sub (fun a o y e => f a o (R1.notRowY y) e) fun a o e h => by
    rcases hidY_iff.mp h with z | z
    · exact z
    · rw [z, hL] at e; cases e
  refine ⟨fun i m H' => m = items.length - i ∧ i ≤ items.length ∧ ∃ acc vs, Iv i acc ∧ acc.length ≤ i ∧ Rl C B (hidY Z L) (hidY Y L) ρ σ H' ∧ (∀ a o, some a ≠ C.r → H1 a = some o → H' a = some o) ∧ H' L = some (.lst vs) ∧ DVs C.r (hid H' (hidY Y L)) vs acc,
    ⟨items.length, by simp, Nat.zero_le _, [], [], h0, Nat.le_refl _, R2, (Ext.new (C := C) hL).1, upd_same, .nil⟩, ?_⟩
  rintro i m H' ⟨rfl, hi, acc, vs, iv, hal, R', fr, eL, dvs⟩
  have sub := xL R' fr
  by_cases hlt : i < items.length
  · refine .inr ?_
    have hit : items[i]? = some items[i] := List.getElem?_eq_getElem hlt
    obtain ⟨go, yld⟩ := fd.go i _ (hidY Y L) H' hit R'.y sub
    refine ⟨go, fun H'' => ∃ acc vs, Iv (i + 1) acc ∧ acc.length ≤ i + 1 ∧ Rl C B (hidY Z L) (hidY Y L) ρ σ H'' ∧ (∀ a o, some a ≠ C.r → H1 a = some o → H'' a = some o) ∧ H'' L = some (.lst vs) ∧ DVs C.r (hid H'' (hidY Y L)) vs acc, fun H'' h => ⟨items.length - (i + 1), by omega, rfl, hlt, h⟩, fun x H'' hy => ?_⟩
    obtain ⟨x2, dx⟩ := yld x H'' hy
    obtain ⟨ρ', pb, e1, et, ht, hf⟩ := turn i _ acc hit iv
    have R3 := R'.ext x2
    have rL : some L ≠ C.r := R.notRow (by
      cases q : Z L with
      | false => rfl
      | true => rw [q] at hZ; cases hZ)
    obtain ⟨Y4, s4, R4⟩ := (R3.seal.with (N := C.N) (sc := relS scope C.sc) (lv := C.lv) (dd := false)).wiped (own.map (·.2))
    have y4 : ∀ a, hidY Y L a = true → Y4 a = true := fun a h => (R4.yI a).mpr (.inl h)
    intro s0 H0 c0 cl0 fp0
    refine hg.run _ (hX.blk s0 H0 c0 cl0 fp0) B _ Y4 _ H'' _ x _ ρ' _ R4 (dx.mono (hid_sub (fun _ _ _ e => e) fun a _ _ h => s4 a h)) e1 fun Y5 σ5 s5 o5 R5 => ?_
    refine ⟨wipe_out' o5 hsl, fun s1 H01 c1 cl1 fp1 => ?_⟩
    have y5 : ∀ a, hidY Y L a = true → Y5 a = true := fun a h => (R5.yI a).mpr (.inl h)
    refine et _ (hX.blk s1 H01 c1 cl1 fp1) B _ Y5 _ H'' R5 _ fun b H3 pb3 x3 => ?_
    have frs : ∀ {H4}, Ext C H' H4 → (∀ a o, some a ≠ C.r → H1 a = some o → H4 a = some o) ∧ H4 L = some (.lst vs) ∧ DVs C.r (hid H4 (hidY Y L)) vs acc ∧ Rl C B (hidY Z L) (hidY Y L) ρ σ H4 := fun {H4} x => ⟨fun a o n e => x.1 a o n (fr a o n e), x.1 L _ rL eL, dvs.mono (R'.sub x), R'.ext x⟩
    cases b with
    | false =>
      refine iteF ?_
      obtain ⟨f1, f2, f3, f4⟩ := frs (x2.trans x3)
      exact ⟨acc, vs, hf pb3, by omega, f4, f1, f2, f3⟩
    | true =>
      refine iteT fun s2 H02 c2 cl2 fp2 => ?_
      refine ht pb3 _ (hX.blk s2 H02 c2 cl2 fp2) B _ Y5 _ H3 (R5.ext x3) _ fun y dy H4 iv4 x4 dv4 => ?_
      obtain ⟨f1, f2, f3, f4⟩ := frs ((x2.trans x3).trans x4)
      refine ⟨vs, f2, ?_, ?_⟩
      · rw [f3.length]; exact Nat.lt_of_le_of_lt (show acc.length ≤ 100000 by omega) (by decide)
      · have hs : Sub (hid H4 (hidY Y L)) (hid (upd H4 L (.lst (vs ++ [y]))) (hidY Y L)) := hid_sub (fun a o q e => by
          rw [upd_ne (fun z => by rw [z, hidY_iff.mpr (.inr rfl)] at q; cases q)]; exact e) fun _ _ _ h => h
        refine ⟨acc ++ [dy], vs ++ [y], iv4, by simp; omega, f4.pendmut R.rr hB hZ rfl, fun a o n e => ?_, upd_same, (DVs.append f3 (.cons (dv4.mono (hid_sub (fun _ _ _ e => e) fun a _ _ h => y5 a h)) .nil)).mono hs⟩
        rw [upd_ne (ne_of_none e hL)]
        exact f1 a o n e
  · have e : i = items.length := by omega
    subst e
    refine .inl ⟨fd.stop _ (hidY Y L) H' (Nat.le_refl _) R'.y sub, hQ L _ H' (hd acc iv) (x1.fresh hL (R1.freshR hL)) ⟨fun a o n e => fr a o n (x1.1 a o n e), fun _ => R'.row⟩ ⟨vs, eL, dvs⟩⟩
theorem eo_compP {items : List D} {Iv : Nat → List D → Prop} {p : D → Prop} (hi : EvI C tg it ρ items) (hnd : C.N.Nodup) (T : Turns C scope tg elt ifs own ρ items Iv) (h0 : Iv 0 []) (hlen : items.length ≤ 100000) (hd : ∀ acc, Iv items.length acc → p (.lst acc))
    (ok : blkC C.N C.sc scope own = true := by first | decide +kernel | kernel_rfl) (hs : ∀ env x, foldedSetIterable it env x = pure x := by intro _ _; rfl) : EvO C (.ListComp elt [⟨tg, it, ifs, 0⟩] scope pos) ρ p := fun X hX B Z Y σ H R Q hQ =>
  WE.of (pe_comp hX hnd ok hs) (comp_core (I := (· = items)) (IV := fun _ => Iv) hX R (fun RR h => hi X hX B Z Y σ H R RR fun J H1 x fd => h J H1 items rfl x fd) (by rintro _ rfl; exact T) (by rintro _ rfl; exact h0) (by rintro _ rfl; exact hlen) (by rintro _ rfl; exact hd) hQ)
/-- over one of several lists -/
def EvIP (C : Cfg) (tg it : Expr) (ρ : DEnv) (I : List D → Prop) : Prop := ∀ X, XOk C X → ∀ B Z Y σ H, Rl C B Z Y ρ σ H → ∀ R : It → Hp → Prop, (∀ J H1 items, I items → Ext C H H1 → Feeds C J items (hid H1 Y) → R J H1) → WI X tg it σ H R
theorem eo_compIP {I : List D → Prop} {IV : List D → Nat → List D → Prop} {p : D → Prop} (hi : EvIP C tg it ρ I) (hnd : C.N.Nodup) (T : ∀ items, I items → Turns C scope tg elt ifs own ρ items (IV items)) (h0 : ∀ items, I items → IV items 0 []) (hlen : ∀ items, I items → items.length ≤ 100000) (hd : ∀ items, I items → ∀ acc, IV items items.length acc → p (.lst acc))
    (ok : blkC C.N C.sc scope own = true := by first | decide +kernel | kernel_rfl) (hs : ∀ env x, foldedSetIterable it env x = pure x := by intro _ _; rfl) : EvO C (.ListComp elt [⟨tg, it, ifs, 0⟩] scope pos) ρ p := fun X hX B Z Y σ H R Q hQ =>
  WE.of (pe_comp hX hnd ok hs) (comp_core hX R (fun RR h => hi X hX B Z Y σ H R RR h) T h0 hlen hd hQ)
theorem filter_take {c : D → Bool} {f : D → D} {items : List D} {i : Nat} {d : D} (h : items[i]? = some d) : ((items.take (i + 1)).filter c).map f = ((items.take i).filter c).map f ++ (if c d = true then [f d] else []) := by
  rw [List.take_add_one, h, List.filter_append, List.map_append]
  congr 1
  by_cases q : c d = true
  · simp [q]
  · simp [q]
/-- the plain form: a filter and a map -/
theorem eo_comp {items : List D} {sl : List Nat} {g : D → DEnv → Option DEnv} (own : List (Str × Nat)) (c : D → Bool) (f : D → D) (hi : EvI C tg it ρ items) (hnd : C.N.Nodup) (hg : StG (blkCfg C scope) tg sl g) (hsl : ∀ i ∈ sl, i ∈ own.map (·.2))
    (hs : ∀ d ∈ items, ∃ ρ', g d (wipeD (dropO ρ) (own.map (·.2))) = some ρ' ∧ EvTs (blkCfg C scope) ifs ρ' (· = c d) ∧ (c d = true → EvD (blkCfg C scope) elt ρ' (f d))) (hlen : items.length ≤ 100000)
    (ok : blkC C.N C.sc scope own = true := by first | decide +kernel | kernel_rfl) (hfs : ∀ env x, foldedSetIterable it env x = pure x := by intro _ _; rfl) : EvO C (.ListComp elt [⟨tg, it, ifs, 0⟩] scope pos) ρ (· = .lst ((items.filter c).map f)) := by
  refine eo_compP (Iv := fun i acc => acc = ((items.take i).filter c).map f) hi hnd ⟨sl, g, hg, hsl, fun i d acc hd ha => ?_⟩ (by simp) hlen (fun acc ha => by rw [ha, List.take_length]) ok hfs
  obtain ⟨ρ', h1, h2, h3⟩ := hs d (List.mem_of_getElem? hd)
  refine ⟨ρ', _, h1, h2, fun ht => (h3 ht.symm).imp fun y hy => ?_, fun hf => ?_⟩
  · rw [filter_take hd, if_pos ht.symm, ha, hy]
  · rw [filter_take hd, if_neg (by rw [← hf]; exact Bool.false_ne_true), ha, List.append_nil]
end
/-! ### statements -/
def WSt (X : Cx) (st : Stmt) : TS := fun Dn σ H => ∀ (pins : List (Addr × Obj)) (s : Shared), Inv X pins σ H s → wpAny (model X.prog X.w) X.A (exec st X.env) (SP X pins Dn) X.xe s
def WSts (X : Cx) (sts : List Stmt) : TS := fun Dn σ H => ∀ (pins : List (Addr × Obj)) (s : Shared), Inv X pins σ H s → wpAny (model X.prog X.w) X.A (execs sts X.env) (SP X pins Dn) X.xe s
theorem ps_wst {X : Cx} {st : Stmt} : PS X st (WSt X st) := ⟨fun pins s _ _ _ I h => h pins s I⟩
theorem pss_wsts {X : Cx} {sts : List Stmt} : PSs X sts (WSts X sts) := ⟨fun pins s _ _ _ I h => h pins s I⟩
theorem WSt.of {X : Cx} {st : Stmt} {σ : St} {H : Hp} {t : TS} {Dn : Ends} (h : PS X st t) (q : t Dn σ H) : WSt X st Dn σ H := fun pins s I => h.run pins s σ H Dn I q
theorem WSts.of {X : Cx} {sts : List Stmt} {σ : St} {H : Hp} {t : TS} {Dn : Ends} (h : PSs X sts t) (q : t Dn σ H) : WSts X sts Dn σ H := fun pins s I => h.run pins s σ H Dn I q
structure Post where
  nx : DEnv → Prop
  rt : D → Prop := fun _ => False
  bk : DEnv → Prop := fun _ => False
  ct : DEnv → Prop := fun _ => False
structure Lands (C : Cfg) (B : Hp) (Z : Addr → Bool) (P : Post) (Dn : Ends) : Prop where
  nx : ∀ Y ρ σ H, P.nx ρ → Rl C B Z Y ρ σ H → Dn.nx σ H
  rt : ∀ Y ρ σ v d H, P.rt d → Rl C B Z Y ρ σ H → DV C.r (hid H Y) v d → Dn.rt v H
  bk : ∀ Y ρ σ H, P.bk ρ → Rl C B Z Y ρ σ H → Dn.bk σ H
  ct : ∀ Y ρ σ H, P.ct ρ → Rl C B Z Y ρ σ H → Dn.ct σ H
def WS (C : Cfg) (st : Stmt) (ρ : DEnv) (P : Post) : Prop := ∀ X, XOk C X → ∀ B Z Y σ H, Rl C B Z Y ρ σ H → ∀ Dn : Ends, Lands C B Z P Dn → WSt X st Dn σ H
def WSs (C : Cfg) (sts : List Stmt) (ρ : DEnv) (P : Post) : Prop := ∀ X, XOk C X → ∀ B Z Y σ H, Rl C B Z Y ρ σ H → ∀ Dn : Ends, Lands C B Z P Dn → WSts X sts Dn σ H
section
variable {C : Cfg} {ρ : DEnv} {P : Post} {st : Stmt} {sts : List Stmt} {e a b c : Expr} {pos : Pos}
theorem wss_nil (h : P.nx ρ) : WSs C [] ρ P := fun X hX B Z Y σ H R Dn L => WSts.of pss_nil (L.nx Y ρ σ H h R)
theorem wss_cons {M : DEnv → Prop} (h1 : WS C st ρ { P with nx := M }) (h2 : ∀ ρ', M ρ' → WSs C sts ρ' P) : WSs C (st :: sts) ρ P := fun X hX B Z Y σ H R Dn L =>
  WSts.of (pss_cons ps_wst pss_wsts) (h1 X hX B Z Y σ H R _ ⟨fun Y' ρ' σ' H' hm R' => h2 ρ' hm X hX B Z Y' σ' H' R' Dn L, L.rt, L.bk, L.ct⟩)
theorem wss_seq {ρ1 : DEnv} (h1 : WS C st ρ { P with nx := (· = ρ1) }) (h2 : WSs C sts ρ1 P) : WSs C (st :: sts) ρ P := wss_cons h1 fun ρ' e => by subst e; exact h2
theorem wss_one (h1 : WS C st ρ P) : WSs C [st] ρ P := fun X hX B Z Y σ H R Dn L => WSts.of (pss_one ps_wst) (h1 X hX B Z Y σ H R Dn L)
/-- what slot i owns is frozen -/
theorem wss_frz (i : Nat) {d : D} (h : WSs C sts (ρ.set i (some (.v d))) P) (hi : ρ[i]? = some (some (.o d)) := by rfl) : WSs C sts ρ P := fun X hX B Z Y σ H R Dn L => by
  obtain ⟨Y', _, R'⟩ := R.freeze i hi
  exact h X hX B Z Y' σ H R' Dn L
theorem ws_frz (i : Nat) {d : D} (h : WS C st (ρ.set i (some (.v d))) P) (hi : ρ[i]? = some (some (.o d)) := by rfl) : WS C st ρ P := fun X hX B Z Y σ H R Dn L => by
  obtain ⟨Y', _, R'⟩ := R.freeze i hi
  exact h X hX B Z Y' σ H R' Dn L
/-- a slot forgotten -/
theorem wss_imp {P' : Post} (h : WSs C sts ρ P') (h1 : ∀ ρ, P'.nx ρ → P.nx ρ) (h2 : ∀ d, P'.rt d → P.rt d) (h3 : ∀ ρ, P'.bk ρ → P.bk ρ) (h4 : ∀ ρ, P'.ct ρ → P.ct ρ) : WSs C sts ρ P := fun X hX B Z Y σ H R Dn L =>
  h X hX B Z Y σ H R Dn ⟨fun Y ρ σ H p => L.nx Y ρ σ H (h1 ρ p), fun Y ρ σ v d H p => L.rt Y ρ σ v d H (h2 d p), fun Y ρ σ H p => L.bk Y ρ σ H (h3 ρ p), fun Y ρ σ H p => L.ct Y ρ σ H (h4 ρ p)⟩
theorem ws_imp {P' : Post} (h : WS C st ρ P') (h1 : ∀ ρ, P'.nx ρ → P.nx ρ) (h2 : ∀ d, P'.rt d → P.rt d) (h3 : ∀ ρ, P'.bk ρ → P.bk ρ) (h4 : ∀ ρ, P'.ct ρ → P.ct ρ) : WS C st ρ P := fun X hX B Z Y σ H R Dn L =>
  h X hX B Z Y σ H R Dn ⟨fun Y ρ σ H p => L.nx Y ρ σ H (h1 ρ p), fun Y ρ σ v d H p => L.rt Y ρ σ v d H (h2 d p), fun Y ρ σ H p => L.bk Y ρ σ H (h3 ρ p), fun Y ρ σ H p => L.ct Y ρ σ H (h4 ρ p)⟩
theorem ws_if {p : Bool → Prop} {A A' : List Stmt} (hc : EvT C c ρ p) (h1 : p true → WSs C A ρ P) (h2 : p false → WSs C A' ρ P) : WS C (.If c A A' pos) ρ P := fun X hX B Z Y σ H R Dn L =>
  WSt.of (ps_if pt_wt pss_wsts pss_wsts) (hc X hX B Z Y σ H R _ fun b H1 pb x1 => by
    cases b with
    | true => exact iteT (h1 pb X hX B Z Y σ H1 (R.ext x1) Dn L)
    | false => exact iteF (h2 pb X hX B Z Y σ H1 (R.ext x1) Dn L))
/-- the way of a known answer -/
theorem ws_ifT {A A' : List Stmt} (hc : EvT C c ρ (· = true)) (h1 : WSs C A ρ P) : WS C (.If c A A' pos) ρ P := ws_if hc (fun _ => h1) fun h => by cases h
theorem ws_ifF {A A' : List Stmt} (hc : EvT C c ρ (· = false)) (h1 : WSs C A' ρ P) : WS C (.If c A A' pos) ρ P := ws_if hc (fun h => by cases h) fun _ => h1
theorem ws_ret {p : D → Prop} (h : EvP C e ρ p) (hp : ∀ d, p d → P.rt d) : WS C (.Return (some e) pos) ρ P := fun X hX B Z Y σ H R Dn L =>
  WSt.of (ps_ret pe_we) (h X hX B Z Y σ H R _ fun v d H1 pd x1 dv => L.rt Y ρ σ v d H1 (hp d pd) (R.ext x1) dv)
theorem ws_retN (hp : P.rt .non) : WS C (.Return none pos) ρ P := fun X hX B Z Y σ H R Dn L => WSt.of ps_retN (L.rt Y ρ σ _ _ H hp R .non)
theorem ws_pass (hp : P.nx ρ) : WS C (.Pass pos) ρ P := fun X hX B Z Y σ H R Dn L => WSt.of ps_pass (L.nx Y ρ σ H hp R)
theorem LocC.l {X : Cx} {x : Str} (h : LocC C x) (hX : XOk C X) : Loc X.env.scope x := (hX.loc h).1
/-- x = e -/
theorem ws_set (i : Nat) {x : Str} {p : D → Prop} {pos' : Pos} (hnd : C.N.Nodup) (h : EvP C e ρ p) (hp : ∀ d, p d → P.nx (ρ.set i (some (.v d)))) (hN : C.N[i]? = some x := by rfl) (hl : LocC C x := by first | exact Or.inl rfl | exact Or.inr ⟨rfl, rfl⟩) (hs : ∀ (pos pos' : Pos) (env : Env), swapsWith e (some (.Name x pos')) pos.line env = pure false := by intro _ _ _; rfl) :
    WS C (.Assign [.Name x pos'] e pos) ρ P := fun X hX B Z Y σ H R Dn L => by
  obtain ⟨h1, h2⟩ := hX.loc hl
  refine WSt.of (ps_set (by rw [← hX.N]; exact hnd) (by rw [← hX.N]; exact hN) h1 pe_we (hs _ _ _) h2) (h X hX B Z Y σ H R _ fun v d H1 pd x1 dv => ?_)
  obtain ⟨Y', s', R'⟩ := (R.ext x1).setv i dv
  exact L.nx Y' _ _ H1 (hp d pd) R'
theorem ws_setO (i : Nat) {x : Str} {p : D → Prop} {pos' : Pos} (hnd : C.N.Nodup) (h : EvO C e ρ p) (hp : ∀ d, p d → P.nx (ρ.set i (some (.o d)))) (hN : C.N[i]? = some x := by rfl) (hl : LocC C x := by first | exact Or.inl rfl | exact Or.inr ⟨rfl, rfl⟩) (hs : ∀ (pos pos' : Pos) (env : Env), swapsWith e (some (.Name x pos')) pos.line env = pure false := by intro _ _ _; rfl) :
    WS C (.Assign [.Name x pos'] e pos) ρ P := fun X hX B Z Y σ H R Dn L => by
  obtain ⟨h1, h2⟩ := hX.loc hl
  refine WSt.of (ps_set (by rw [← hX.N]; exact hnd) (by rw [← hX.N]; exact hN) h1 pe_we (hs _ _ _) h2) (h X hX B Z Y σ H R _ fun a d H1 pd ha x1 ov => ?_)
  obtain ⟨Y', s', R'⟩ := R.seto i x1 ha ov
  exact L.nx Y' _ _ H1 (hp d pd) R'
/-- targets = e, e no display of that many names -/
theorem ws_asg {tg : Expr} {sl : List Nat} {g : D → DEnv → Option DEnv} {p : D → Prop} (h : EvP C e ρ p) (hg : StG C tg sl g) (hp : ∀ d, p d → ∃ ρ', g d ρ = some ρ' ∧ P.nx ρ')
    (hs : ∀ (pos : Pos) (env : Env), swapsWithSole [tg] e pos.line env = pure false := by intro _ _; rfl) (hw : ∀ env : Env, env.scope = C.sc → swappedStores [tg] e env = pure none := by intro _ _; rfl)
    (h1 : ∀ env, (assignEach [tg] env).map (·.2) = [assign tg env] := by intro _; rfl) : WS C (.Assign [tg] e pos) ρ P := fun X hX B Z Y σ H R Dn L => by
  refine WSt.of (ps_asg pe_we pg_wg (hs _ _) (hw _ hX.sc.symm) (h1 _)) (h X hX B Z Y σ H R _ fun v d H1 pd x1 dv => ?_)
  obtain ⟨ρ', e1, hn⟩ := hp d pd
  exact hg.run X hX B Z Y σ H1 ρ v d ρ' _ (R.ext x1) dv e1 fun Y' σ' s' o' R' => L.nx Y' ρ' σ' H1 hn R'
/-- x, y = e1, e2 -/
theorem ws_par (i j : Nat) {x y : Str} {p1 p2 : D → Prop} {px py pt : Pos} {kt k2 pt2} (hnd : C.N.Nodup) (ha : EvP C a ρ p1) (hb : EvP C b ρ p2) (hp : ∀ d1 d2, p1 d1 → p2 d2 → P.nx ((ρ.set i (some (.v d1))).set j (some (.v d2)))) (hij : i ≠ j := by decide) (hN : C.N[i]? = some x := by rfl) (hN2 : C.N[j]? = some y := by rfl)
    (hl : C.sc.names.lookup x = some .local := by rfl) (hl2 : C.sc.names.lookup y = some .local := by rfl) (hw : ∀ env : Env, env.scope = C.sc → swappedStores [.Tuple [.Name x px, .Name y py] kt pt] (.Tuple [a, b] k2 pt2) env = pure (some [x, y]) := by rintro ⟨⟩ rfl; rfl)
    (hs : ∀ (pos : Pos) (env : Env), swapsWithSole [.Tuple [.Name x px, .Name y py] kt pt] (.Tuple [a, b] k2 pt2) pos.line env = pure false := by intro _ _; rfl) (hst : ∀ env, starEach [a, b] env = (false, eval a env) :: starEach [b] env := by intro _; rfl) (hst2 : ∀ env, starEach [b] env = (false, eval b env) :: starEach [] env := by intro _; rfl) :
    WS C (.Assign [.Tuple [.Name x px, .Name y py] kt pt] (.Tuple [a, b] k2 pt2) pos) ρ P := fun X hX B Z Y σ H R Dn L => by
  refine WSt.of (ps_par hX.calm (by rw [← hX.N]; exact hnd) (by rw [← hX.N]; exact hN) (by rw [← hX.N]; exact hN2) hij (by rw [← hX.sc]; exact hl) (by rw [← hX.sc]; exact hl2) pa_wa (hw _ hX.sc.symm) (hs _ _)) ?_
  refine (ea_consP (p := fun ds => ∃ d1 d2, ds = [d1, d2] ∧ p1 d1 ∧ p2 d2) ha (ea_consP (p := fun ds => ∃ d2, ds = [d2] ∧ p2 d2) hb ea_nil (fun d ds h1 h2 => ⟨d, by rw [h2], h1⟩) hst2) (fun d ds h1 ⟨d2, h2, h3⟩ => ⟨d, d2, by rw [h2], h1, h3⟩) hst) X hX B Z Y σ H R _ fun vs ds H1 hds x1 dvs => ?_
  obtain ⟨d1, d2, rfl, q1, q2⟩ := hds
  cases dvs with
  | @cons v _ _ _ dv1 t =>
    cases t with
    | @cons w _ _ _ dv2 t =>
      cases t
      refine ⟨v, w, rfl, ?_⟩
      obtain ⟨Y1, s1, R1⟩ := (R.ext x1).setv i dv1
      obtain ⟨Y2, s2, R2⟩ := R1.setv j (dv2.mono (hid_sub (fun _ _ _ e => e) fun a _ _ h => s1 a h))
      exact L.nx Y2 _ _ H1 (hp d1 d2 q1 q2) R2
/-! #### loops -/
theorem for_core {X : Cx} {B : Hp} {Z Y : Addr → Bool} {σ : St} {H : Hp} {tg it : Expr} {body : List Stmt} {items : List D} {sl : List Nat} {g : D → DEnv → Option DEnv} (Iv : Nat → DEnv → Prop) (hX : XOk C X) (R : Rl C B Z Y ρ σ H) (hWI : ∀ RR : It → Hp → Prop, (∀ J H1, Ext C H H1 → Feeds C J items (hid H1 Y) → RR J H1) → WI X tg it σ H RR)
    (hg : StG C tg sl g) (h0 : Iv 0 ρ) (hs : ∀ (i : Nat) (ρ' : DEnv) (d : D), items[i]? = some d → Iv i ρ' → ∃ ρ'', g d ρ' = some ρ'' ∧ WSs C body ρ'' { nx := Iv (i + 1), ct := Iv (i + 1), bk := P.nx, rt := P.rt }) (hd : ∀ ρ', Iv items.length ρ' → P.nx ρ') {Dn : Ends} (L : Lands C B Z P Dn) :
    tFor (WI X tg it) (WG X tg) (WSts X body) Dn σ H := by
  refine hWI _ fun J H1 x1 fd => ?_
  have R0 := R.ext x1
  have R1 := R0.rebase
  have wk : ∀ {Y' ρ' σ' H'}, Rl C (fun a => if Y a = true then B a else H1 a) Z Y' ρ' σ' H' → Rl C B Z Y' ρ' σ' H' := fun R' => R'.weak fun a o n e => by
    show (if Y a = true then B a else H1 a) = some o
    by_cases y : Y a = true
    · rw [if_pos y]; exact e
    · rw [if_neg y]; exact R0.base a o n e
  refine ⟨fun i m σ' H' => m = items.length - i ∧ i ≤ items.length ∧ ∃ ρ' Y', Iv i ρ' ∧ Rl C (fun a => if Y a = true then B a else H1 a) Z Y' ρ' σ' H', ⟨items.length, by simp, Nat.zero_le _, ρ, Y, h0, R1⟩, ?_⟩
  rintro i m σ' H' ⟨rfl, hi, ρ', Y', iv, R'⟩
  have sub : Sub (hid H1 Y) (hid H' Y') := fun a o e => by
    obtain ⟨e1, e2⟩ := hid_some e
    have hB : (fun a => if Y a = true then B a else H1 a) a = some o := by
      show (if Y a = true then B a else H1 a) = some o
      rw [if_neg (by rw [e1]; exact Bool.false_ne_true)]; exact e2
    refine hid_of ?_ (R'.base a o (R.notRowY e1) hB)
    cases q : Y' a with
    | false => rfl
    | true =>
      rcases (R'.yI a).mp q with z | ⟨j, d, h1, h2⟩
      · rw [(R.yI a).mpr (.inl z)] at e1; cases e1
      · obtain ⟨b, h3, h4, _⟩ := R'.ow j d h1
        rw [h2] at h3; cases h3
        cases (h4.symm.trans hB)
  by_cases hlt : i < items.length
  · refine .inr ?_
    have hit : items[i]? = some items[i] := List.getElem?_eq_getElem hlt
    obtain ⟨go, yld⟩ := fd.go i _ Y' H' hit R'.y sub
    refine ⟨go, fun σ'' H'' => ∃ ρ'' Y'', Iv (i + 1) ρ'' ∧ Rl C (fun a => if Y a = true then B a else H1 a) Z Y'' ρ'' σ'' H'', fun σ'' H'' h => ⟨items.length - (i + 1), by omega, rfl, hlt, h⟩, fun x H'' hy => ?_⟩
    obtain ⟨x2, dx⟩ := yld x H'' hy
    obtain ⟨ρ'', e1, hb⟩ := hs i ρ' _ hit iv
    refine hg.run X hX _ Z Y' σ' H'' ρ' x _ ρ'' _ (R'.ext x2) dx e1 fun Y3 σ3 s3 o3 R3 => ?_
    exact hb X hX _ Z Y3 σ3 H'' R3 _ ⟨fun Y ρ σ H p R => ⟨ρ, Y, p, R⟩, fun Y ρ σ v d H p R dv => L.rt Y ρ σ v d H p (wk R) dv, fun Y ρ σ H p R => L.nx Y ρ σ H p (wk R), fun Y ρ σ H p R => ⟨ρ, Y, p, R⟩⟩
  · have e : i = items.length := by omega
    subst e
    exact .inl ⟨fd.stop _ Y' H' (Nat.le_refl _) R'.y sub, L.nx Y' ρ' σ' H' (hd ρ' iv) (wk R')⟩
theorem ws_for {tg it : Expr} {body : List Stmt} {items : List D} {sl : List Nat} {g : D → DEnv → Option DEnv} (Iv : Nat → DEnv → Prop) (hi : EvI C tg it ρ items) (hg : StG C tg sl g) (h0 : Iv 0 ρ)
    (hs : ∀ (i : Nat) (ρ' : DEnv) (d : D), items[i]? = some d → Iv i ρ' → ∃ ρ'', g d ρ' = some ρ'' ∧ WSs C body ρ'' { nx := Iv (i + 1), ct := Iv (i + 1), bk := P.nx, rt := P.rt }) (hd : ∀ ρ', Iv items.length ρ' → P.nx ρ')
    (hfs : ∀ env x, foldedSetIterable it env x = pure x := by intro _ _; rfl) : WS C (.For tg it body [] pos) ρ P := fun X hX B Z Y σ H R Dn L =>
  WSt.of (ps_for (by rw [hX.xe]; exact PassesOwn.never) hX.calm pi_wi pg_wg pss_wsts (hfs _)) (for_core Iv hX R (fun RR h => hi X hX B Z Y σ H R RR h) hg h0 hs hd L)
/-- while: an invariant and a measure -/
theorem ws_while {body : List Stmt} (Iv : Nat → DEnv → Prop) (m0 : Nat) (h0 : Iv m0 ρ) (hs : ∀ (m : Nat) (ρ' : DEnv), Iv m ρ' → ∃ p, EvT C c ρ' p ∧ (p true → WSs C body ρ' { nx := fun ρ'' => ∃ m', m' < m ∧ Iv m' ρ'', ct := fun ρ'' => ∃ m', m' < m ∧ Iv m' ρ'', bk := P.nx, rt := P.rt }) ∧ (p false → P.nx ρ')) : WS C (.While c body [] pos) ρ P := fun X hX B Z Y σ H R Dn L => by
  refine WSt.of (ps_while (by rw [hX.xe]; exact PassesOwn.never) pt_wt pss_wsts) ⟨fun m σ' H' => ∃ ρ' Y', Iv m ρ' ∧ Rl C B Z Y' ρ' σ' H', ⟨m0, ρ, Y, h0, R⟩, ?_⟩
  rintro m σ' H' ⟨ρ', Y', iv, R'⟩
  obtain ⟨p, et, ht, hf⟩ := hs m ρ' iv
  refine et X hX B Z Y' σ' H' R' _ fun b H1 pb x1 => ?_
  cases b with
  | false => exact iteF (L.nx Y' ρ' σ' H1 (hf pb) (R'.ext x1))
  | true =>
    refine iteT ⟨fun σ'' H'' => ∃ m', m' < m ∧ ∃ ρ'' Y'', Iv m' ρ'' ∧ Rl C B Z Y'' ρ'' σ'' H'', fun σ'' H'' h => h, ?_⟩
    exact ht pb X hX B Z Y' σ' H1 (R'.ext x1) _ ⟨fun Y ρ σ H ⟨m', hm, p⟩ R => ⟨m', hm, ρ, Y, p, R⟩, fun Y ρ σ v d H p R dv => L.rt Y ρ σ v d H p R dv, fun Y ρ σ H p R => L.nx Y ρ σ H p R, fun Y ρ σ H ⟨m', hm, p⟩ R => ⟨m', hm, ρ, Y, p, R⟩⟩
end
end DL
/-! text DL5 -/
/-! DL5: stores into owned containers, dicts, defs and their calls, instances. -/
namespace DL
open PySem PySem.Spec L2
open PyProof.Rows hiding St
/-! ### dicts as pairs -/
section
variable {κ : Type} [DecidableEq  κ]
def valD (kvs : List (κ × D)) (k : κ) : Option D := (kvs.find? fun kv => decide (kv.1 = k)).map (·.2)
def putD (kvs : List (κ × D)) (k : κ) (v : D) : List (κ × D) :=
  if (kvs.any fun kv => decide (kv.1 = k)) = true then kvs.map (fun kv => if kv.1 = k then (kv.1, v) else kv) else kvs ++ [(k,  v)]
end
section
variable {κ κ' : Type} [DecidableEq κ] [DecidableEq κ'] {f : κ' → κ} {r : Option Addr} {G : Hp}
theorem dk_any (hf : ∀ a b, f a = f b → a = b) (k : κ') : ∀ {kvs : List (κ × V)} {ds : List (κ' × D)}, kvs.map (·.1) = ds.map (fun p => f p.1) → (kvs.any fun kv => decide (kv.1 = f k)) = (ds.any fun kv => decide (kv.1 = k))
  | [], [], _ => rfl
  | [], _ :: _, h => by cases h
  | _ :: _, [], h => by cases h
  | (a, v) :: kvs, (b, d) :: ds, h => by
    simp only [List.map_cons, List.cons.injEq] at  h
    obtain ⟨h1, h2⟩ := h
    subst h1
    simp only [List.any_cons, dk_any hf k h2]
    congr 1
    by_cases e : b = k
    · subst e; simp
    · have : ¬ f b = f k := fun q => e (hf _ _ q)
      simp [e, this]
theorem dk_val (hf : ∀ a b, f a = f b → a = b) (k : κ') : ∀ {kvs : List (κ × V)} {ds : List (κ' × D)}, kvs.map (·.1) = ds.map (fun p => f p.1) → DVs r G (kvs.map (·.2)) (ds.map (·.2)) → (∀ d, valD ds k = some d → ∃ v, valV kvs (f k) = some v ∧ DV r G v d) ∧ (valD ds k = none → valV kvs (f k) = none)
  | [], [], _, _ => ⟨fun d h => (by cases h), fun _ => rfl⟩
  | [], _ :: _, h, _ => by cases  h
  | _ :: _, [], h, _ => by cases  h
  | (a, v) :: kvs, (b, d) :: ds, h, t => by
    simp only [List.map_cons, List.cons.injEq] at  h
    obtain ⟨h1, h2⟩ := h
    cases t with
    | cons x t =>
      have ih := dk_val hf k h2 t
      by_cases e : b = k
      · subst e
        have e1 : valD ((b, d) :: ds) b = some d := by simp [valD]
        have e2 : valV ((a, v) :: kvs) (f b) = some v := valV_pos h1
        rw [e1, e2]
        exact ⟨fun d' hd => by cases hd; exact ⟨v, rfl, x⟩, fun hd => by cases hd⟩
      · have : ¬ f b = f k := fun q => e (hf _ _ q)
        have e1 : valD ((b, d) :: ds) k = valD ds k := by simp [valD, List.find?_cons, e]
        have e2 : valV ((a, v) :: kvs) (f k) = valV kvs (f k) := valV_neg (by rw [h1]; exact this)
        rw [e1, e2]
        exact ih
theorem dk_map (hf : ∀ a b, f a = f b → a = b) (k : κ') {y : V} {z : D} (hz : DV r G y z) : ∀ {kvs : List (κ × V)} {ds : List (κ' × D)}, kvs.map (·.1) = ds.map (fun p => f p.1) → DVs r G (kvs.map (·.2)) (ds.map (·.2)) →
    (kvs.map (fun kv => if kv.1 = f k then (kv.1, y) else kv)).map (·.1) = (ds.map (fun kv => if kv.1 = k then (kv.1, z) else kv)).map (fun p => f p.1) ∧ DVs r G ((kvs.map (fun kv => if kv.1 = f k then (kv.1, y) else kv)).map (·.2)) ((ds.map (fun kv => if kv.1 = k then (kv.1, z) else kv)).map (·.2))
  | [], [], _, _ => ⟨rfl, .nil⟩
  | [], _ :: _, h, _ => by cases  h
  | _ :: _, [], h, _ => by cases  h
  | (a, v) :: kvs, (b, d) :: ds, h, t => by
    simp only [List.map_cons, List.cons.injEq] at  h
    obtain ⟨h1, h2⟩ := h
    cases t with
    | cons x t =>
      obtain ⟨i1, i2⟩ := dk_map hf k hz h2 t
      by_cases e : b = k
      · subst e
        have h1' : a = f b := h1
        simp only [List.map_cons, h1', if_true, i1]
        exact ⟨trivial, .cons hz i2⟩
      · have : ¬ a = f k := fun q => e (hf _ _ (h1.symm.trans q))
        simp only [List.map_cons, this, e, if_false, i1]
        exact ⟨by rw [h1], .cons x i2⟩
theorem dk_put (hf : ∀ a b, f a = f b → a = b) (k : κ') {y : V} {z : D} (hz : DV r G y z) {kvs : List (κ × V)} {ds : List (κ' × D)} (h : kvs.map (·.1) = ds.map (fun p => f p.1)) (t : DVs r G (kvs.map (·.2)) (ds.map (·.2))) :
    (putK kvs (f k) y).map (·.1) = (putD ds k z).map (fun p => f p.1) ∧ DVs r G ((putK kvs (f k) y).map (·.2)) ((putD ds k z).map (·.2)) := by
  unfold putK putD
  rw [dk_any hf k h]
  by_cases e : (ds.any fun kv => decide (kv.1 = k)) = true
  · rw [if_pos e, if_pos e]
    exact dk_map hf k hz h t
  · rw [if_neg e, if_neg e]
    refine ⟨by simp [h], ?_⟩
    simp only [List.map_append, List.map_cons, List.map_nil]
    exact DVs.append t (.cons hz .nil)
end
theorem inl_inj (a b : Int) (h : (Sum.inl a : Key) = Sum.inl b) : a = b := by injection h
theorem inls_inj (a b : List Int) (h : a.map (fun i => (Sum.inl i : Key)) = b.map (fun i => (Sum.inl i : Key))) : a = b := by
  induction a generalizing b with
  | nil => cases b with
    | nil => rfl
    | cons _ _ => cases h
  | cons x xs ih => cases b with
    | nil => cases h
    | cons y ys =>
      simp only [List.map_cons, List.cons.injEq] at  h
      rw [inl_inj _ _ h.1, ih _ h.2]
theorem kv_ints (ns : List Int) : (ns.map (fun i => (Sum.inl i : Key))).map kV = ns.map V.int := by
  rw [List.map_map]; rfl
theorem keys_len {κ κ' : Type} {f : κ' → κ} {kvs : List (κ × V)} {ds : List (κ' × D)} (h : kvs.map (·.1) = ds.map (fun p => f p.1)) : kvs.length = ds.length := by
  have := congrArg List.length  h
  simpa using this
section
variable {C : Cfg} {ρ : DEnv} {P : Post} {e k b : Expr} {es : List Expr} {pos : Pos}
/-- x.append(e), x owned -/
theorem ws_app (i : Nat) {x : Str} {ds : List D} {p : D → Prop} {px apos cpos : Pos} (h : EvP C e ρ p) (hp : ∀ d, p d → P.nx (ρ.set i (some (.o (.lst (ds ++ [d])))))) (hl : ds.length < 100000) (hi : ρ[i]? = some (some (.o (.lst ds))) := by rfl) (hN : C.N[i]? = some x := by rfl)
    (hv : Vis C.sc x := by first | exact Or.inl rfl | exact Or.inr (Or.inl rfl) | exact Or.inr (Or.inr rfl)) (hd : (x == ("__debug__" : Str)) = false := by decide) (hcd : (x == ("__classdict__" : Str)) = false := by decide)
    (hbase : ∀ env, attributeBase (.Name x px) "append" env (eval (.Name x px) env) = eval (.Name x px) env := by intro _; rfl)
    (hfew : ∀ env, ((backTo cpos (starEach [e] env)).all (fun x => !x.1) && (backToKw cpos (keywordEach [] env)).all (fun x => x.1.isSome) && decide (([e] : List Expr).length + ([] : List Keyword).length + (if ([] : List Keyword).isEmpty then 0 else 1) < 30)) = true := by intro _; rfl)
    (hline : (apos.endLine == cpos.line) = true := by rfl) (hs : ∀ env, starEach [e] env = (false, eval e env) :: starEach [] env := by intro _; rfl) (hplain : ∀ env, (backTo cpos (starEach [] env)).any (·.1) = false := by intro _; rfl)
    (hsw : ∀ (pos : Pos) (env : Env), swapsWith (.Call (.Attribute (.Name x px) "append" apos) [e] [] cpos) none pos.line env = pure false := by intro _ _; rfl) :
    WS C (.Expr (.Call (.Attribute (.Name x px) "append" apos) [e] [] cpos) pos) ρ P := fun X hX B Z Y σ H R Dn L => by
  obtain ⟨a, ea, hB, hZ, vs, ev, dvs⟩ := R.ow i _ hi
  refine WSt.of (ps_expr (pe_bm PySem.F.plainAttrs_list PySem.F.slot_list_append PySem.F.type_list_append mt_append (pe_var (by rw [← hX.N]; exact hN) (by rw [← hX.sc]; exact hv) hd hcd) (pa_cons pe_we pa_nil (hs _)) (hbase _) (hfew _) hline (hs _) (hplain _)) (hsw _ _)) ?_
  refine ⟨_, ea, .inl ⟨rfl, vs, .inl (.inl ev)⟩, h X hX B Z Y σ H R _ fun v d H1 pd x1 dv => ?_⟩
  have e1 : H1 a = some (.lst vs) := x1.1 a _ (R.notRow hZ) ev
  have R1 := R.ext x1
  refine ⟨a, vs, v, rfl, rfl, e1, by rw [dvs.length]; exact Nat.lt_trans hl (by decide), ?_⟩
  exact L.nx Y _ σ _ (hp d pd) (R1.mut hi ea ⟨vs ++ [v], upd_same, DVs.append (dvs.mono (R.sub x1)) (.cons dv .nil)⟩)
/-- x[k] = e, x an owned list -/
theorem ws_put (i : Nat) {x : Str} {ds : List D} {p : D → Prop} {j : Nat} {z : Int} {px ppos : Pos} (he : EvP C e ρ p) (hk : EvD C k ρ (.int z)) (hj : ixN ds.length z = some j) (hp : ∀ d, p d → P.nx (ρ.set i (some (.o (.lst (ds.set j d)))))) (hi : ρ[i]? = some (some (.o (.lst ds))) := by rfl) (hN : C.N[i]? = some x := by rfl)
    (hv : Vis C.sc x := by first | exact Or.inl rfl | exact Or.inr (Or.inl rfl) | exact Or.inr (Or.inr rfl)) (hd : (x == ("__debug__" : Str)) = false := by decide) (hcd : (x == ("__classdict__" : Str)) = false := by decide)
    (ha : ∀ env v, assign (.Subscript (.Name x px) k ppos) env v = (do
      let ov ← holding [v] (eval (.Name x px) env)
      let iv ← holding [v, ov] (eval k env)
      standAt ppos
      holding [v, ov, iv] (setItem ov iv  v)
      release [v, ov, iv] []) := by intro _ _; rfl)
    (hs : ∀ (pos : Pos) (env : Env), swapsWithSole [.Subscript (.Name x px) k ppos] e pos.line env = pure false := by intro _ _; rfl) (hw : ∀ env : Env, swappedStores [.Subscript (.Name x px) k ppos] e env = pure none := by intro _; rfl)
    (h1 : ∀ env, (assignEach [.Subscript (.Name x px) k ppos] env).map (·.2) = [assign (.Subscript (.Name x px) k ppos) env] := by intro _; rfl) :
    WS C (.Assign [.Subscript (.Name x px) k ppos] e pos) ρ P := fun X hX B Z Y σ H R Dn L => by
  obtain ⟨a, ea, hB, hZ, vs, ev, dvs⟩ := R.ow i _ hi
  refine WSt.of (ps_asg pe_we (pg_sub (pe_var (by rw [← hX.N]; exact hN) (by rw [← hX.sc]; exact hv) hd hcd) pe_we set_list (ha _)) (hs _ _) (hw _) (h1 _)) (he X hX B Z Y σ H R _ fun v d H1 pd x1 dv => ?_)
  have R1 := R.ext x1
  refine ⟨_, ea, hk X hX B Z Y σ H1 R1 _ fun u dk H2 pk x2 du => ?_⟩
  subst pk
  cases du
  have e1 : H2 a = some (.lst vs) := (x1.trans x2).1 a _ (R.notRow hZ) ev
  refine ⟨a, vs, z, j, rfl, rfl, e1, by rw [dvs.length]; exact hj, ?_⟩
  exact L.nx Y _ σ _ (hp d pd) ((R1.ext x2).mut hi ea ⟨vs.set j v, upd_same, DVs.set (dv.mono (R1.sub x2)) j (dvs.mono (R.sub (x1.trans x2)))⟩)
/-- x[k] = e, x an owned dict with int keys -/
theorem ws_putI (i : Nat) {x : Str} {ds : List (Int × D)} {p : D → Prop} {z : Int} {px ppos : Pos} (he : EvP C e ρ p) (hk : EvD C k ρ (.int z)) (hp : ∀ d, p d → P.nx (ρ.set i (some (.o (.dI (putD ds z d)))))) (hlen : ds.length < 100000) (hi : ρ[i]? = some (some (.o (.dI ds))) := by rfl) (hN : C.N[i]? = some x := by rfl)
    (hv : Vis C.sc x := by first | exact Or.inl rfl | exact Or.inr (Or.inl rfl) | exact Or.inr (Or.inr rfl)) (hd : (x == ("__debug__" : Str)) = false := by decide) (hcd : (x == ("__classdict__" : Str)) = false := by decide)
    (hs : ∀ (pos : Pos) (env : Env), swapsWith e (some (.Subscript (.Name x px) k ppos)) pos.line env = pure false := by intro _ _; rfl) :
    WS C (.Assign [.Subscript (.Name x px) k ppos] e pos) ρ P := fun X hX B Z Y σ H R Dn L => by
  obtain ⟨a, ea, hB, hZ, kvs, ev, hkeys, dvs⟩ := R.ow i _ hi
  refine WSt.of (ps_dput (hu_of hX.room) (pe_var (by rw [← hX.N]; exact hN) (by rw [← hX.sc]; exact hv) hd hcd) pe_we pe_we (hs _ _)) (he X hX B Z Y σ H R _ fun v d H1 pd x1 dv => ?_)
  have R1 := R.ext x1
  refine ⟨_, ea, hk X hX B Z Y σ H1 R1 _ fun u dk H2 pk x2 du => ?_⟩
  subst pk
  cases du
  have e1 : H2 a = some (.dK kvs) := (x1.trans x2).1 a _ (R.notRow hZ) ev
  refine ⟨a, _, rfl, DPut.k (k := Sum.inl z) e1 (by rw [keys_len hkeys]; exact Nat.lt_trans hlen (by decide)), ?_⟩
  obtain ⟨q1, q2⟩ := dk_put (f := fun i => (Sum.inl i : Key)) inl_inj z (dv.mono (R1.sub x2)) hkeys (dvs.mono (R.sub (x1.trans x2)))
  exact L.nx Y _ σ _ (hp d pd) ((R1.ext x2).mut hi ea ⟨_, upd_same, q1, q2⟩)
/-- x[k] = e, x an owned dict with tuple keys -/
theorem ws_putT (i : Nat) {x : Str} {ds : List (List Int × D)} {p : D → Prop} {z : List Int} {px ppos : Pos} (he : EvP C e ρ p) (hk : EvD C k ρ (.tup (z.map D.int))) (hp : ∀ d, p d → P.nx (ρ.set i (some (.o (.dT (putD ds z d)))))) (hlen : ds.length < 100000) (hi : ρ[i]? = some (some (.o (.dT ds))) := by rfl) (hN : C.N[i]? = some x := by rfl)
    (hv : Vis C.sc x := by first | exact Or.inl rfl | exact Or.inr (Or.inl rfl) | exact Or.inr (Or.inr rfl)) (hd : (x == ("__debug__" : Str)) = false := by decide) (hcd : (x == ("__classdict__" : Str)) = false := by decide)
    (hs : ∀ (pos : Pos) (env : Env), swapsWith e (some (.Subscript (.Name x px) k ppos)) pos.line env = pure false := by intro _ _; rfl) :
    WS C (.Assign [.Subscript (.Name x px) k ppos] e pos) ρ P := fun X hX B Z Y σ H R Dn L => by
  obtain ⟨a, ea, hB, hZ, kvs, ev, hkeys, dvs⟩ := R.ow i _ hi
  refine WSt.of (ps_dput (hu_of hX.room) (pe_var (by rw [← hX.N]; exact hN) (by rw [← hX.sc]; exact hv) hd hcd) pe_we pe_we (hs _ _)) (he X hX B Z Y σ H R _ fun v d H1 pd x1 dv => ?_)
  have R1 := R.ext x1
  refine ⟨_, ea, hk X hX B Z Y σ H1 R1 _ fun u dk H2 pk x2 du => ?_⟩
  subst pk
  cases du with
  | @tup t vs _ et dts =>
    have e1 : H2 a = some (.dT kvs) := (x1.trans x2).1 a _ (R.notRow hZ) ev
    have et' : H2 t = some (.tup ((z.map (fun i => (Sum.inl i : Key))).map kV)) := by
      rw [kv_ints, ← dts.ints]; exact (hid_some et).2
    refine ⟨a, _, rfl, DPut.t e1 et' (by rw [keys_len hkeys]; exact Nat.lt_trans hlen (by decide)), ?_⟩
    obtain ⟨q1, q2⟩ := dk_put (f := fun l : List Int => l.map fun i => (Sum.inl i : Key)) inls_inj z (dv.mono (R1.sub x2)) hkeys (dvs.mono (R.sub (x1.trans x2)))
    exact L.nx Y _ σ _ (hp d pd) ((R1.ext x2).mut hi ea ⟨_, upd_same, q1, q2⟩)
/-- name op= e, ints -/
theorem ws_augAdd (i : Nat) {x : Str} {z y : Int} {pos' : Pos} (hnd : C.N.Nodup) (h : EvD C e ρ (.int y)) (hp : P.nx (ρ.set i (some (.v (.int (z + y)))))) (hi : ρ[i]? = some (some (.v (.int z))) := by rfl) (hN : C.N[i]? = some x := by rfl) (hl : LocC C x := by first | exact Or.inl rfl | exact Or.inr ⟨rfl, rfl⟩) :
    WS C (.AugAssign (.Name x pos') .Add e pos) ρ P := fun X hX B Z Y σ H R Dn L => by
  obtain ⟨h1, h2⟩ := hX.loc hl
  obtain ⟨v, ev, dv⟩ := R.fz i _ hi
  cases dv
  refine WSt.of (ps_aug (by rw [← hX.N]; exact hnd) (by rw [← hX.N]; exact hN) h1 pe_we ip_add h2) ⟨_, ev, h X hX B Z Y σ H R _ fun v d H1 pd x1 dv => ?_⟩
  subst pd
  cases dv
  obtain ⟨Y', s', R'⟩ := (R.ext x1).setv i (.int (z + y))
  exact ⟨z, y, rfl, rfl, L.nx Y' _ _ H1 hp R'⟩
/-- d[k], d.get(k, x) of a dict -/
theorem dv_get {r : Option Addr} {G H : Hp} {a : Addr} {u : V} {x z : D} (hG : Sub G H) (hx : DV r G (.ref a) x) (hz : DV r G u z) : (∀ ds n, x = .dI ds → z = .int n → ∃ o, DGet H a u o ∧ (∀ d, valD ds n = some d → ∃ v, o = some v ∧ DV r G v d) ∧ (valD ds n = none → o = none)) ∧
    (∀ ds ns, x = .dT ds → z = .tup (ns.map D.int) → ∃ o, DGet H a u o ∧ (∀ d, valD ds ns = some d → ∃ v, o = some v ∧ DV r G v d) ∧ (valD ds ns = none → o = none)) := by
  constructor
  · rintro ds n rfl rfl
    cases hz
    cases hx with
    | @dI _ kvs _ e1 hk dvs =>
      obtain ⟨q1, q2⟩ := dk_val (f := fun i => (Sum.inl i : Key)) inl_inj n hk dvs
      exact ⟨_, .inl ⟨kvs, Sum.inl n, hG.rd e1, rfl, rfl⟩, q1, q2⟩
  · rintro ds ns rfl rfl
    cases hx with
    | @dT _ kvs _ e1 hk dvs =>
      cases hz with
      | @tup t vs _ et dts =>
        obtain ⟨q1, q2⟩ := dk_val (f := fun l : List Int => l.map fun i => (Sum.inl i : Key)) inls_inj ns hk dvs
        refine ⟨_, .inr ⟨kvs, ns.map fun i => (Sum.inl i : Key), t, hG.rd e1, rfl, ?_, rfl⟩, q1, q2⟩
        rw [kv_ints, ← dts.ints]
        exact hG _ _ et
/-- what a dict has at a key -/
def atD : D → D → Option (Option D)
  | .dI ds, .int n => some (valD ds n)
  | _, _ => none
theorem hid_le (H : Hp) (Y : Addr → Bool) : Sub (hid H Y) H := fun _ _ h => (hid_some h).2
theorem ev_dgetI {ds : List (Int × D)} {n : Int} {z : D} (ho : EvD C e ρ (.dI ds)) (hk : EvD C k ρ (.int n)) (hz : valD ds n = some z) (hs : NoSl k := by intro _ _; rfl) : EvD C (.Subscript e k pos) ρ z := fun X hX B Z Y σ H R Q hQ => by
  refine WE.of (pe_dget (hu_of hX.room) pe_we pe_we hs) (ho X hX B Z Y σ H R _ fun v x H1 px x1 dv => ?_)
  subst px
  refine hk X hX B Z Y σ H1 (R.ext x1) _ fun u y H2 py x2 du => ?_
  subst py
  have dv' := dv.mono ((R.ext x1).sub x2)
  cases dv' with
  | @dI a kvs _ e1 hkk dvs =>
    obtain ⟨o, g, h1, _⟩ := (dv_get (hid_le H2 Y) (DV.dI e1 hkk dvs) du).1 ds n rfl rfl
    obtain ⟨w, rfl, dw⟩ := h1 z hz
    exact ⟨a, w, rfl, g, hQ w z H2 rfl (x1.trans x2) dw⟩
theorem ev_dgetT {ds : List (List Int × D)} {ns : List Int} {z : D} (ho : EvD C e ρ (.dT ds)) (hk : EvD C k ρ (.tup (ns.map D.int))) (hz : valD ds ns = some z) (hs : NoSl k := by intro _ _; rfl) : EvD C (.Subscript e k pos) ρ z := fun X hX B Z Y σ H R Q hQ => by
  refine WE.of (pe_dget (hu_of hX.room) pe_we pe_we hs) (ho X hX B Z Y σ H R _ fun v x H1 px x1 dv => ?_)
  subst px
  refine hk X hX B Z Y σ H1 (R.ext x1) _ fun u y H2 py x2 du => ?_
  subst py
  have dv' := dv.mono ((R.ext x1).sub x2)
  cases dv' with
  | @dT a kvs _ e1 hkk dvs =>
    obtain ⟨o, g, h1, _⟩ := (dv_get (hid_le H2 Y) (DV.dT e1 hkk dvs) du).2 ds ns rfl rfl
    obtain ⟨w, rfl, dw⟩ := h1 z hz
    exact ⟨a, w, rfl, g, hQ w z H2 rfl (x1.trans x2) dw⟩
/-- x.get(k, b), x an owned dict -/
structure GetM (x : Str) (px apos cpos : Pos) (k b : Expr) : Prop where
  base : ∀ env, attributeBase (.Name x px) "get" env (eval (.Name x px) env) = eval (.Name x px) env
  few : ∀ env, ((backTo cpos (starEach [k, b] env)).all (fun x => !x.1) && (backToKw cpos (keywordEach [] env)).all (fun x => x.1.isSome) && decide (([k, b] : List Expr).length + ([] : List Keyword).length + (if ([] : List Keyword).isEmpty then 0 else 1) < 30)) = true
  line : (apos.endLine == cpos.line) =  true
  trees : ∀ env, backTo cpos (starEach [k, b] env) = [(false, eval k env), (false, eval b env)]
theorem ev_getOT (i : Nat) {x : Str} {ds : List (List Int × D)} {ns : List Int} {z : D} {px apos cpos : Pos} (hk : EvD C k ρ (.tup (ns.map D.int))) (hb : EvD C b ρ z) (m : GetM x px apos cpos k b) (hi : ρ[i]? = some (some (.o (.dT ds))) := by rfl) (hN : C.N[i]? = some x := by rfl)
    (hv : Vis C.sc x := by first | exact Or.inl rfl | exact Or.inr (Or.inl rfl) | exact Or.inr (Or.inr rfl)) (hd : (x == ("__debug__" : Str)) = false := by decide) (hcd : (x == ("__classdict__" : Str)) = false := by decide) :
    EvD C (.Call (.Attribute (.Name x px) "get" apos) [k, b] [] cpos) ρ ((valD ds ns).getD z) := fun X hX B Z Y σ H R Q hQ => by
  obtain ⟨a, ea, hB, hZ, kvs, ev, hkeys, dvs⟩ := R.ow i _ hi
  refine WE.of (pe_dget2 (hu_of hX.room) (pe_var (by rw [← hX.N]; exact hN) (by rw [← hX.sc]; exact hv) hd hcd) pe_we pe_we ⟨m.base _, m.few _, m.line, m.trees _⟩) ?_
  refine ⟨_, ea, a, rfl, .inr ⟨kvs, .inl ev⟩, hk X hX B Z Y σ H R _ fun u y H1 py x1 du => ?_⟩
  subst py
  refine hb X hX B Z Y σ H1 (R.ext x1) _ fun w y H2 py x2 dw => ?_
  subst py
  have e2 : H2 a = some (.dT kvs) := (x1.trans x2).1 a _ (R.notRow hZ) ev
  have du' := du.mono ((R.ext x1).sub x2)
  cases du' with
  | @tup t vs _ et dts =>
    have et' : H2 t = some (.tup ((ns.map (fun i => (Sum.inl i : Key))).map kV)) := by
      rw [kv_ints, ← dts.ints]; exact (hid_some et).2
    obtain ⟨q1, q2⟩ := dk_val (f := fun l : List Int => l.map fun i => (Sum.inl i : Key)) inls_inj ns hkeys (dvs.mono (R.sub (x1.trans x2)))
    refine ⟨_, DGet.t e2 et', ?_⟩
    cases q : valD ds ns with
    | none =>
      show Q ((valV kvs (ns.map fun i => (Sum.inl i : Key))).getD w) H2
      rw [q2 q]
      exact hQ w _ H2 (by rw [q]; rfl) (x1.trans x2) dw
    | some d =>
      obtain ⟨v, h1, h2⟩ := q1 d q
      show Q ((valV kvs (ns.map fun i => (Sum.inl i : Key))).getD w) H2
      rw [h1]
      exact hQ v _ H2 (by rw [q]; rfl) (x1.trans x2) h2
theorem ev_getOI (i : Nat) {x : Str} {ds : List (Int × D)} {n : Int} {z : D} {px apos cpos : Pos} (hk : EvD C k ρ (.int n)) (hb : EvD C b ρ z) (m : GetM x px apos cpos k b) (hi : ρ[i]? = some (some (.o (.dI ds))) := by rfl) (hN : C.N[i]? = some x := by rfl)
    (hv : Vis C.sc x := by first | exact Or.inl rfl | exact Or.inr (Or.inl rfl) | exact Or.inr (Or.inr rfl)) (hd : (x == ("__debug__" : Str)) = false := by decide) (hcd : (x == ("__classdict__" : Str)) = false := by decide) :
    EvD C (.Call (.Attribute (.Name x px) "get" apos) [k, b] [] cpos) ρ ((valD ds n).getD z) := fun X hX B Z Y σ H R Q hQ => by
  obtain ⟨a, ea, hB, hZ, kvs, ev, hkeys, dvs⟩ := R.ow i _ hi
  refine WE.of (pe_dget2 (hu_of hX.room) (pe_var (by rw [← hX.N]; exact hN) (by rw [← hX.sc]; exact hv) hd hcd) pe_we pe_we ⟨m.base _, m.few _, m.line, m.trees _⟩) ?_
  refine ⟨_, ea, a, rfl, .inl ⟨kvs, .inl ev⟩, hk X hX B Z Y σ H R _ fun u y H1 py x1 du => ?_⟩
  subst py
  refine hb X hX B Z Y σ H1 (R.ext x1) _ fun w y H2 py x2 dw => ?_
  subst py
  have e2 : H2 a = some (.dK kvs) := (x1.trans x2).1 a _ (R.notRow hZ) ev
  cases du
  obtain ⟨q1, q2⟩ := dk_val (f := fun i => (Sum.inl i : Key)) inl_inj n hkeys (dvs.mono (R.sub (x1.trans x2)))
  refine ⟨_, DGet.k (k := Sum.inl n) e2, ?_⟩
  cases q : valD ds n with
  | none => rw [q2 q]; exact hQ w _ H2 (by rw [q]; rfl) (x1.trans x2) dw
  | some d =>
    obtain ⟨v, h1, h2⟩ := q1 d q
    rw [h1]
    exact hQ v _ H2 (by rw [q]; rfl) (x1.trans x2) h2
/-! ### owned lists read in passing -/
theorem atI_dvs {r : Option Addr} {G : Hp} {vs : List V} {ds : List D} {z : Int} {d : D} (h : DVs r G vs ds) (e : atI ds z = some d) : ∃ v, atI vs z = some v ∧ DV r G v d := by
  unfold atI at e ⊢
  rw [h.length]
  cases q : ixN ds.length z with
  | none => rw [q] at e; cases  e
  | some j =>
    rw [q] at e
    obtain ⟨v, h1, h2⟩ := h.get e
    exact ⟨v, h1, h2⟩
theorem ev_ixO (i : Nat) {x : Str} {ds : List D} {z : Int} {d : D} {px : Pos} (hk : EvD C k ρ (.int z)) (hz : atI ds z = some d) (hi : ρ[i]? = some (some (.o (.lst ds))) := by rfl) (hN : C.N[i]? = some x := by rfl)
    (hv : Vis C.sc x := by first | exact Or.inl rfl | exact Or.inr (Or.inl rfl) | exact Or.inr (Or.inr rfl)) (hd : (x == ("__debug__" : Str)) = false := by decide) (hcd : (x == ("__classdict__" : Str)) = false := by decide) (hs : PlainIx k := by intro _ _; rfl) : EvD C (.Subscript (.Name x px) k pos) ρ d := fun X hX B Z Y σ H R Q hQ => by
  obtain ⟨a, ea, hB, hZ, vs, ev, dvs⟩ := R.ow i _ hi
  refine WE.of (pe_ix ix_list (pe_var (by rw [← hX.N]; exact hN) (by rw [← hX.sc]; exact hv) hd hcd) pe_we hs) ⟨_, ea, hk X hX B Z Y σ H R _ fun u y H1 py x1 du => ?_⟩
  subst py
  cases du
  obtain ⟨v, h1, h2⟩ := atI_dvs (dvs.mono (R.sub x1)) hz
  exact ⟨a, vs, z, v, rfl, rfl, .inl (.inl (x1.1 a _ (R.notRow hZ) ev)), h1, hQ v d H1 rfl x1 h2⟩
end
/-! ### defs and their calls -/
/-- a promise in data -/
def SpD (C : Cfg) (S : List D → (D → Prop) → Prop) : Sp := fun vs H Q _ => ∃ ds Z k, S ds k ∧ DVs C.r (hid H Z) vs ds ∧ RowOk C H ∧ (∀ a, C.r = some a → Z a = true) ∧ (∀ a, C.r = some a → Z C.rs = true ∨ KSq C) ∧ (∀ a, Z a = true → ∃ o, H a = some o ∧ isTup o = false) ∧
  ∀ v d H', k d → Ext C H H' → DV C.r (hid H' Z) v d → Q v H'
structure FnD (C : Cfg) (lv : Nat) (x : Str) (S : List D → (D → Prop) → Prop) : Prop where
  ex : ∃ f fd ps, FnOk C.P C.w C.K C.mg C.base CX0 lv f fd ps (SpD C S) ∧ C.mg x = some (.ref f) ∧ PySem.W.keepIn C.K (.ref f) = true ∧ Binds C.K fd ps []
/-- the same function under another static context of the same program -/
theorem FnD.to {C : Cfg} {lv : Nat} {x : Str} {S : List D → (D → Prop) → Prop} (F : FnD C lv x S) {N : List Str} {sc : Scope} {l : Nat} {dd : Bool} : FnD { C with N := N, sc := sc, lv := l, dd := dd } lv x S := ⟨F.ex⟩
theorem FnD.imp {C : Cfg} {lv : Nat} {x : Str} {S S' : List D → (D → Prop) → Prop} (F : FnD C lv x S) (h : ∀ ds k, S' ds k → S ds k) : FnD C lv x S' := by
  obtain ⟨f, fd, ps, h1, h2, h3, h4⟩ := F.ex
  exact ⟨f, fd, ps, h1.imp fun vs H Q E ⟨ds, Z, k, a, b⟩ => ⟨ds, Z, k, h _ _ a, b⟩, h2, h3, h4⟩
theorem FnD.mono {C : Cfg} {lv l : Nat} {x : Str} {S : List D → (D → Prop) → Prop} (F : FnD C lv x S) (h : lv ≤ l) : FnD C l x S := by
  obtain ⟨f, fd, ps, h1, h2, h3, h4⟩ := F.ex
  exact ⟨f, fd, ps, h1.mono h, h2, h3, h4⟩
theorem Rl.sp {C : Cfg} {B : Hp} {Z Y : Addr → Bool} {ρ : DEnv} {σ : St} {H : Hp} (R : Rl C B Z Y ρ σ H) {S : List D → (D → Prop) → Prop} {vs : List V} {ds : List D} {Q : VK} {E : XK} {k : D → Prop} (h : S ds k) (dv : DVs C.r (hid H Y) vs ds) (hQ : ∀ v d H', k d → Ext C H H' → DV C.r (hid H' Y) v d → Q v H') : SpD C S vs H Q E :=
  ⟨ds, Y, k, h, dv, R.row, fun a h => R.rowY h, fun a h => (R.rowS a h).imp (fun z => (R.yI _).mpr (.inl z)) id, fun a h => R.yOk h, hQ⟩
section
variable {C : Cfg} {ρ : DEnv} {e : Expr} {es : List Expr} {pos : Pos}
theorem ev_callP {x : Str} {lv : Nat} {S : List D → (D → Prop) → Prop} {ps : List D → Prop} {p : D → Prop} {pp : Pos} (F : FnD C lv x S) (ha : EvA C (e :: es) ρ ps) (hS : ∀ ds, ps ds → S ds p) (hlv : lv ≤ C.lv := by exact Nat.le_of_ble_eq_true rfl) (hg : GlC C x := by rfl) (hdb : (x == ("__debug__" : Str)) = false := by decide)
    (he : ∀ env, starEach (e :: es) env = (false, eval e env) :: starEach es env := by intro _; rfl) (hpl : ∀ env, (backTo pos (starEach es env)).any (·.1) = false := by intro _; rfl) : EvP C (.Call (.Name x pp) (e :: es) [] pos) ρ p := fun X hX B Z Y σ H R Q hQ => by
  obtain ⟨f, fd, pps, h1, h2, h3, h4⟩ := F.ex
  rw [hX.P, hX.w, hX.K, hX.mg, hX.base] at h1
  rw [hX.mg] at h2
  rw [hX.K] at h3 h4
  refine WE.of (pe_call h1 (hX.room.mono hlv) (hX.gl hg) h2 h3 h4 .nil pass0 pa_wa hdb (he _) (hpl _)) (ha X hX B Z Y σ H R _ fun vs ds H1 pd x1 dvs => ?_)
  rw [List.append_nil]
  exact (R.ext x1).sp (hS ds pd) dvs fun v d H' kd x2 dv => hQ v d H' kd (x1.trans x2) dv
theorem ev_call {x : Str} {lv : Nat} {S : List D → (D → Prop) → Prop} {ds : List D} {d : D} {pp : Pos} (F : FnD C lv x S) (ha : EvA C (e :: es) ρ (· = ds)) (hS : S ds (· = d)) (hlv : lv ≤ C.lv := by exact Nat.le_of_ble_eq_true rfl) (hg : GlC C x := by rfl) (hdb : (x == ("__debug__" : Str)) = false := by decide)
    (he : ∀ env, starEach (e :: es) env = (false, eval e env) :: starEach es env := by intro _; rfl) (hpl : ∀ env, (backTo pos (starEach es env)).any (·.1) = false := by intro _; rfl) : EvD C (.Call (.Name x pp) (e :: es) [] pos) ρ d := ev_callP F ha (by rintro _ rfl; exact hS) hlv hg hdb he hpl
end
/-- the start of a def's body in data -/
def startD (N : List Str) (ds : List D) : DEnv := ds.map (fun d => some (.v d)) ++ List.replicate (N.length - ds.length) none
theorem startD_get {N : List Str} {ds : List D} {i : Nat} {e : Ent} (h : (startD N ds)[i]? = some (some e)) : ∃ d, e = .v d ∧ ds[i]? = some d := by
  unfold startD at h
  rw [List.getElem?_append] at h
  split at h
  · rw [List.getElem?_map] at h
    cases q : ds[i]? with
    | none => rw [q] at h; cases h
    | some d => rw [q] at h; simp at h; exact ⟨d, h.symm, rfl⟩
  · rw [List.getElem?_replicate] at h
    split at h
    · simp at h
    · cases h
theorem start_get {N : List Str} {vs : List V} {i : Nat} {v : V} (h : vs[i]? = some v) : (L2.start N vs)[i]? = some (some v) := by
  unfold L2.start
  rw [List.getElem?_append_left (by simpa using (List.getElem?_eq_some_iff.mp h).1), List.getElem?_map, h]
  rfl
/-- what the body's own context is -/
def bodyCfg (C : Cfg) (N : List Str) (sc : Scope) (lv : Nat) : Cfg := { C with N := N, sc := sc, lv := lv, dd := true }
theorem def_ok {C : Cfg} {x qual : Str} {st : Stmt} {f : Addr} {fd : FuncData} {N ps : List Str} {k : Nat} {S : List D → (D → Prop) → Prop} (F : Fun C.K x qual st f fd) (hS : FnScope N ps (defScope st)) (len : ∀ ds k, S ds k → ds.length = ps.length)
    (body : ∀ ds kk, S ds kk → WSs (bodyCfg C N (defScope st) k) (defBody st) (startD N ds) { nx := fun _ => kk .non, rt := kk }) : FnOk C.P C.w C.K C.mg C.base CX0 (k + 1) f fd ps (SpD C S) := by
  refine F.ok hS (fun vs H Q E ⟨ds, Z, kk, h, dv, _⟩ => by rw [dv.length]; exact len ds kk h) fun cdv A outer s H vs Q E hr ⟨ds, Z, kk, h, dv, row, rz, rs, zo, hQ⟩ => ?_
  refine ⟨_, pss_wsts, ?_⟩
  have hX : XOk (bodyCfg C N (defScope st) k) (cxOf CX0 C.P C.w C.K C.mg C.base N qual (defScope st) f cdv A outer s H E).nox := ⟨rfl, rfl, rfl, rfl, rfl, rfl, rfl, rfl, hr, fun _ _ => rfl, rfl⟩
  have hl : ds.length ≤ N.length := by
    have h1 := len ds kk h
    have h2 := congrArg List.length hS.pre
    rw [List.length_take] at h2
    omega
  have R : Rl (bodyCfg C N (defScope st) k) H Z Z (startD N ds) (L2.start N vs) H := by
    refine ⟨fun a o _ e => e, row, rz, rs, zo, ?_, fun i d e => ?_, fun i d e => ?_, fun i j d e a h1 _ _ _ => ?_, fun a => ⟨.inl, fun q => q.elim id fun ⟨i, d, e, _⟩ => ?_⟩⟩
    · simp [startD, L2.start, dv.length]
    · obtain ⟨d', e', h'⟩ := startD_get e
      cases e'
      obtain ⟨v, h1, h2⟩ := dv.get h'
      exact ⟨v, start_get h1, h2⟩
    · obtain ⟨d', e', _⟩ := startD_get e; cases e'
    · obtain ⟨d', e', _⟩ := startD_get h1; cases e'
    · obtain ⟨d', e', _⟩ := startD_get e; cases e'
  refine body ds kk h _ hX H Z Z _ H R _ ⟨fun Y ρ σ H' p R' => ?_, fun Y ρ σ v d H' p R' dv' => ?_, fun _ _ _ _ p => p.elim, fun _ _ _ _ p => p.elim⟩
  · exact hQ .non .non H' p ⟨R'.base, fun _ => R'.row⟩ .non
  · exact hQ v d H' p ⟨R'.base, fun _ => R'.row⟩ (dv'.mono (hid_sub (fun _ _ _ e => e) fun a _ _ hz => (R'.yI a).mpr (.inl hz)))
theorem fnD {C : Cfg} {x qual : Str} {st : Stmt} {f : Addr} {fd : FuncData} {N ps : List Str} {k : Nat} {S : List D → (D → Prop) → Prop} (F : Fun C.K x qual st f fd) (hm : C.mg x = some (.ref f)) (hb : Binds C.K fd ps []) (hS : FnScope N ps (defScope st)) (len : ∀ ds k, S ds k → ds.length = ps.length)
    (body : ∀ ds kk, S ds kk → WSs (bodyCfg C N (defScope st) k) (defBody st) (startD N ds) { nx := fun _ => kk .non, rt := kk }) : FnD C (k + 1) x S := ⟨f, fd, ps, def_ok F hS len body, hm, F.kp, hb⟩
/-- a total function with its field -/
def SpF (pre : List D → Prop) (f : List D → D) : List D → (D → Prop) → Prop := fun ds k => pre ds ∧ k (f ds)
end DL
/-! text DL6 -/
/-! DL6: operations on data. -/
namespace DL
open PySem PySem.Spec L2
open PyProof.Rows hiding St
section
variable {C : Cfg} {G H : Hp} {r : Option Addr}
/-! data that == can compare -/
mutual
inductive PyD : D → PyData → Prop
  | non : PyD .non .none
  | bl (b : Bool) : PyD (.bl b) (.bool b)
  | int (i : Int) : PyD (.int i) (.int i)
  | tup {ds : List D} {ps : List PyData} : PyDs ds ps → PyD (.tup ds) (.tuple ps)
  | lst {ds : List D} {ps : List PyData} : PyDs ds ps → PyD (.lst ds) (.list ps)
inductive PyDs : List D → List PyData → Prop
  | nil : PyDs [] []
  | cons {d : D} {p : PyData} {ds : List D} {ps : List PyData} : PyD d p → PyDs ds ps → PyDs (d :: ds) (p :: ps)
end
mutual
theorem PyD.dp {K : PySem.W.Frag} (hs : Sub G H) : ∀ {d : D} {p : PyData} {v : V}, PyD d p → DV r G v d → Dp K H v p
  | _, _, _, .non, .non => .non
  | _, _, _, .bl b, .bl _ => .bl b
  | _, _, _, .int b, .int _ => .int b
  | _, _, _, .tup h, .tup e t => .tup (.inl (.inl (hs _ _ e))) (PyDs.dp hs h t)
  | _, _, _, .lst h, .lst e t => .lst (.inl (.inl (hs _ _ e))) (PyDs.dp hs h t)
theorem PyDs.dp {K : PySem.W.Frag} (hs : Sub G H) : ∀ {ds : List D} {ps : List PyData} {vs : List V}, PyDs ds ps → DVs r G vs ds → DpAll K H vs ps
  | _, _, _, .nil, .nil => .nil
  | _, _, _, .cons h k, .cons e t => .cons (PyD.dp hs h e) (PyDs.dp hs k t)
end
theorem PyDs.ints : ∀ ns : List Int, PyDs (ns.map D.int) (ns.map PyData.int)
  | [] => .nil
  | n :: r => .cons (.int n) (PyDs.ints r)
theorem PyDs.map {α : Type} (f : α → D) (g : α → PyData) (h : ∀ x, PyD (f x) (g x)) : ∀ xs : List α, PyDs (xs.map f) (xs.map g)
  | [] => .nil
  | x :: r => .cons (h x) (PyDs.map f g h r)
theorem eqvAll_ints : ∀ ns ms : List Int, PyData.eqvAll (ns.map PyData.int) (ms.map PyData.int) = decide (ns = ms)
  | [], [] => by simp  [PyData.eqvAll]
  | [], _ :: _ => by simp  [PyData.eqvAll]
  | _ :: _, [] => by simp  [PyData.eqvAll]
  | n :: ns, m :: ms => by
    simp only [List.map_cons, PyData.eqvAll, eqvAll_ints ns ms, PyData.eqv]
    by_cases h : n = m
    · subst h; simp
    · simp [h]
theorem canLay_ints : ∀ ns : List Int, PyData.canLayAll0 (ns.map PyData.int) = true
  | [] => rfl
  | n :: r => by simp only [List.map_cons, PyData.canLayAll0, canLay_ints r]; rfl
theorem depth_ints : ∀ ns : List Int, PyData.depthAll (ns.map PyData.int) = 0
  | [] => rfl
  | n :: r => by simp only [List.map_cons, PyData.depthAll, depth_ints r, PyData.depth]; rfl
theorem shaped_tupI (ns : List Int) : SeqAt.shaped (.tuple (ns.map PyData.int)) = true := by
  unfold SeqAt.shaped
  simp only [PyData.canLay0, canLay_ints, PyData.depth, depth_ints]; rfl
theorem shaped_lstI (ns : List Int) : SeqAt.shaped (.list (ns.map PyData.int)) = true := by
  unfold SeqAt.shaped
  simp only [PyData.canLay0, canLay_ints, PyData.depth, depth_ints]; rfl
/-! ### ints -/
theorem od_add {i j : Int} : OpD C (binaryOp .Add) (.int i) (.int j) (· = .int (i + j)) := fun X hX Y H u v Q y du dv hQ => by
  cases du; cases dv; exact ⟨_, op_add, i, j, rfl, rfl, hQ _ _ H rfl (Ext.refl C H) (.int _)⟩
theorem od_sub {i j : Int} : OpD C (binaryOp .Sub) (.int i) (.int j) (· = .int (i - j)) := fun X hX Y H u v Q y du dv hQ => by
  cases du; cases dv; exact ⟨_, op_sub, i, j, rfl, rfl, hQ _ _ H rfl (Ext.refl C H) (.int _)⟩
theorem od_mul {i j : Int} (h : CMul i j) : OpD C (binaryOp .Mult) (.int i) (.int j) (· = .int (i * j)) := fun X hX Y H u v Q y du dv hQ => by
  cases du; cases dv; exact ⟨_, op_mul, i, j, rfl, rfl, h, hQ _ _ H rfl (Ext.refl C H) (.int _)⟩
theorem od_mod {i j : Int} (h : 0 < j) : OpD C (binaryOp .Mod) (.int i) (.int j) (· = .int (i % j)) := fun X hX Y H u v Q y du dv hQ => by
  cases du; cases dv; exact ⟨_, op_mod, i, j, rfl, rfl, h, hQ _ _ H rfl (Ext.refl C H) (.int _)⟩
theorem od_fdiv {i j : Int} (h : CDiv i j) : OpD C (binaryOp .FloorDiv) (.int i) (.int j) (· = .int (i / j)) := fun X hX Y H u v Q y du dv hQ => by
  cases du; cases dv; exact ⟨_, op_fdiv, i, j, rfl, rfl, h, hQ _ _ H rfl (Ext.refl C H) (.int _)⟩
theorem od_pow {i j : Int} (h : CPow i j) : OpD C (binaryOp .Pow) (.int i) (.int j) (· = .int (i ^ j.toNat)) := fun X hX Y H u v Q y du dv hQ => by
  cases du; cases dv; exact ⟨_, op_pow, i, j, rfl, rfl, h, hQ _ _ H rfl (Ext.refl C H) (.int _)⟩
theorem od_lt {i j : Int} : OpD C (compareOp .Lt) (.int i) (.int j) (· = .bl (decide (i < j))) := fun X hX Y H u v Q y du dv hQ => by
  cases du; cases dv; exact ⟨_, op_lt, i, j, rfl, rfl, hQ _ _ H rfl (Ext.refl C H) (.bl _)⟩
theorem od_le {i j : Int} : OpD C (compareOp .LtE) (.int i) (.int j) (· = .bl (decide (i ≤ j))) := fun X hX Y H u v Q y du dv hQ => by
  cases du; cases dv; exact ⟨_, op_le, i, j, rfl, rfl, hQ _ _ H rfl (Ext.refl C H) (.bl _)⟩
theorem od_gt {i j : Int} : OpD C (compareOp .Gt) (.int i) (.int j) (· = .bl (decide (j < i))) := fun X hX Y H u v Q y du dv hQ => by
  cases du; cases dv; exact ⟨_, op_gt, i, j, rfl, rfl, hQ _ _ H rfl (Ext.refl C H) (.bl _)⟩
theorem od_ge {i j : Int} : OpD C (compareOp .GtE) (.int i) (.int j) (· = .bl (decide (j ≤ i))) := fun X hX Y H u v Q y du dv hQ => by
  cases du; cases dv; exact ⟨_, op_ge, i, j, rfl, rfl, hQ _ _ H rfl (Ext.refl C H) (.bl _)⟩
theorem od_eqI {i j : Int} : OpD C (compareOp .Eq) (.int i) (.int j) (· = .bl (decide (i = j))) := fun X hX Y H u v Q y du dv hQ => by
  cases du; cases dv
  refine ⟨_, op_eq, rfl, ?_⟩
  have e : decide (V.int i = V.int j) = decide (i = j) := by simp
  rw [e]
  exact hQ _ _ H rfl (Ext.refl C H) (.bl _)
theorem od_neI {i j : Int} : OpD C (compareOp .NotEq) (.int i) (.int j) (· = .bl (!decide (i = j))) := fun X hX Y H u v Q y du dv hQ => by
  cases du; cases dv
  refine ⟨_, op_ne, rfl, ?_⟩
  have e : decide (V.int i = V.int j) = decide (i = j) := by simp
  rw [e]
  exact hQ _ _ H rfl (Ext.refl C H) (.bl _)
theorem od_eqB {i j : Bool} : OpD C (compareOp .Eq) (.bl i) (.bl j) (· = .bl (decide (i = j))) := fun X hX Y H u v Q y du dv hQ => by
  cases du; cases dv
  refine ⟨_, op_eq, rfl, ?_⟩
  have e : decide (V.bl i = V.bl j) = decide (i = j) := by simp
  rw [e]
  exact hQ _ _ H rfl (Ext.refl C H) (.bl _)
theorem od_neB {i j : Bool} : OpD C (compareOp .NotEq) (.bl i) (.bl j) (· = .bl (!decide (i = j))) := fun X hX Y H u v Q y du dv hQ => by
  cases du; cases dv
  refine ⟨_, op_ne, rfl, ?_⟩
  have e : decide (V.bl i = V.bl j) = decide (i = j) := by simp
  rw [e]
  exact hQ _ _ H rfl (Ext.refl C H) (.bl _)
/-! ### data -/
theorem od_eqD {x y : D} {p q : PyData} (hx : PyD x p) (hy : PyD y q) (sp : SeqAt.shaped p = true := by first | rfl | exact shaped_tupI _ | exact shaped_lstI _) (sq : SeqAt.shaped q = true := by first | rfl | exact shaped_tupI _ | exact shaped_lstI _) : OpD C (compareOp .Eq) x y (· = .bl (PyData.eqv p q)) := fun X hX Y H u v Q y du dv hQ =>
  ⟨_, op_eqD hX.room.units, p, q, hx.dp (hid_le H Y) du, hy.dp (hid_le H Y) dv, sp, sq, hQ _ _ H rfl (Ext.refl C H) (.bl _)⟩
theorem od_neD {x y : D} {p q : PyData} (hx : PyD x p) (hy : PyD y q) (sp : SeqAt.shaped p = true := by first | rfl | exact shaped_tupI _ | exact shaped_lstI _) (sq : SeqAt.shaped q = true := by first | rfl | exact shaped_tupI _ | exact shaped_lstI _) : OpD C (compareOp .NotEq) x y (· = .bl (!PyData.eqv p q)) := fun X hX Y H u v Q y du dv hQ =>
  ⟨_, op_neD hX.room.units, p, q, hx.dp (hid_le H Y) du, hy.dp (hid_le H Y) dv, sp, sq, hQ _ _ H rfl (Ext.refl C H) (.bl _)⟩
theorem OpD.is {f : Value → Value → Sem Value} {x y z z' : D} (h : OpD C f x y (· = z)) (e : z = z') : OpD C f x y (· = z') := e ▸ h
/-- two tuples of ints -/
theorem od_eqTI {ns ms : List Int} : OpD C (compareOp .Eq) (.tup (ns.map D.int)) (.tup (ms.map D.int)) (· = .bl (decide (ns = ms))) :=
  (od_eqD (.tup (.ints ns)) (.tup (.ints ms))).is (by rw [PyData.eqv, eqvAll_ints])
theorem od_neTI {ns ms : List Int} : OpD C (compareOp .NotEq) (.tup (ns.map D.int)) (.tup (ms.map D.int)) (· = .bl (!decide (ns = ms))) :=
  (od_neD (.tup (.ints ns)) (.tup (.ints ms))).is (by rw [PyData.eqv, eqvAll_ints])
theorem od_eqLI {ns ms : List Int} : OpD C (compareOp .Eq) (.lst (ns.map D.int)) (.lst (ms.map D.int)) (· = .bl (decide (ns = ms))) :=
  (od_eqD (.lst (.ints ns)) (.lst (.ints ms))).is (by rw [PyData.eqv, eqvAll_ints])
/-- a list of data against the empty list -/
theorem od_eqNil {ds : List D} {ps : List PyData} (h : PyDs ds ps) (sh : SeqAt.shaped (.list ps) = true) : OpD C (compareOp .Eq) (.lst ds) (.lst []) (· = .bl ds.isEmpty) :=
  (od_eqD (.lst h) (.lst .nil) sh).is (by cases h <;> rfl)
theorem od_neNil {ds : List D} {ps : List PyData} (h : PyDs ds ps) (sh : SeqAt.shaped (.list ps) = true) : OpD C (compareOp .NotEq) (.lst ds) (.lst []) (· = .bl (!ds.isEmpty)) :=
  (od_neD (.lst h) (.lst .nil) sh).is (by cases h <;> rfl)
theorem od_eqNilI {ns : List Int} : OpD C (compareOp .Eq) (.lst (ns.map D.int)) (.lst []) (· = .bl ns.isEmpty) := (od_eqNil (.ints ns) (shaped_lstI ns)).is (by cases ns <;> rfl)
theorem od_neNilI {ns : List Int} : OpD C (compareOp .NotEq) (.lst (ns.map D.int)) (.lst []) (· = .bl (!ns.isEmpty)) := (od_neNil (.ints ns) (shaped_lstI ns)).is (by cases ns <;> rfl)
def isNon : D → Bool
  | .non => true
  | _ => false
theorem dv_non {G : Hp} {v : V} {d : D} (h : DV r G v d) : decide (v = .non) = isNon d := by cases h <;> rfl
theorem od_isN {x : D} : OpD C (compareOp .Is) x .non (· = .bl (isNon x)) := fun X hX Y H u v Q y du dv hQ => by
  cases dv
  exact ⟨_, op_isN, rfl, by rw [dv_non du]; exact hQ _ _ H rfl (Ext.refl C H) (.bl _)⟩
theorem od_notN {x : D} : OpD C (compareOp .IsNot) x .non (· = .bl (!isNon x)) := fun X hX Y H u v Q y du dv hQ => by
  cases dv
  exact ⟨_, op_notN, rfl, by rw [dv_non du]; exact hQ _ _ H rfl (Ext.refl C H) (.bl _)⟩
/-! ### in -/
theorem inV_ints (k : Int) (ns : List Int) : inV (.int k) (ns.map V.int) = decide (k ∈ ns) := by
  unfold inV
  rw [List.any_map, Bool.eq_iff_iff, List.any_eq_true,  decide_eq_true_eq]
  constructor
  · rintro ⟨x, hx, h⟩
    have : x = k := by simpa [eqV] using h
    exact this ▸ hx
  · intro h
    exact ⟨k, h, by simp [eqV]⟩
theorem flat_ints (ns : List Int) : (ns.map V.int).all flatV = true := by simp [flatV]
theorem dv_seqI {G : Hp} {u : V} {x : D} {ns : List Int} {K : PySem.W.Frag} (hs : Sub G H) (hx : x = .lst (ns.map D.int) ∨ x = .tup (ns.map D.int)) (h : DV r G u x) : ∃ p, u = .ref p ∧ (SqL K H p (ns.map V.int) ∨ SqT K H p (ns.map V.int)) := by
  rcases hx with rfl | rfl
  · cases h with
    | lst e t => exact ⟨_, rfl, .inl (.inl (.inl (by rw [← t.ints]; exact hs _ _ e)))⟩
  · cases h with
    | tup e t => exact ⟨_, rfl, .inr (.inl (.inl (by rw [← t.ints]; exact hs _ _ e)))⟩
theorem od_in' {k : Int} {x : D} {ns : List Int} (hx : x = .lst (ns.map D.int) ∨ x = .tup (ns.map D.int)) : OpD C (compareOp .In) (.int k) x (· = .bl (decide (k ∈ ns))) := fun X hX Y H u v Q y du dv hQ => by
  obtain ⟨p, rfl, hp⟩ := dv_seqI (K := X.K) (hid_le H Y) hx dv
  cases du
  refine ⟨_, op_in_seq, p, _, rfl, hp, rfl, flat_ints ns, ?_⟩
  rw [inV_ints]
  exact hQ _ _ H rfl (Ext.refl C H) (.bl _)
theorem od_ni' {k : Int} {x : D} {ns : List Int} (hx : x = .lst (ns.map D.int) ∨ x = .tup (ns.map D.int)) : OpD C (compareOp .NotIn) (.int k) x (· = .bl (!decide (k ∈ ns))) := fun X hX Y H u v Q y du dv hQ => by
  obtain ⟨p, rfl, hp⟩ := dv_seqI (K := X.K) (hid_le H Y) hx dv
  cases du
  refine ⟨_, op_notIn_seq, p, _, rfl, hp, rfl, flat_ints ns, ?_⟩
  rw [inV_ints]
  exact hQ _ _ H rfl (Ext.refl C H) (.bl _)
theorem od_inL {k : Int} {ns : List Int} : OpD C (compareOp .In) (.int k) (.lst (ns.map D.int)) (· = .bl (decide (k ∈ ns))) := od_in' (.inl rfl)
theorem od_inT {k : Int} {ns : List Int} : OpD C (compareOp .In) (.int k) (.tup (ns.map D.int)) (· = .bl (decide (k ∈ ns))) := od_in' (.inr rfl)
theorem od_niL {k : Int} {ns : List Int} : OpD C (compareOp .NotIn) (.int k) (.lst (ns.map D.int)) (· = .bl (!decide (k ∈ ns))) := od_ni' (.inl rfl)
theorem od_niT {k : Int} {ns : List Int} : OpD C (compareOp .NotIn) (.int k) (.tup (ns.map D.int)) (· = .bl (!decide (k ∈ ns))) := od_ni' (.inr rfl)
/-- None or an int -/
def optD : Option Int → D
  | none => .non
  | some i => .int i
theorem od_inOpt {w : Option Int} {k : Int} : OpD C (compareOp .In) (optD w) (.tup [.non, .int k]) (· = .bl (decide (w = none ∨ w = some k))) := fun X hX Y H u v Q y du dv hQ => by
  cases dv with
  | @tup p vs _ e t =>
    cases t with
    | cons h1 t =>
      cases t with
      | cons h2 t =>
        cases t; cases h1; cases h2
        cases w with
        | none =>
          cases du
          exact ⟨_, op_in_seq, p, _, rfl, .inr (.inl (.inl ((hid_some e).2))), rfl, rfl, hQ _ _ H rfl (Ext.refl C H) (.bl _)⟩
        | some i =>
          cases du
          refine ⟨_, op_in_seq, p, _, rfl, .inr (.inl (.inl ((hid_some e).2))), rfl, rfl, ?_⟩
          have e : inV (.int i) [.non, .int k] = decide (some i = none ∨ some i = some k) := by
            simp only [inV, List.any_cons, List.any_nil, eqV, Bool.false_or, Bool.or_false]
            rw [Bool.eq_iff_iff, beq_iff_eq,  decide_eq_true_eq]
            constructor
            · intro h; exact .inr (by rw [h])
            · rintro (h | h)
              · cases h
              · injection h with h; exact h.symm
          show Q (.bl (inV (.int i) [.non, .int k])) H
          rw [e]
          exact hQ _ _ H rfl (Ext.refl C H) (.bl _)
/-! ### subscripts -/
theorem ixd_lst {ds : List D} {z : Int} {d : D} (h : atI ds z = some d) : IxD C (.lst ds) (.int z) (· = d) := fun X hX Y H u v Q y du dv hQ => by
  cases dv
  cases du with
  | @lst p vs _ e t =>
    obtain ⟨w, h1, h2⟩ := atI_dvs t h
    exact ⟨_, ix_list, p, vs, z, w, rfl, rfl, hid_sq e, h1, hQ w d H rfl (Ext.refl C H) h2⟩
theorem ixd_tup {ds : List D} {z : Int} {d : D} (h : atI ds z = some d) : IxD C (.tup ds) (.int z) (· = d) := fun X hX Y H u v Q y du dv hQ => by
  cases dv
  cases du with
  | @tup p vs _ e t =>
    obtain ⟨w, h1, h2⟩ := atI_dvs t h
    exact ⟨_, ix_tup, p, vs, z, w, rfl, rfl, hid_st e, h1, hQ w d H rfl (Ext.refl C H) h2⟩
/-! ### + of sequences -/
theorem od_catT {xs ys : List D} (h : xs.length + ys.length ≤ 100000) : OpD C (binaryOp .Add) (.tup xs) (.tup ys) (· = .tup (xs ++ ys)) := fun X hX Y H u v Q y du dv hQ => by
  cases du with
  | @tup p vs _ e t =>
    cases dv with
    | @tup q ws _ e2 t2 =>
      refine ⟨_, op_catA, p, q, vs, ws, rfl, rfl, hid_st e, hid_st e2, by rw [t.length, t2.length]; exact Nat.le_trans h (by decide), fun hv => ?_, fun hv hw => ?_, fun hv hw a ha => ?_⟩
      · subst hv; cases t
        exact hQ _ _ H rfl (Ext.refl C H) (.tup e2 t2)
      · subst hw; cases t2
        rw [List.append_nil] at hQ
        exact hQ _ _ H rfl (Ext.refl C H) (.tup e t)
      · exact hQ _ _ _ rfl (Ext.new ha) (y.newTup ha (t.append t2))
theorem oo_catL {xs ys : List D} (h : xs.length + ys.length ≤ 100000) : OpO C (binaryOp .Add) (.lst xs) (.lst ys) (· = .lst (xs ++ ys)) := fun X hX Y H u v Q y du dv hQ => by
  cases du with
  | @lst p vs _ e t =>
    cases dv with
    | @lst q ws _ e2 t2 =>
      exact ⟨_, op_cat, p, q, vs, ws, rfl, rfl, (hid_some e).2, (hid_some e2).2, by rw [t.length, t2.length]; exact Nat.le_trans h (by decide), fun a ha => hQ a _ _ rfl ha (Ext.new ha) (y.newLst ha (t.append t2))⟩
/-! ### calls -/
theorem cd_lenL {ds : List D} : CallD C (.builtin "len") [.lst ds] (· = .int ds.length) := fun X hX Y H us Q y du hQ => by
  cases du with
  | cons h t =>
    cases t
    cases h with
    | @lst p vs _ e t => exact ⟨_, call_len_seq, p, vs, rfl, .inl (hid_sq e), by rw [t.length]; exact hQ _ _ H rfl (Ext.refl C H) (.int _)⟩
theorem cd_lenT {ds : List D} : CallD C (.builtin "len") [.tup ds] (· = .int ds.length) := fun X hX Y H us Q y du hQ => by
  cases du with
  | cons h t =>
    cases t
    cases h with
    | @tup p vs _ e t => exact ⟨_, call_len_seq, p, vs, rfl, .inr (hid_st e), by rw [t.length]; exact hQ _ _ H rfl (Ext.refl C H) (.int _)⟩
theorem cd_intI {i : Int} : CallD C (.type "int") [.int i] (· = .int i) := fun X hX Y H us Q y du hQ => by
  cases du with
  | cons h t =>
    cases t; cases h
    exact ⟨_, call_int1, .inl ⟨i, rfl, hQ _ _ H rfl (Ext.refl C H) (.int _)⟩⟩
theorem cd_intB {b : Bool} : CallD C (.type "int") [.bl b] (· = .int (if b then 1 else 0)) := fun X hX Y H us Q y du hQ => by
  cases du with
  | cons h t =>
    cases t; cases h
    exact ⟨_, call_int1, .inr ⟨b, rfl, hQ _ _ H rfl (Ext.refl C H) (.int _)⟩⟩
theorem co_listL {ds : List D} : CallO C (.type "list") [.lst ds] (· = .lst ds) := fun X hX Y H us Q y du hQ => by
  cases du with
  | cons h t =>
    cases t
    cases h with
    | @lst p vs _ e t => exact ⟨_, call_list_of, p, vs, rfl, .inl (hid_sq e), fun a ha => hQ a _ _ rfl ha (Ext.new ha) (y.newLst ha t)⟩
theorem co_listT {ds : List D} : CallO C (.type "list") [.tup ds] (· = .lst ds) := fun X hX Y H us Q y du hQ => by
  cases du with
  | cons h t =>
    cases t
    cases h with
    | @tup p vs _ e t => exact ⟨_, call_list_of, p, vs, rfl, .inr (hid_st e), fun a ha => hQ a _ _ rfl ha (Ext.new ha) (y.newLst ha t)⟩
theorem cd_tupL {ds : List D} : CallD C (.type "tuple") [.lst ds] (· = .tup ds) := fun X hX Y H us Q y du hQ => by
  cases du with
  | cons h t =>
    cases t
    cases h with
    | @lst p vs _ e t => exact ⟨_, call_tuple_of, p, vs, rfl, .inl ⟨hid_sq e, fun a ha => hQ _ _ _ rfl (Ext.new ha) (y.newTup ha t)⟩⟩
theorem cd_sum {ns : List Int} : CallD C (.builtin "sum") [.lst (ns.map D.int)] (· = .int ns.sum) := fun X hX Y H us Q y du hQ => by
  cases du with
  | cons h t =>
    cases t
    cases h with
    | @lst p vs _ e t => exact ⟨_, cr_sum hX.calm, p, ns, rfl, by rw [← t.ints]; exact hid_sq e, hQ _ _ H rfl (Ext.refl C H) (.int _)⟩
theorem cd_min {ns : List Int} (h0 : 0 < ns.length) : CallD C (.builtin "min") [.lst (ns.map D.int)] (fun d => ∃ m, d = .int m ∧ m ∈ ns ∧ ∀ y ∈ ns, m ≤ y) := fun X hX Y H us Q y du hQ => by
  cases du with
  | cons h t =>
    cases t
    cases h with
    | @lst p vs _ e t => exact ⟨_, cr_min hX.calm, p, ns, rfl, by rw [← t.ints]; exact hid_sq e, h0, fun m hm hl => hQ _ _ H ⟨m, rfl, hm, hl⟩ (Ext.refl C H) (.int _)⟩
theorem co_sortedI {ns : List Int} : CallO C (.builtin "sorted") [.lst (ns.map D.int)] (fun d => ∃ ms : List Int, d = .lst (ms.map D.int) ∧ ms.Perm ns ∧ ms.Pairwise (· ≤ ·)) := fun X hX Y H us Q y du hQ => by
  cases du with
  | cons h t =>
    cases t
    cases h with
    | @lst p vs _ e t => exact ⟨_, cr_sortedI, p, ns, rfl, by rw [← t.ints]; exact hid_sq e, fun ms a h1 h2 ha => hQ a _ _ ⟨ms, rfl, h1, h2⟩ ha (Ext.new ha) (y.newLst ha (.of_ints ms))⟩
def tyD : D → String
  | .non => "NoneType"
  | .bl _ => "bool"
  | .int _ => "int"
  | .tup _ => "tuple"
  | .lst _ => "list"
  | _ => "dict"
def plainD : D → Bool
  | .non => true
  | .bl _ => true
  | .int _ => true
  | .tup _ => true
  | .lst _ => true
  | _ => false
theorem dv_ty {K : PySem.W.Frag} (hs : Sub G H) {v : V} {d : D} (p : plainD d = true) (h : DV r G v d) : TyX K H v (.type (tyD d)) := by
  cases h with
  | non => exact .base .non
  | bl b => exact .base (.bl b)
  | int b => exact .base (.int b)
  | tup e _ => exact .base (.tup (hs _ _ e))
  | lst e _ => exact .base (.lst (hs _ _ e))
  | _ => cases p
theorem cd_isi {x : D} {T : String} {b : Bool} (hp : plainD x = true) (h : kitB (tyD x) T = some b := by first | decide +kernel | (show kitB "int" _ = _; decide +kernel) | (show kitB "tuple" _ = _; decide +kernel) | (show kitB "bool" _ = _; decide +kernel) | (show kitB "list" _ = _; decide +kernel) | (show kitB "NoneType" _ = _; decide +kernel)) : CallD C (.builtin "isinstance") [x, .ty T] (· = .bl b) := fun X hX Y H us Q y du hQ => by
  cases du with
  | cons h1 t =>
    cases t with
    | cons h2 t =>
      cases t; cases h2
      exact ⟨_, call_isi, _, .ty T, .type (tyD x), .type T, b, rfl, .ty T, dv_ty (hid_le H Y) hp h1, kit_ty h, hQ _ _ H rfl (Ext.refl C H) (.bl _)⟩
/-- isinstance(x, (T1, T2)) -/
theorem cd_isi2 {x : D} {T U : String} {b1 b2 : Bool} (hp : plainD x = true) (h1 : kitB (tyD x) T = some b1 := by first | decide +kernel | (show kitB "int" _ = _; decide +kernel) | (show kitB "tuple" _ = _; decide +kernel) | (show kitB "bool" _ = _; decide +kernel) | (show kitB "list" _ = _; decide +kernel) | (show kitB "NoneType" _ = _; decide +kernel)) (h2 : kitB (tyD x) U = some b2 := by first | decide +kernel | (show kitB "int" _ = _; decide +kernel) | (show kitB "tuple" _ = _; decide +kernel) | (show kitB "bool" _ = _; decide +kernel) | (show kitB "list" _ = _; decide +kernel) | (show kitB "NoneType" _ = _; decide +kernel)) : CallD C (.builtin "isinstance") [x, .tup [.ty T, .ty U]] (· = .bl (b1 || b2)) := fun X hX Y H us Q y du hQ => by
  cases du with
  | cons g1 t =>
    cases t with
    | cons g2 t =>
      cases t
      cases g2 with
      | @tup p vs _ e t =>
        cases t with
        | cons k1 t =>
          cases t with
          | cons k2 t =>
            cases t; cases k1; cases k2
            refine ⟨_, call_isiT, _, p, [.ty T, .ty U], .type (tyD x), [.type T, .type U], b1 || b2, rfl, (hid_some e).2, .cons (.ty T) (.cons (.ty U) .nil), dv_ty (hid_le H Y) hp g1, ?_, hQ _ _ H rfl (Ext.refl C H) (.bl _)⟩
            refine kitAny_cons (kit_ty h1) (fun e => kitAny_cons (kit_ty h2) (fun e' => ?_) (fun e' => by rw [e, e']; rfl)) (fun e => by rw [e]; rfl)
            rw [e, e', kitAny_nil]; rfl
end
/-! ### slices -/
def EvPO (C : Cfg) (lo : Option Expr) (ρ : DEnv) (o : Option Int) : Prop := ∀ X, XOk C X → ∃ t, PO X lo t ∧ ∀ B Z Y σ H, Rl C B Z Y ρ σ H → ∀ Q : Option Int → Hp → Prop, (∀ H', Ext C H H' → Q o H') → t σ H Q
def cutD (ds : List D) (lo hi : Option Int) : List D := (ds.drop (HT.sIx ds.length 0 lo)).take (HT.sIx ds.length ds.length hi - HT.sIx ds.length 0 lo)
section
variable {C : Cfg} {ρ : DEnv} {e lo : Expr} {l h : Option Expr} {pos p2 : Pos} {ds : List D} {o u : Option Int}
theorem epo_none : EvPO C none ρ none := fun X hX => ⟨_, po_none, fun B Z Y σ H R Q hQ => hQ H (Ext.refl C H)⟩
theorem epo_some {i : Int} (h : EvD C lo ρ (.int i)) : EvPO C (some lo) ρ (some i) := fun X hX => ⟨_, po_some pe_we, fun B Z Y σ H R Q hQ => h X hX B Z Y σ H R _ fun v d H1 pd x1 dv => by
  subst pd; cases dv
  exact ⟨i, rfl, hQ H1 x1⟩⟩
theorem cut_dvs {r : Option Addr} {G : Hp} {vs : List V} (t : DVs r G vs ds) (o u : Option Int) : DVs r G (cutV vs o u) (cutD ds o u) := by
  unfold cutV cutD
  rw [t.length]
  exact (t.drop _).take _
theorem eo_slL (he : EvD C e ρ (.lst ds)) (hl : EvPO C l ρ o) (hh : EvPO C h ρ u) : EvO C (.Subscript e (.Slice l h none p2) pos) ρ (· = .lst (cutD ds o u)) := fun X hX B Z Y σ H R Q hQ => by
  obtain ⟨tl, pl, ql⟩ := hl X hX
  obtain ⟨th, ph, qh⟩ := hh X hX
  refine WE.of (pe_slice sl_list pe_we pl ph) (he X hX B Z Y σ H R _ fun v d H1 pd x1 dv => ?_)
  subst pd
  refine ql B Z Y σ H1 (R.ext x1) _ fun H2 x2 => qh B Z Y σ H2 ((R.ext x1).ext x2) _ fun H3 x3 => ?_
  have R3 := ((R.ext x1).ext x2).ext x3
  have dv' := dv.mono ((R.ext x1).sub (x2.trans x3))
  cases dv' with
  | @lst p vs _ e t =>
    exact ⟨p, vs, rfl, hid_sq e, fun a ha => hQ a _ _ rfl (((x1.trans x2).trans x3).fresh ha (R3.freshR ha)) (((x1.trans x2).trans x3).trans (Ext.new ha)) (R3.y.newLst ha (cut_dvs t o u))⟩
theorem cutV_whole {xs : List V} {lo hi : Option Int} (h : HT.sIx xs.length 0 lo = 0 ∧ HT.sIx xs.length xs.length hi = xs.length) : cutV xs lo hi = xs := by
  unfold cutV
  rw [h.1, h.2]
  simp
theorem ev_slT (he : EvD C e ρ (.tup ds)) (hl : EvPO C l ρ o) (hh : EvPO C h ρ u) : EvD C (.Subscript e (.Slice l h none p2) pos) ρ (.tup (cutD ds o u)) := fun X hX B Z Y σ H R Q hQ => by
  obtain ⟨tl, pl, ql⟩ := hl X hX
  obtain ⟨th, ph, qh⟩ := hh X hX
  refine WE.of (pe_slice sl_tupA pe_we pl ph) (he X hX B Z Y σ H R _ fun v d H1 pd x1 dv => ?_)
  subst pd
  refine ql B Z Y σ H1 (R.ext x1) _ fun H2 x2 => qh B Z Y σ H2 ((R.ext x1).ext x2) _ fun H3 x3 => ?_
  have R3 := ((R.ext x1).ext x2).ext x3
  have dv' := dv.mono ((R.ext x1).sub (x2.trans x3))
  cases dv' with
  | @tup p vs _ e t =>
    refine ⟨p, vs, rfl, hid_st e, fun hw => ?_, fun _ a ha => hQ _ _ _ rfl (((x1.trans x2).trans x3).trans (Ext.new ha)) (R3.y.newTup ha (cut_dvs t o u))⟩
    have q := cut_dvs t o u
    rw [cutV_whole hw] at q
    exact hQ _ _ H3 rfl ((x1.trans x2).trans x3) (.tup e q)
end
end DL
/-! text P1 -/
/-! P1: the small defs of the program. -/
namespace FT
open PySem PySem.Spec L2 DL
open PyProof.Rows hiding St
def topS (i : Nat) : Stmt := PySem.Challenge.pw_flankturns_k34_whole_wished_ends.main.body.getD i (.Pass ⟨0, 0, 0, 0⟩)
/-! ### lines as data -/
structure Ln where
  cells : List Int
  held : List Int
  ring : Bool
def Ln.D (l : Ln) : D := .tup [.tup (l.cells.map D.int), .tup (l.held.map D.int), .bl l.ring]
def Ln.n (l : Ln) : Nat := l.cells.length
structure Ln.Ok (l : Ln) : Prop where
  pos : 1 ≤ l.cells.length
  most : l.cells.length ≤ 40
  ring3 : l.ring = true → 3 ≤ l.cells.length
  col : ∀ x ∈ l.cells, 0 ≤ x ∧ x ≤ 9
  hin : ∀ x ∈ l.held, 0 ≤ x ∧ x < l.cells.length
  hasc : l.held.Pairwise (· < ·)
/-- c[z] as Python reads it -/
def at0 (c : List Int) (z : Int) : Int := (atI c z).getD 0
theorem atI_some {α : Type} {c : List α} {z : Int} (h1 : -(c.length : Int) ≤ z) (h2 : z < c.length) : ∃ x, atI c z = some x := by
  unfold atI ixN
  by_cases h0 : 0 ≤ z
  · rw [if_pos h0, if_pos h2]
    have : z.toNat < c.length := by omega
    exact ⟨c[z.toNat], by simp [this]⟩
  · rw [if_neg h0, if_pos h1]
    have : (z + c.length).toNat < c.length := by omega
    exact ⟨c[(z + c.length).toNat], by simp [this]⟩
theorem atI_at0 {c : List Int} {z : Int} (h1 : -(c.length : Int) ≤ z) (h2 : z < c.length) : atI c z = some (at0 c z) := by
  obtain ⟨x, e⟩ := atI_some h1 h2
  rw [at0, e]; rfl
theorem atI_map {α β : Type} (f : α → β) (c : List α) (z : Int) : atI (c.map f) z = (atI c z).map f := by
  unfold atI
  rw [List.length_map]
  cases ixN c.length z with
  | none => rfl
  | some j => simp
theorem atI_int {c : List Int} {z : Int} (h1 : -(c.length : Int) ≤ z) (h2 : z < c.length) : atI (c.map D.int) z = some (.int (at0 c z)) := by
  rw [atI_map, atI_at0 h1 h2]; rfl
abbrev sIsIn : Stmt := topS 5
abbrev sFlanks : Stmt := topS 13
abbrev sFlanked : Stmt := topS 14
abbrev sReady : Stmt := topS 15
abbrev sTurned : Stmt := topS 16
abbrev sSwings : Stmt := topS 17
theorem scIsIn : FnScope ["value", "least", "most"] ["value", "least", "most"] (defScope sIsIn) := ⟨rfl, rfl, rfl, by decide +kernel, rfl, by decide +kernel, by decide +kernel⟩
theorem scFlanks : FnScope ["many", "cell"] ["many", "cell"] (defScope sFlanks) := ⟨rfl, rfl, rfl, by decide +kernel, rfl, by decide +kernel, by decide +kernel⟩
theorem scFlanked : FnScope ["cells", "cell", "left", "right"] ["cells", "cell"] (defScope sFlanked) := ⟨rfl, rfl, rfl, by decide +kernel, rfl, by decide +kernel, by decide +kernel⟩
theorem scReady : FnScope ["line", "held", "k"] ["line"] (defScope sReady) := ⟨rfl, rfl, rfl, by decide +kernel, rfl, by decide +kernel, by decide +kernel⟩
theorem scTurned : FnScope ["cells", "some", "found", "k"] ["cells", "some"] (defScope sTurned) := ⟨rfl, rfl, rfl, by decide +kernel, rfl, by decide +kernel, by decide +kernel⟩
theorem scSwings : FnScope ["line"] ["line"] (defScope sSwings) := ⟨rfl, rfl, rfl, by decide +kernel, rfl, by decide +kernel, by decide +kernel⟩
/-- what the walks lean on: names that the top does not bind -/
structure Bare (C : Cfg) : Prop where
  len : C.mg "len" = none
  range : C.mg "range" = none
  isinstance : C.mg "isinstance" = none
  int : C.mg "int" = none
  bool : C.mg "bool" = none
  tuple : C.mg "tuple" = none
  list : C.mg "list" = none
  str : C.mg "str" = none
  sorted : C.mg "sorted" = none
  set : C.mg "set" = none
  sum : C.mg "sum" = none
  min : C.mg "min" = none
  max : C.mg "max" = none
  zip : C.mg "zip" = none
  dict : C.mg "dict" = none
  enumerate : C.mg "enumerate" = none
section
variable {C : Cfg}
/-- value an int: least <= value <= most -/
def SIsIn : List D → (D → Prop) → Prop := fun ds k => ∃ v a b : Int, ds = [.int v, .int a, .int b] ∧ k (.bl (decide (a ≤ v) && decide (v ≤ b)))
theorem fn_is_in (N : Bare C) {f : Addr} {fd : FuncData} (F : Fun C.K "is_in" "is_in" sIsIn f fd) (hm : C.mg "is_in" = some (.ref f)) (hb : Binds C.K fd ["value", "least", "most"] []) : FnD C 1 "is_in" SIsIn := by
  refine fnD F hm hb scIsIn (by rintro ds k ⟨v, a, b, rfl, _⟩; rfl) ?_
  rintro ds kk ⟨v, a, b, rfl, hk⟩
  refine wss_one (ws_ret (ev_and (ev_callB (ea_cons (ev_var 0) (ea_cons (ev_ty (n := "int") N.int) ea_nil)) (cd_isi (b := true) rfl) N.isinstance) fun _ =>
    ev_and (ev_not (ev_callB (ea_cons (ev_var 0) (ea_cons (ev_ty (n := "bool") N.bool) ea_nil)) (cd_isi (b := false) rfl) N.isinstance)) fun _ => ev_one (ev_chain (ev_var 1) (ev_var 0) (fun _ => ev_var 2) od_le fun _ => od_le)) ?_)
  rintro _ rfl
  simpa using hk
/-- (cell - 1) % many, (cell + 1) % many -/
def SFlanks : List D → (D → Prop) → Prop := fun ds k => ∃ n c : Int, ds = [.int n, .int c] ∧ 0 < n ∧ k (.tup [.int ((c - 1) % n), .int ((c + 1) % n)])
theorem fn_flanks {f : Addr} {fd : FuncData} (F : Fun C.K "flanks" "flanks" sFlanks f fd) (hm : C.mg "flanks" = some (.ref f)) (hb : Binds C.K fd ["many", "cell"] []) : FnD C 1 "flanks" SFlanks := by
  refine fnD F hm hb scFlanks (by rintro ds k ⟨n, c, rfl, _⟩; rfl) ?_
  rintro ds kk ⟨n, c, rfl, hn, hk⟩
  refine wss_one (ws_ret (ev_tup (ea_cons (ev_bin (ev_bin (ev_var 1) ev_int od_sub) (ev_var 0) (od_mod hn)) (ea_cons (ev_bin (ev_bin (ev_var 1) ev_int od_add) (ev_var 0) (od_mod hn)) ea_nil))) ?_)
  rintro _ rfl
  exact hk
def flankB (c : List Int) (k : Int) : Bool := decide (at0 c ((k - 1) % c.length) = at0 c ((k + 1) % c.length)) && !decide (at0 c ((k + 1) % c.length) = at0 c k)
def SFlanked : List D → (D → Prop) → Prop := fun ds k => ∃ (c : List Int) (z : Int), ds = [.tup (c.map D.int), .int z] ∧ 0 ≤ z ∧ z < c.length ∧ k (.bl (flankB c z))
theorem fn_is_flanked (N : Bare C) (G : FnD C 1 "flanks" SFlanks) {f : Addr} {fd : FuncData} (F : Fun C.K "is_flanked" "is_flanked" sFlanked f fd) (hm : C.mg "is_flanked" = some (.ref f)) (hb : Binds C.K fd ["cells", "cell"] []) : FnD C 2 "is_flanked" SFlanked := by
  refine fnD F hm hb scFlanked (by rintro ds k ⟨c, z, rfl, _⟩; rfl) ?_
  rintro ds kk ⟨c, z, rfl, h0, h1, hk⟩
  have hp : (0 : Int) < c.length := by omega
  have l1 : 0 ≤ (z - 1) % (c.length : Int) := Int.emod_nonneg _ (by omega)
  have l2 : (z - 1) % (c.length : Int) < c.length := Int.emod_lt_of_pos _ hp
  have r1 : 0 ≤ (z + 1) % (c.length : Int) := Int.emod_nonneg _ (by omega)
  have r2 : (z + 1) % (c.length : Int) < c.length := Int.emod_lt_of_pos _ hp
  refine wss_seq (ws_asg (ev_call G.to (ea_cons (ev_callB (ea_cons (ev_var 0) ea_nil) cd_lenT N.len) (ea_cons (ev_var 1) ea_nil)) ⟨_, _, rfl, by simpa using hp, rfl⟩) (sg_2 2 3 scFlanked.nd) (by rintro _ rfl; exact ⟨_, rfl, rfl⟩)) ?_
  rw [List.length_map]
  refine wss_one (ws_ret (ev_chain (ev_ix (ev_var 0) (ev_var 2) (ixd_tup (atI_int (by omega) (by omega)))) (ev_ix (ev_var 0) (ev_var 3) (ixd_tup (atI_int (by omega) (by omega)))) (fun _ => ev_ix (ev_var 0) (ev_var 1) (ixd_tup (atI_int (by omega) (by omega)))) od_eqI fun _ => od_neI) ?_)
  rintro _ rfl
  exact hk
end
end FT
/-! text DL7 -/
/-! DL7: typed forms of comprehensions and loops; tuple assignment with new containers. -/
namespace DL
open PySem PySem.Spec L2
open PyProof.Rows hiding St
section
variable {C : Cfg} {ρ : DEnv} {P : Post} {tg it elt e a b c : Expr} {ifs : List Expr} {scope : Scope} {pos pp : Pos}
theorem filter_takeM {α : Type} {c : α → Bool} {f : α → D} {xs : List α} {i : Nat} {x : α} (h : xs[i]? = some x) : ((xs.take (i + 1)).filter c).map f = ((xs.take i).filter c).map f ++ (if c x = true then [f x] else []) := by
  rw [List.take_add_one, h, List.filter_append, List.map_append]
  congr 1
  by_cases q : c x = true
  · simp [q]
  · simp [q]
/-- [f x for x in xs if c x], in types of one's own -/
theorem eo_compM {α : Type} (xs : List α) (g0 : α → D) (c : α → Bool) (f : α → D) {sl : List Nat} {g : D → DEnv → Option DEnv} (own : List (Str × Nat)) (hi : EvI C tg it ρ (xs.map g0)) (hnd : C.N.Nodup) (hg : StG (blkCfg C scope) tg sl g)
    (hs : ∀ x ∈ xs, ∃ ρ', g (g0 x) (wipeD (dropO ρ) (own.map (·.2))) = some ρ' ∧ EvTs (blkCfg C scope) ifs ρ' (· = c x) ∧ (c x = true → EvD (blkCfg C scope) elt ρ' (f x))) (hlen : xs.length ≤ 100000 := by simp <;> omega)
    (hsl : ∀ i ∈ sl, i ∈ own.map (·.2) := by decide) (ok : blkC C.N C.sc scope own = true := by first | decide +kernel | kernel_rfl) (hfs : ∀ env x, foldedSetIterable it env x = pure x := by intro _ _; rfl) : EvO C (.ListComp elt [⟨tg, it, ifs, 0⟩] scope pos) ρ (· = .lst ((xs.filter c).map f)) := by
  refine eo_compP (Iv := fun i acc => acc = ((xs.take i).filter c).map f) hi hnd ⟨sl, g, hg, hsl, fun i d acc hd ha => ?_⟩ (by simp) (by simpa using hlen) (fun acc ha => by rw [ha, List.length_map, List.take_length]) ok hfs
  rw [List.getElem?_map] at hd
  cases q : xs[i]? with
  | none => rw [q] at hd; cases hd
  | some x =>
    rw [q] at hd; cases hd
    obtain ⟨ρ', h1, h2, h3⟩ := hs x (List.mem_of_getElem? q)
    refine ⟨ρ', _, h1, h2, fun ht => (h3 ht.symm).imp fun y hy => ?_, fun hf => ?_⟩
    · rw [filter_takeM q, if_pos ht.symm, ha, hy]
    · rw [filter_takeM q, if_neg (by rw [← hf]; exact Bool.false_ne_true), ha, List.append_nil]
/-- without a test -/
theorem eo_map {α : Type} (xs : List α) (g0 : α → D) (f : α → D) {sl : List Nat} {g : D → DEnv → Option DEnv} (own : List (Str × Nat)) (hi : EvI C tg it ρ (xs.map g0)) (hnd : C.N.Nodup) (hg : StG (blkCfg C scope) tg sl g)
    (hs : ∀ x ∈ xs, ∃ ρ', g (g0 x) (wipeD (dropO ρ) (own.map (·.2))) = some ρ' ∧ EvD (blkCfg C scope) elt ρ' (f x)) (hlen : xs.length ≤ 100000 := by simp <;> omega)
    (hsl : ∀ i ∈ sl, i ∈ own.map (·.2) := by decide) (ok : blkC C.N C.sc scope own = true := by first | decide +kernel | kernel_rfl) (hfs : ∀ env x, foldedSetIterable it env x = pure x := by intro _ _; rfl) : EvO C (.ListComp elt [⟨tg, it, [], 0⟩] scope pos) ρ (· = .lst (xs.map f)) := by
  have := eo_compM (ifs := []) (elt := elt) xs g0 (fun _ => true) f own hi hnd hg (fun x hx => by
    obtain ⟨ρ', h1, h2⟩ := hs x hx
    exact ⟨ρ', h1, ets_nil, fun _ => h2⟩) hlen hsl ok hfs (pos := pos)
  rwa [show xs.filter (fun _ => true) = xs from List.filter_eq_self.mpr fun _ _ => rfl] at this
theorem ei_listP {I : List D → Prop} (h : EvP C it ρ (fun d => ∃ ds, I ds ∧ d = .lst ds)) : EvIP C tg it ρ I := fun X hX B Z Y σ H R Rr hR => by
  refine WI.of (pi_list pe_we) (h X hX B Z Y σ H R _ fun v d H1 hd x1 dv => ?_)
  obtain ⟨ds, hI, rfl⟩ := hd
  cases dv with
  | @lst p vs _ e1 dvs =>
    refine ⟨p, rfl, ⟨vs, hid_sq e1⟩, hR _ H1 ds hI x1 ⟨fun i d Y' H' hi y hs => ?_, fun i Y' H' hi y hs => ?_⟩⟩
    · obtain ⟨v, h1, h2⟩ := (dvs.mono hs).get hi
      refine ⟨⟨vs, v, hid_sq (hs _ _ e1), h1⟩, fun x H'' hy => ?_⟩
      obtain ⟨rfl, hy⟩ := hy
      rw [hy vs (hid_sq (hs _ _ e1))] at h1
      cases h1
      exact ⟨Ext.refl C H'', h2⟩
    · exact ⟨vs, hid_sq (hs _ _ e1), by rw [dvs.length]; exact hi⟩
/-- [f x for x in xs], xs one of several lists -/
theorem eo_mapP {α : Type} (S : List α → Prop) (g0 : α → D) (f : α → D) {sl : List Nat} {g : D → DEnv → Option DEnv} (own : List (Str × Nat)) (hi : EvP C it ρ (fun d => ∃ xs : List α, S xs ∧ d = .lst (xs.map g0))) (hnd : C.N.Nodup) (hg : StG (blkCfg C scope) tg sl g)
    (hs : ∀ xs, S xs → ∀ x ∈ xs, ∃ ρ', g (g0 x) (wipeD (dropO ρ) (own.map (·.2))) = some ρ' ∧ EvD (blkCfg C scope) elt ρ' (f x)) (hlen : ∀ xs, S xs → xs.length ≤ 100000)
    (hsl : ∀ i ∈ sl, i ∈ own.map (·.2) := by decide) (ok : blkC C.N C.sc scope own = true := by first | decide +kernel | kernel_rfl) (hfs : ∀ env x, foldedSetIterable it env x = pure x := by intro _ _; rfl) : EvO C (.ListComp elt [⟨tg, it, [], 0⟩] scope pos) ρ (fun d => ∃ xs : List α, S xs ∧ d = .lst (xs.map f)) := by
  refine eo_compIP (I := fun ds => ∃ xs : List α, S xs ∧ ds = xs.map g0) (IV := fun ds i acc => ∃ xs : List α, S xs ∧ ds = xs.map g0 ∧ acc = (xs.take i).map f) (ei_listP (hi.imp fun d ⟨xs, h, e⟩ => ⟨_, ⟨xs, h, rfl⟩, e⟩)) hnd (fun ds hI => ⟨sl, g, hg, hsl, fun i d acc hd ⟨xs, hS, e1, e2⟩ => ?_⟩) (fun ds ⟨xs, h, e⟩ => ⟨xs, h, e, by simp⟩) (fun ds ⟨xs, h, e⟩ => by rw [e, List.length_map]; exact hlen xs h) (fun ds hI acc ⟨xs, h, e1, e2⟩ => ⟨xs, h, by rw [e2, e1, List.length_map, List.take_length]⟩) ok hfs
  subst e1
  rw [List.getElem?_map] at hd
  cases q : xs[i]? with
  | none => rw [q] at hd; cases hd
  | some x =>
    rw [q] at hd; cases hd
    obtain ⟨ρ', h1, h2⟩ := hs xs hS x (List.mem_of_getElem? q)
    refine ⟨ρ', _, h1, ets_nil, fun _ => h2.imp fun y hy => ⟨xs, hS, rfl, ?_⟩, fun hf => by cases hf⟩
    rw [List.take_add_one, q, List.map_append, e2, hy]; rfl
theorem range_nat (n : Nat) : rangeD 0 n = (List.range n).map fun k : Nat => D.int (k : Int) := by
  unfold rangeD
  simp
theorem ei_rangeN {n : Nat} (h : EvD C a ρ (.int n)) (hn : n ≤ 1000000) (hm : C.mg "range" = none) (hg : GlC C "range" := by rfl) (hs : ∀ env, starEach [a] env = [(false, eval a env)] := by intro _; rfl) : EvI C tg (.Call (.Name "range" pp) [a] [] pos) ρ ((List.range n).map fun k : Nat => D.int (k : Int)) := by
  rw [← range_nat]; exact ei_range1 h hn hm hg hs
theorem enumD_map {α : Type} (f : α → D) : ∀ (xs : List α) (n : Nat), enumD n (xs.map f) = (xs.zipIdx n).map fun p => D.tup [.int (p.2 : Nat), f p.1]
  | [], _ => rfl
  | x :: xs, n => by
    rw [List.map_cons, enumD, enumD_map f xs (n + 1), List.zipIdx_cons, List.map_cons]
theorem ei_enumM {α : Type} {tpos : Pos} {elts : List Expr} {kk : Nat} {xs : List α} {f : α → D} (h : EvD C e ρ (.lst (xs.map f))) (hm : C.mg "enumerate" = none) (hg : GlC C "enumerate" := by rfl) (hs : ∀ env, starEach [e] env = [(false, eval e env)] := by intro _; rfl) : EvI C (.Tuple elts kk tpos) (.Call (.Name "enumerate" pp) [e] [] pos) ρ (xs.zipIdx.map fun p => D.tup [.int (p.2 : Nat), f p.1]) := by
  rw [← enumD_map]; exact ei_enum h hm hg hs
theorem zipIdx_at {α : Type} {xs : List α} {i j : Nat} {x : α} (h : xs.zipIdx[i]? = some (x, j)) : j = i ∧ xs[i]? = some x := by
  rw [List.getElem?_zipIdx] at h
  cases q : xs[i]? with
  | none => rw [q] at h; cases h
  | some y =>
    rw [q] at h
    simp only [Option.map_some, Option.some.injEq, Prod.mk.injEq] at h
    exact ⟨by omega, by rw [h.1]⟩
theorem zipIdx_take {α : Type} (xs : List α) (i : Nat) : (xs.zipIdx.take i).map (·.1) = xs.take i := by
  rw [List.map_take, List.zipIdx_map_fst]
/-- a loop over items of a type of one's own -/
theorem ws_forM {α : Type} (xs : List α) (g0 : α → D) {body : List Stmt} {sl : List Nat} {g : D → DEnv → Option DEnv} (Iv : Nat → DEnv → Prop) (hi : EvI C tg it ρ (xs.map g0)) (hg : StG C tg sl g) (h0 : Iv 0 ρ)
    (hs : ∀ (i : Nat) (ρ' : DEnv) (x : α), xs[i]? = some x → Iv i ρ' → ∃ ρ'', g (g0 x) ρ' = some ρ'' ∧ WSs C body ρ'' { nx := Iv (i + 1), ct := Iv (i + 1), bk := P.nx, rt := P.rt }) (hd : ∀ ρ', Iv xs.length ρ' → P.nx ρ')
    (hfs : ∀ env x, foldedSetIterable it env x = pure x := by intro _ _; rfl) : WS C (.For tg it body [] pos) ρ P := by
  refine ws_for Iv hi hg h0 (fun i ρ' d hd' iv => ?_) (fun ρ' h => hd ρ' (by simpa using h)) hfs
  rw [List.getElem?_map] at hd'
  cases q : xs[i]? with
  | none => rw [q] at hd'; cases hd'
  | some x => rw [q] at hd'; cases hd'; exact hs i ρ' x q iv
/-- a loop whose turns are a function of the environment -/
theorem ws_forF {α : Type} (xs : List α) (g0 : α → D) {body : List Stmt} {sl : List Nat} {g : D → DEnv → Option DEnv} (st : List α → DEnv) (hi : EvI C tg it ρ (xs.map g0)) (hg : StG C tg sl g) (h0 : ρ = st [])
    (hs : ∀ (i : Nat) (x : α), xs[i]? = some x → ∃ ρ'', g (g0 x) (st (xs.take i)) = some ρ'' ∧ WSs C body ρ'' { nx := (· = st (xs.take i ++ [x])), ct := (· = st (xs.take i ++ [x])), bk := P.nx, rt := P.rt }) (hd : P.nx (st xs))
    (hfs : ∀ env x, foldedSetIterable it env x = pure x := by intro _ _; rfl) : WS C (.For tg it body [] pos) ρ P := by
  refine ws_forM xs g0 (fun i ρ' => ρ' = st (xs.take i)) hi hg (by simpa using h0) (fun i ρ' x hx iv => ?_) (fun ρ' h => by rw [h, List.take_length]; exact hd) hfs
  subst iv
  obtain ⟨ρ'', h1, h2⟩ := hs i x hx
  have e : xs.take (i + 1) = xs.take i ++ [x] := by rw [List.take_add_one, hx]; rfl
  exact ⟨ρ'', h1, by rw [e]; exact h2⟩
/-- .. that starts in another environment and only then is a function (the loop's own names are set) -/
theorem ws_forG {α : Type} (xs : List α) (g0 : α → D) {body : List Stmt} {sl : List Nat} {g : D → DEnv → Option DEnv} (st : List α → DEnv → Prop) (hi : EvI C tg it ρ (xs.map g0)) (hg : StG C tg sl g) (h0 : st [] ρ)
    (hs : ∀ (i : Nat) (x : α) (ρ' : DEnv), xs[i]? = some x → st (xs.take i) ρ' → ∃ ρ'', g (g0 x) ρ' = some ρ'' ∧ WSs C body ρ'' { nx := st (xs.take i ++ [x]), ct := st (xs.take i ++ [x]), bk := P.nx, rt := P.rt }) (hd : ∀ ρ', st xs ρ' → P.nx ρ')
    (hfs : ∀ env x, foldedSetIterable it env x = pure x := by intro _ _; rfl) : WS C (.For tg it body [] pos) ρ P := by
  refine ws_forM xs g0 (fun i ρ' => st (xs.take i) ρ') hi hg (by simpa using h0) (fun i ρ' x hx iv => ?_) (fun ρ' h => hd ρ' (by rwa [List.take_length] at h)) hfs
  obtain ⟨ρ'', h1, h2⟩ := hs i x ρ' hx iv
  have e : xs.take (i + 1) = xs.take i ++ [x] := by rw [List.take_add_one, hx]; rfl
  exact ⟨ρ'', h1, by rw [e]; exact h2⟩
end
section
variable {C : Cfg} {ρ : DEnv} {P : Post} {e : Expr} {pos : Pos}
/-- an expression whose value is dropped  -/
theorem ws_expr {p : D → Prop} (h : EvP C e ρ p) (hp : P.nx ρ) (hs : ∀ (pos : Pos) (env : Env), swapsWith e none pos.line env = pure false := by intro _ _; rfl) : WS C (.Expr e pos) ρ P := fun X hX B Z Y σ H R Dn L =>
  WSt.of (ps_expr pe_we (hs _ _)) (h X hX B Z Y σ H R _ fun v d H1 pd x1 dv => L.nx Y ρ σ H1 hp (R.ext x1))
/-- a block that is never reached -/
theorem wss_never {sts : List Stmt} (h : False) : WSs C sts ρ P := h.elim
end
/-! ### slices of typed lists -/
def cutL {α : Type} (xs : List α) (lo hi : Option Int) : List α := (xs.drop (HT.sIx xs.length 0 lo)).take (HT.sIx xs.length xs.length hi - HT.sIx xs.length 0 lo)
theorem cutD_map {α : Type} (f : α → D) (xs : List α) (lo hi : Option Int) : cutD (xs.map f) lo hi = (cutL xs lo hi).map f := by
  unfold cutD cutL
  rw [List.length_map, List.map_take, List.map_drop]
theorem sIx_neg (n d k : Nat) (hk : 0 < k) : HT.sIx n d (some (-(k : Int))) = n - k := by
  show (if -(k : Int) < 0 then (-(k : Int) + (n : Int)).toNat else min (-(k : Int)).toNat n) = n - k
  rw [if_pos (by omega)]
  omega
theorem cutL_last {α : Type} (xs : List α) (k : Nat) (hk : 0 < k) : cutL xs (some (-(k : Int))) none = xs.drop (xs.length - k) := by
  unfold cutL
  rw [sIx_neg _ _ _ hk, HT.sIx_none]
  rw [List.take_of_length_le (by rw [List.length_drop]; omega)]
theorem cutL_first {α : Type} (xs : List α) (k : Nat) : cutL xs none (some (k : Int)) = xs.take k := by
  unfold cutL
  rw [HT.sIx_none, HT.sIx_nat, List.drop_zero, Nat.sub_zero]
  by_cases h : k ≤ xs.length
  · rw [Nat.min_eq_left h]
  · rw [Nat.min_eq_right (by omega), List.take_length, List.take_of_length_le (by omega)]
theorem cutL_from {α : Type} (xs : List α) (k : Nat) : cutL xs (some (k : Int)) none = xs.drop k := by
  unfold cutL
  rw [HT.sIx_none, HT.sIx_nat]
  by_cases h : k ≤ xs.length
  · rw [Nat.min_eq_left h, List.take_of_length_le (by rw [List.length_drop]; omega)]
  · rw [Nat.min_eq_right (by omega), List.drop_eq_nil_of_le (by omega), List.drop_eq_nil_of_le (by omega)]; simp
theorem cutL_mid {α : Type} (xs : List α) (i k : Nat) : cutL xs (some (i : Int)) (some (k : Int)) = (xs.take k).drop i := by
  unfold cutL
  rw [HT.sIx_nat, HT.sIx_nat, List.drop_take]
  by_cases h : k ≤ xs.length
  · by_cases h2 : i ≤ xs.length
    · rw [Nat.min_eq_left h, Nat.min_eq_left h2]
    · rw [List.drop_eq_nil_of_le (by omega), List.drop_eq_nil_of_le (by omega)]; simp
  · by_cases h2 : i ≤ xs.length
    · rw [Nat.min_eq_right (by omega), Nat.min_eq_left h2, List.take_of_length_le (by rw [List.length_drop]; omega), List.take_of_length_le (by rw [List.length_drop]; omega)]
    · rw [List.drop_eq_nil_of_le (by omega), List.drop_eq_nil_of_le (by omega)]; simp
theorem ixN_nat {n k : Nat} (h : k < n) : ixN n (k : Int) = some k := by
  unfold ixN
  rw [if_pos (by omega), if_pos (by  omega)]
  simp
/-- y = [..], y a local -/
theorem ws_setLcP {C : Cfg} {ρ : DEnv} {P : Post} {tg it elt : Expr} {ifs : List Expr} {scope : Scope} {own : List (Str × Nat)} {pos spos py : Pos} (i : Nat) {y : Str} {items : List D} {Iv : Nat → List D → Prop} {p : D → Prop} (hi : EvI C tg it ρ items) (hnd : C.N.Nodup) (T : Turns C scope tg elt ifs own ρ items Iv) (h0 : Iv 0 []) (hlen : items.length ≤ 100000) (hd : ∀ acc, Iv items.length acc → p (.lst acc))
    (hp : ∀ d, p d → P.nx (ρ.set i (some (.o d)))) (hN : C.N[i]? = some y := by rfl) (hl : C.sc.names.lookup y = some .local := by rfl) (hk : C.sc.kind = .function := by rfl) (hln : (py.line == pos.line) = true := by rfl)
    (ha : (scope.names.any fun (n, k) => n == y && (k == .local || k == .cell)) = false := by decide +kernel)
    (ok : blkC C.N C.sc scope own = true := by first | decide +kernel | kernel_rfl) (hs : ∀ env x, foldedSetIterable it env x = pure x := by intro _ _; rfl) : WS C (.Assign [.Name y py] (.ListComp elt [⟨tg, it, ifs, 0⟩] scope pos) spos) ρ P := fun X hX B Z Y σ H R Dn L => by
  have hk' : X.env.scope.kind = .function := by rw [← hX.sc]; exact hk
  have hy' : X.env.scope.names.lookup y = some .local := by rw [← hX.sc]; exact hl
  refine WSt.of (ps_setLc (i := i) (own := own) (g := cG X scope tg) (tt := cT X scope ifs) (te := cE X scope elt) hX.calm (by rw [← hX.N]; exact hnd) (by rw [← hX.N]; exact hN) hy' (sw_true hk' hy' hln ha) pi_wi (by rw [← hX.N, ← hX.sc]; exact blkOk_by ok) (fun s H c cl fp => ⟨fun pins s' σ H' v u Q I r h => h s H c cl fp pins s' u I r⟩) (fun s H c cl fp => ⟨fun pins s' σ H' Q I h => h s H c cl fp pins s' I⟩) (fun s H c cl fp => ⟨fun pins s' σ H' Q I h => h s H c cl fp pins s' I⟩) (hs _)) ?_
  refine comp_core (I := (· = items)) (IV := fun _ => Iv) hX R (fun RR h => hi X hX B Z Y σ H R RR fun J H1 x fd => h J H1 items rfl x fd) (by rintro _ rfl; exact T) (by rintro _ rfl; exact h0) (by rintro _ rfl; exact hlen) (by rintro _ rfl; exact hd) fun a d H1 pd ha x1 ov => ?_
  obtain ⟨Y', s', R'⟩ := R.seto i x1 ha ov
  exact L.nx Y' _ _ H1 (hp d pd) R'
section
variable {C : Cfg} {ρ : DEnv} {P : Post} {a b : Expr} {pos : Pos}
/-- x, y = e1, e2, the second one a new container -/
theorem ws_parVO (i j : Nat) {x y : Str} {p1 p2 : D → Prop} {px py pt : Pos} {kt k2 pt2} (hnd : C.N.Nodup) (ha : EvP C a ρ p1) (hb : EvO C b ρ p2) (hp : ∀ d1 d2, p1 d1 → p2 d2 → P.nx ((ρ.set i (some (.v d1))).set j (some (.o d2)))) (hij : i ≠ j := by decide) (hN : C.N[i]? = some x := by rfl) (hN2 : C.N[j]? = some y := by rfl)
    (hl : C.sc.names.lookup x = some .local := by rfl) (hl2 : C.sc.names.lookup y = some .local := by rfl) (hw : ∀ env : Env, env.scope = C.sc → swappedStores [.Tuple [.Name x px, .Name y py] kt pt] (.Tuple [a, b] k2 pt2) env = pure (some [x, y]) := by rintro ⟨⟩ rfl; rfl)
    (hs : ∀ (pos : Pos) (env : Env), swapsWithSole [.Tuple [.Name x px, .Name y py] kt pt] (.Tuple [a, b] k2 pt2) pos.line env = pure false := by intro _ _; rfl) (hst : ∀ env, starEach [a, b] env = (false, eval a env) :: starEach [b] env := by intro _; rfl) (hst2 : ∀ env, starEach [b] env = (false, eval b env) :: starEach [] env := by intro _; rfl) :
    WS C (.Assign [.Tuple [.Name x px, .Name y py] kt pt] (.Tuple [a, b] k2 pt2) pos) ρ P := fun X hX B Z Y σ H R Dn L => by
  refine WSt.of (ps_par hX.calm (by rw [← hX.N]; exact hnd) (by rw [← hX.N]; exact hN) (by rw [← hX.N]; exact hN2) hij (by rw [← hX.sc]; exact hl) (by rw [← hX.sc]; exact hl2) (pa_cons pe_we (pa_cons pe_we pa_nil (hst2 _)) (hst _)) (hw _ hX.sc.symm) (hs _ _)) ?_
  refine ha X hX B Z Y σ H R _ fun v d1 H1 q1 x1 dv1 => ?_
  have R1 := R.ext x1
  refine hb X hX B Z Y σ H1 R1 _ fun q d2 H2 q2 hq x2 ov => ?_
  refine ⟨v, .ref q, rfl, ?_⟩
  obtain ⟨o, eo, to⟩ := ov.some
  obtain ⟨R2, hB, hZ⟩ := R1.pend x2 hq eo to
  have sub12 : Sub (hid H1 Y) (hid H2 (hidY Y q)) := hid_sub (fun a o y e => x2.1 a o (R1.notRowY y) e) fun a o e h => by
    rcases hidY_iff.mp h with z | z
    · exact z
    · rw [z, hq] at e; cases e
  obtain ⟨Y3, s3, R3⟩ := R2.setv i (dv1.mono sub12)
  have s3' : Sub (hid H2 (hidY Y q)) (hid H2 Y3) := hid_sub (fun _ _ _ e => e) fun a _ _ h => s3 a h
  obtain ⟨Y4, s4, R4⟩ := R3.claim R.rr j hB hZ (ov.mono s3' fun _ e => e)
  exact L.nx Y4 _ _ H2 (hp d1 d2 q1 q2) R4
/-- x, y = e1, e2, both new containers -/
theorem ws_parOO (i j : Nat) {x y : Str} {p1 p2 : D → Prop} {px py pt : Pos} {kt k2 pt2} (hnd : C.N.Nodup) (ha : EvO C a ρ p1) (hb : EvO C b ρ p2) (hp : ∀ d1 d2, p1 d1 → p2 d2 → P.nx ((ρ.set i (some (.o d1))).set j (some (.o d2)))) (hij : i ≠ j := by decide) (hN : C.N[i]? = some x := by rfl) (hN2 : C.N[j]? = some y := by rfl)
    (hl : C.sc.names.lookup x = some .local := by rfl) (hl2 : C.sc.names.lookup y = some .local := by rfl) (hw : ∀ env : Env, env.scope = C.sc → swappedStores [.Tuple [.Name x px, .Name y py] kt pt] (.Tuple [a, b] k2 pt2) env = pure (some [x, y]) := by rintro ⟨⟩ rfl; rfl)
    (hs : ∀ (pos : Pos) (env : Env), swapsWithSole [.Tuple [.Name x px, .Name y py] kt pt] (.Tuple [a, b] k2 pt2) pos.line env = pure false := by intro _ _; rfl) (hst : ∀ env, starEach [a, b] env = (false, eval a env) :: starEach [b] env := by intro _; rfl) (hst2 : ∀ env, starEach [b] env = (false, eval b env) :: starEach [] env := by intro _; rfl) :
    WS C (.Assign [.Tuple [.Name x px, .Name y py] kt pt] (.Tuple [a, b] k2 pt2) pos) ρ P := fun X hX B Z Y σ H R Dn L => by
  refine WSt.of (ps_par hX.calm (by rw [← hX.N]; exact hnd) (by rw [← hX.N]; exact hN) (by rw [← hX.N]; exact hN2) hij (by rw [← hX.sc]; exact hl) (by rw [← hX.sc]; exact hl2) (pa_cons pe_we (pa_cons pe_we pa_nil (hst2 _)) (hst _)) (hw _ hX.sc.symm) (hs _ _)) ?_
  refine ha X hX B Z Y σ H R _ fun u d1 H1 q1 hu x1 ov1 => ?_
  obtain ⟨o1, eo1, to1⟩ := ov1.some
  obtain ⟨R1, hB1, hZ1⟩ := R.pend x1 hu eo1 to1
  refine hb X hX B _ _ σ H1 R1 _ fun q d2 H2 q2 hq x2 ov2 => ?_
  refine ⟨.ref u, .ref q, rfl, ?_⟩
  obtain ⟨o2, eo2, to2⟩ := ov2.some
  obtain ⟨R2, hB2, hZ2⟩ := R1.pend x2 hq eo2 to2
  have uq : u ≠ q := fun e => by rw [e, hq] at eo1; cases eo1
  -- the second one first waits while the first one comes in
  have sub12 : Sub (hid H1 (hidY Y u)) (hid H2 (hidY (hidY Y u) q)) := hid_sub (fun a o y e => x2.1 a o (R1.notRowY y) e) fun a o e h => by
    rcases hidY_iff.mp h with z | z
    · exact z
    · rw [z, hq] at e; cases e
  have rowu : some u ≠ C.r := R.notRow hZ1
  have swap : hidY (hidY Z u) q = hidY (hidY Z q) u := by
    funext a
    simp only [hidY, Bool.or_assoc]
    rw [Bool.or_comm (decide (a = u))]
  rw [swap] at R2
  have hZq : hidY Z q u = false := by
    cases h : hidY Z q u with
    | false => rfl
    | true =>
      rcases hidY_iff.mp h with z | z
      · rw [hZ1] at z; cases z
      · exact absurd z uq
  have hZ0 : Z q = false := by
    cases h : Z q with
    | false => rfl
    | true => rw [hidY_iff.mpr (.inl h)] at hZ2; cases hZ2
  obtain ⟨Y3, s3, R3⟩ := R2.claim (fun a h => ⟨hidY_iff.mpr (.inl (R.rr a h).1), (R.rr a h).2.imp (fun z => hidY_iff.mpr (.inl z)) id⟩) i hB1 hZq (ov1.mono sub12 fun o e => x2.1 u o rowu e)
  have s3' : Sub (hid H2 (hidY (hidY Y u) q)) (hid H2 Y3) := hid_sub (fun _ _ _ e => e) fun a _ _ h => s3 a h
  obtain ⟨Y4, s4, R4⟩ := R3.claim R.rr j hB2 hZ0 (ov2.mono s3' fun _ e => e)
  exact L.nx Y4 _ _ H2 (hp d1 d2 q1 q2) R4
end
end DL
/-! text LK5 -/
/-! LK5: sorted(a list of tuples of ints), any number of them. -/
namespace DL
open PySem PySem.Spec L2 PySem.W
open PyProof.Rows hiding St
section
variable {prog : Program} {w : World} {A : Around} {s : Shared} {Q : Bool → Shared → Prop}
/-- two tuples of ints, whichever lengths -/
theorem lexKat {b : Bool} : ∀ {xs ys : List Value} {ns ms : List Int} {fin : Bool} (i : Nat), IntsAre xs ns → IntsAre ys ms → fin = decide (xs.length < ys.length) → Q (HT.lexLt ns ms) s → KatLex prog w A b fin Q (xs.zip ys) i s
  | _, _, _, _, _, _, .nil, .nil, hf, h => by subst hf; exact kat_nil h
  | _, _, _, _, _, _, .nil, .cons _ _ _, hf, h => by
    have e : _ = true := hf.trans (decide_eq_true (Nat.zero_lt_succ _))
    subst e; exact kat_nil h
  | _, _, _, _, _, _, .cons _ _ _, .nil, hf, h => by
    have e : _ = false := hf.trans (decide_eq_false (Nat.not_lt_zero _))
    subst e; exact kat_nil h
  | _, _, _, _, fin, i, .cons (vs := xs) (ns := ns) p t hx, .cons (vs := ys) (ns := ms) q u hy, hf, h => by
    show KatLex prog w A b fin Q ((.int p t, .int q u) :: xs.zip ys) i s
    have hf' : fin = decide (xs.length < ys.length) := hf.trans (decide_eq_decide.mpr Nat.succ_lt_succ_iff)
    rw [HT.lexLt_cons] at h
    refine kat_cons (wpAny_eqBool_int  ?_)
    by_cases e : p = q
    · rw [if_pos e] at h
      rw [beq_iff_eq.mpr e]
      exact kat_yes (lexKat (i + 1) hx hy hf' h)
    · rw [if_neg e] at h
      rw [show (p == q) = false by simpa using e]
      exact kat_no (TS.oneLt_ints _ h)
/-- v is a tuple of these ints -/
def IsT (h : Heap) (v : Value) (ns : List Int) : Prop := ∃ a o xs n, v = Value.ref a ∧ h.get? a = some o ∧ o.cls = .type "tuple" ∧ o.data = .seq xs n ∧ IntsAre xs.toList ns
theorem IsT.keeps {h h' : Heap} {v : Value} {ns : List Int} (x : IsT h v ns) (k : ∀ b o, h.get? b = some o → o.cls = .type "tuple" → h'.get? b = some o) : IsT h' v ns := by
  obtain ⟨a, o, xs, n, e, ho, hc, r⟩ := x
  exact ⟨a, o, xs, n, e, k a o ho hc, hc, r⟩
theorem firstOnes {h : Heap} {k : Value → List Int} : ∀ {vs : List Value}, (∀ v ∈ vs, IsT h v (k v) ∧ k v ≠ []) → ∃ fs, KatTups h vs fs ∧ fs.length = vs.length ∧ ∀ f ∈ fs, ∃ z t, f = Value.int z t
  | [], _ => ⟨[], .nil, rfl, fun _ q => by cases q⟩
  | v :: vs, hv => by
    obtain ⟨fs, k1, k2, k3⟩ := firstOnes (vs := vs) fun u hu => hv u (List.mem_cons_of_mem _ hu)
    obtain ⟨⟨a, o, xs, n, e, ho, hc, hd, hi⟩, ne⟩ := hv v (List.mem_cons_self ..)
    subst e
    cases q : k (Value.ref a) with
    | nil => exact absurd q ne
    | cons z zs =>
      rw [q] at hi
      cases q2 : xs.toList with
      | nil => rw [q2] at hi; cases hi
      | cons y ys =>
        rw [q2] at hi
        cases hi with
        | cons _ t hi =>
          refine ⟨.int z t :: fs, .cons ho hc hd ?_ k1, by simp [k2], fun f hf => ?_⟩
          · rw [← Array.getElem?_toList, q2]; rfl
          · rcases List.mem_cons.mp hf with rfl | hf
            · exact ⟨z, t, rfl⟩
            · exact k3 f hf
theorem tups_sortable {a : Addr} {vs : List Value} {k : Value → List Int} (h0 : 0 < vs.length) (hv : ∀ v ∈ vs, IsT s.heap v (k v) ∧ k v ≠ []) (ha : ∀ o, s.heap.get? a = some o → o.cls ≠ .type "tuple") : SrtO.SortableO prog w A s a vs fun v u => HT.lexLt (k v) (k u) := fun h' keep => by
  have hv' : ∀ v ∈ vs, IsT h' v (k v) ∧ k v ≠ [] := fun v hm => ⟨(hv v hm).1.keeps fun b o e c => keep b o (fun z => ha o (by rw [← z]; exact e) c) e, (hv v hm).2⟩
  obtain ⟨fs, k1, k2, k3⟩ := firstOnes hv'
  refine ⟨tuples' true, fun Q E hq => kat_kind (T := .type "int") k1 (by omega) (fun f hm => ?_) (by rfl) ?_, fun p q hp hq => ?_⟩
  · obtain ⟨z, t, rfl⟩ := k3 f hm
    exact Looks.now
  · rw [show (Value.type "int" != Value.type "tuple") = true by decide +kernel]
    exact hq
  · obtain ⟨x, o, xs, n, e, ho, hc, hd, hi⟩ := (hv' p.1 hp).1
    obtain ⟨x2, o2, xs2, n2, e2, ho2, hc2, hd2, hi2⟩ := (hv' q.1 hq).1
    show wpAny _ _ (keyLt' (tuples' true) p.1 q.1) (fun r s' => s' = _ ∧ r = HT.lexLt (k p.1) (k q.1)) _ _
    rw [e] at hi ⊢
    rw [e2] at hi2 ⊢
    exact kat_lt ho hd ho2 hd2 (lexKat 0 hi hi2 (by simp) ⟨rfl, rfl⟩)
end
theorem cr_sortedTup {X : Cx} : CallR X (.builtin "sorted") (fun vs H Q => ∃ (a : Addr) (ys : List V) (k : V → List Int), vs = [V.ref a] ∧ SqL X.K H a ys ∧ (∀ y ∈ ys, k y ≠ [] ∧ ∃ t, y = V.ref t ∧ H t = some (.tup ((k y).map V.int))) ∧ ∀ (zs : List V) (p : Addr), zs.Perm ys → zs.Pairwise (fun a b => HT.lexLt (k b) (k a) = false) → H p = none → Q (.ref p) (upd H p (.lst zs))) := fun pins s σ H vs us Q I r h => by
  obtain ⟨a, ys, k, rfl, sq, hy, q⟩ := h
  obtain ⟨its, rv, il, lz⟩ := I.list sq
  obtain ⟨e1, e2⟩ := refs_back rv fun y m => let ⟨_, t, e, _⟩ := hy y m; ⟨t, e⟩
  have tups : ∀ v ∈ its, IsT s.heap v (k (backV v)) ∧ k (backV v) ≠ [] := fun v hv => by
    obtain ⟨t, rfl⟩ := e2 v hv
    have hm : V.ref t ∈ ys := by rw [e1]; exact List.mem_map.mpr ⟨_, hv,  rfl⟩
    obtain ⟨ne, t', e, ht⟩ := hy _ hm
    cases e
    obtain ⟨_, us2, r2, o, ho, hc, n, hd⟩ := I.hok _ _ ht
    have i2 : IntsAre us2.toArray.toList (k (V.ref t)) := by simpa using r2.ints
    exact ⟨⟨t, o, us2.toArray, n, rfl, ho, hc, hd, i2⟩, ne⟩
  have lz' : its.length ≤ sizeLine := by rw [← rv.length]; exact lz
  rw [Vals.ref1 r]
  refine SrtO.sorted_ord (NtL.swo_lexL fun u => k (backV u)) il.isList lz' (fun two h1 b hb keep => tups_sortable (s := { s with heap := h1 }) (k := fun u => k (backV u)) (by omega) (fun v hv => ⟨(tups v hv).1.keeps fun c o e _ => (keep c o e).2, (tups v hv).2⟩) fun o e c => ?_) fun out so sb => ?_
  · have eo := Option.some.inj (e.symm.trans hb)
    rw [eo] at c
    exact absurd (Value.type.inj c) (by  decide)
  · have refs : ∀ u ∈ out, ∃ a, u = Value.ref a := fun u hu => e2 u (sb.perm.mem_iff.mp hu)
    have pm : (out.map backV).Perm ys := by rw [e1]; exact sb.perm.map backV
    obtain ⟨ep, there⟩ := PyProof.Rows.sortedAll_at s.heap its out.toArray
    exact ⟨.ref _, upd H (s.heap.objs.size + 1) (.lst (out.map backV)), I.laid (t' := s.toks) (fun _ _ => PyProof.Rows.sortedAll_old) (Nat.le_succ _) ⟨by rw [pm.length_eq]; exact lz, out, ep, vals_back refs, there⟩, rfl, q _ _ pm (List.pairwise_map.mpr so) (I.hok.fresh (Nat.le_succ _))⟩
/-- a value's tuple of ints -/
def readT (H : Hp) : V → List Int
  | .ref t => match H t with
    | some (.tup us) => us.map fun u => match u with
      | .int i => i
      | _ => 0
    | _ => []
  | _ => []
theorem readT_of {H : Hp} {t : Addr} {ns : List Int} (h : H t = some (.tup (ns.map V.int))) : readT H (.ref t) = ns := by
  show (match H t with | some (.tup us) => us.map (fun u => match u with | .int i => i | _ => 0) | _ => []) = ns
  rw [h]
  show (ns.map V.int).map _ = ns
  rw [List.map_map]
  exact List.map_id'' (fun _ => rfl) ns
theorem dvs_tups {r : Option Addr} {G H : Hp} (hs : Sub G H) : ∀ {vs : List V} {ts : List (List Int)}, DVs r G vs (ts.map fun t => D.tup (t.map D.int)) → vs.map (readT H) = ts ∧ ∀ v ∈ vs, ∃ t, v = V.ref t ∧ G t = some (.tup ((readT H v).map V.int))
  | _, [], .nil => ⟨rfl, fun _ h => by cases h⟩
  | _, t :: ts, .cons (v := v) d r => by
    obtain ⟨h1, h2⟩ := dvs_tups hs r
    cases d with
    | @tup a us _ e td =>
      rw [td.ints] at e
      have er := readT_of (hs _ _ e)
      refine ⟨by rw [List.map_cons, er, h1], fun v hv => ?_⟩
      rcases List.mem_cons.mp hv with rfl |  hv
      · exact ⟨a, rfl, by rw [er]; exact e⟩
      · exact h2 v hv
theorem dvs_back {r : Option Addr} {G H : Hp} : ∀ {vs : List V}, (∀ v ∈ vs, ∃ t, v = V.ref t ∧ G t = some (.tup ((readT H v).map V.int))) → DVs r G vs ((vs.map (readT H)).map fun t => D.tup (t.map D.int))
  | [], _ => .nil
  | v :: vs, h => by
    obtain ⟨t, e, ht⟩ := h v (List.mem_cons_self ..)
    refine .cons ?_ (dvs_back fun u hu => h u (List.mem_cons_of_mem _ hu))
    rw [e] at ht ⊢
    exact .tup ht (.of_ints _)
/-- sorted(a list of tuples of ints, none empty) -/
theorem co_sortedT {C : Cfg} {ts : List (List Int)} (h : ∀ t ∈ ts, t ≠ []) : CallO C (.builtin "sorted") [.lst (ts.map fun t => D.tup (t.map D.int))] (fun d => ∃ us : List (List Int), d = .lst (us.map fun t => D.tup (t.map D.int)) ∧ us.Perm ts ∧ us.Pairwise (fun a b => HT.lexLt b a = false)) := fun X hX Y H us Q y du hQ => by
  cases du with
  | cons dv t =>
    cases t
    cases dv with
    | @lst p vs _ e t =>
      obtain ⟨k1, k2⟩ := dvs_tups (hid_le H Y) t
      refine ⟨_, cr_sortedTup, p, vs, readT H, rfl, hid_sq e, fun v hv => ?_, fun zs q pm pw hq => ?_⟩
      · obtain ⟨t, e, ht⟩ := k2 v hv
        exact ⟨h _ (by rw [← k1]; exact List.mem_map.mpr ⟨v, hv, rfl⟩), t, e, (hid_some ht).2⟩
      · refine hQ q _ _ ⟨zs.map (readT H), rfl, by rw [← k1]; exact pm.map _, List.pairwise_map.mpr pw⟩ hq (Ext.new hq) (y.newLst hq (dvs_back fun v hv => k2 v (pm.mem_iff.mp hv)))
end DL
/-! text LK6 -/
/-! LK6: set(a tuple of ints). -/
namespace DL
open PySem PySem.Spec L2 PySem.W
open PyProof.Rows hiding St
theorem cr_setT {X : Cx} (hc : X.calm = true) : CallR X (.type "set") (fun vs H Q => ∃ (a : Addr) (ns : List Int), vs = [V.ref a] ∧ SqT X.K H a (ns.map V.int) ∧ ns.length + 1 < scanBound ∧ ∀ (p : Addr) (c : Nat), c ≤ ns.length → H p = none → Q (.ref p) (upd H p (SetO X.w p (fun j => decide (j ∈ ns)) c))) := fun pins s σ H vs us Q I r h => by
  obtain ⟨a, ns, rfl, sq, lt, q⟩ := h
  obtain ⟨its, rv, it, _⟩ := I.tuple sq
  rw [Vals.ref1 r]
  refine call_set_tupI ns (I.ok.hd hc) it (by simpa using rv.ints) lt fun h' tk c R le keep => ?_
  exact ⟨.ref _, upd H s.heap.objs.size (SetO X.w s.heap.objs.size (fun j => decide (j ∈ ns)) c), I.laid (t' := tk) keep (Nat.le_refl _) (setO_new R), rfl, q _ c le (I.hok.fresh (Nat.le_refl _))⟩
end DL
/-! text LK15 -/
/-! LK15: set(a list of ints), its table known. -/
namespace DL
open PySem PySem.Spec L2 PySem.W PySem.Calls
open PyProof.Rows hiding St
/-- an empty set, as it is made -/
abbrev newSet (w : World) : Obj := { cls := .type "set", dict := none, data := .set #[] 0 (.fresh 0 0 (!w.params.followText "set-order")) }
section
variable {P : Program} {w : World} {A : Around} {E : Value → Shared → Prop} {s :  Shared}
set_option maxHeartbeats 3200000  in
theorem set_ofList {l : Addr} {items : Array Value} (ns : List Int) {Q : Value → Shared → Prop} (calm : A.handled = none) (lst : s.heap.IsList l items) (inz : IntsAre items.toList ns) (room : ns.length + 1 < scanBound)
    (k : ∀ (h' : Heap) (tk c : Nat), SetR w h' s.heap.objs.size (fun j => decide (j ∈ ns)) c → c ≤ ns.length → (∀ b o, s.heap.get? b = some o → h'.get? b = some o) → Q (.ref s.heap.objs.size) { s with heap := h', toks := tk }) : wpAny (model P w) A (call (.type "set") [.ref l]) Q E s := by
  have many : items.size = ns.length := by have q := IntsAre.length inz; rwa [Array.length_toList] at q
  obtain ⟨c, tl, mro⟩ := F.called_set.mro; have made := F.called_set.made; have sub := F.called_set.sub
  refine wpAny_call (codeAny_of_tree ?_); show wpAny _ _ (callAny (.type "set") _) _ _ _
  refine wpAny_pure ⟨Code.quiet_builtin _ (by decide +kernel), codeAny_builtin F.entry_type_call ?_⟩; rw [Around.under_plain (weight_type_call_type "set" [.ref l] []) rfl]
  have notT := F.called_set.notType; have make := F.called_set.canCreate; have one := F.typeCall_set_1 (.ref l); repeat (any_goals (first | assumption | wp_step))
  refine codeAny_mono (code_set_led1 (.ref l) (E := E) (Q₁ := fun obj s1 => obj = .ref s.heap.objs.size ∧ s1 = { s with heap := s.heap.push (newSet w) }) ⟨rfl, rfl⟩) fun r s1 hr => ?_
  cases r with
  | error e => exact hr
  | ok fl =>
    cases fl with
    | ret obj =>
      obtain ⟨rfl, rfl⟩ := hr
      have there : (s.heap.push (newSet w)).get? s.heap.objs.size = some (newSet w) := Heap.get?_push_size _ rfl
      have isSet : Shared.TypeIs { s with heap := s.heap.push (newSet w) } (.ref s.heap.objs.size) "set" := ⟨_, there, rfl⟩
      have look := F.called_set.init.lookup; have bound := F.called_set.init.bind (.ref s.heap.objs.size); repeat (any_goals (first | assumption | wp_step))
      refine codeAny_mono (codeAny_call_builtin (R := wants (fun r s2 => r = .none ∧ ∃ h' tk c, s2 = { s with heap := h', toks := tk } ∧ SetR w h' s.heap.objs.size (fun j => decide (j ∈ ns)) c ∧ c ≤ ns.length ∧ ∀ b o, s.heap.get? b = some o → h'.get? b = some o) E) F.called_set.init.plain F.entry_set_init (check_set_init_1 isSet ?_)) fun r2 s2 hr2 => ?_
      · obtain ⟨ol, gl, cl, nl, dl⟩ := lst
        obtain ⟨oc, od, ot, os⟩ := ol
        simp only at cl dl; subst cl; subst dl
        have gl2 : (s.heap.push (newSet w)).get? l = some { cls := .type "list", dict := od, data := .seq items nl, slots := os } := Heap.get?_push_of_some _ gl
        have lst2 : (s.heap.push (newSet w)).IsList l items := ⟨_, gl2, rfl, nl, rfl⟩
        have n1 := F.sub_list_set; have n2 := F.sub_list_frozenset
        have n3 : (Value.type "list" == Value.type "dict") = false := by decide
        unfold Builtin.«set.__init__» noKeywords Builtin.Frozenset.updateFrom; generalize eit : pyIter = IT
        wp_walk; subst eit
        refine wpAny_pyIter_list lst2 ?_; refine wpAny_bind (wpAny_runValue ?_)
        have lt : l < s.heap.objs.size := Heap.lt_size gl
        have calm3 : A.in1.in1.in1.handled = none := by simp [calm]
        have sz : (s.heap.push (newSet w)).objs.size = s.heap.objs.size + 1 := Heap.size_push ..
        have ap1 : l ≠ (s.heap.push (newSet w)).objs.size := by rw [sz]; exact Nat.ne_of_lt (Nat.lt_succ_of_lt lt)
        have ap2 : s.heap.objs.size ∉ [(s.heap.push (newSet w)).objs.size, l] := by
          rw [sz]; simp only [List.mem_cons, List.not_mem_nil, or_false, not_or]
          exact ⟨Nat.ne_of_lt (Nat.lt_succ_self _), Nat.ne_of_gt lt⟩
        have each : ∀ (i : Nat) (v : Value), items[i]? = some v → ∃ k t, ns[i]? = some k ∧ v = .int k t := fun i v hv => by
          have hi : i < ns.length := by rw [← many]; exact (Array.getElem?_eq_some_iff.mp hv).1
          obtain ⟨t, e⟩ := PyProof.Rows.IntsAre.int_at inz i v (by rw [Array.getElem?_toList]; exact hv)
          exact ⟨ns[i], t, List.getElem?_eq_getElem hi, by rw [e, List.getD_eq_getElem?_getD, List.getElem?_eq_getElem hi] <;> rfl⟩
        refine set_update_ints ((Walks.list calm3 _ l ap1 items).toS) s.heap.objs.size ap2 ns many room each (items.size - 0) 0 _ (by omega) (Nat.zero_le _) ⟨⟨_, Heap.get?_push_size _ rfl, rfl, rfl⟩, lst2.push _⟩ ⟨0, Nat.le_refl 0, setR_new_at (Heap.get?_push_of_some _ there)⟩ ?_
        intro s3 c3 mv le3 R3
        obtain ⟨h3, g3, d3, tk3, os3⟩ := s3
        have eg : g3 = s.gens := mv.gens; have ed : d3 = s.drawn := mv.drawn; have eo : os3 = s.os := mv.os
        subst eg ed eo
        show wpAny _ _ _ _ _ _; refine wpAny_pure ?_; show wpAny _ _ (ret Value.none) _ _ _
        rw [many] at le3
        refine wpAny_pure ⟨rfl, h3, tk3, c3, rfl, R3, le3, fun b o e => ?_⟩
        have b0 : b < s.heap.objs.size := Heap.lt_size e
        have b2 : b ≠ (s.heap.push (newSet w)).objs.size := by rw [sz]; exact Nat.ne_of_lt (Nat.lt_succ_of_lt b0)
        exact mv.heap b o (by simp only [List.mem_cons, List.not_mem_nil, or_false, not_or]; exact ⟨Nat.ne_of_lt b0, b2⟩) (Heap.get?_push_of_some _ (Heap.get?_push_of_some _ e))
      · cases r2 with
        | error e => exact hr2
        | ok fl2 =>
          cases fl2 with
          | ret r =>
            obtain ⟨rfl, h', tk, c', rfl, R', le', old⟩ := hr2
            repeat (any_goals (first | assumption | exact k _ _ _ R' le' old | wp_step))
          | _ => exact hr2.elim
    | _ => exact hr.elim
end
theorem cr_setL {X : Cx} (hc : X.calm = true) : CallR X (.type "set") (fun vs H Q => ∃ (a : Addr) (ns : List Int), vs = [V.ref a] ∧ SqL X.K H a (ns.map V.int) ∧ ns.length + 1 < scanBound ∧ ∀ (p : Addr) (c : Nat), c ≤ ns.length → H p = none → Q (.ref p) (upd H p (SetO X.w p (fun j => decide (j ∈ ns)) c))) := fun pins s σ H vs us Q I r h => by
  obtain ⟨a, ns, rfl, sq, lt, q⟩ := h
  obtain ⟨its, rv, il, _⟩ := I.list sq
  rw [Vals.ref1 r]
  refine set_ofList ns (I.ok.hd hc) il.isList (by simpa using rv.ints) lt fun h' tk c R le keep => ?_
  exact ⟨.ref _, upd H s.heap.objs.size (SetO X.w s.heap.objs.size (fun j => decide (j ∈ ns)) c), I.laid (t' := tk) keep (Nat.le_refl _) (setO_new R), rfl, q _ c le (I.hok.fresh (Nat.le_refl _))⟩
section
variable {C : Cfg} {ρ : DEnv} {e : Expr} {pos : Pos}
/-- sorted(set(e)), e ints in a list or a tuple -/
theorem eo_sortedSet {x : D} {ns : List Int} {p1 p2 q : Pos} (h : EvD C e ρ x) (hx : x = .lst (ns.map D.int) ∨ x = .tup (ns.map D.int)) (hl : ns.length < 60) (hm : C.mg "sorted" = none) (hm2 : C.mg "set" = none) (hg : GlC C "sorted" := by rfl) (hg2 : GlC C "set" := by rfl) (hs : ∀ env, starEach [e] env = (false, eval e env) :: starEach [] env := by intro _; rfl) :
    EvO C (.Call (.Name "sorted" p1) [.Call (.Name "set" p2) [e] [] q] [] pos) ρ (fun d => ∃ ms : List Int, d = .lst (ms.map D.int) ∧ ms.Pairwise (· < ·) ∧ ∀ k, k ∈ ms ↔ k ∈ ns) := fun X hX B Z Y σ H R Q hQ => by
  have small : ns.length + 1 < scanBound := Nat.lt_trans (show ns.length + 1 < 64 by omega) (by decide)
  have back : ∀ H1, Ext C H H1 → ∀ (p : Addr) (c : Nat), c ≤ ns.length → H1 p = none → ∃ r, CallR X (.builtin "sorted") r ∧ r [V.ref p] (upd H1 p (SetO X.w p (fun j => decide (j ∈ ns)) c)) Q := fun H1 x1 p c le hp => by
    have x2 : Ext C H (upd H1 p (SetO X.w p (fun j => decide (j ∈ ns)) c)) := x1.trans (Ext.new hp)
    have R2 := R.ext x2
    refine ⟨_, cr_sortedSet hX.calm, p, _, c, rfl, upd_same, by omega, fun ms a up mem len ha => ?_⟩
    exact hQ a _ _ ⟨ms, rfl, up, fun k => (mem k).trans ⟨fun z => of_decide_eq_true z, fun z => decide_eq_true z⟩⟩ (x2.fresh ha (R2.freshR ha)) (x2.trans (Ext.new ha)) (R2.y.newLst ha (.of_ints ms))
  have hsO : ∀ env, starEach [.Call (.Name "set" p2) [e] [] q] env = (false, eval (.Call (.Name "set" p2) [e] [] q) env) :: starEach [] env := fun _ => rfl
  refine WE.of (pe_callB call_any (hX.gl hg) (by rw [← hX.mg]; exact hm) (show bootBuiltins "sorted" = some (.builtin "sorted") by decide +kernel) (pa_cons (pe_callTy call_any (hX.gl hg2) (by rw [← hX.mg]; exact hm2) (show bootBuiltins "set" = some (.type "set") by decide +kernel) pa_wa (by decide) (by decide) (hs _) rfl) pa_nil (hsO _)) (by decide) (by decide) (hsO _) rfl) ?_
  refine (ea_cons h ea_nil hs) X hX B Z Y σ H R _ fun vs d H1 hd x1 dv => ?_
  subst hd
  cases dv with
  | cons d1 d2 =>
    cases d2
    rcases hx with hx | hx
    · subst hx
      cases d1 with
      | @lst a us _ ea t =>
        rw [t.ints] at ea
        exact ⟨_, cr_setL hX.calm, a, ns, rfl, hid_sq ea, small, fun p c le hp => back H1 x1 p c le hp⟩
    · subst hx
      cases d1 with
      | @tup a us _ ea t =>
        rw [t.ints] at ea
        exact ⟨_, cr_setT hX.calm, a, ns, rfl, hid_st ea, small, fun p c le hp => back H1 x1 p c le hp⟩
end
end DL
/-! text LK7 -/
/-! LK7: enumerate(what begins an iterator), one argument. -/
namespace DL
open PySem PySem.Spec L2 PySem.W
open PyProof.Rows hiding St
theorem enumNew1 {v : Value} {o : Obj} {H : Heap → Prop} (B : Begins v o H) : Meets (Builtin.«enumerate.__new__» ⟨[.type "enumerate", v], []⟩) (fun _ R s => H s.heap ∧ R (.ok (.ret (.ref (s.heap.push o).objs.size))) { s with heap := (s.heap.push o).push { cls := .type "enumerate", data := .fields #[.none, .bool false, .ref s.heap.objs.size, rawInt 0, .none, .none] } }) :=
  .of_wp fun prog w A R s h =>  by
    obtain ⟨hp, g, d, tk, os⟩ :=  s
    obtain ⟨begun, k⟩ := h
    have sub := sub_enumerate
    have go : ∀ {A' : Around} {E Q : Value → Shared → Prop}, Q (.ref hp.objs.size) ⟨hp.push o, g, d, tk, os⟩ → wpAny (model prog w) A' (pyIter v) Q E ⟨hp, g, d, tk, os⟩ := fun {A' E Q} q => B.iter prog w A' E ⟨hp, g, d, tk, os⟩ Q begun q
    wp_walk using go
    first
      | exact ⟨_, rfl, k⟩
      | (refine wpAny_stack_any fun st => wpAny_pure ?_
         split
         · rename_i c _ _ _ _ _
           cases (c == Value.type "enumerate") <;> (wp_walk using go; exact ⟨_, rfl, k⟩)
         · wp_walk using go
           exact ⟨_, rfl, k⟩)
section
variable {prog : Program} {w : World} {A : Around} {E : Value → Shared → Prop} {s :  Shared}
theorem enumCall1 {v : Value} {o : Obj} {H : Heap → Prop} {Q : Value → Shared → Prop} (B : Begins v o H) (begun : H s.heap)
    (k : ∀ h', IsEnum h' (s.heap.objs.size + 1) s.heap.objs.size 0 .none → h'.get? s.heap.objs.size = some o → (∀ b u, s.heap.get? b = some u → h'.get? b = some u) → Q (.ref (s.heap.objs.size + 1)) { s with heap := h' }) : wpAny (model prog w) A (call (.type "enumerate") [v]) Q E s := by
  refine callType_new F.called_enumerate (by decide) (F.typeCall_enumerate_1 _) (F.newCall_enumerate_1 _) (fun obj => F.args_object_init_2 obj _) F.entry_enumerate_new (enumNew1 B) ⟨begun, ?_⟩
  have z : (s.heap.push o).objs.size = s.heap.objs.size + 1 := Heap.size_push ..
  have en := Heap.get?_push_size (s.heap.push o) (o := { cls := .type "enumerate", data := .fields #[.none, .bool false, .ref s.heap.objs.size, rawInt 0, .none, .none] }) rfl
  rw [z] at en
  show _ ∧ _
  rw [z]
  exact ⟨⟨_, en, rfl⟩, k _ en (Heap.get?_push_of_some _ (Heap.get?_push_size _ B.free)) fun b u x => Heap.get?_push_of_some _ (Heap.get?_push_of_some _ x)⟩
end
end DL
/-! text LK8 -/
/-! LK8: enumerate(a tuple) as an iterable. -/
namespace DL
open PySem PySem.Spec L2 PySem.W
open PyProof.Rows hiding St
/-- the tuple at a, numbered -/
def Itet (K : PySem.W.Frag) (a : Addr) : It :=
  ⟨fun i H => ∃ xs x, SqT K H a xs ∧ xs[i]? = some x,
    fun i H v H' => ∃ T x, v = V.ref T ∧ H T = none ∧ H' = upd H T (.tup [.int (i : Nat), x]) ∧ ∀ ys, SqT K H a ys → ys[i]? = some x,
    fun i H => ∃ xs, SqT K H a xs ∧ xs.length ≤ i⟩
/-- a tuple's iterator behind the end -/
theorem drawn_out {prog : Program} {w : World} {A : Around} (hh : A.handled = none) {it a : Addr} (ne : a ≠ it) {items : Array Value} {i : Nat} (hi : items[i]? = none) : Draws prog w A it [it, a] i (fun _ _ => False) (fun j h => j = i ∧ h.IsTupleIter it a i ∧ h.IsTuple a items) where
  live _ _ st := let ⟨o, ho, _⟩ := st.2.1; ⟨o, ho⟩
  frame _ _ _ st k := ⟨st.1, st.2.1.at fun o e => k it (by simp) o e, st.2.2.at fun o e => k a (by simp) o e⟩
  item j s Q E lt st _ := absurd st.1 (Nat.ne_of_lt lt)
  done s Q E st k := RZ.nextOf_tuple_end hh st.2.1 st.2.2 hi k
theorem turn_enumT {P : Program} {w : World} {K : PySem.W.Frag} {elts : List Expr} {kk : Nat} {tpos : Pos} {a e it : Addr} (n1 : e ≠ it) (n2 : a ≠ it) (n3 : e ≠ a) :
    Turn P w K (.Tuple elts kk tpos) (Itet K a) [e, it] e (fun i h => (∃ old, IsEnum h e it ((i : Nat) : Int) old) ∧ h.IsTupleIter it a i) where
  mem := List.mem_cons_self ..
  obj i h st b hb := by
    obtain ⟨⟨old, he⟩, o, ho, _, hd⟩ := st
    simp only [List.mem_cons, List.not_mem_nil, or_false] at  hb
    rcases hb with q | q <;> subst q
    · exact ⟨_, he, fun v q => nomatch q⟩
    · exact ⟨o, ho, fun v q => by rw [hd] at q; cases q⟩
  keep i h h' st k := ⟨let ⟨old, he⟩ := st.1; ⟨old, k e (by simp) _ he⟩, st.2.at fun o q => k it (by simp) o q⟩
  item := by
    intro X hP hw hK hc i pins s σ H E I hf ⟨⟨old, he⟩, hit⟩ ⟨xs, x, hq, hx⟩
    subst hP hw hK
    obtain ⟨its, rv, tp, _⟩ := I.tuple hq
    obtain ⟨u, hu, ru⟩ := rv.get  hx
    have le := Heap.lt_size he
    have li : it < s.heap.objs.size := let ⟨_, q, _⟩ := hit; Heap.lt_size q
    have D := Draws.tuple (prog := X.prog) (w := X.w) (A := X.A.in1) (I.ok.hd hc) it a n2 its.toArray
    have ilt : i < its.toArray.size := by
      have := (List.getElem?_eq_some_iff.mp hu).1
      simpa using this
    refine wpAny_pyNext_enum_itemC D he ⟨hit, tp⟩ ilt n1 (by simp [n1, n3]) fun y h' tk hy out st' new hsz keep => ⟨_, rfl, ?_⟩
    have ey : y = u := by
      have q : its.toArray[i]? = some u := by simpa using hu
      exact Option.some.inj (hy.symm.trans q)
    subst ey
    refine wpAny_letOwnedTupleGo_enum (s := { s with heap := h', toks := tk + 1 }) out fun h2 out2 sb => ?_
    have new2 := (sb.2 _ (Nat.ne_of_gt le)).trans new
    have ok2 : ObjOk X.prog X.w (upd H s.heap.objs.size (.tup [.int (i : Nat), x])) h2 s.heap.objs.size (.tup [.int (i : Nat), x]) := ⟨by show 2 ≤ sizeLine; decide, [.int i tk, y], .cons ⟨_, rfl⟩ (.cons ru .nil), _, new2, rfl, _, rfl⟩
    have I2 : Inv X pins σ (upd H s.heap.objs.size (.tup [.int (i : Nat), x])) { s with heap := h2, toks := tk + 1 } := I.turnedNew (ch := [e, it]) (fun b ob nb q => (sb.2 b fun z => nb (by simp [z])).trans (keep b ob (fun z => nb (by simp [z])) (fun z => nb (by simp [z])) q)) hf (Nat.le_refl _) ok2
    refine ⟨.ref s.heap.objs.size, _, I2, rfl, ⟨_, x, rfl, I.hok.fresh (Nat.le_refl _), rfl, fun ys hy => by rw [I.tuple_inj hy hq]; exact hx⟩, ⟨⟨y, ?_⟩, st'.1.at fun o q => (sb.2 it n1.symm).trans q⟩, fun b hb => ?_⟩
    · rw [show ((i + 1 : Nat) : Int) = (i : Int) + 1 by omega]
      exact out2
    · simp only [List.mem_cons, List.not_mem_nil, or_false] at hb
      have lb : b < s.heap.objs.size := by
        rcases hb with q | q <;> subst q <;> assumption
      rw [upd_ne (Nat.ne_of_lt lb)]
      exact (hf b (by simpa using hb)).1
  done := by
    intro X hP hw hK hc i pins s σ H E I hf ⟨⟨old, he⟩, hit⟩ ⟨xs, hq, hx⟩
    subst hP hw hK
    obtain ⟨its, rv, tp, _⟩ := I.tuple hq
    obtain ⟨f0, f1, f2, f3, f4, f5⟩ := hf it (by  simp)
    have over : its.toArray[i]? = none := by
      have := rv.length
      simp; omega
    exact wpAny_pyNext_enum_endD (drawn_out (prog := X.prog) (w := X.w) (A := X.A.in1) (I.ok.hd hc) n2 over) he ⟨rfl, hit, tp⟩ fun h' eb => ⟨rfl, I.turned (t' := s.toks) (fun b o nb q => eb b o nb q) f0 f1 f3 f4 f5⟩
  self A i s Q E st h := let ⟨⟨_, he⟩, _⟩ := st; wpAny_pyIter_enum he h
def iEnumT (K : PySem.W.Frag) (ta : TA) : TI := fun σ H R => ta σ H fun vs H1 => ∃ a xs, vs = [V.ref a] ∧ SqT K H1 a xs ∧ R (Itet K a) H1
theorem pi_enumT {X : Cx} {e : Expr} {ta : TA} {p pos tpos : Pos} {elts : List Expr} {kk : Nat} (hg : Gl X "enumerate") (hm : X.mg "enumerate" = none) (ha : PA X [e] ta) (hs : starEach [e] X.env = [(false, eval e X.env)]) : PI X (.Tuple elts kk tpos) (.Call (.Name "enumerate" p) [e] [] pos) (iEnumT X.K ta) where
  run pins s σ H R I h := by
    have args := ha.run pos pins s σ H _ I h
    refine Call_ (ld_blt I hg hm boot_enumerate (PyProof.Rows.callWith_type1 (wpAny_mono args (fun us s1 hu => ?_) fun _ _ z => z) hs rfl))
    obtain ⟨vs, H1, I1, r1, a, xs, rfl, hq, q⟩ := hu
    obtain ⟨its, rv, tp, _⟩ := I1.tuple hq
    have la := tp.lt
    rw [Vals.ref1 r1]
    refine enumCall1 (begins_tuple a its.toArray) tp fun h' en it keep => wpAny_pyIter_enum en ?_
    refine ⟨s1.heap.objs.size + 1, [s1.heap.objs.size + 1, s1.heap.objs.size], _, _, H1, rfl, I1.kept (t' := s1.toks) keep, turn_enumT (Nat.succ_ne_self _) (Nat.ne_of_lt la) (Nat.ne_of_gt (Nat.lt_succ_of_lt la)), ⟨⟨.none, en⟩, _, it, rfl, rfl⟩, fun b hb => ?_, q⟩
    have lb : s1.heap.objs.size ≤ b := by
      simp only [List.mem_cons, List.not_mem_nil, or_false] at  hb
      rcases hb with z | z
      · rw [z]; exact Nat.le_succ _
      · rw [z]; exact Nat.le_refl _
    exact I1.fpOk lb (I1.hok.fresh lb)
end DL
/-! text DL8 -/
/-! DL8: special rules. -/
namespace DL
open PySem PySem.Spec L2
open PyProof.Rows hiding St
/-- x not in a tuple, data of any depth -/
theorem op_niTD {X : Cx} : OpR X (compareOp .NotIn) (fun x y H Q => ∃ d ds, Dp X.K H x d ∧ Dp X.K H y (.tuple ds) ∧ PyData.canLayAll0 ds = true ∧ d.canLay0 = true ∧ X.A.units + 1 + min (PyData.depthAll ds) d.depth < cLine ∧ Q (.bl (!ds.any fun z => PyData.eqv z d)) H) := fun pins s σ H x y v u Q I rx ry h => by
  obtain ⟨d, ds, hd, hds, l1, l2, room, q⟩ := h
  obtain ⟨_, readX⟩ := Dp.reads I d x v hd rx
  obtain ⟨_, readT⟩ := Dp.reads I (.tuple ds) y u hds ry
  exact SeqAt.notIn_tuple_reads readT readX l1 l2 room ⟨.bl _, H, I, rfl, q⟩
theorem tups_py : ∀ ts : List (List Int), PyDs (ts.map fun t => D.tup (t.map D.int)) (ts.map fun t => PyData.tuple (t.map PyData.int))
  | [] => .nil
  | t :: ts => .cons (.tup (.ints t)) (tups_py ts)
theorem tups_lay : ∀ ts : List (List Int), PyData.canLayAll0 (ts.map fun t => PyData.tuple (t.map PyData.int)) = true
  | [] => rfl
  | t :: ts => by simp only [List.map_cons, PyData.canLayAll0, PyData.canLay0, canLay_ints, tups_lay ts]; rfl
theorem tups_any (ns : List Int) : ∀ ts : List (List Int), ((ts.map fun t => PyData.tuple (t.map PyData.int)).any fun z => PyData.eqv z (.tuple (ns.map PyData.int))) = decide (ns ∈ ts)
  | [] => rfl
  | t :: ts => by
    rw [List.map_cons, List.any_cons, tups_any ns ts, PyData.eqv, eqvAll_ints]
    by_cases h : t = ns
    · subst h; simp
    · have h' : ¬ ns = t := fun q => h q.symm
      simp [h, h']
section
variable {C : Cfg} {ρ : DEnv} {P : Post} {tg it elt e a b c : Expr} {pos pp : Pos}
/-- enumerate(a tuple) -/
theorem ei_enumT {tpos : Pos} {elts : List Expr} {kk : Nat} {ds : List D} (h : EvD C e ρ (.tup ds)) (hm : C.mg "enumerate" = none) (hg : GlC C "enumerate" := by rfl) (hs : ∀ env, starEach [e] env = [(false, eval e env)] := by intro _; rfl) : EvI C (.Tuple elts kk tpos) (.Call (.Name "enumerate" pp) [e] [] pos) ρ (enumD 0 ds) := fun X hX B Z Y σ H R Rr hR => by
  refine WI.of (pi_enumT (hX.gl hg) (by rw [← hX.mg]; exact hm) pa_wa (hs _)) ((ea_cons h ea_nil hs) X hX B Z Y σ H R _ fun vs d H1 hd x1 dv => ?_)
  subst hd
  cases dv with
  | cons h1 h2 =>
    cases h2
    cases h1 with
    | @tup p vs _ e1 dvs =>
      refine ⟨p, vs, rfl, hid_st e1, hR _ H1 x1 ⟨fun i d Y' H' hi y hs => ?_, fun i Y' H' hi y hs => ?_⟩⟩
      · rw [enumD_get, Nat.zero_add] at hi
        cases q : ds[i]? with
        | none => rw [q] at hi; cases hi
        | some d0 =>
          rw [q] at hi; cases hi
          obtain ⟨v, h1, h2⟩ := (dvs.mono hs).get q
          refine ⟨⟨vs, v, hid_st (hs _ _ e1), h1⟩, fun x H'' hy => ?_⟩
          obtain ⟨T, x0, rfl, nT, rfl, hy⟩ := hy
          rw [hy vs (hid_st (hs _ _ e1))] at h1
          cases h1
          exact ⟨Ext.new nT, y.newTup nT (.cons (.int _) (.cons h2 .nil))⟩
      · exact ⟨vs, hid_st (hs _ _ e1), by rw [dvs.length]; rw [enumD_len] at hi; exact hi⟩
/-- x not in (t, u, ..), tuples of ints -/
theorem od_niTT {ns : List Int} {ts : List (List Int)} : OpD C (compareOp .NotIn) (.tup (ns.map D.int)) (.tup (ts.map fun t => D.tup (t.map D.int))) (· = .bl (!decide (ns ∈ ts))) := fun X hX Y H u v Q y du dv hQ => by
  refine ⟨_, op_niTD, .tuple (ns.map PyData.int), ts.map fun t => PyData.tuple (t.map PyData.int), PyD.dp (hid_le H Y) (.tup (.ints ns)) du, PyD.dp (hid_le H Y) (.tup (tups_py ts)) dv, tups_lay ts, ?_, ?_, ?_⟩
  · simp only [PyData.canLay0, canLay_ints]
  · have := hX.room.units
    simp only [PyData.depth, depth_ints]
    omega
  · have e := tups_any ns ts
    rw [e]
    exact hQ _ _ H rfl (Ext.refl C H) (.bl _)
end
end DL
/-! text P2 -/
/-! P2: lines: held, ready, turned, valid. -/
namespace FT
open PySem PySem.Spec L2 DL
open PyProof.Rows hiding St
abbrev sNeedLine : Stmt := topS 10
abbrev sIsCells : Stmt := topS 11
abbrev sHeld : Stmt := topS 12
theorem scNeedLine : FnScope ["line", "cells", "held", "is_ring", "least", "index", "one"] ["line"] (defScope sNeedLine) := ⟨rfl, rfl, rfl, by decide +kernel, rfl, by decide +kernel, by decide +kernel⟩
theorem scIsCells : FnScope ["many", "value", "x"] ["many", "value"] (defScope sIsCells) := ⟨rfl, rfl, rfl, by decide +kernel, rfl, by decide +kernel, by decide +kernel⟩
theorem scHeld : FnScope ["line", "cells", "held", "is_ring", "ends"] ["line"] (defScope sHeld) := ⟨rfl, rfl, rfl, by decide +kernel, rfl, by decide +kernel, by decide +kernel⟩
/-- the cells that never turn by rule -/
def Ln.isHeld (l : Ln) (k : Int) : Bool := decide (k ∈ l.held) || (!l.ring && (decide (k = 0) || decide (k = (l.n : Int) - 1)))
def Ln.heldIn (l : Ln) : List Int := ((List.range l.n).map fun k : Nat => (k : Int)).filter l.isHeld
/-- the ready cells -/
def Ln.isReady (l : Ln) (k : Int) : Bool := !l.isHeld k && flankB l.cells k
def Ln.ready (l : Ln) : List Nat := (List.range l.n).filter fun k => l.isReady k
theorem sorted_ext : ∀ {a b : List Int}, a.Pairwise (· < ·) → b.Pairwise (· < ·) → (∀ k, k ∈ a ↔ k ∈ b) → a = b
  | [], [], _, _, _ => rfl
  | [], y :: _, _, _, h => by have := (h y).mpr (by simp); simp at this
  | x :: _, [], _, _, h => by have := (h x).mp (by simp); simp at this
  | x :: xs, y :: ys, ha, hb, h => by
    obtain ⟨a1, a2⟩ := List.pairwise_cons.mp ha
    obtain ⟨b1, b2⟩ := List.pairwise_cons.mp hb
    have e : x = y := by
      rcases List.mem_cons.mp ((h x).mp (by simp)) with q | q
      · exact q
      · rcases List.mem_cons.mp ((h y).mpr (by simp)) with r | r
        · exact r.symm
        · have := b1 x q; have := a1 y r; omega
    subst e
    rw [sorted_ext a2 b2 fun k => ⟨fun hk => ?_, fun hk => ?_⟩]
    · rcases List.mem_cons.mp ((h k).mp (List.mem_cons_of_mem _ hk)) with q | q
      · have := a1 k hk; omega
      · exact q
    · rcases List.mem_cons.mp ((h k).mpr (List.mem_cons_of_mem _ hk)) with q | q
      · have := b1 k hk; omega
      · exact q
theorem range_asc : ∀ n : Nat, ((List.range n).map fun k : Nat => (k : Int)).Pairwise (· < ·) := fun n => by
  rw [List.pairwise_map]
  exact List.pairwise_lt_range.imp fun h => by omega
theorem mem_heldIn {l : Ln} {k : Int} : k ∈ l.heldIn ↔ (0 ≤ k ∧ k < l.n) ∧ l.isHeld k = true := by
  unfold Ln.heldIn
  rw [List.mem_filter, List.mem_map]
  refine and_congr ⟨fun ⟨a, ha, e⟩ => ?_, fun h => ⟨k.toNat, ?_, ?_⟩⟩ Iff.rfl
  · have := List.mem_range.mp ha; omega
  · exact List.mem_range.mpr (by omega)
  · omega
theorem heldIn_of {l : Ln} (ok : l.Ok) {ms : List Int} (h1 : ms.Pairwise (· < ·)) (h2 : ∀ k, k ∈ ms ↔ k ∈ l.held ++ (if l.ring = true then [] else [0, (l.n : Int) - 1])) : ms = l.heldIn := by
  refine sorted_ext h1 ((range_asc l.n).filter _) fun k => ?_
  rw [h2, mem_heldIn, List.mem_append]
  have hn := ok.pos
  unfold Ln.isHeld Ln.n
  cases l.ring with
  | true =>
    simp only [if_true, List.not_mem_nil, or_false, Bool.not_true, Bool.false_and, Bool.or_false, decide_eq_true_eq]
    exact ⟨fun h => ⟨ok.hin k h, h⟩, fun h => h.2⟩
  | false =>
    simp only [Bool.false_eq_true, if_false, Bool.not_false, Bool.true_and, Bool.or_eq_true, decide_eq_true_eq, List.mem_cons, List.not_mem_nil, or_false]
    refine ⟨fun h => ⟨?_, h⟩, fun h => h.2⟩
    rcases h with h | h | h
    · exact ok.hin k h
    · omega
    · omega
theorem asc_len (N : Nat) : ∀ {ms : List Int} (lo : Int), ms.Pairwise (· < ·) → (∀ k ∈ ms, lo ≤ k ∧ k < lo + N) → ms.length ≤ N := by
  induction N with
  | zero =>
    intro ms lo _ h
    cases ms with
    | nil => exact Nat.le_refl _
    | cons x xs => have := h x (by simp); omega
  | succ N ih =>
    intro ms lo hp h
    cases ms with
    | nil => exact Nat.zero_le _
    | cons x xs =>
      obtain ⟨a1, a2⟩ := List.pairwise_cons.mp hp
      have hx := h x (by simp)
      have := ih (lo + 1) a2 fun k hk => by
        have := a1 k hk; have := h k (List.mem_cons_of_mem _ hk); omega
      rw [List.length_cons]; omega
theorem Ln.Ok.heldLen {l : Ln} (ok : l.Ok) : l.held.length ≤ l.cells.length := asc_len l.cells.length 0 ok.hasc fun k hk => by
  have := ok.hin k hk; omega
section
variable {C : Cfg}
def SHeld : List D → (D → Prop) → Prop := fun ds k => ∃ l : Ln, ds = [l.D] ∧ l.Ok ∧ k (.lst (l.heldIn.map D.int))
theorem fn_held_in (N : Bare C) {f : Addr} {fd : FuncData} (F : Fun C.K "held_in" "held_in" sHeld f fd) (hm : C.mg "held_in" = some (.ref f)) (hb : Binds C.K fd ["line"] []) : FnD C 1 "held_in" SHeld := by
  refine fnD F hm hb scHeld (by rintro ds k ⟨l, rfl, _⟩; rfl) ?_
  rintro ds kk ⟨l, rfl, ok, hk⟩
  have hn := ok.pos
  have hn2 := ok.most
  have hh := ok.heldLen
  refine wss_seq (ws_asg (ev_var 0) (sg_3 1 2 3 scHeld.nd) (by rintro _ rfl; exact ⟨_, rfl, rfl⟩)) ?_
  refine wss_seq (ρ1 := _) (ws_set 4 scHeld.nd (ev_if (k := l.ring) (et_val (ev_var 3)) (fun _ => ev_o (eo_lst ea_nil)) fun _ => ev_o (eo_lst (ea_cons ev_int (ea_cons (ev_bin (ev_callB (ea_cons (ev_var 1) ea_nil) cd_lenT N.len) ev_int od_sub) ea_nil)))) (by rintro _ rfl; rfl)) ?_
  have e1 : (if l.ring = true then D.lst [] else D.lst [.int 0, .int (((l.cells.map D.int).length : Int) - 1)]) = .lst ((if l.ring = true then [] else [0, (l.n : Int) - 1]).map D.int) := by
    unfold Ln.n
    cases l.ring <;> simp
  rw [e1]
  refine wss_one (ws_ret (ev_o (eo_sortedSet (ns := l.held ++ (if l.ring = true then [] else [0, (l.n : Int) - 1])) (ev_o (eo_bin (ev_o (eo_callT (ea_cons (ev_var 2) ea_nil) co_listT N.list)) (ev_var 4) (oo_catL ?_))) (.inl (by rw [List.map_append])) ?_ N.sorted N.set)) ?_)
  · cases l.ring <;> simp <;> omega
  · cases l.ring <;> simp <;> omega
  · rintro _ ⟨ms, rfl, h1, h2⟩
    rw [heldIn_of ok h1 h2]
    exact hk
def SReady : List D → (D → Prop) → Prop := fun ds k => ∃ l : Ln, ds = [l.D] ∧ l.Ok ∧ k (.lst (l.ready.map fun k : Nat => D.int k))
theorem fn_ready_in (N : Bare C) (G : FnD C 1 "held_in" SHeld) (G2 : FnD C 2 "is_flanked" SFlanked) {f : Addr} {fd : FuncData} (F : Fun C.K "ready_in" "ready_in" sReady f fd) (hm : C.mg "ready_in" = some (.ref f)) (hb : Binds C.K fd ["line"] []) : FnD C 3 "ready_in" SReady := by
  refine fnD F hm hb scReady (by rintro ds k ⟨l, rfl, _⟩; rfl) ?_
  rintro ds kk ⟨l, rfl, ok, hk⟩
  have hn2 := ok.most
  refine wss_seq (ws_set 1 scReady.nd (ev_call G.to (ea_cons (ev_var 0) ea_nil) ⟨l, rfl, ok, rfl⟩) (by rintro _ rfl; rfl)) ?_
  refine wss_one (ws_ret (ev_o (eo_compM (List.range l.n) (fun k : Nat => D.int k) (fun k => l.isReady k) (fun k : Nat => D.int k) [("k", 2)]
    (ei_rangeN (n := l.n) (EvD.is (ev_callB (ea_cons (ev_ix (ev_var 0) ev_int (ixd_tup (d := .tup (l.cells.map D.int)) rfl)) ea_nil) cd_lenT N.len) (by rw [List.length_map]; rfl)) (by unfold Ln.n; omega) N.range) scReady.nd (sg_name 2 scReady.nd) (fun k hk => ?_) (by simp; unfold Ln.n; omega))) ?_)
  · have hk' := List.mem_range.mp hk
    refine ⟨_, rfl, ets_one (EvT.imp (et_w (ew_and (k := !decide ((k : Int) ∈ l.heldIn)) (k' := flankB l.cells k) (et_cmp (ev_var 2) (ev_var 1) od_niL) fun _ => ew_and1 (et_val (ev_call G2.to (ea_cons (ev_ix (ev_var 0) ev_int (ixd_tup (d := .tup (l.cells.map D.int)) rfl)) (ea_cons (ev_var 2) ea_nil)) ⟨l.cells, k, rfl, by omega, by unfold Ln.n at hk'; omega, rfl⟩)))) fun b hb => ?_), fun _ => ev_var 2⟩
    rw [hb]
    unfold Ln.isReady
    congr 2
    rw [Bool.eq_iff_iff, decide_eq_true_eq, mem_heldIn]
    exact ⟨fun h => h.2, fun h => ⟨⟨by omega, by omega⟩, h⟩⟩
  · rintro _ rfl
    exact hk
end
end FT
/-! text P3 -/
/-! P3: turned colours, swinging, validity of lines and wishes, choices. -/
namespace FT
open PySem PySem.Spec L2 DL
open PyProof.Rows hiding St
abbrev sIsWish : Stmt := topS 22
abbrev sNeedWish : Stmt := topS 23
abbrev sChoices : Stmt := topS 26
theorem scIsWish : FnScope ["many", "value", "one"] ["many", "value"] (defScope sIsWish) := ⟨rfl, rfl, rfl, by decide +kernel, rfl, by decide +kernel, by decide +kernel⟩
theorem scNeedWish : FnScope ["line", "wish"] ["line", "wish"] (defScope sNeedWish) := ⟨rfl, rfl, rfl, by decide +kernel, rfl, by decide +kernel, by decide +kernel⟩
theorem scChoices : FnScope ["line", "wish", "cell", "own", "other"] ["line", "wish", "cell"] (defScope sChoices) := ⟨rfl, rfl, rfl, by decide +kernel, rfl, by decide +kernel, by decide +kernel⟩
/-- constants of the top -/
structure Consts (C : Cfg) : Prop where
  cells : ∃ t, C.mg "MOST_CELLS" = some (.int 40 t)
  colour : ∃ t, C.mg "MOST_COLOUR" = some (.int 9 t)
  ring : ∃ t, C.mg "LEAST_RING" = some (.int 3 t)
/-- colours in which some cells have turned -/
def turnedL (c : List Int) (ks : List Nat) : List Int := ks.foldl (fun acc (k : Nat) => acc.set k (at0 c ((k : Int) - 1))) c
theorem turnedL_len (c : List Int) (ks : List Nat) : (turnedL c ks).length = c.length := by
  unfold turnedL
  suffices h : ∀ (ks : List Nat) (acc : List Int), (ks.foldl (fun acc (k : Nat) => acc.set k (at0 c ((k : Int) - 1))) acc).length = acc.length from h ks c
  intro ks
  induction ks with
  | nil => intro acc; rfl
  | cons k ks ih => intro acc; rw [List.foldl_cons, ih, List.length_set]
theorem turnedL_snoc (c : List Int) (ks : List Nat) (k : Nat) : turnedL c (ks ++ [k]) = (turnedL c ks).set k (at0 c ((k : Int) - 1)) := by
  unfold turnedL
  rw [List.foldl_append]; rfl
def Ln.swings (l : Ln) : Bool := l.ring && decide (l.ready.length = l.n)
section
variable {C : Cfg}
def STurned : List D → (D → Prop) → Prop := fun ds k => ∃ (c : List Int) (ks : List Nat), ds = [.tup (c.map D.int), .lst (ks.map fun k : Nat => D.int k)] ∧ (∀ k ∈ ks, k < c.length) ∧ c.length ≤ 1000 ∧ k (.tup ((turnedL c ks).map D.int))
theorem fn_with_turned (N : Bare C) {f : Addr} {fd : FuncData} (F : Fun C.K "with_turned" "with_turned" sTurned f fd) (hm : C.mg "with_turned" = some (.ref f)) (hb : Binds C.K fd ["cells", "some"] []) : FnD C 1 "with_turned" STurned := by
  refine fnD F hm hb scTurned (by rintro ds k ⟨c, ks, rfl, _⟩; rfl) ?_
  rintro ds kk ⟨c, ks, rfl, hin, hl, hk⟩
  refine wss_seq (ws_setO 2 scTurned.nd (eo_callT (ea_cons (ev_var 0) ea_nil) co_listT N.list) (by rintro _ rfl; rfl)) ?_
  refine wss_cons (ws_forG ks (fun k : Nat => D.int k) (fun xs ρ' => ∃ e, ρ' = [some (.v (.tup (c.map D.int))), some (.v (.lst (ks.map fun k : Nat => D.int k))), some (.o (.lst ((turnedL c xs).map D.int))), e]) (ei_list (ev_var 1)) (sg_name 3 scTurned.nd) ⟨none, rfl⟩ ?_ (fun ρ' h => h)) ?_
  · rintro i k ρ' hi ⟨e, rfl⟩
    have hkl := hin k (List.mem_of_getElem? hi)
    refine ⟨_, rfl, wss_one (ws_put 2 (ds := (turnedL c (ks.take i)).map D.int) (j := k) (ev_ix (ev_var 0) (ev_bin (ev_var 3) ev_int od_sub) (ixd_tup (atI_int (by omega) (by omega)))) (ev_var 3) (ixN_nat (by rw [List.length_map, turnedL_len]; exact hkl)) ?_)⟩
    rintro _ rfl
    exact ⟨some (.v (.int k)), by rw [turnedL_snoc, List.map_set]; rfl⟩
  · rintro ρ' ⟨e, rfl⟩
    refine wss_frz 2 (wss_one (ws_ret (ev_callT (ea_cons (ev_var 2) ea_nil) cd_tupL N.tuple) ?_))
    rintro _ rfl
    exact hk
def SSwings : List D → (D → Prop) → Prop := fun ds k => ∃ l : Ln, ds = [l.D] ∧ l.Ok ∧ k (.bl l.swings)
theorem fn_swings_in (N : Bare C) (G : FnD C 3 "ready_in" SReady) {f : Addr} {fd : FuncData} (F : Fun C.K "swings_in" "swings_in" sSwings f fd) (hm : C.mg "swings_in" = some (.ref f)) (hb : Binds C.K fd ["line"] []) : FnD C 4 "swings_in" SSwings := by
  refine fnD F hm hb scSwings (by rintro ds k ⟨l, rfl, _⟩; rfl) ?_
  rintro ds kk ⟨l, rfl, ok, hk⟩
  refine wss_one (ws_ret (ev_and (k := l.ring) (ev_ix (ev_var 0) ev_int (ixd_tup rfl)) fun _ => ev_one (ev_cmp (ev_callB (ea_cons (ev_call G.to (ea_cons (ev_var 0) ea_nil) ⟨l, rfl, ok, rfl⟩) ea_nil) cd_lenL N.len)
    (ev_callB (ea_cons (ev_ix (ev_var 0) ev_int (ixd_tup (d := .tup (l.cells.map D.int)) rfl)) ea_nil) cd_lenT N.len) od_eqI)) ?_)
  rintro _ rfl
  have e : decide (((l.ready.map fun k : Nat => D.int k).length : Int) = ((l.cells.map D.int).length : Int)) = decide (l.ready.length = l.n) := by
    rw [List.length_map, List.length_map, decide_eq_decide]
    unfold Ln.n
    omega
  rw [e]
  exact hk
/-- held, as it should be -/
def SIsCells : List D → (D → Prop) → Prop := fun ds k => ∃ (n : Nat) (h : List Int), ds = [.int n, .tup (h.map D.int)] ∧ h.length ≤ 40 ∧ (∀ x ∈ h, 0 ≤ x ∧ x < n) ∧ h.Pairwise (· < ·) ∧ k (.bl true)
theorem fn_is_cells (N : Bare C) (G : FnD C 1 "is_in" SIsIn) {f : Addr} {fd : FuncData} (F : Fun C.K "is_cells" "is_cells" sIsCells f fd) (hm : C.mg "is_cells" = some (.ref f)) (hb : Binds C.K fd ["many", "value"] []) : FnD C 2 "is_cells" SIsCells := by
  refine fnD F hm hb scIsCells (by rintro ds k ⟨l, h, rfl, _⟩; rfl) ?_
  rintro ds kk ⟨n, h, rfl, hl, hin, hasc, hk⟩
  have hf : h.filter (fun x => !(decide (0 ≤ x) && decide (x ≤ (n : Int) - 1))) = [] := by
    rw [List.filter_eq_nil_iff]
    intro x hx
    have := hin x hx
    simp only [Bool.not_eq_true', Bool.and_eq_false_iff, decide_eq_false_iff_not, not_or, Classical.not_not]
    exact ⟨this.1, by omega⟩
  refine wss_seq (ws_ifF (EvT.imp (et_w (ew_or (k := false) (k' := false)
    (EvT.imp (et_not (et_val (ev_callB (ea_cons (ev_var 1) (ea_cons (ev_ty (n := "tuple") N.tuple) ea_nil)) (cd_isi (b := true) rfl) N.isinstance))) fun b hb => by rw [hb]; rfl)
    fun _ => ew_or1 (EvT.imp (et_cmp (ev_o (eo_compM h D.int (fun x => !(decide (0 ≤ x) && decide (x ≤ (n : Int) - 1))) D.int [("x", 2)] (ei_tup (ev_var 1)) scIsCells.nd (sg_name 2 scIsCells.nd)
      (fun x hx => ⟨_, rfl, ets_one (et_not (et_val (ev_call G.to (ea_cons (ev_var 2) (ea_cons ev_int (ea_cons (ev_bin (ev_var 0) ev_int od_sub) ea_nil))) ⟨x, 0, (n : Int) - 1, rfl, rfl⟩))), fun _ => ev_var 2⟩) (by omega))) (ev_o (eo_lst ea_nil)) od_neNilI) fun b hb => by rw [hb, hf]; rfl))) fun b hb => by rw [hb]; rfl) (wss_nil rfl)) ?_
  refine wss_one (ws_ret (p := fun d => d = .bl true) (ev_cmpP (pa := (· = .lst (h.map D.int))) (pb := (· = .lst (h.map D.int))) (ev_o (eo_callT (ea_cons (ev_var 1) ea_nil) co_listT N.list)) (EvP.imp (ev_o (eo_sortedSet (ev_var 1) (.inr rfl) (by omega) N.sorted N.set)) ?_) ?_) (by rintro _ rfl; exact hk))
  · rintro _ ⟨ms, rfl, h1, h2⟩
    rw [sorted_ext h1 hasc h2]
  · rintro _ _ rfl rfl
    exact od_eqLI.is (by simp)
def SNeedLine : List D → (D → Prop) → Prop := fun ds k => ∃ l : Ln, ds = [l.D] ∧ l.Ok ∧ k .non
theorem fn_need_line (N : Bare C) (K : Consts C) (G : FnD C 1 "is_in" SIsIn) (G2 : FnD C 2 "is_cells" SIsCells) {f : Addr} {fd : FuncData} (F : Fun C.K "need_line" "need_line" sNeedLine f fd) (hm : C.mg "need_line" = some (.ref f)) (hb : Binds C.K fd ["line"] []) : FnD C 3 "need_line" SNeedLine := by
  refine fnD F hm hb scNeedLine (by rintro ds k ⟨l, rfl, _⟩; rfl) ?_
  rintro ds kk ⟨l, rfl, ok, hk⟩
  obtain ⟨t1, k1⟩ := K.cells
  obtain ⟨t2, k2⟩ := K.colour
  obtain ⟨t3, k3⟩ := K.ring
  have hl := ok.heldLen
  have hmost := ok.most
  refine wss_seq (ws_ifF (EvT.imp (et_w (ew_or (k := false) (k' := false)
    (EvT.imp (et_not (et_val (ev_callB (ea_cons (ev_var 0) (ea_cons (ev_ty (n := "tuple") N.tuple) ea_nil)) (cd_isi (b := true) rfl) N.isinstance))) fun b hb => by rw [hb]; rfl)
    fun _ => ew_or (k := false) (k' := false) (EvT.imp (et_cmp (ev_callB (ea_cons (ev_var 0) ea_nil) cd_lenT N.len) ev_int od_neI) fun b hb => by rw [hb]; rfl)
    fun _ => ew_or1 (EvT.imp (et_not (et_val (ev_callB (ea_cons (ev_ix (ev_var 0) ev_int (ixd_tup (d := .bl l.ring) rfl)) (ea_cons (ev_ty (n := "bool") N.bool) ea_nil)) (cd_isi (b := true) rfl) N.isinstance))) fun b hb => by rw [hb]; rfl))) fun b hb => by rw [hb]; rfl) (wss_nil rfl)) ?_
  refine wss_seq (ws_asg (ev_var 0) (sg_3 1 2 3 scNeedLine.nd) (by rintro _ rfl; exact ⟨_, rfl, rfl⟩)) ?_
  refine wss_seq (ws_set 4 scNeedLine.nd (EvD.is (ev_if (k := l.ring) (et_val (ev_var 3)) (fun _ => ev_globI k3) fun _ => ev_int) (show (if l.ring = true then D.int 3 else .int 1) = .int (if l.ring = true then 3 else 1) by cases l.ring <;> rfl)) (by rintro _ rfl; rfl)) ?_
  have e1 : decide ((if l.ring = true then (3 : Int) else 1) ≤ ((l.cells.map D.int).length : Int)) = true := by
    rw [List.length_map, decide_eq_true_eq]
    have h1 := ok.pos
    by_cases hr : l.ring = true
    · have := ok.ring3 hr; rw [if_pos hr]; omega
    · rw [if_neg hr]; omega
  have e2 : decide (((l.cells.map D.int).length : Int) ≤ 40) = true := by
    rw [List.length_map, decide_eq_true_eq]; omega
  refine wss_seq (ws_ifF (EvT.imp (et_w (ew_or (k := false) (k' := false)
    (EvT.imp (et_not (et_val (ev_callB (ea_cons (ev_var 1) (ea_cons (ev_ty (n := "tuple") N.tuple) ea_nil)) (cd_isi (b := true) rfl) N.isinstance))) fun b hb => by rw [hb]; rfl)
    fun _ => ew_or1 (EvT.imp (et_not (et_chain (ev_var 4) (ev_callB (ea_cons (ev_var 1) ea_nil) cd_lenT N.len) (fun _ => ev_globI k1) od_le fun _ => od_le)) fun b hb => by rw [hb, e1, e2]; rfl))) fun b hb => by rw [hb]; rfl) (wss_nil rfl)) ?_
  refine wss_cons (ws_for (fun _ ρ' => ∃ e5 e6, ρ' = [some (.v l.D), some (.v (.tup (l.cells.map D.int))), some (.v (.tup (l.held.map D.int))), some (.v (.bl l.ring)), some (.v (.int (if l.ring = true then 3 else 1))), e5, e6]) (ei_enumT (ev_var 1) N.enumerate) (sg_2 5 6 scNeedLine.nd) ⟨none, none, rfl⟩ ?_ (fun ρ' h => h)) ?_
  · rintro i ρ' d hi ⟨e5, e6, rfl⟩
    rw [enumD_get, List.getElem?_map] at hi
    cases q : l.cells[i]? with
    | none => rw [q] at hi; cases hi
    | some x =>
      rw [q] at hi; cases hi
      have hx := ok.col x (List.mem_of_getElem? q)
      refine ⟨_, rfl, wss_one (ws_ifF (EvT.imp (et_not (et_val (ev_call G.to (ea_cons (ev_var 6) (ea_cons ev_int (ea_cons (ev_globI k2) ea_nil))) ⟨x, 0, 9, rfl, rfl⟩))) fun b hb => by rw [hb]; simp; omega) (wss_nil ⟨_, _, rfl⟩))⟩
  · rintro ρ' ⟨e5, e6, rfl⟩
    refine wss_one (ws_ifF (EvT.imp (et_not (et_val (ev_call G2.to (ea_cons (ev_callB (ea_cons (ev_var 1) ea_nil) cd_lenT N.len) (ea_cons (ev_var 2) ea_nil)) ⟨l.cells.length, l.held, by rw [List.length_map], by omega, ok.hin, ok.hasc, rfl⟩))) fun b hb => by rw [hb]; rfl) (wss_nil hk))
/-- wishes -/
def wishD (w : List (Option Int)) : D := .tup (w.map optD)
structure WishOk (l : Ln) (w : List (Option Int)) : Prop where
  len : w.length = l.n
  col : ∀ x : Int, some x ∈ w → 0 ≤ x ∧ x ≤ 9
def SIsWish : List D → (D → Prop) → Prop := fun ds k => ∃ (l : Ln) (w : List (Option Int)), ds = [.int l.n, wishD w] ∧ l.Ok ∧ WishOk l w ∧ k (.bl true)
theorem fn_is_wish (N : Bare C) (K : Consts C) (G : FnD C 1 "is_in" SIsIn) {f : Addr} {fd : FuncData} (F : Fun C.K "is_wish" "is_wish" sIsWish f fd) (hm : C.mg "is_wish" = some (.ref f)) (hb : Binds C.K fd ["many", "value"] []) : FnD C 2 "is_wish" SIsWish := by
  refine fnD F hm hb scIsWish (by rintro ds k ⟨l, w, rfl, _⟩; rfl) ?_
  rintro ds kk ⟨l, w, rfl, ok, wok, hk⟩
  obtain ⟨t2, k2⟩ := K.colour
  have hl := wok.len
  have hmost := ok.most
  refine wss_seq (ws_ifF (EvT.imp (et_w (ew_or (k := false) (k' := false)
    (EvT.imp (et_not (et_val (ev_callB (ea_cons (ev_var 1) (ea_cons (ev_ty (n := "tuple") N.tuple) ea_nil)) (cd_isi (b := true) rfl) N.isinstance))) fun b hb => by rw [hb]; rfl)
    fun _ => ew_or1 (EvT.imp (et_cmp (ev_callB (ea_cons (ev_var 1) ea_nil) cd_lenT N.len) (ev_var 0) od_neI) fun b hb => by rw [hb, List.length_map, hl]; simp))) fun b hb => by rw [hb]; rfl) (wss_nil rfl)) ?_
  refine wss_one (ws_ret (ev_cmp (ev_o (EvO.is (eo_compM w optD (fun _ => false) optD [("one", 2)] (ei_tup (ev_var 1)) scIsWish.nd (sg_name 2 scIsWish.nd) (fun x hx => ⟨_, rfl, ?_, fun h => by cases h⟩) (by unfold Ln.n at hl; omega))
    (show D.lst ((w.filter fun _ => false).map optD) = .lst [] by simp))) (ev_o (eo_lst ea_nil)) (od_eqNil .nil rfl)) (by rintro _ rfl; exact hk))
  cases x with
  | none => exact ets_one (EvT.imp (et_w (ew_and (k := false) (k' := true) (et_cmp (ev_var 2) ev_non od_notN) fun h => by cases h)) fun b hb => by rw [hb]; rfl)
  | some x =>
    have hx := wok.col x hx
    exact ets_one (EvT.imp (et_w (ew_and (k := true) (k' := false) (et_cmp (ev_var 2) ev_non od_notN) fun _ => ew_and1 (EvT.imp (et_not (et_val (ev_call G.to (ea_cons (ev_var 2) (ea_cons ev_int (ea_cons (ev_globI k2) ea_nil))) ⟨x, 0, 9, rfl, rfl⟩))) fun b hb => by rw [hb]; simp; omega))) fun b hb => by rw [hb]; rfl)
def SNeedWish : List D → (D → Prop) → Prop := fun ds k => ∃ (l : Ln) (w : List (Option Int)), ds = [l.D, wishD w] ∧ l.Ok ∧ WishOk l w ∧ k .non
theorem fn_need_wish (N : Bare C) (G : FnD C 3 "need_line" SNeedLine) (G2 : FnD C 2 "is_wish" SIsWish) {f : Addr} {fd : FuncData} (F : Fun C.K "need_wish" "need_wish" sNeedWish f fd) (hm : C.mg "need_wish" = some (.ref f)) (hb : Binds C.K fd ["line", "wish"] []) : FnD C 4 "need_wish" SNeedWish := by
  refine fnD F hm hb scNeedWish (by rintro ds k ⟨l, w, rfl, _⟩; rfl) ?_
  rintro ds kk ⟨l, w, rfl, ok, wok, hk⟩
  refine wss_seq (ws_expr (ev_call (d := .non) G.to (ea_cons (ev_var 0) ea_nil) ⟨l, rfl, ok, rfl⟩) rfl) ?_
  refine wss_one (ws_ifF (EvT.imp (et_not (et_val (ev_call (d := .bl true) G2.to (ea_cons (ev_callB (ea_cons (ev_ix (ev_var 0) ev_int (ixd_tup (d := .tup (l.cells.map D.int)) rfl)) ea_nil) cd_lenT N.len) (ea_cons (ev_var 1) ea_nil)) ⟨l, w, by rw [List.length_map]; rfl, ok, wok, rfl⟩))) fun b hb => by rw [hb]; rfl) (wss_nil hk))
/-- whether a cell suits a wish, not turned and turned -/
def suit0 (l : Ln) (w : List (Option Int)) (k : Nat) : Bool := decide (w.getD k none = none ∨ w.getD k none = some (at0 l.cells k))
def suit1 (l : Ln) (w : List (Option Int)) (k : Nat) : Bool := decide (w.getD k none = none ∨ w.getD k none = some (at0 l.cells ((k : Int) - 1)))
def SChoices : List D → (D → Prop) → Prop := fun ds k => ∃ (l : Ln) (w : List (Option Int)) (i : Nat), ds = [l.D, wishD w, .int i] ∧ l.Ok ∧ WishOk l w ∧ i < l.n ∧ k (.lst [.bl (suit0 l w i), .bl (suit1 l w i)])
theorem fn_choices {f : Addr} {fd : FuncData} (F : Fun C.K "choices" "choices" sChoices f fd) (hm : C.mg "choices" = some (.ref f)) (hb : Binds C.K fd ["line", "wish", "cell"] []) : FnD C 1 "choices" SChoices := by
  refine fnD F hm hb scChoices (by rintro ds k ⟨l, w, i, rfl, _⟩; rfl) ?_
  rintro ds kk ⟨l, w, i, rfl, ok, wok, hi, hk⟩
  have hi' : i < l.cells.length := hi
  have hw : atI (w.map optD) (i : Int) = some (optD (w.getD i none)) := by
    have hl : i < w.length := by rw [wok.len]; exact hi
    rw [atI_map, atI_nat (List.getElem?_eq_getElem hl), List.getD_eq_getElem?_getD, List.getElem?_eq_getElem hl]
    rfl
  refine wss_seq (ws_par 3 4 scChoices.nd (ev_ix (ev_ix (ev_var 0) ev_int (ixd_tup (d := .tup (l.cells.map D.int)) rfl)) (ev_var 2) (ixd_tup (atI_int (by omega) (by omega))))
    (ev_ix (ev_ix (ev_var 0) ev_int (ixd_tup (d := .tup (l.cells.map D.int)) rfl)) (ev_bin (ev_var 2) ev_int od_sub) (ixd_tup (atI_int (by omega) (by omega)))) (by rintro _ _ rfl rfl; rfl)) ?_
  refine wss_one (ws_ret (ev_o (eo_lst (ea_cons (ev_cmp (ev_ix (ev_var 1) (ev_var 2) (ixd_tup hw)) (ev_tup (ea_cons ev_non (ea_cons (ev_var 3) ea_nil))) od_inOpt) (ea_cons (ev_cmp (ev_ix (ev_var 1) (ev_var 2) (ixd_tup hw)) (ev_tup (ea_cons ev_non (ea_cons (ev_var 4) ea_nil))) od_inOpt) ea_nil)))) ?_)
  rintro _ rfl
  exact hk
end
end FT
/-! text P4 -/
/-! P4: marks of a path: is_going, is_closed, sets_of. -/
namespace FT
open PySem PySem.Spec L2 DL
open PyProof.Rows hiding St
abbrev sGoing : Stmt := topS 27
abbrev sClosed : Stmt := topS 28
abbrev sSets : Stmt := topS 29
theorem scGoing : FnScope ["marks", "place", "is_ring", "must_fill"] ["marks", "place", "is_ring", "must_fill"] (defScope sGoing) := ⟨rfl, rfl, rfl, by decide +kernel, rfl, by decide +kernel, by decide +kernel⟩
theorem scClosed : FnScope ["first", "last", "is_ring", "must_fill", "around"] ["first", "last", "is_ring", "must_fill"] (defScope sClosed) := ⟨rfl, rfl, rfl, by decide +kernel, rfl, by decide +kernel, by decide +kernel⟩
theorem scSets : FnScope ["some", "is_ring", "suits", "must_fill", "rows", "place", "cell", "more", "one", "mark"] ["some", "is_ring", "suits", "must_fill"] (defScope sSets) := ⟨rfl, rfl, rfl, by decide +kernel, rfl, by decide +kernel, by decide +kernel⟩
def lastN (ms : List Int) (k : Nat) : List Int := ms.drop (ms.length - k)
abbrev tI (ms : List Int) : D := .tup (ms.map D.int)
section
variable {C : Cfg} {ρ : DEnv} {e : Expr} {pos p1 p2 p3 p4 : Pos} {j1 j2 : Nat} {ms : List Int}
theorem ev_lastI {z : Int} (k : Nat) (h : EvD C e ρ (tI ms)) (hz : z = k := by rfl) (hk : 0 < k := by decide) : EvD C (.Subscript e (.Slice (some (.UnaryOp .USub (.Constant (.int z) j1 p1) p3)) none none p2) pos) ρ (tI (lastN ms k)) := by
  subst hz
  have := ev_slT (pos := pos) (p2 := p2) h (epo_some (ev_neg (pos := p3) (ev_int (i := (k : Int)) (j := j1) (pos := p1)))) epo_none
  rwa [cutD_map, cutL_last _ _ hk] at this
theorem ev_firstI {z : Int} (k : Nat) (h : EvD C e ρ (tI ms)) (hz : z = k := by rfl) : EvD C (.Subscript e (.Slice none (some (.Constant (.int z) j1 p1)) none p2) pos) ρ (tI (ms.take k)) := by
  subst hz
  have := ev_slT (pos := pos) (p2 := p2) h epo_none (epo_some (ev_int (i := (k : Int)) (j := j1) (pos := p1)))
  rwa [cutD_map, cutL_first] at this
theorem ev_fromI {z : Int} (k : Nat) (h : EvD C e ρ (tI ms)) (hz : z = k := by rfl) : EvD C (.Subscript e (.Slice (some (.Constant (.int z) j1 p1)) none none p2) pos) ρ (tI (ms.drop k)) := by
  subst hz
  have := ev_slT (pos := pos) (p2 := p2) h (epo_some (ev_int (i := (k : Int)) (j := j1) (pos := p1))) epo_none
  rwa [cutD_map, cutL_from] at this
theorem ev_midI {z y : Int} (i k : Nat) (h : EvD C e ρ (tI ms)) (hz : z = i := by rfl) (hy : y = k := by rfl) : EvD C (.Subscript e (.Slice (some (.Constant (.int z) j1 p1)) (some (.Constant (.int y) j2 p4)) none p2) pos) ρ (tI ((ms.take k).drop i)) := by
  subst hz hy
  have := ev_slT (pos := pos) (p2 := p2) h (epo_some (ev_int (i := (i : Int)) (j := j1) (pos := p1))) (epo_some (ev_int (i := (k : Int)) (j := j2) (pos := p4)))
  rwa [cutD_map, cutL_mid] at this
theorem ev_t2 {x y : Int} {k} : EvD C (.Tuple [.Constant (.int x) j1 p1, .Constant (.int y) j2 p2] k pos) ρ (tI [x, y]) := ev_tup (ea_cons ev_int (ea_cons ev_int ea_nil))
theorem ev_t3 {x y z : Int} {k j3 : Nat} : EvD C (.Tuple [.Constant (.int x) j1 p1, .Constant (.int y) j2 p2, .Constant (.int z) j3 p3] k pos) ρ (tI [x, y, z]) := ev_tup (ea_cons ev_int (ea_cons ev_int (ea_cons ev_int ea_nil)))
end
def goingB (ms : List Int) (place : Nat) (ring fill : Bool) : Bool := if lastN ms 2 = [1, 1] then false else if fill = false then true else !decide (lastN ms 3 = [0, 0, 0]) && (ring || (!decide ((place : Int) = 1) || !decide (lastN ms 2 = [0, 0])))
def closedB (first last : List Int) (ring fill : Bool) : Bool :=
  if ring then (if ((last ++ first).take 3).drop 1 = [1, 1] then false else !fill || (!decide ((last ++ first).take 3 = [0, 0, 0]) && !decide ((last ++ first).drop 1 = [0, 0, 0])))
  else !fill || !decide (last ∈ [[0, 0], [0]])
theorem not_t {b : Bool} (h : true = !b) : b = false := by cases b <;> first | rfl | cases h
theorem not_f {b : Bool} (h : false = !b) : b = true := by cases b <;> first | rfl | cases h
section
variable {C : Cfg}
def SGoing : List D → (D → Prop) → Prop := fun ds k => ∃ (ms : List Int) (p : Nat) (r f : Bool), ds = [tI ms, .int p, .bl r, .bl f] ∧ k (.bl (goingB ms p r f))
theorem fn_is_going {f : Addr} {fd : FuncData} (F : Fun C.K "is_going" "is_going" sGoing f fd) (hm : C.mg "is_going" = some (.ref f)) (hb : Binds C.K fd ["marks", "place", "is_ring", "must_fill"] []) : FnD C 1 "is_going" SGoing := by
  refine fnD F hm hb scGoing (by rintro ds k ⟨ms, p, r, f, rfl, _⟩; rfl) ?_
  rintro ds kk ⟨ms, p, r, fl, rfl, hk⟩
  unfold goingB at hk
  refine wss_cons (M := fun ρ' => ρ' = startD ["marks", "place", "is_ring", "must_fill"] [tI ms, .int p, .bl r, .bl fl] ∧ ¬ lastN ms 2 = [1, 1]) (ws_if (p := (· = decide (lastN ms 2 = [1, 1]))) (et_cmp (ev_lastI 2 (ev_var 0)) ev_t2 (od_eqTI (ms := [1, 1]))) (fun h => ?_) fun h => wss_nil ⟨rfl, of_decide_eq_false h.symm⟩) ?_
  · have h' := of_decide_eq_true h.symm
    rw [if_pos h'] at hk
    exact wss_one (ws_ret ev_bl (by rintro _ rfl; exact hk))
  · rintro _ ⟨rfl, h1⟩
    rw [if_neg h1] at hk
    refine wss_cons (M := fun ρ' => ρ' = startD ["marks", "place", "is_ring", "must_fill"] [tI ms, .int p, .bl r, .bl fl] ∧ fl = true) (ws_if (p := (· = !fl)) (et_not (et_val (ev_var 3))) (fun h => ?_) fun h => wss_nil ⟨rfl, not_f h⟩) ?_
    · have h' : fl = false := not_t h
      rw [if_pos h'] at hk
      exact wss_one (ws_ret ev_bl (by rintro _ rfl; exact hk))
    · rintro _ ⟨rfl, h2⟩
      rw [if_neg (by rw [h2]; decide)] at hk
      refine wss_one (ws_ret (ev_and (ev_cmp (ev_lastI 3 (ev_var 0)) ev_t3 (od_neTI (ms := [0, 0, 0]))) fun _ => ev_one (ev_or (ev_var 2) fun _ => ev_or (ev_cmp (ev_var 1) ev_int od_neI) fun _ => ev_one (ev_cmp (ev_lastI 2 (ev_var 0)) ev_t2 (od_neTI (ms := [0, 0]))))) ?_)
      rintro _ rfl
      exact hk
def SClosed : List D → (D → Prop) → Prop := fun ds k => ∃ (a b : List Int) (r f : Bool), ds = [tI a, tI b, .bl r, .bl f] ∧ a.length + b.length ≤ 1000 ∧ k (.bl (closedB a b r f))
theorem fn_is_closed {f : Addr} {fd : FuncData} (F : Fun C.K "is_closed" "is_closed" sClosed f fd) (hm : C.mg "is_closed" = some (.ref f)) (hb : Binds C.K fd ["first", "last", "is_ring", "must_fill"] []) : FnD C 1 "is_closed" SClosed := by
  refine fnD F hm hb scClosed (by rintro ds k ⟨ms, p, r, f, rfl, _⟩; rfl) ?_
  rintro ds kk ⟨a, b, r, fl, rfl, hl, hk⟩
  unfold closedB at hk
  refine wss_cons (M := fun ρ' => ρ' = startD ["first", "last", "is_ring", "must_fill", "around"] [tI a, tI b, .bl r, .bl fl] ∧ r = false) (ws_if (p := (· = r)) (et_val (ev_var 2)) (fun h => ?_) fun h => wss_nil ⟨rfl, h.symm⟩) ?_
  · rw [← h] at hk
    simp only [if_true] at hk
    refine wss_seq (ws_set 4 scClosed.nd (EvD.is (ev_bin (ev_var 1) (ev_var 0) (od_catT (by simp; omega))) (show _ = tI (b ++ a) by rw [tI, List.map_append])) (by rintro _ rfl; rfl)) ?_
    refine wss_cons (M := fun ρ' => ρ' = (startD ["first", "last", "is_ring", "must_fill", "around"] [tI a, tI b, .bl r, .bl fl]).set 4 (some (.v (tI (b ++ a)))) ∧ ¬ ((b ++ a).take 3).drop 1 = [1, 1]) (ws_if (p := (· = decide (((b ++ a).take 3).drop 1 = [1, 1]))) (et_cmp (ev_midI 1 3 (ev_var 4)) ev_t2 (od_eqTI (ms := [1, 1]))) (fun h => ?_) fun h => wss_nil ⟨rfl, of_decide_eq_false h.symm⟩) ?_
    · rw [if_pos (of_decide_eq_true h.symm)] at hk
      exact wss_one (ws_ret ev_bl (by rintro _ rfl; exact hk))
    · rintro _ ⟨rfl, h1⟩
      rw [if_neg h1] at hk
      refine wss_one (ws_ret (ev_or (ev_not (ev_var 3)) fun _ => ev_one (ev_and (ev_cmp (ev_firstI 3 (ev_var 4)) ev_t3 (od_neTI (ms := [0, 0, 0]))) fun _ => ev_one (ev_cmp (ev_fromI 1 (ev_var 4)) ev_t3 (od_neTI (ms := [0, 0, 0]))))) ?_)
      rintro _ rfl
      exact hk
  · rintro _ ⟨rfl, rfl⟩
    simp only [Bool.false_eq_true, if_false] at hk
    refine wss_one (ws_ret (ev_or (ev_not (ev_var 3)) fun _ => ev_one (ev_cmp (ev_var 1) (ev_tup (ea_cons ev_t2 (ea_cons (ev_tup (ea_cons ev_int ea_nil)) ea_nil))) (od_niTT (ts := [[0, 0], [0]])))) ?_)
    rintro _ rfl
    exact hk
/-- suits as data -/
def suitsD (n : Nat) (s0 s1 : Nat → Bool) : D := .lst ((List.range n).map fun k => .lst [.bl (s0 k), .bl (s1 k)])
def smB (s0 s1 : Nat → Bool) (k : Nat) (m : Int) : Bool := if m = 1 then s1 k else s0 k
theorem suits_at {n k : Nat} (h : k < n) (s0 s1 : Nat → Bool) : atI ((List.range n).map fun k => D.lst [.bl (s0 k), .bl (s1 k)]) (k : Int) = some (.lst [.bl (s0 k), .bl (s1 k)]) := by
  rw [atI_map, atI_nat (List.getElem?_range h)]; rfl
/-- one mark more -/
def extB (s0 s1 : Nat → Bool) (ring fill : Bool) (place k : Nat) (one : List Int) (m : Int) : Bool := smB s0 s1 k m && goingB (one ++ [m]) place ring fill
def ext1 (s0 s1 : Nat → Bool) (ring fill : Bool) (place k : Nat) (one : List Int) (ms : List Int) : List (List Int) := (ms.filter (extB s0 s1 ring fill place k one)).map fun m => one ++ [m]
def stepRows (s0 s1 : Nat → Bool) (ring fill : Bool) (place k : Nat) (rows : List (List Int)) : List (List Int) := rows.flatMap fun one => ext1 s0 s1 ring fill place k one [0, 1]
def rowsF (s0 s1 : Nat → Bool) (ring fill : Bool) (ks : List Nat) : List (List Int) := (ks.foldl (fun (a : Nat × List (List Int)) k => (a.1 + 1, stepRows s0 s1 ring fill a.1 k a.2)) (0, [[]])).2
theorem rowsF_fst (s0 s1 : Nat → Bool) (ring fill : Bool) (ks : List Nat) : (ks.foldl (fun (a : Nat × List (List Int)) k => (a.1 + 1, stepRows s0 s1 ring fill a.1 k a.2)) (0, [[]])).1 = ks.length := by
  suffices h : ∀ (ks : List Nat) (a : Nat × List (List Int)), (ks.foldl (fun (a : Nat × List (List Int)) k => (a.1 + 1, stepRows s0 s1 ring fill a.1 k a.2)) a).1 = a.1 + ks.length by
    rw [h]; simp
  intro ks
  induction ks with
  | nil => intro a; rfl
  | cons k ks ih => intro a; rw [List.foldl_cons, ih, List.length_cons]; show a.1 + 1 + ks.length = _; omega
theorem rowsF_snoc (s0 s1 : Nat → Bool) (ring fill : Bool) (ks : List Nat) (k : Nat) : rowsF s0 s1 ring fill (ks ++ [k]) = stepRows s0 s1 ring fill ks.length k (rowsF s0 s1 ring fill ks) := by
  unfold rowsF
  rw [List.foldl_append, List.foldl_cons, List.foldl_nil, rowsF_fst]
theorem ext1_len (s0 s1 : Nat → Bool) (ring fill : Bool) (place k : Nat) (one : List Int) : (ext1 s0 s1 ring fill place k one [0, 1]).length ≤ 2 := by
  unfold ext1
  rw [List.length_map]
  exact Nat.le_trans (List.length_filter_le _ _) (Nat.le_refl _)
theorem stepRows_len (s0 s1 : Nat → Bool) (ring fill : Bool) (place k : Nat) : ∀ rows : List (List Int), (stepRows s0 s1 ring fill place k rows).length ≤ 2 * rows.length
  | [] => by simp [stepRows]
  | one :: rows => by
    have ih := stepRows_len s0 s1 ring fill place k rows
    have h1 := ext1_len s0 s1 ring fill place k one
    unfold stepRows at ih ⊢
    rw [List.flatMap_cons, List.length_append, List.length_cons]
    omega
theorem rowsF_len (s0 s1 : Nat → Bool) (ring fill : Bool) (ks : List Nat) : (rowsF s0 s1 ring fill ks).length ≤ 2 ^ ks.length := by
  suffices h : ∀ (n : Nat) (ks : List Nat), ks.length = n → (rowsF s0 s1 ring fill ks).length ≤ 2 ^ n from h _ ks rfl
  intro n
  induction n with
  | zero => intro ks h; cases ks with
    | nil => exact Nat.le_refl _
    | cons _ _ => cases h
  | succ n ih =>
    intro ks h
    have hne : ks ≠ [] := fun e => by rw [e] at h; cases h
    obtain ⟨k, hk⟩ : ∃ k, ks = ks.dropLast ++ [k] := ⟨_, (List.dropLast_concat_getLast hne).symm⟩
    have hl : ks.dropLast.length = n := by rw [List.length_dropLast, h]; rfl
    rw [hk, rowsF_snoc]
    have h1 := stepRows_len s0 s1 ring fill ks.dropLast.length k (rowsF s0 s1 ring fill ks.dropLast)
    have h2 := ih _ hl
    rw [Nat.pow_succ]; omega
theorem rowsF_each (s0 s1 : Nat → Bool) (ring fill : Bool) : ∀ (n : Nat) (ks : List Nat), ks.length = n → ∀ one ∈ rowsF s0 s1 ring fill ks, one.length = n
  | 0, ks, h, one, ho => by
    cases ks with
    | nil =>
      have : one = [] := by simpa [rowsF] using ho
      rw [this]; rfl
    | cons _ _ => cases h
  | n + 1, ks, h, one, ho => by
    have hne : ks ≠ [] := fun e => by rw [e] at h; cases h
    obtain ⟨k, hk⟩ : ∃ k, ks = ks.dropLast ++ [k] := ⟨_, (List.dropLast_concat_getLast hne).symm⟩
    have hl : ks.dropLast.length = n := by rw [List.length_dropLast, h]; rfl
    rw [hk, rowsF_snoc] at ho
    unfold stepRows at ho
    obtain ⟨r, hr, ho⟩ := List.mem_flatMap.mp ho
    unfold ext1 at ho
    obtain ⟨m, _, rfl⟩ := List.mem_map.mp ho
    rw [List.length_append, rowsF_each s0 s1 ring fill n _ hl r hr]; rfl
/-- all sets of a path, as marks -/
def setsF (s0 s1 : Nat → Bool) (ring fill : Bool) (ks : List Nat) : List (List Int) := (rowsF s0 s1 ring fill ks).filter fun one => closedB (one.take 2) (lastN one 2) ring fill
abbrev lN (ks : List Nat) : D := .lst (ks.map fun k : Nat => D.int k)
abbrev lT (rows : List (List Int)) : D := .lst (rows.map tI)
def SSets : List D → (D → Prop) → Prop := fun ds k => ∃ (n : Nat) (ks : List Nat) (r f : Bool) (s0 s1 : Nat → Bool), ds = [lN ks, .bl r, suitsD n s0 s1, .bl f] ∧ (∀ k ∈ ks, k < n) ∧ ks.length ≤ 12 ∧ k (lT (setsF s0 s1 r f ks))
theorem fn_sets_of (N : Bare C) (G : FnD C 1 "is_going" SGoing) (G2 : FnD C 1 "is_closed" SClosed) {f : Addr} {fd : FuncData} (F : Fun C.K "sets_of" "sets_of" sSets f fd) (hm : C.mg "sets_of" = some (.ref f)) (hb : Binds C.K fd ["some", "is_ring", "suits", "must_fill"] []) : FnD C 2 "sets_of" SSets := by
  refine fnD F hm hb scSets (by rintro ds k ⟨n, ks, r, f, s0, s1, rfl, _⟩; rfl) ?_
  rintro ds kk ⟨n, ks, r, fl, s0, s1, rfl, hin, hlen, hk⟩
  have hp : ∀ m, m ≤ 13 → 2 ^ m ≤ 8192 := fun m h => Nat.le_trans (Nat.pow_le_pow_right (by decide) h) (by decide)
  refine wss_seq (ws_setO 4 scSets.nd (eo_lst (ea_cons (ev_tup ea_nil) ea_nil)) (by rintro _ rfl; rfl)) ?_
  refine wss_frz 4 (wss_cons (ws_forG ks.zipIdx (fun p : Nat × Nat => D.tup [.int p.2, .int p.1]) (fun xs ρ' => ∃ e5 e6 e7 e8 e9, ρ' = [some (.v (lN ks)), some (.v (.bl r)), some (.v (suitsD n s0 s1)), some (.v (.bl fl)), some (.v (lT (rowsF s0 s1 r fl (xs.map (·.1))))), e5, e6, e7, e8, e9]) ?_ (sg_2 5 6 scSets.nd) ⟨_, _, _, _, _, rfl⟩ ?_ (fun ρ' h => h)) ?_)
  · exact ei_enumM (xs := ks) (f := fun k : Nat => D.int k) (ev_var 0) N.enumerate
  · rintro i ⟨k, pl⟩ ρ' hi ⟨e5, e6, e7, e8, e9, rfl⟩
    obtain ⟨rfl, hk1⟩ := zipIdx_at hi
    have hkn := hin k (List.mem_of_getElem? hk1)
    have hil : pl < ks.length := (List.getElem?_eq_some_iff.mp hk1).1
    rw [zipIdx_take]
    have e0 : (ks.zipIdx.take pl ++ [(k, pl)]).map (·.1) = ks.take pl ++ [k] := by rw [List.map_append, zipIdx_take]; rfl
    have hlen' : (ks.take pl).length = pl := by rw [List.length_take]; omega
    generalize hR : rowsF s0 s1 r fl (ks.take pl) = R
    have hRl : R.length ≤ 8192 := by
      rw [← hR]
      exact Nat.le_trans (rowsF_len ..) (hp _ (by rw [hlen']; omega))
    have hRe : ∀ one ∈ R, one.length = pl := fun one ho => rowsF_each s0 s1 r fl pl (ks.take pl) hlen' one (by rw [hR]; exact ho)
    have hfin : rowsF s0 s1 r fl (ks.take pl ++ [k]) = R.flatMap fun one => ext1 s0 s1 r fl pl k one [0, 1] := by rw [rowsF_snoc, hR, hlen']; rfl
    refine ⟨_, rfl, wss_seq (ws_setO 7 scSets.nd (eo_lst ea_nil) (by rintro _ rfl; rfl)) (wss_cons (ws_forG R tI (fun ys ρ' => ∃ e8 e9, ρ' = [some (.v (lN ks)), some (.v (.bl r)), some (.v (suitsD n s0 s1)), some (.v (.bl fl)), some (.v (lT R)), some (.v (.int pl)), some (.v (.int k)), some (.o (lT (ys.flatMap fun one => ext1 s0 s1 r fl pl k one [0, 1]))), e8, e9])
      (ei_list (ev_var 4)) (sg_name 8 scSets.nd) ⟨_, _, rfl⟩ ?_ (fun ρ' h => h)) ?_)⟩
    · rintro j one ρ' hj ⟨e8, e9, rfl⟩
      have ho := hRe one (List.mem_of_getElem? hj)
      have hjl : j < R.length := (List.getElem?_eq_some_iff.mp hj).1
      have hacc : ((R.take j).flatMap fun one => ext1 s0 s1 r fl pl k one [0, 1]).length ≤ 2 * 8192 := by
        refine Nat.le_trans (stepRows_len s0 s1 r fl pl k (R.take j)) ?_
        rw [List.length_take]; omega
      generalize hA : ((R.take j).flatMap fun one => ext1 s0 s1 r fl pl k one [0, 1]) = A at hacc ⊢
      refine ⟨_, rfl, wss_one (ws_forG ([0, 1] : List Int) D.int (fun zs ρ' => ∃ e9, ρ' = [some (.v (lN ks)), some (.v (.bl r)), some (.v (suitsD n s0 s1)), some (.v (.bl fl)), some (.v (lT R)), some (.v (.int pl)), some (.v (.int k)), some (.o (lT (A ++ ext1 s0 s1 r fl pl k one zs))), some (.v (tI one)), e9])
        (ei_tup (ev_tup (ea_cons ev_int (ea_cons ev_int ea_nil)))) (sg_name 9 scSets.nd) ⟨e9, by simp [ext1]⟩ ?_ ?_)⟩
      · rintro a m ρ' ha ⟨e9, rfl⟩
        have hm : m = 0 ∨ m = 1 := by
          have := List.mem_of_getElem? ha
          simpa using this
        generalize hz : ([0, 1] : List Int).take a = zs
        have hzl : zs.length ≤ 2 := by rw [← hz, List.length_take]; exact Nat.min_le_right _ _
        have hx : ext1 s0 s1 r fl pl k one (zs ++ [m]) = ext1 s0 s1 r fl pl k one zs ++ (if extB s0 s1 r fl pl k one m = true then [one ++ [m]] else []) := by
          unfold ext1
          rw [List.filter_append, List.map_append]
          congr 1
          by_cases q : extB s0 s1 r fl pl k one m = true
          · simp [q]
          · simp [q]
        have hel : (ext1 s0 s1 r fl pl k one zs).length ≤ 2 := by
          unfold ext1
          rw [List.length_map]
          exact Nat.le_trans (List.length_filter_le _ _) hzl
        have hcat : (D.tup (one.map D.int ++ [D.int m])) = tI (one ++ [m]) := by rw [tI, List.map_append]; rfl
        refine ⟨_, rfl, wss_one (ws_if (p := (· = extB s0 s1 r fl pl k one m)) (et_w (ew_and (k := smB s0 s1 k m) (k' := goingB (one ++ [m]) pl r fl) (et_val (ev_ix (ev_ix (ev_var 2) (ev_var 6) (ixd_lst (suits_at hkn s0 s1))) (ev_var 9) (ixd_lst ?_))) fun _ => ew_and1 (et_val (ev_call G.to (ea_cons (EvD.is (ev_bin (ev_var 8) (ev_tup (ea_cons (ev_var 9) ea_nil)) (od_catT ?_)) hcat) (ea_cons (ev_var 5) (ea_cons (ev_var 1) (ea_cons (ev_var 3) ea_nil)))) ⟨_, _, _, _, rfl, rfl⟩)))) (fun h => ?_) fun h => ?_)⟩
        · rcases hm with rfl | rfl <;> rfl
        · rw [List.length_map, ho]; simp; omega
        · refine wss_one (ws_app 7 (EvD.is (ev_bin (ev_var 8) (ev_tup (ea_cons (ev_var 9) ea_nil)) (od_catT ?_)) hcat) ?_ (ds := (A ++ ext1 s0 s1 r fl pl k one zs).map tI) ?_)
          · rw [List.length_map, ho]; simp; omega
          · rintro _ rfl
            have hlst : D.lst ((A ++ ext1 s0 s1 r fl pl k one zs).map tI ++ [tI (one ++ [m])]) = lT (A ++ ext1 s0 s1 r fl pl k one (zs ++ [m])) := by
              rw [hx, if_pos h.symm, ← List.append_assoc]
              show D.lst _ = D.lst ((A ++ ext1 s0 s1 r fl pl k one zs ++ [one ++ [m]]).map tI)
              rw [List.map_append (l₂ := [one ++ [m]])]
              rfl
            exact ⟨some (.v (.int m)), by rw [hlst]; rfl⟩
          · rw [List.length_map, List.length_append]; omega
        · exact wss_nil ⟨some (.v (.int m)), by rw [hx, if_neg (by rw [← h]; exact Bool.false_ne_true), List.append_nil]; rfl⟩
      · rintro ρ' ⟨e9, rfl⟩
        exact ⟨some (.v (tI one)), e9, by rw [List.flatMap_append, hA]; simp only [List.flatMap_cons, List.flatMap_nil, List.append_nil]⟩
    · rintro ρ' ⟨e8, e9, rfl⟩
      refine wss_frz 7 (wss_one (ws_set 4 scSets.nd (ev_var 7) ?_))
      rintro _ rfl
      exact ⟨_, _, _, _, _, by rw [e0, hfin]; rfl⟩
  · rintro ρ' ⟨e5, e6, e7, e8, e9, rfl⟩
    rw [List.zipIdx_map_fst]
    refine wss_one (ws_ret (ev_o (eo_compM (rowsF s0 s1 r fl ks) tI (fun one => closedB (one.take 2) (lastN one 2) r fl) tI [("one", 8)] (ei_list (ev_var 4)) scSets.nd (sg_name 8 scSets.nd) (fun one ho => ?_) ?_)) ?_)
    · have hol := rowsF_each s0 s1 r fl _ ks rfl one ho
      refine ⟨_, rfl, ets_one (et_val (ev_call G2.to (ea_cons (ev_firstI 2 (ev_var 8)) (ea_cons (ev_lastI 2 (ev_var 8)) (ea_cons (ev_var 1) (ea_cons (ev_var 3) ea_nil)))) ⟨_, _, _, _, rfl, ?_, rfl⟩)), fun _ => ev_var 8⟩
      rw [List.length_take, lastN, List.length_drop]; omega
    · have := rowsF_len s0 s1 r fl ks
      have := hp ks.length (by omega)
      omega
    · rintro _ rfl
      exact hk
end
end FT
/-! text P5 -/
/-! P5: stretches, insides, paths. -/
namespace FT
open PySem PySem.Spec L2 DL
open PyProof.Rows hiding St
abbrev sStretches : Stmt := topS 18
abbrev sInsides : Stmt := topS 20
abbrev sPaths : Stmt := topS 25
theorem scStretches : FnScope ["line", "ready", "many", "found", "k", "here"] ["line"] (defScope sStretches) := ⟨rfl, rfl, rfl, by decide +kernel, rfl, by decide +kernel, by decide +kernel⟩
theorem scInsides : FnScope ["line", "one"] ["line"] (defScope sInsides) := ⟨rfl, rfl, rfl, by decide +kernel, rfl, by decide +kernel, by decide +kernel⟩
theorem scPaths : FnScope ["line"] ["line"] (defScope sPaths) := ⟨rfl, rfl, rfl, by decide +kernel, rfl, by decide +kernel, by decide +kernel⟩
def prevN (n k : Nat) : Nat := (k + n - 1) % n
def castL (ks : List Nat) : List Int := ks.map fun k : Nat => (k : Int)
theorem castL_D (ks : List Nat) : (castL ks).map D.int = ks.map fun k : Nat => D.int k := by
  unfold castL; rw [List.map_map]; rfl
theorem castL_inj : ∀ {a b : List Nat}, castL a = castL b → a = b
  | [], [], _ => rfl
  | [], _ :: _, h => by cases h
  | _ :: _, [], h => by cases h
  | x :: xs, y :: ys, h => by
    simp only [castL, List.map_cons, List.cons.injEq] at h
    rw [castL_inj (show castL xs = castL ys from h.2), show x = y by omega]
theorem castL_back (ks : List Nat) : (castL ks).map Int.toNat = ks := by
  unfold castL; rw [List.map_map]
  conv => rhs; rw [← List.map_id ks]
  exact List.map_congr_left fun k _ => by simp
theorem perm_castL {us : List (List Int)} {ts : List (List Nat)} (h : us.Perm (ts.map castL)) : ∃ ss : List (List Nat), us = ss.map castL ∧ ss.Perm ts := by
  refine ⟨us.map (·.map Int.toNat), ?_, ?_⟩
  · rw [List.map_map]
    conv => lhs; rw [← List.map_id us]
    refine List.map_congr_left fun u hu => ?_
    obtain ⟨t, _, rfl⟩ := List.mem_map.mp (h.mem_iff.mp hu)
    show castL t = castL ((castL t).map Int.toNat)
    rw [castL_back]
  · have := h.map (·.map Int.toNat)
    rw [List.map_map] at this
    have e : ts.map ((fun x => x.map Int.toNat) ∘ castL) = ts := by
      conv => rhs; rw [← List.map_id ts]
      exact List.map_congr_left fun t _ => castL_back t
    rw [e] at this
    exact this
theorem prev_cast {n k : Nat} (hn : 0 < n) (hk : k < n) : ((k : Int) - 1) % (n : Int) = (prevN n k : Int) := by
  unfold prevN
  rw [Int.natCast_emod]
  have e : ((k + n - 1 : Nat) : Int) = (k : Int) - 1 + n := by omega
  rw [e, Int.add_emod_right]
theorem next_cast (n k : Nat) : ((k : Int) + 1) % (n : Int) = (((k + 1) % n : Nat) : Int) := by
  rw [Int.natCast_emod]; rfl
section
variable {C : Cfg}
theorem od_inN {k : Nat} {ks : List Nat} : OpD C (compareOp .In) (.int k) (lN ks) (· = .bl (decide (k ∈ ks))) := by
  have := od_inL (C := C) (k := (k : Int)) (ns := castL ks)
  rw [castL_D] at this
  refine this.is ?_
  congr 1
  rw [decide_eq_decide]
  unfold castL
  rw [List.mem_map]
  exact ⟨fun ⟨a, h, e⟩ => by rwa [show a = k by omega] at h, fun h => ⟨k, h, rfl⟩⟩
theorem od_niN {k : Nat} {ks : List Nat} : OpD C (compareOp .NotIn) (.int k) (lN ks) (· = .bl (!decide (k ∈ ks))) := by
  have := od_niL (C := C) (k := (k : Int)) (ns := castL ks)
  rw [castL_D] at this
  refine this.is ?_
  congr 2
  rw [decide_eq_decide]
  unfold castL
  rw [List.mem_map]
  exact ⟨fun ⟨a, h, e⟩ => by rwa [show a = k by omega] at h, fun h => ⟨k, h, rfl⟩⟩
end
/-- how many ready cells follow one another from k on -/
def runLen (l : Ln) (k : Nat) : Nat := ((List.range l.n).takeWhile fun d => decide ((k + d) % l.n ∈ l.ready)).length
def run (l : Ln) (k : Nat) : List Nat := (List.range (runLen l k)).map fun d => (k + d) % l.n
def starts (l : Ln) : List Nat := l.ready.filter fun k => !decide (prevN l.n k ∈ l.ready)
/-- the cells inside all stretches -/
def runs (l : Ln) : List (List Nat) := (starts l).map (run l)
def preS (l : Ln) (k j : Nat) : List Nat := prevN l.n k :: (List.range (j + 1)).map fun d => (k + d) % l.n
def stretch (l : Ln) (k : Nat) : List Nat := preS l k (runLen l k)
theorem takeWhile_range (p : Nat → Bool) : ∀ (n : Nat), (∀ d, d < ((List.range n).takeWhile p).length → p d = true) ∧ (((List.range n).takeWhile p).length < n → p ((List.range n).takeWhile p).length = false) ∧ ((List.range n).takeWhile p).length ≤ n := by
  intro n
  have h1 : ∀ (xs : List Nat), (∀ d (hd : d < (xs.takeWhile p).length), ∃ x, xs[d]? = some x ∧ p x = true) ∧ ((xs.takeWhile p).length < xs.length → ∃ x, xs[(xs.takeWhile p).length]? = some x ∧ p x = false) ∧ (xs.takeWhile p).length ≤ xs.length := by
    intro xs
    induction xs with
    | nil => exact ⟨fun d hd => absurd hd (by simp), fun h => absurd h (by simp), Nat.le_refl _⟩
    | cons x xs ih =>
      obtain ⟨i1, i2, i3⟩ := ih
      by_cases hp : p x = true
      · rw [List.takeWhile_cons_of_pos hp]
        refine ⟨fun d hd => ?_, fun h => ?_, by simpa using i3⟩
        · cases d with
          | zero => exact ⟨x, rfl, hp⟩
          | succ d => exact i1 d (by simpa using hd)
        · obtain ⟨y, h1, h2⟩ := i2 (by simpa using h)
          exact ⟨y, by simpa using h1, h2⟩
      · rw [List.takeWhile_cons_of_neg hp]
        exact ⟨fun d hd => absurd hd (by simp), fun _ => ⟨x, rfl, by simpa using hp⟩, Nat.zero_le _⟩
  obtain ⟨a, b, c⟩ := h1 (List.range n)
  rw [List.length_range] at b c
  refine ⟨fun d hd => ?_, fun h => ?_, c⟩
  · obtain ⟨x, h1, h2⟩ := a d hd
    rw [List.getElem?_range (by omega)] at h1
    cases h1; exact h2
  · obtain ⟨x, h1, h2⟩ := b h
    rw [List.getElem?_range h] at h1
    cases h1; exact h2
theorem mem_ready {l : Ln} {k : Nat} : k ∈ l.ready ↔ k < l.n ∧ l.isReady k = true := by
  unfold Ln.ready
  rw [List.mem_filter, List.mem_range]
/-- some cell is not ready -/
theorem not_all {l : Ln} (ok : l.Ok) (h : l.swings = false) : ∃ k, k < l.n ∧ k ∉ l.ready := by
  have hn := ok.pos
  by_cases hr : l.ring = true
  · have h1 : l.ready.length ≠ l.n := fun e => by
      unfold Ln.swings at h
      rw [hr, e] at h; simp at h
    apply Classical.byContradiction
    intro hc
    have : l.ready = List.range l.n := List.filter_eq_self.mpr fun k hk => by
      apply Classical.byContradiction
      intro h2
      exact hc ⟨k, List.mem_range.mp hk, fun hm => h2 (mem_ready.mp hm).2⟩
    rw [this, List.length_range] at h1
    exact h1 rfl
  · refine ⟨0, by unfold Ln.n; omega, fun hm => ?_⟩
    have := (mem_ready.mp hm).2
    unfold Ln.isReady Ln.isHeld at this
    have hr' : l.ring = false := by simpa using hr
    rw [hr'] at this
    simp at this
theorem runLen_lt {l : Ln} (ok : l.Ok) (h : l.swings = false) {k : Nat} (hk : k < l.n) : runLen l k < l.n := by
  obtain ⟨z, hz, hnz⟩ := not_all ok h
  apply Classical.byContradiction
  intro hge
  obtain ⟨a, _, _⟩ := takeWhile_range (fun d => decide ((k + d) % l.n ∈ l.ready)) l.n
  -- the distance from k to z
  have hd : (k + (z + l.n - k) % l.n) % l.n = z := by
    rw [Nat.add_mod_mod, show k + (z + l.n - k) = z + l.n by omega, Nat.add_mod_right, Nat.mod_eq_of_lt hz]
  have hlt : (z + l.n - k) % l.n < l.n := Nat.mod_lt _ (by omega)
  have := a ((z + l.n - k) % l.n) (Nat.lt_of_lt_of_le hlt (Nat.le_of_not_lt hge))
  rw [hd] at this
  exact hnz (of_decide_eq_true this)
theorem run_in {l : Ln} {k d : Nat} (h : d < runLen l k) : (k + d) % l.n ∈ l.ready := of_decide_eq_true ((takeWhile_range (fun d => decide ((k + d) % l.n ∈ l.ready)) l.n).1 d h)
theorem run_end {l : Ln} {k : Nat} (h : runLen l k < l.n) : (k + runLen l k) % l.n ∉ l.ready := of_decide_eq_false ((takeWhile_range (fun d => decide ((k + d) % l.n ∈ l.ready)) l.n).2.1 h)
theorem preS_succ (l : Ln) (k j : Nat) : preS l k (j + 1) = preS l k j ++ [(k + (j + 1)) % l.n] := by
  unfold preS
  rw [List.range_succ (n := j + 1), List.map_append]
  rfl
theorem preS_last (l : Ln) (k j : Nat) : ∃ a, preS l k j = a ++ [(k + j) % l.n] := by
  unfold preS
  rw [List.range_succ, List.map_append]
  exact ⟨prevN l.n k :: (List.range j).map fun d => (k + d) % l.n, rfl⟩
section
variable {C : Cfg}
def SStretches : List D → (D → Prop) → Prop := fun ds k => ∃ l : Ln, ds = [l.D] ∧ l.Ok ∧ l.swings = false ∧ ∀ ss : List (List Nat), ss.Perm ((starts l).map (stretch l)) → k (lT (ss.map castL))
theorem fn_stretches_in (N : Bare C) (G : FnD C 3 "ready_in" SReady) {f : Addr} {fd : FuncData} (F : Fun C.K "stretches_in" "stretches_in" sStretches f fd) (hm : C.mg "stretches_in" = some (.ref f)) (hb : Binds C.K fd ["line"] []) : FnD C 4 "stretches_in" SStretches := by
  refine fnD F hm hb scStretches (by rintro ds k ⟨l, rfl, _⟩; rfl) ?_
  rintro ds kk ⟨l, rfl, ok, hsw, hk⟩
  have hn := ok.pos
  have hmost := ok.most
  have hn' : 0 < l.n := hn
  refine wss_seq (ws_par 1 2 scStretches.nd (ev_call G.to (ea_cons (ev_var 0) ea_nil) ⟨l, rfl, ok, rfl⟩) (EvD.is (ev_callB (ea_cons (ev_ix (ev_var 0) ev_int (ixd_tup (d := .tup (l.cells.map D.int)) rfl)) ea_nil) cd_lenT N.len) (show _ = D.int (l.n : Int) by rw [List.length_map]; rfl)) (by rintro _ _ rfl rfl; rfl)) ?_
  refine wss_seq (ws_setO 3 scStretches.nd (eo_lst ea_nil) (by rintro _ rfl; rfl)) ?_
  refine wss_cons (ws_forG l.ready (fun k : Nat => D.int k) (fun xs ρ' => ∃ e4 e5, ρ' = [some (.v l.D), some (.v (lN l.ready)), some (.v (.int l.n)), some (.o (lT ((((xs.filter fun k => !decide (prevN l.n k ∈ l.ready)).map (stretch l))).map castL))), e4, e5]) (ei_list (ev_var 1)) (sg_name 4 scStretches.nd) ⟨_, _, rfl⟩ ?_ (fun ρ' h => h)) ?_
  · rintro i k ρ' hi ⟨e4, e5, rfl⟩
    have hkr : k ∈ l.ready := List.mem_of_getElem? hi
    have hkn : k < l.n := (mem_ready.mp hkr).1
    have hil : i < l.ready.length := (List.getElem?_eq_some_iff.mp hi).1
    have hrl : l.ready.length ≤ l.n := by
      unfold Ln.ready
      exact Nat.le_trans (List.length_filter_le _ _) (by simp)
    have hlt := runLen_lt ok hsw hkn
    generalize hA : (((l.ready.take i).filter fun k => !decide (prevN l.n k ∈ l.ready)).map (stretch l)) = A
    have hAl : A.length ≤ 40 := by
      rw [← hA, List.length_map]
      refine Nat.le_trans (List.length_filter_le _ _) ?_
      rw [List.length_take]; unfold Ln.n at hrl; omega
    refine ⟨_, rfl, wss_one (ws_if (p := (· = !decide (prevN l.n k ∈ l.ready))) (et_cmp (EvD.is (ev_bin (ev_bin (ev_var 4) ev_int od_sub) (ev_var 2) (od_mod (by omega))) (by rw [prev_cast hn' hkn])) (ev_var 1) od_niN) (fun h => ?_) fun h => wss_nil ⟨some (.v (.int k)), e5, by rw [List.filter_append, List.map_append, hA]; simp only [List.filter_cons, ← h, List.filter_nil, List.map_nil, List.append_nil, Bool.false_eq_true, if_false]; rfl⟩)⟩
    refine wss_seq (ws_setO 5 scStretches.nd (EvO.is (eo_lst (ea_cons (EvD.is (ev_bin (ev_bin (ev_var 4) ev_int od_sub) (ev_var 2) (od_mod (by omega))) (by rw [prev_cast hn' hkn])) (ea_cons (ev_var 4) ea_nil))) (show _ = D.lst ((castL (preS l k 0)).map D.int) by
      rw [castL_D]; simp [preS, Nat.mod_eq_of_lt hkn])) (by rintro _ rfl; rfl)) ?_
    refine wss_cons (M := fun ρ' => ρ' = [some (.v l.D), some (.v (lN l.ready)), some (.v (.int l.n)), some (.o (lT (A.map castL))), some (.v (.int k)), some (.o (.lst ((castL (stretch l k)).map D.int)))])
      (ws_while (fun m ρ' => ∃ j, j + m = runLen l k ∧ ρ' = [some (.v l.D), some (.v (lN l.ready)), some (.v (.int l.n)), some (.o (lT (A.map castL))), some (.v (.int k)), some (.o (.lst ((castL (preS l k j)).map D.int)))]) (runLen l k) ⟨0, by omega, rfl⟩ ?_) ?_
    · rintro m ρ' ⟨j, hj, rfl⟩
      obtain ⟨a, ha⟩ := preS_last l k j
      have hat : atI ((castL (preS l k j)).map D.int) (-1) = some (D.int (((k + j) % l.n : Nat) : Int)) := by
        rw [castL_D, ha, List.map_append]
        exact atI_last _ _
      refine ⟨_, et_cmp (ev_ixO 5 (ev_neg ev_int) hat) (ev_var 1) od_inN, fun ht => ?_, fun hf => ?_⟩
      · have hjr : j < runLen l k := by
          apply Classical.byContradiction
          intro hc
          have : j = runLen l k := by omega
          rw [this] at ht
          exact run_end hlt (of_decide_eq_true ht.symm)
        have hpl : (preS l k j).length ≤ 50 := by
          unfold preS; rw [List.length_cons, List.length_map, List.length_range]; unfold Ln.n at hlt; omega
        refine wss_one (ws_app 5 (ds := (castL (preS l k j)).map D.int) (ev_bin (ev_bin (ev_ixO 5 (ev_neg ev_int) hat) ev_int od_add) (ev_var 2) (od_mod (by omega))) ?_ (by unfold castL; rw [List.length_map, List.length_map]; omega))
        rintro _ rfl
        refine ⟨m - 1, by omega, j + 1, by omega, ?_⟩
        rw [preS_succ, next_cast, Nat.mod_add_mod, Nat.add_assoc]
        unfold castL
        rw [List.map_append, List.map_append]
        rfl
      · have hje : j = runLen l k := by
          apply Classical.byContradiction
          intro hc
          have : j < runLen l k := by omega
          exact absurd (run_in this) (of_decide_eq_false hf.symm)
        rw [hje]; rfl
    · rintro _ rfl
      refine wss_frz 5 (wss_one (ws_app 3 (ds := (A.map castL).map tI) (ev_callT (ea_cons (ev_var 5) ea_nil) cd_tupL N.tuple) ?_ (by rw [List.length_map, List.length_map]; omega)))
      rintro _ rfl
      refine ⟨some (.v (.int k)), some (.v (.lst ((castL (stretch l k)).map D.int))), ?_⟩
      rw [List.filter_append, List.map_append, hA]
      simp only [List.filter_cons, ← h, if_true, List.filter_nil, List.map_cons, List.map_nil]
      have e : lT (List.map castL A ++ [castL (stretch l k)]) = D.lst (List.map tI (List.map castL A) ++ [D.tup (List.map D.int (castL (stretch l k)))]) := by
        show D.lst (List.map tI (List.map castL A ++ [castL (stretch l k)])) = _
        rw [List.map_append]
        rfl
      rw [List.map_append]
      show _ = [some (Ent.v l.D), some (Ent.v (lN l.ready)), some (Ent.v (D.int l.n)), some (Ent.o (lT (List.map castL A ++ [castL (stretch l k)]))), some (Ent.v (D.int k)), some (Ent.v (D.lst ((castL (stretch l k)).map D.int)))]
      rw [e]
      rfl
  · rintro ρ' ⟨e4, e5, rfl⟩
    refine wss_frz 3 (wss_one (ws_ret (ev_o (eo_callB (ea_cons (ev_var 3) ea_nil) (co_sortedT ?_) N.sorted)) ?_))
    · intro t ht
      obtain ⟨s, hs, rfl⟩ := List.mem_map.mp ht
      obtain ⟨k, _, rfl⟩ := List.mem_map.mp hs
      simp [stretch, preS, castL]
    · rintro _ ⟨us, rfl, hp, _⟩
      obtain ⟨ss, rfl, hs⟩ := perm_castL hp
      exact hk ss hs
/-- the middle of a stretch -/
theorem stretch_mid (l : Ln) (k : Nat) : cutL (castL (stretch l k)) (some 1) (some (-1)) = castL (run l k) := by
  have e : stretch l k = prevN l.n k :: (run l k ++ [(k + runLen l k) % l.n]) := by
    unfold stretch preS run
    rw [List.range_succ, List.map_append]; rfl
  rw [e]
  unfold cutL castL
  rw [List.length_map, List.length_cons, List.length_append, List.length_singleton]
  rw [show HT.sIx ((run l k).length + 1 + 1) 0 (some 1) = 1 by
    rw [show (1 : Int) = ((1 : Nat) : Int) from rfl, HT.sIx_nat]; omega]
  rw [show HT.sIx ((run l k).length + 1 + 1) ((run l k).length + 1 + 1) (some (-1)) = (run l k).length + 1 from by
    rw [show (-1 : Int) = -((1 : Nat) : Int) from rfl, sIx_neg _ _ _ (by decide)]; omega]
  rw [List.map_cons, List.drop_succ_cons, List.drop_zero, Nat.add_sub_cancel, List.map_append, List.take_left' (by rw [List.length_map])]
def SInsides : List D → (D → Prop) → Prop := fun ds k => ∃ l : Ln, ds = [l.D] ∧ l.Ok ∧ l.swings = false ∧ ∀ ps : List (List Nat), ps.Perm (runs l) → k (.lst (ps.map lN))
theorem fn_insides (N : Bare C) (G : FnD C 4 "stretches_in" SStretches) {f : Addr} {fd : FuncData} (F : Fun C.K "insides" "insides" sInsides f fd) (hm : C.mg "insides" = some (.ref f)) (hb : Binds C.K fd ["line"] []) : FnD C 5 "insides" SInsides := by
  refine fnD F hm hb scInsides (by rintro ds k ⟨l, rfl, _⟩; rfl) ?_
  rintro ds kk ⟨l, rfl, ok, hsw, hk⟩
  have hmost := ok.most
  have hl : ∀ ss : List (List Nat), ss.Perm ((starts l).map (stretch l)) → ss.length ≤ 40 := fun ss hp => by
    rw [hp.length_eq, List.length_map]
    refine Nat.le_trans (List.length_filter_le _ _) ?_
    have : l.ready.length ≤ l.n := by
      unfold Ln.ready
      exact Nat.le_trans (List.length_filter_le _ _) (by simp)
    unfold Ln.n at this; omega
  refine wss_one (ws_ret (ev_o (eo_mapP (fun ss : List (List Nat) => ss.Perm ((starts l).map (stretch l))) (fun s => tI (castL s)) (fun s => .lst ((cutL (castL s) (some 1) (some (-1))).map D.int)) [("one", 1)]
    (ev_callP G.to (ea_cons (ev_var 0) ea_nil) (by rintro _ rfl; exact ⟨l, rfl, ok, hsw, fun ss hp => ⟨ss, hp, by show D.lst (List.map tI (List.map castL ss)) = _; rw [List.map_map]; rfl⟩⟩)) scInsides.nd (sg_name 1 scInsides.nd) (fun ss hp s hs => ⟨_, rfl, ev_o (eo_callT (ea_cons (EvD.is (ev_slT (ev_var 1) (epo_some ev_int) (epo_some (ev_neg ev_int))) (by rw [cutD_map])) ea_nil) co_listT N.list)⟩) (fun ss hp => by have := hl ss hp; omega))) ?_)
  rintro _ ⟨ss, hp, rfl⟩
  obtain ⟨ks, hk1, hk2⟩ : ∃ ks : List Nat, ss = ks.map (stretch l) ∧ ks.Perm (starts l) := by
    have : ∀ (ss : List (List Nat)) (ts : List Nat), ss.Perm (ts.map (stretch l)) → ∃ ks : List Nat, ss = ks.map (stretch l) ∧ ks.Perm ts := by
      intro ss
      induction ss with
      | nil =>
        intro ts h
        have := h.length_eq
        cases ts with
        | nil => exact ⟨[], rfl, .refl _⟩
        | cons _ _ => simp at this
      | cons s ss ih =>
        intro ts h
        obtain ⟨t, ht, e⟩ := List.mem_map.mp (h.mem_iff.mp (List.mem_cons_self ..))
        obtain ⟨ts1, ts2, rfl⟩ := List.append_of_mem ht
        have h2 : (s :: ss).Perm (s :: (ts1 ++ ts2).map (stretch l)) := by
          refine h.trans ?_
          rw [List.map_append, List.map_cons, List.map_append, e]
          exact List.perm_middle
        obtain ⟨ks, hk, hp⟩ := ih _ h2.cons_inv
        exact ⟨t :: ks, by rw [List.map_cons, e, hk], (hp.cons t).trans List.perm_middle.symm⟩
    exact this ss (starts l) hp
  have e : (ss.map fun s => D.lst ((cutL (castL s) (some 1) (some (-1))).map D.int)) = (ks.map (run l)).map lN := by
    rw [hk1, List.map_map, List.map_map]
    refine List.map_congr_left fun k _ =>  ?_
    show D.lst ((cutL (castL (stretch l k)) (some 1) (some (-1))).map D.int) = lN (run l k)
    rw [stretch_mid, castL_D]
  rw [e]
  exact hk _ (hk2.map _)
def SPaths : List D → (D → Prop) → Prop := fun ds k => ∃ l : Ln, ds = [l.D] ∧ l.Ok ∧ (l.swings = true → k (.tup [.lst [lN l.ready], .bl true])) ∧ (l.swings = false → ∀ ps : List (List Nat), ps.Perm (runs l) → k (.tup [.lst (ps.map lN), .bl false]))
theorem fn_paths_in (G : FnD C 3 "ready_in" SReady) (G2 : FnD C 4 "swings_in" SSwings) (G3 : FnD C 5 "insides" SInsides) {f : Addr} {fd : FuncData} (F : Fun C.K "paths_in" "paths_in" sPaths f fd) (hm : C.mg "paths_in" = some (.ref f)) (hb : Binds C.K fd ["line"] []) : FnD C 6 "paths_in" SPaths := by
  refine fnD F hm hb scPaths (by rintro ds k ⟨l, rfl, _⟩; rfl) ?_
  rintro ds kk ⟨l, rfl, ok, hk1, hk2⟩
  refine wss_cons (M := fun ρ' => ρ' = startD ["line"] [l.D] ∧ l.swings = false) (ws_if (p := (· = l.swings)) (et_val (ev_call G2.to (ea_cons (ev_var 0) ea_nil) ⟨l, rfl, ok, rfl⟩)) (fun h => ?_) fun h => wss_nil ⟨rfl, h.symm⟩) ?_
  · exact wss_one (ws_ret (ev_tup (ea_cons (ev_o (eo_lst (ea_cons (ev_call G.to (ea_cons (ev_var 0) ea_nil) ⟨l, rfl, ok, rfl⟩) ea_nil))) (ea_cons ev_bl ea_nil))) (by rintro _ rfl; exact hk1 h.symm))
  · rintro _ ⟨rfl, h⟩
    exact wss_one (ws_ret (ev_tupP (ps := fun ds => ∃ ps : List (List Nat), ps.Perm (runs l) ∧ ds = [.lst (ps.map lN), .bl false]) (ea_consP (pa := fun d => ∃ ps : List (List Nat), ps.Perm (runs l) ∧ d = .lst (ps.map lN)) (ev_callP G3.to (ea_cons (ev_var 0) ea_nil) (by rintro _ rfl; exact ⟨l, rfl, ok, h, fun ps hp => ⟨ps, hp, rfl⟩⟩)) (ea_cons ev_bl ea_nil) (by rintro _ _ ⟨ps, hp, rfl⟩ rfl; exact ⟨ps, hp, rfl⟩)) (p := fun d => ∃ ps : List (List Nat), ps.Perm (runs l) ∧ d = .tup [.lst (ps.map lN), .bl false]) (by rintro _ ⟨ps, hp, rfl⟩; exact ⟨by simp, ps, hp, rfl⟩)) (by rintro _ ⟨ps, hp, rfl⟩; exact hk2 h ps hp))
end
end FT
/-! text LK1 -/
/-! LK1: d.keys() of a dict with tuple keys, walked. -/
namespace DL
open PySem PySem.Spec L2
open PyProof.Rows hiding St
def iKeysT (td : TE) : TI := fun σ H R => td σ H fun x H1 => ∃ d o kvs, x = .ref d ∧ H1 d = some (.frz o (.dT kvs)) ∧ R (Itkt d o kvs) H1
theorem pi_keysT {X : Cx} {tg e : Expr} {td : TE} {ap cp : Pos} (pe : PE X e td) (hb : attributeBase e "keys" X.env (eval e X.env) = eval e X.env := by rfl) (hl : (ap.endLine == cp.line) = true := by rfl) : PI X tg (.Call (.Attribute e "keys" ap) [] [] cp) (iKeysT td) := ⟨fun pins s σ H R J0 hw => by
  refine wpAny_Call_method (id := "dict.keys") (T := "dict") hb rfl hl F.plainAttrs_dict F.slot_dict_keys F.type_dict_keys ?_
  refine thn (pe.run pins s σ H _ J0 hw) ?_
  rintro u s1 ⟨x, H1, J1, rx, d, o, kvs, rfl, hd, hR⟩
  obtain rfl : u = Value.ref d :=  rx
  obtain ⟨nsys, hget, hex, es, ep, hdat, hlen, ent⟩ := J1.frzT hd
  have raw : s1.heap.DictRaw d es ep := ⟨o, hget, hex, hdat⟩
  refine ⟨raw.typeIs, fun b eb => ?_, ?_⟩
  · cases eb
    exact ⟨o, hget, hex.2.1⟩
  · let vw : Obj := { cls := .type "dict_keys", data := .fields #[.ref d] }
    have J2 : Inv X pins σ H1 { s1 with heap := s1.heap.push vw } := J1.kept (t' := s1.toks) fun b ob q => Heap.get?_push_of_some vw q
    have go : wpAny (model X.prog X.w) X.A (pyIter (.ref s1.heap.objs.size)) (PIE X pins σ tg R) X.xe { s1 with heap := s1.heap.push vw } := by
      refine PySem.wpAny_pyIter_keys_raw (s := { s1 with heap := s1.heap.push vw }) (d := d) (es := es) (ep := ep) ⟨vw, Heap.get?_push_size _ rfl, rfl, rfl⟩ (raw.at fun ob q => Heap.get?_push_of_some vw q) ?_
      refine pi_one (tk := s1.toks) J2 _ (turn_keysT (kvs := kvs) _ hdat) ⟨_, Heap.get?_push_size _ rfl, rfl, ?_⟩ hR
      rw [← hlen]; rfl
    show wpAny _ _ (callWith cp (.builtin "dict.keys") [.ref d] [] []) _ X.xe s1
    exact method_meetsIn F.slot_dict_keys F.entry_dict_keys rfl (PySem.evalArgs_none ⟨rfl, raw.typeIs, F.args_dict_keys_1 _, _, PySem.meets_dict_keys_raw d nsys, ⟨es, ep, raw⟩, go⟩)⟩
/-- .. that is locked as soon as it has come -/
def iKeysTL (td : TE) : TI := fun σ H R => td σ H fun x H1 => ∃ d kvs, x = .ref d ∧ H1 d = some (.dT kvs) ∧ ∀ o, R (Itkt d o kvs) (upd H1 d (.frz o (.dT kvs)))
theorem pi_keysTL {X : Cx} {tg e : Expr} {td : TE} {ap cp : Pos} (pe : PE X e td) (hb : attributeBase e "keys" X.env (eval e X.env) = eval e X.env := by rfl) (hl : (ap.endLine == cp.line) = true := by rfl) : PI X tg (.Call (.Attribute e "keys" ap) [] [] cp) (iKeysTL td) := ⟨fun pins s σ H R J0 hw => by
  refine wpAny_Call_method (id := "dict.keys") (T := "dict") hb rfl hl F.plainAttrs_dict F.slot_dict_keys F.type_dict_keys ?_
  refine thn (pe.run pins s σ H _ J0 hw) ?_
  rintro u s1 ⟨x, H0, J00, rx, d, kvs, rfl, hd0, hR0⟩
  obtain rfl : u = Value.ref d :=  rx
  obtain ⟨o, J1⟩ := J00.lock hd0 trivial
  have hR := hR0 o
  have hd : upd H0 d (.frz o (.dT kvs)) d = some (.frz o (.dT kvs)) := upd_same
  generalize upd H0 d (.frz o (.dT kvs)) = H1 at J1 hR hd
  obtain ⟨nsys, hget, hex, es, ep, hdat, hlen, ent⟩ := J1.frzT hd
  have raw : s1.heap.DictRaw d es ep := ⟨o, hget, hex, hdat⟩
  refine ⟨raw.typeIs, fun b eb => ?_, ?_⟩
  · cases eb
    exact ⟨o, hget, hex.2.1⟩
  · let vw : Obj := { cls := .type "dict_keys", data := .fields #[.ref d] }
    have J2 : Inv X pins σ H1 { s1 with heap := s1.heap.push vw } := J1.kept (t' := s1.toks) fun b ob q => Heap.get?_push_of_some vw q
    have go : wpAny (model X.prog X.w) X.A (pyIter (.ref s1.heap.objs.size)) (PIE X pins σ tg R) X.xe { s1 with heap := s1.heap.push vw } := by
      refine PySem.wpAny_pyIter_keys_raw (s := { s1 with heap := s1.heap.push vw }) (d := d) (es := es) (ep := ep) ⟨vw, Heap.get?_push_size _ rfl, rfl, rfl⟩ (raw.at fun ob q => Heap.get?_push_of_some vw q) ?_
      refine pi_one (tk := s1.toks) J2 _ (turn_keysT (kvs := kvs) _ hdat) ⟨_, Heap.get?_push_size _ rfl, rfl, ?_⟩ hR
      rw [← hlen]; rfl
    show wpAny _ _ (callWith cp (.builtin "dict.keys") [.ref d] [] []) _ X.xe s1
    exact method_meetsIn F.slot_dict_keys F.entry_dict_keys rfl (PySem.evalArgs_none ⟨rfl, raw.typeIs, F.args_dict_keys_1 _, _, PySem.meets_dict_keys_raw d nsys, ⟨es, ep, raw⟩, go⟩)⟩
end DL
/-! text DL9 -/
/-! DL9: loops and comprehensions over d.keys(), d a dict with tuple keys. -/
namespace DL
open PySem PySem.Spec L2
open PyProof.Rows hiding St
/-- d locked in what stands -/
def lk (B : Hp) (d : Addr) (o : HO) : Hp := fun a => if a = d then some o else B a
def isDict : HO → Bool
  | .dK _ => true
  | .dT _ => true
  | _ => false
theorem OV.monoR {r : Option Addr} {G G' H H' : Hp} {a : Addr} (h : SubR G G') (e : ∀ o, H a = Option.some o → H' a = Option.some o) : ∀ {d : D}, OV r G H a d → OV r G' H' a d
  | .lst _, ⟨vs, x, y⟩ => ⟨vs, e _ x, y.monoR h⟩
  | .dI _, ⟨vs, x, k, y⟩ => ⟨vs, e _ x, k, y.monoR h⟩
  | .dT _, ⟨vs, x, k, y⟩ => ⟨vs, e _ x, k, y.monoR h⟩
  | .obj _ _, ⟨dx, fs, x, k, y⟩ => ⟨dx, fs, e _ x, k, y.monoR h⟩
  | .self _ _ _, ⟨q, dx, fs, x, k, y⟩ => ⟨q, dx, fs, e _ x, k, y.monoR h⟩
theorem subR_lock {H : Hp} {Y : Addr → Bool} {d : Addr} {u : HO} (ob : Obj) (hd : H d = some u) (yd : Y d = false) (hu : isDict u = true) : SubR (hid H Y) (hid (upd H d (.frz ob u)) Y) := by
  have rd : ∀ a v, Rd (hid H Y) a v → isDict v = true → Rd (hid (upd H d (.frz ob u)) Y) a v := fun a v e hv => by
    by_cases ha : a = d
    · subst ha
      rcases e with e | ⟨o, e⟩
      · obtain ⟨e1, e2⟩ := hid_some e
        rw [hd] at e2; cases e2
        exact .inr ⟨ob, hid_of yd upd_same⟩
      · obtain ⟨e1, e2⟩ := hid_some e
        rw [hd] at e2; cases e2; cases hu
    · rcases e with e | ⟨o, e⟩
      · obtain ⟨e1, e2⟩ := hid_some e
        exact .inl (hid_of e1 (by rw [upd_ne ha]; exact e2))
      · obtain ⟨e1, e2⟩ := hid_some e
        exact .inr ⟨o, hid_of e1 (by rw [upd_ne ha]; exact e2)⟩
  have fz : ∀ a ob' kvs, hid H Y a = some (.frz ob' (.dK kvs)) → hid (upd H d (.frz ob u)) Y a = some (.frz ob' (.dK kvs)) := fun a ob' kvs e => by
    obtain ⟨e1, e2⟩ := hid_some e
    refine hid_of e1 ?_
    rw [upd_ne (fun z => by rw [z, hd] at e2; cases e2; cases hu)]
    exact e2
  refine ⟨fun a o e _ h2 h3 => ?_, fun a kvs e => rd a _ e rfl, fun a kvs e => rd a _ e rfl, fun a ob' kvs e => fz a ob' kvs e⟩
  obtain ⟨e1, e2⟩ := hid_some e
  refine hid_of e1 ?_
  rw [upd_ne (fun z => by
    rw [z, hd] at e2; cases e2
    cases u with
    | dK k => exact h2 k rfl
    | dT k => exact h3 k rfl
    | _ => cases hu)]
  exact e2
theorem subR_unlock {H : Hp} {Y : Addr → Bool} {d : Addr} {u : HO} {ob : Obj} (hd : H d = some (.frz ob u)) (yd : Y d = false) (hu : isDict u = true) (hk : ∀ kvs, u ≠ .dK kvs) : SubR (hid H Y) (hid (upd H d u) Y) := by
  have rd : ∀ a v, Rd (hid H Y) a v → isDict v = true → Rd (hid (upd H d u) Y) a v := fun a v e hv => by
    by_cases ha : a = d
    · subst ha
      rcases e with e | ⟨o, e⟩
      · obtain ⟨e1, e2⟩ := hid_some e
        rw [hd] at e2; cases e2; cases hv
      · obtain ⟨e1, e2⟩ := hid_some e
        rw [hd] at e2; cases e2
        exact .inl (hid_of yd upd_same)
    · rcases e with e | ⟨o, e⟩
      · obtain ⟨e1, e2⟩ := hid_some e
        exact .inl (hid_of e1 (by rw [upd_ne ha]; exact e2))
      · obtain ⟨e1, e2⟩ := hid_some e
        exact .inr ⟨o, hid_of e1 (by rw [upd_ne ha]; exact e2)⟩
  have fz : ∀ a ob' kvs, hid H Y a = some (.frz ob' (.dK kvs)) → hid (upd H d u) Y a = some (.frz ob' (.dK kvs)) := fun a ob' kvs e => by
    obtain ⟨e1, e2⟩ := hid_some e
    refine hid_of e1 ?_
    rw [upd_ne (fun z => by rw [z, hd] at e2; cases e2; exact hk _ rfl)]
    exact e2
  refine ⟨fun a o e h1 h2 h3 => ?_, fun a kvs e => rd a _ e rfl, fun a kvs e => rd a _ e rfl, fun a ob' kvs e => fz a ob' kvs e⟩
  obtain ⟨e1, e2⟩ := hid_some e
  refine hid_of e1 ?_
  rw [upd_ne (fun z => by rw [z, hd] at e2; cases e2; exact h1 _ _ rfl)]
  exact e2
section
variable {C : Cfg} {B : Hp} {Z Y : Addr → Bool} {ρ : DEnv} {σ : St} {H H' : Hp} {d : Addr} {u : HO}
theorem rowAt_dict {a : Addr} (x : RowAt C H a) (hd : H d = some u ∨ ∃ ob, H d = some (.frz ob u)) (hu : isDict u = true) {o' : HO} (ha : a ≠ d) : RowAt C (upd H d o') a := by
  refine x.keep (upd_ne ha) ?_
  obtain ⟨_, _, _, _, s, _⟩ := x
  rcases s with s | s
  · refine .inr fun o _ e => ?_
    rw [upd_ne (fun z => ?_)]
    · exact e
    · rw [z] at s
      rcases s with s | ⟨ob, s⟩ <;> rcases hd with hd | ⟨ob', hd⟩ <;> rw [hd] at s <;> cases s <;> cases hu
  · exact .inl s
theorem Rl.lock (R : Rl C B Z Y ρ σ H) (ob : Obj) (hd : H d = some u) (yd : Y d = false) (hu : isDict u = true) : Rl C (lk B d (.frz ob u)) Z Y ρ σ (upd H d (.frz ob u)) := by
  have hs := subR_lock ob hd yd hu
  have ny : ∀ a, Y a = true → a ≠ d := fun a h z => by rw [z, yd] at h; cases h
  refine ⟨fun a o n e => ?_, fun a ha => rowAt_dict (R.row a ha) (.inl hd) hu (ny a (R.rowY ha)), R.rowZ, R.rowS, fun a h => ?_, R.len, fun i e h => ?_, fun i e h => ?_, R.uq, R.yI⟩
  · unfold lk at e
    by_cases ha : a = d
    · rw [if_pos ha] at e; cases e; rw [ha]; exact upd_same
    · rw [if_neg ha] at e; rw [upd_ne ha]; exact R.base a o n e
  · rw [upd_ne (ny a ((R.yI a).mpr (.inl h)))]; exact R.zOk a h
  · obtain ⟨v, e1, x⟩ := R.fz i e h
    exact ⟨v, e1, x.monoR hs⟩
  · obtain ⟨a, e1, b, z, ov⟩ := R.ow i e h
    have na := ny a ((R.yI a).mpr (.inr ⟨i, e, h, e1⟩))
    exact ⟨a, e1, by unfold lk; rw [if_neg na]; exact b, z, OV.monoR hs (fun o q => by rw [upd_ne na]; exact q) ov⟩
theorem Rl.unlock {ob : Obj} (R : Rl C (lk B d (.frz ob u)) Z Y ρ σ H) (hB : ∀ o, B d = some o → o = u) (zd : Z d = false) (hu : isDict u = true) (hk : ∀ kvs, u ≠ .dK kvs) : H d = some (.frz ob u) ∧ Y d = false ∧ Rl C B Z Y ρ σ (upd H d u) := by
  have hl : lk B d (.frz ob u) d = some (.frz ob u) := by unfold lk; rw [if_pos rfl]
  have hd : H d = some (.frz ob u) := R.base d _ (R.notRow zd) hl
  have yd : Y d = false := by
    cases q : Y d with
    | false => rfl
    | true =>
      rcases (R.yI d).mp q with z | ⟨i, e, h1, h2⟩
      · rw [zd] at z; cases z
      · obtain ⟨a, e1, b, _⟩ := R.ow i e h1
        rw [h2] at e1; cases e1
        rw [hl] at b; cases b
  have hs := subR_unlock hd yd hu hk
  have ny : ∀ a, Y a = true → a ≠ d := fun a h z => by rw [z, yd] at h; cases h
  refine ⟨hd, yd, ⟨fun a o n e => ?_, fun a ha => rowAt_dict (R.row a ha) (.inr ⟨ob, hd⟩) hu (ny a (R.rowY ha)), R.rowZ, R.rowS, fun a h => ?_, R.len, fun i e h => ?_, fun i e h => ?_, R.uq, R.yI⟩⟩
  · by_cases ha : a = d
    · subst ha; rw [hB o e]; exact upd_same
    · rw [upd_ne ha]; exact R.base a o n (by unfold lk; rw [if_neg ha]; exact e)
  · rw [upd_ne (ny a ((R.yI a).mpr (.inl h)))]; exact R.zOk a h
  · obtain ⟨v, e1, x⟩ := R.fz i e h
    exact ⟨v, e1, x.monoR hs⟩
  · obtain ⟨a, e1, b, z, ov⟩ := R.ow i e h
    have na := ny a ((R.yI a).mpr (.inr ⟨i, e, h, e1⟩))
    refine ⟨a, e1, ?_, z, OV.monoR hs (fun o q => by rw [upd_ne na]; exact q) ov⟩
    unfold lk at b; rw [if_neg na] at b; exact b
end
/-- a value that is there ahead of the evaluation: a dict with tuple keys -/
def EvX (C : Cfg) (e : Expr) (ρ : DEnv) (ds : List (List Int × D)) : Prop := ∀ X, XOk C X → ∀ B Z Y σ H, Rl C B Z Y ρ σ H → ∃ a kvs, Rd (hid H Y) a (.dT kvs) ∧ kvs.map (·.1) = ds.map (fun p => p.1.map (fun i => (Sum.inl i : Key))) ∧ DVs C.r (hid H Y) (kvs.map (·.2)) (ds.map (·.2)) ∧
  ∀ H', (∀ b o, b ≠ a → H b = some o → H' b = some o) → ∀ Q : VK, Q (.ref a) H' → WE X e σ H' Q
section
variable {C : Cfg} {ρ : DEnv} {P : Post} {tg e elt k : Expr} {ifs : List Expr} {scope : Scope} {pos ap : Pos} {ds : List (List Int × D)}
theorem ex_var (i : Nat) {x : Str} (h : ρ[i]? = some (some (.v (.dT ds))) := by rfl) (hN : C.N[i]? = some x := by rfl) (hv : Vis C.sc x := by first | exact Or.inl rfl | exact Or.inr (Or.inl rfl) | exact Or.inr (Or.inr rfl)) (hd : (x == ("__debug__" : Str)) = false := by decide)
    (hcd : (x == ("__classdict__" : Str)) = false := by decide) : EvX C (.Name x pos) ρ ds := fun X hX B Z Y σ H R => by
  obtain ⟨v, e, dv⟩ := R.fz i _ h
  cases dv with
  | @dT a kvs _ e1 hk dvs => exact ⟨a, kvs, e1, hk, dvs, fun H' _ Q q => WE.of (pe_var (by rw [← hX.N]; exact hN) (by rw [← hX.sc]; exact hv) hd hcd) ⟨_, e, q⟩⟩
/-- xs[k], both names -/
theorem ex_item (i j : Nat) {x y : Str} {xs : List D} {z : Int} {p1 p2 : Pos} (hz : atI xs z = some (.dT ds)) (h : ρ[i]? = some (some (.v (.lst xs))) := by rfl) (h2 : ρ[j]? = some (some (.v (.int z))) := by rfl) (hN : C.N[i]? = some x := by rfl) (hN2 : C.N[j]? = some y := by rfl)
    (hv : Vis C.sc x := by first | exact Or.inl rfl | exact Or.inr (Or.inl rfl) | exact Or.inr (Or.inr rfl)) (hv2 : Vis C.sc y := by first | exact Or.inl rfl | exact Or.inr (Or.inl rfl) | exact Or.inr (Or.inr rfl)) (hd : (x == ("__debug__" : Str)) = false := by decide) (hcd : (x == ("__classdict__" : Str)) = false := by decide)
    (hd2 : (y == ("__debug__" : Str)) = false := by decide) (hcd2 : (y == ("__classdict__" : Str)) = false := by decide) : EvX C (.Subscript (.Name x p1) (.Name y p2) pos) ρ ds := fun X hX B Z Y σ H R => by
  obtain ⟨v, e, dv⟩ := R.fz i _ h
  obtain ⟨w, e2, dw⟩ := R.fz j _ h2
  cases dw
  cases dv with
  | @lst p vs _ e1 dvs =>
    obtain ⟨u, hu, du⟩ := atI_dvs dvs hz
    cases du with
    | @dT a kvs _ ed hk dks =>
      refine ⟨a, kvs, ed, hk, dks, fun H' hH Q q => WE.of (pe_ix ix_list (pe_var (by rw [← hX.N]; exact hN) (by rw [← hX.sc]; exact hv) hd hcd) (pe_var (by rw [← hX.N]; exact hN2) (by rw [← hX.sc]; exact hv2) hd2 hcd2) (fun _ _ => rfl)) ⟨_, e, _, e2, p, vs, z, _, rfl, rfl, .inl (.inl (hH p _ (fun hp => ?_) (hid_some e1).2)), hu, q⟩⟩
      subst hp
      rcases ed with ed | ⟨o, ed⟩
      · rw [e1] at ed; cases ed
      · rw [e1] at ed; cases ed
theorem feeds_keysT {d : Addr} {o : Obj} {kvs : List (List Key × V)} {G : Hp} (hk : kvs.map (·.1) = ds.map (fun p => p.1.map (fun i => (Sum.inl i : Key)))) (hG : G d = some (.frz o (.dT kvs))) : Feeds C (Itkt d o kvs) (ds.map fun p => D.tup (p.1.map D.int)) G := by
  have hl := keys_len hk
  refine ⟨fun i dd Y H hi y hs => ?_, fun i Y H hi y hs => ⟨(hid_some (hs _ _ hG)).2, by rw [hl]; simpa using hi⟩⟩
  have hil : i < ds.length := by simpa using (List.getElem?_eq_some_iff.mp hi).1
  refine ⟨⟨(hid_some (hs _ _ hG)).2, by omega⟩, fun x H'' hy => ?_⟩
  obtain ⟨rfl, kk, v, q, h1, rfl, h2⟩ := hy
  rw [List.getElem?_map, List.getElem?_eq_getElem hil] at hi
  cases hi
  have e1 := congrArg (fun l => l[i]?) hk
  simp only [List.getElem?_map, h1, List.getElem?_eq_getElem hil, Option.map_some, Option.some.injEq] at e1
  rw [e1, kv_ints] at h2
  refine ⟨Ext.refl C H'', .tup (hid_of ?_ h2) (.of_ints _)⟩
  cases q' : Y q with
  | false => rfl
  | true =>
    obtain ⟨o', e', t'⟩ := y.tup q q'
    rw [h2] at e'; cases e'; cases t'
structure KeysM (e : Expr) (ap pos : Pos) : Prop where
  base : ∀ env, attributeBase e "keys" env (eval e env) = eval e env
  line : (ap.endLine == pos.line) = true
/-- the two ways: the dict is locked already, or it is locked for the while -/
theorem keys_ways {X : Cx} {B : Hp} {Z Y : Addr → Bool} {σ : St} {H : Hp} (hX : XOk C X) (R : Rl C B Z Y ρ σ H) (h : EvX C e ρ ds) (m : KeysM e ap pos) :
    (∀ RR : It → Hp → Prop, (∀ J H1, Ext C H H1 → Feeds C J (ds.map fun p => D.tup (p.1.map D.int)) (hid H1 Y) → RR J H1) → WI X tg (.Call (.Attribute e "keys" ap) [] [] pos) σ H RR) ∨
    (∃ a kvs, H a = some (.dT kvs) ∧ Y a = false ∧ ∀ od, ∀ RR : It → Hp → Prop, (∀ J H1, Ext C (upd H a (.frz od (.dT kvs))) H1 → Feeds C J (ds.map fun p => D.tup (p.1.map D.int)) (hid H1 Y) → RR J H1) → WI X tg (.Call (.Attribute e "keys" ap) [] [] pos) σ (upd H a (.frz od (.dT kvs))) RR) := by
  obtain ⟨a, kvs, rd, hk, dvs, ev⟩ := h X hX B Z Y σ H R
  rcases rd with rd | ⟨ob, rd⟩
  · obtain ⟨ya, ha⟩ := hid_some rd
    refine .inr ⟨a, kvs, ha, ya, fun od RR hR => WI.of (pi_keysT pe_we (m.base _) m.line) (ev _ (fun b o hb e => by rw [upd_ne hb]; exact e) _ ⟨a, od, kvs, rfl, upd_same, hR _ _ (Ext.refl C _) (feeds_keysT hk (hid_of ya upd_same))⟩)⟩
  · obtain ⟨ya, ha⟩ := hid_some rd
    exact .inl fun RR hR => WI.of (pi_keysT pe_we (m.base _) m.line) (ev _ (fun b o hb e => e) _ ⟨a, ob, kvs, rfl, ha, hR _ _ (Ext.refl C _) (feeds_keysT hk rd)⟩)
/-- for x in d.keys(): .. -/
theorem ws_forKT {body : List Stmt} {sl : List Nat} {g : D → DEnv → Option DEnv} (Iv : Nat → DEnv → Prop) (h : EvX C e ρ ds) (hg : StG C tg sl g) (h0 : Iv 0 ρ)
    (hs : ∀ (i : Nat) (ρ' : DEnv) (p : List Int × D), ds[i]? = some p → Iv i ρ' → ∃ ρ'', g (.tup (p.1.map D.int)) ρ' = some ρ'' ∧ WSs C body ρ'' { nx := Iv (i + 1), ct := Iv (i + 1), bk := P.nx, rt := P.rt }) (hd : ∀ ρ', Iv ds.length ρ' → P.nx ρ')
    (m : KeysM e ap pos) {spos : Pos} (hfs : ∀ env x, foldedSetIterable (.Call (.Attribute e "keys" ap) [] [] pos) env x = pure x := by intro _ _; rfl) : WS C (.For tg (.Call (.Attribute e "keys" ap) [] [] pos) body [] spos) ρ P := fun X hX B Z Y σ H R Dn L => by
  have hs' : ∀ (i : Nat) (ρ' : DEnv) (d : D), (ds.map fun p => D.tup (p.1.map D.int))[i]? = some d → Iv i ρ' → ∃ ρ'', g d ρ' = some ρ'' ∧ WSs C body ρ'' { nx := Iv (i + 1), ct := Iv (i + 1), bk := P.nx, rt := P.rt } := fun i ρ' d hi iv => by
    rw [List.getElem?_map] at hi
    cases q : ds[i]? with
    | none => rw [q] at hi; cases hi
    | some p => rw [q] at hi; cases hi; exact hs i ρ' p q iv
  have hd' : ∀ ρ', Iv (ds.map fun p => D.tup (p.1.map D.int)).length ρ' → P.nx ρ' := fun ρ' iv => hd ρ' (by simpa using iv)
  have pf : PS X (.For tg (.Call (.Attribute e "keys" ap) [] [] pos) body [] spos) (tFor (WI X tg (.Call (.Attribute e "keys" ap) [] [] pos)) (WG X tg) (WSts X body)) := ps_for (by rw [hX.xe]; exact PassesOwn.never) hX.calm pi_wi pg_wg pss_wsts (hfs _)
  rcases keys_ways (tg := tg) hX R h m with hw | ⟨a, kvs, ha, ya, hw⟩
  · exact WSt.of pf (for_core Iv hX R hw hg h0 hs' hd' L)
  · have za : Z a = false := by
      cases q : Z a with
      | false => rfl
      | true => rw [(R.yI a).mpr (.inl q)] at ya; cases ya
    have hB : ∀ o, B a = some o → o = .dT kvs := fun o e => by
      have := R.base a o (R.notRow za) e
      rw [ha] at this; cases this; rfl
    refine WSt.of (ps_lock pf) ⟨a, .dT kvs, ha, trivial, fun od => for_core Iv hX (R.lock od ha ya rfl) (hw od) hg h0 hs' hd' ⟨fun Y' ρ' σ' H' p R' => ?_, fun Y' ρ' σ' v d H' p R' dv => ?_, fun Y' ρ' σ' H' p R' => ?_, fun Y' ρ' σ' H' p R' => ?_⟩⟩
    · obtain ⟨e1, _, R2⟩ := R'.unlock hB za rfl (fun _ z => nomatch z)
      exact ⟨e1, L.nx Y' ρ' σ' _ p R2⟩
    · obtain ⟨e1, y1, R2⟩ := R'.unlock hB za rfl (fun _ z => nomatch z)
      exact ⟨e1, L.rt Y' ρ' σ' v d _ p R2 (dv.monoR (subR_unlock e1 y1 rfl (fun _ z => nomatch z)))⟩
    · obtain ⟨e1, _, R2⟩ := R'.unlock hB za rfl (fun _ z => nomatch z)
      exact ⟨e1, L.bk Y' ρ' σ' _ p R2⟩
    · obtain ⟨e1, _, R2⟩ := R'.unlock hB za rfl (fun _ z => nomatch z)
      exact ⟨e1, L.ct Y' ρ' σ' _ p R2⟩
/-- a new dict, locked from then on -/
theorem ei_keysTN (h : EvO C e ρ (· = .dT ds)) (m : KeysM e ap pos) : EvI C tg (.Call (.Attribute e "keys" ap) [] [] pos) ρ (ds.map fun p => D.tup (p.1.map D.int)) := fun X hX B Z Y σ H R RR hR => by
  refine WI.of (pi_keysTL pe_we (m.base _) m.line) (h X hX B Z Y σ H R _ fun a d H1 hd hn x1 ov => ?_)
  subst hd
  obtain ⟨kvs, ha, hk, dvs⟩ := ov
  have ya : Y a = false := R.freshY hn
  refine ⟨a, kvs, rfl, ha, fun o => hR _ _ ⟨fun b u n e => ?_, fun hrow b hb => ?_⟩ (feeds_keysT hk (hid_of ya upd_same))⟩
  · rw [upd_ne (ne_of_none e hn)]; exact x1.1 b u n e
  · exact rowAt_dict (x1.2 hrow b hb) (.inl ha) rfl fun z => by rw [← z, R.rowY hb] at ya; cases ya
end
end DL
/-! text LK2 -/
/-! LK2: a display with one tuple key; a dict against an empty dict. -/
namespace DL
open PySem PySem.Spec L2
open PyProof.Rows hiding St
section
variable {X : Cx}
/-- {k: v}, k a tuple of ints and texts -/
def tDisp1 (tk tv : TE) : TE := fun σ H Q => ∀ p, H p = none → tPairs [(tk, tv)] σ (upd H p (.dT [])) fun ps H2 => ∃ x y, ps = [(x, y)] ∧ H2 p = some (.dT []) ∧ ∃ b ks, x = .ref b ∧ H2 b = some (.tup (ks.map kV)) ∧ Q (.ref p) (upd H2 p (.dT [(ks, y)]))
theorem pe_disp1 {k v : Expr} {pos : Pos} {tk tv : TE} (hu : X.A.units < cLine) (hk : PE X k tk) (hv : PE X v tv) : PE X (.Dict [some k] [v] pos) (tDisp1 tk tv) := ⟨fun pins s σ H Q I q => by
  have free := I.hok.fresh (Nat.le_refl s.heap.objs.size)
  have I1 := I.laid (a := s.heap.objs.size) (o := .dT []) (h' := s.heap.push { cls := .type "dict", data := .dict #[] }) (t' := s.toks) (fun b ob e => Heap.get?_push_of_some _ e) (Nat.le_refl _) (dt_empty s.heap I.big)
  rw [arm_eval_Dict, zip_pairTrees [some k] [v] X.env pos rfl rfl, dictDisplay_pairs _ (by simp [pairTrees]) (by simp [pairTrees])]
  refine wpAny_bind (wpAny_standAt (wpAny_bind (wpAny_subDictH (knd := tupleKind (mixKind X.prog X.w)) (show X.A.units < cLine from hu) (by simp [pairTrees]) ?_)))
  refine thn ((pps_cons hk hv pps_nil).run pins _ σ _ _ I1 (q _ free)) ?_
  rintro ws s2 ⟨ps, H2, I2, rel, x, y, rfl, e0, b, ks, rfl, eb, q2⟩
  cases rel with
  | @cons _ w _ _ r t =>
    cases t
    obtain ⟨w1, w2⟩ := w
    obtain ⟨r1, r2⟩ := r
    have e1 : w1 = Value.ref b := r1
    subst e1
    obtain ⟨z0, nsys, xs0, pr0, dd0⟩ := dt_of I2.hok e0
    cases pr0
    refine ⟨[(ks, b, w2)], ⟨rfl, rfl, key_of I2.hok eb, trivial⟩, dd0, fun h' tk' dd' sb => wpAny_pure ?_⟩
    obtain ⟨ob, es, ep, ho, hx, hdat, hes, _, hnd⟩ := dd'
    refine ⟨V.ref s.heap.objs.size, _, d_write (t' := tk') I2 (by rw [e0]; exact True.intro) sb ⟨ob, ho⟩ ?_, rfl, q2⟩
    refine ⟨by show 1 ≤ sizeLine; decide, nsys, [(ks, b, w2)], .cons ⟨rfl, ?_, r2⟩ .nil, ob, es, ep, ho, hx, hdat, hes, hnd⟩
    rw [upd_ne (ne_of eb e0 (fun z => nomatch z))]
    exact eb⟩
/-! ### d == {} -/
theorem same_empty {prog : Program} {w : World} {A : Around} {E : Value → Shared → Prop} {s : Shared} {nm : String} {a b : Addr} {es es' : Array DictEntry} {ep ep' : Nat} {Q : Bool → Shared → Prop} (ha : (a == sysModules) = false) (hb : (b == sysModules) = false)
    (da : s.heap.DictRaw a es ep) (db : s.heap.DictRaw b es' ep') (h0 : es'.size = 0) (h : Q (decide (es.size = 0)) s) : wpAny (model prog w) A (Builtin.Dict.samePairs nm a b) Q E s := by
  obtain ⟨oa, hoa, _, hda⟩ := da
  obtain ⟨ob, hob, _, hdb⟩ := db
  have na : ¬ (a == sysModules) = true := by simp [ha]
  have nb : ¬ (b == sysModules) = true := by simp [hb]
  unfold Builtin.Dict.samePairs  Builtin.Dict.showsAll
  rw [if_neg na, if_neg nb]
  refine wpAny_bind (wpAny_pure (wpAny_bind (wpAny_pure (wpAny_bind (wpAny_dictEntries hoa hda ?_)))))
  dsimp only
  refine wpAny_bind (wpAny_dictEntries hob hdb  ?_)
  by_cases hz : es.size = 0
  · rw [if_neg (by simp [hz, h0])]
    refine wpAny_bind (wpAny_dictEpoch hoa hda  ?_)
    rw [hz] at h ⊢
    refine wpAny_bind ?_
    rw  [Std.Legacy.Range.forIn_eq_forIn_range']
    simp only [Std.Legacy.Range.size, Nat.sub_zero, Nat.add_sub_cancel, Nat.div_one, List.range'_zero, List.forIn_nil]
    exact wpAny_pure (wpAny_pure  h)
  · rw [if_pos (by simp [hz, h0])]
    rw [decide_eq_false hz] at h
    exact wpAny_bind (wpAny_rule (wpAny_pure  h))
theorem dict_raw {K : PySem.W.Frag} {P : Program} {w : World} {H : Hp} {h : Heap} {d : Addr} {kvs : List (List Key × V)} (ok : HOk P w H h) (e : Rd H d (.dT kvs)) : (d == sysModules) = false ∧ ∃ es ep, h.DictRaw d es ep ∧ es.size = kvs.length := by
  obtain ⟨_, hs, xs, pr, o, es, ep, ho, hx, hd, he, _⟩ := dt_rd ok e
  exact ⟨hs, es, ep, ⟨o, ho, hx, hd⟩, by rw [size_of_entries he]; exact (Paired.length pr).symm⟩
def rEqE : R2 := fun x y H Q => ∃ a b kvs, x = .ref a ∧ y = .ref b ∧ Rd H a (.dT kvs) ∧ Rd H b (.dT []) ∧ Q (.bl kvs.isEmpty) H
theorem op_eqE (hu : X.A.units < cLine) : OpR X (compareOp .Eq) rEqE := by
  rintro pins s σ H x y v u Q I rx ry ⟨a, b, kvs, rfl, rfl, ea, eb, q⟩
  obtain rfl : v = Value.ref a :=  rx
  obtain rfl : u = Value.ref b :=  ry
  obtain ⟨na, es, ep, da, la⟩ := dict_raw (K := X.K) I.hok ea
  obtain ⟨nb, es', ep', db, lb⟩ := dict_raw (K := X.K) I.hok eb
  have tA := da.typeIs (s := s)
  have tB := db.typeIs (s := s)
  have fin : EP X pins σ Q (.bool (decide (es.size = 0))) s := ⟨.bl kvs.isEmpty, H, I, by
    show Value.bool _ = Value.bool _
    rw [la]
    cases kvs <;> rfl, q⟩
  have tree : ∀ R : Fin → Shared → Prop, R (.done (.ret (.bool (decide (es.size = 0))))) s → wpAny (model X.prog X.w) X.A.in1 (Builtin.«dict.__eq__» ⟨[.ref a, .ref b], []⟩) R X.xe s := fun R hR => by
    show wpAny _ _ (Builtin.Dict.dictSlotArgs "__eq__" ⟨[.ref a, .ref b], []⟩ >>= _) R _ s
    refine wpAny_bind (m := Builtin.Dict.dictSlotArgs "__eq__" ⟨[.ref a, .ref b], []⟩) ?_
    unfold  Builtin.Dict.dictSlotArgs
    refine wpAny_bind (wpAny_notOrdered_dict tA (wpAny_pure ?_))
    refine (wpAny_bind (wpAny_isInstance (T := "dict") tB PySem.F.sub_dict_dict ?_))
    simp only [Bool.not_true, Bool.false_eq_true,  if_false]
    refine wpAny_bind (wpAny_pure (wpAny_bind (wpAny_pure (wpAny_bind (same_empty na nb da db lb (wpAny_pure ?_))))))
    simpa using hR
  exact wpAny_richCompare_same_room (op := .Eq) tA tB PySem.F.slot_dict_eq (wpAny_call_entry PySem.F.slot_dict_eq tA PySem.F.entry_dict_eq (tree _ ⟨_, rfl, (fun z => nomatch z), fin⟩) (PySem.F.args_dict_eq_2 _ _)) hu
end
end DL
/-! text DL10 -/
/-! DL10: tuple-keyed displays, d == {}, comprehensions over d.keys(), four targets. -/
namespace DL
open PySem PySem.Spec L2
open PyProof.Rows hiding St
section
variable {C : Cfg} {ρ : DEnv} {P : Post} {tg e elt k v : Expr} {ifs : List Expr} {scope : Scope} {pos ap : Pos} {ds : List (List Int × D)}
theorem od_eqET : OpD C (compareOp .Eq) (.dT ds) (.dT []) (· = .bl ds.isEmpty) := fun X hX Y H u v Q y du dv hQ => by
  cases du with
  | @dT a kvs _ e1 hk _ =>
    cases dv with
    | @dT b kvs' _ e2 hk' _ =>
      have l1 := keys_len hk
      have l2 := keys_len hk'
      have e0 : kvs' = [] := List.length_eq_zero_iff.mp (by simpa using l2)
      subst e0
      refine ⟨_, op_eqE hX.room.units0, a, b, kvs, rfl, rfl, (hid_le H Y).rd e1, (hid_le H Y).rd e2, ?_⟩
      have : kvs.isEmpty = ds.isEmpty := by cases kvs <;> cases ds <;> simp_all
      rw [this]
      exact hQ _ _ H rfl (Ext.refl C H) (.bl _)
theorem eo_disp1 {ns : List Int} {z : D} (hk : EvD C k ρ (.tup (ns.map D.int))) (hv : EvD C v ρ z) : EvO C (.Dict [some k] [v] pos) ρ (· = .dT [(ns, z)]) := fun X hX B Z Y σ H R Q hQ => by
  refine WE.of (pe_disp1 hX.room.units0 pe_we pe_we) fun p hp => ?_
  obtain ⟨R1, hB, hZ⟩ := R.pend (Ext.new (o := .dT []) hp) hp upd_same rfl
  have np : some p ≠ C.r := R.notRow hZ
  refine hk X hX B _ _ σ _ R1 _ fun x d H1 hd x1 dx => ?_
  subst hd
  refine hv X hX B _ _ σ H1 (R1.ext x1) _ fun y d H2 hd x2 dy => ?_
  subst hd
  have R2 := (R1.ext x1).ext x2
  have dx' := dx.mono ((R1.ext x1).sub x2)
  have ep : H2 p = some (.dT []) := (x1.trans x2).1 p _ np upd_same
  cases dx' with
  | @tup b vs _ eb dvs =>
    have eb' : H2 b = some (.tup ((ns.map fun i => (Sum.inl i : Key)).map kV)) := by
      rw [kv_ints, ← dvs.ints]; exact (hid_some eb).2
    have R3 := R2.pendmut (o := .dT [(ns.map fun i => (Sum.inl i : Key), y)]) R.rr hB hZ rfl
    refine ⟨.ref b, y, rfl, ep, b, _, rfl, eb', hQ p _ _ rfl hp ⟨fun a o n ea => ?_, fun _ => R3.row⟩ ⟨_, upd_same, rfl, .cons (dy.mono (hid_sub (fun a o q ea => ?_) fun _ _ _ h => h)) .nil⟩⟩
    · have na : a ≠ p := ne_of_none ea hp
      rw [upd_ne na]
      exact (x1.trans x2).1 a o n (by rw [upd_ne na]; exact ea)
    · rw [upd_ne (fun q' => by rw [q', hidY_iff.mpr (.inr rfl)] at q; cases q)]; exact ea
/-- [.. for x in d.keys() ..], d there already -/
theorem eo_compKT {own : List (Str × Nat)} {Iv : Nat → List D → Prop} {p : D → Prop} (h : EvX C e ρ ds) (hnd : C.N.Nodup) (m : KeysM e ap pos) {cpos : Pos} (T : Turns C scope tg elt ifs own ρ (ds.map fun p => D.tup (p.1.map D.int)) Iv) (h0 : Iv 0 []) (hlen : ds.length ≤ 100000) (hd : ∀ acc, Iv ds.length acc → p (.lst acc))
    (ok : blkC C.N C.sc scope own = true := by first | decide +kernel | kernel_rfl) (hs : ∀ env x, foldedSetIterable (.Call (.Attribute e "keys" ap) [] [] pos) env x = pure x := by intro _ _; rfl) : EvO C (.ListComp elt [⟨tg, .Call (.Attribute e "keys" ap) [] [] pos, ifs, 0⟩] scope cpos) ρ p := fun X hX B Z Y σ H R Q hQ => by
  have hl' : (ds.map fun p => D.tup (p.1.map D.int)).length = ds.length := by simp
  have pc := pe_comp (X := X) (elt := elt) (tg := tg) (it := .Call (.Attribute e "keys" ap) [] [] pos) (ifs := ifs) (scope := scope) (own := own) (pos := cpos) hX hnd ok hs
  rcases keys_ways (tg := tg) hX R h m with hw | ⟨a, kvs, ha, ya, hw⟩
  · exact WE.of pc (comp_core (I := (· = ds.map fun p => D.tup (p.1.map D.int))) (IV := fun _ => Iv) hX R (fun RR hh => hw RR fun J H1 x fd => hh J H1 _ rfl x fd) (by rintro _ rfl; exact T) (by rintro _ rfl; exact h0) (by rintro _ rfl; rw [hl']; exact hlen) (by rintro _ rfl; rw [hl']; exact hd) hQ)
  · have na : some a ≠ C.r := R.notRowY ya
    refine WE.of (pe_lock pc) ⟨a, .dT kvs, ha, trivial, fun od => comp_core (I := (· = ds.map fun p => D.tup (p.1.map D.int))) (IV := fun _ => Iv) hX (R.lock od ha ya rfl) (fun RR hh => hw od RR fun J H1 x fd => hh J H1 _ rfl x fd) (by rintro _ rfl; exact T) (by rintro _ rfl; exact h0) (by rintro _ rfl; rw [hl']; exact hlen) (by rintro _ rfl; rw [hl']; exact hd) fun L d H' pd hL x1 ov => ?_⟩
    have nLa : L ≠ a := fun z => by rw [z, upd_same] at hL; cases hL
    rw [upd_ne nLa] at hL
    have e1 : H' a = some (.frz od (.dT kvs)) := x1.1 a _ na upd_same
    have yL : hidY Y L a = false := by
      cases q : hidY Y L a with
      | false => rfl
      | true =>
        rcases hidY_iff.mp q with z | z
        · rw [ya] at z; cases z
        · exact absurd z.symm nLa
    refine ⟨e1, hQ L d _ pd hL ⟨fun b o n eb => ?_, fun hrow b hb => ?_⟩ (OV.monoR (subR_unlock e1 yL rfl (fun _ z => nomatch z)) (fun o q => by rw [upd_ne nLa]; exact q) ov)⟩
    · by_cases hb : b = a
      · subst hb; rw [ha] at eb; cases eb; exact upd_same
      · rw [upd_ne hb]; exact x1.1 b o n (by rw [upd_ne hb]; exact eb)
    · have nb : b ≠ a := fun z => by rw [← z, R.rowY hb] at ya; cases ya
      exact rowAt_dict (x1.2 (fun c hc => rowAt_dict (hrow c hc) (.inl ha) rfl fun z => by rw [← z, R.rowY hc] at ya; cases ya) b hb) (.inr ⟨od, e1⟩) rfl nb
/-- a, b, c, d = e1, e2, e3, e4, the last one a new container -/
theorem ws_t4 (i1 i2 i3 i4 : Nat) {x1 x2 x3 x4 : Str} {e1 e2 e3 e4 : Expr} {q1 q2 q3 q4 tp vp : Pos} {kt kv : Nat} {d1 d2 d3 d4 : D} (hnd : C.N.Nodup) (h1 : EvD C e1 ρ d1) (h2 : EvD C e2 ρ d2) (h3 : EvD C e3 ρ d3) (h4 : EvO C e4 ρ (· = d4))
    (hp : P.nx ((((ρ.set i1 (some (.v d1))).set i2 (some (.v d2))).set i3 (some (.v d3))).set i4 (some (.o d4)))) (hN1 : C.N[i1]? = some x1 := by rfl) (hN2 : C.N[i2]? = some x2 := by rfl) (hN3 : C.N[i3]? = some x3 := by rfl) (hN4 : C.N[i4]? = some x4 := by rfl)
    (hl1 : LocC C x1 := by first | exact Or.inl rfl | exact Or.inr ⟨rfl, rfl⟩) (hl2 : LocC C x2 := by first | exact Or.inl rfl | exact Or.inr ⟨rfl, rfl⟩) (hl3 : LocC C x3 := by first | exact Or.inl rfl | exact Or.inr ⟨rfl, rfl⟩) (hl4 : LocC C x4 := by first | exact Or.inl rfl | exact Or.inr ⟨rfl, rfl⟩)
    (hs : ∀ (pos : Pos) (env : Env), swapsWithSole [.Tuple [.Name x1 q1, .Name x2 q2, .Name x3 q3, .Name x4 q4] kt tp] (.Tuple [e1, e2, e3, e4] kv vp) pos.line env = pure false := by intro _ _; rfl) (hw : ∀ env : Env, swappedStores [.Tuple [.Name x1 q1, .Name x2 q2, .Name x3 q3, .Name x4 q4] kt tp] (.Tuple [e1, e2, e3, e4] kv vp) env = pure none := by intro _; rfl)
    (st1 : ∀ env, starEach [e1, e2, e3, e4] env = (false, eval e1 env) :: starEach [e2, e3, e4] env := by intro _; rfl) (st2 : ∀ env, starEach [e2, e3, e4] env = (false, eval e2 env) :: starEach [e3, e4] env := by intro _; rfl) (st3 : ∀ env, starEach [e3, e4] env = (false, eval e3 env) :: starEach [e4] env := by intro _; rfl) (st4 : ∀ env, starEach [e4] env = (false, eval e4 env) :: starEach [] env := by intro _; rfl) :
    WS C (.Assign [.Tuple [.Name x1 q1, .Name x2 q2, .Name x3 q3, .Name x4 q4] kt tp] (.Tuple [e1, e2, e3, e4] kv vp) pos) ρ P := fun X hX B Z Y σ H R Dn L => by
  have nd : X.N.Nodup := by rw [← hX.N]; exact hnd
  obtain ⟨a1, b1⟩ := hX.loc hl1
  obtain ⟨a2, b2⟩ := hX.loc hl2
  obtain ⟨a3, b3⟩ := hX.loc hl3
  obtain ⟨a4, b4⟩ := hX.loc hl4
  refine WSt.of (ps_asg (pe_tup (pa_cons pe_we (pa_cons pe_we (pa_cons pe_we (pa_cons pe_we pa_nil (st4 _)) (st3 _)) (st2 _)) (st1 _))) (pg_tup hX.calm (pgs_cons (pg_name nd (by rw [← hX.N]; exact hN1) a1 b1) (pgs_cons (pg_name nd (by rw [← hX.N]; exact hN2) a2 b2) (pgs_cons (pg_name nd (by rw [← hX.N]; exact hN3) a3 b3) (pgs_cons (pg_name nd (by rw [← hX.N]; exact hN4) a4 b4) pgs_nil))))) (hs _ _) (hw _)) ?_
  refine h1 X hX B Z Y σ H R _ fun v1 d H1 hd y1 u1 => ?_
  subst hd
  have R1 := R.ext y1
  refine h2 X hX B Z Y σ H1 R1 _ fun v2 d H2 hd y2 u2 => ?_
  subst hd
  have R2 := R1.ext y2
  refine h3 X hX B Z Y σ H2 R2 _ fun v3 d H3 hd y3 u3 => ?_
  subst hd
  have R3 := R2.ext y3
  refine h4 X hX B Z Y σ H3 R3 _ fun p d H4 hd hn y4 ov => ?_
  subst hd
  refine ⟨by show 4 ≤ sizeLine; decide, fun T hT => ?_⟩
  obtain ⟨o, eo, to⟩ := ov.some
  obtain ⟨R4, hB, hZ⟩ := R3.pend y4 hn eo to
  have R5 := R4.ext (Ext.new (o := .tup [v1, v2, v3, .ref p]) hT)
  have s34 : Sub (hid H3 Y) (hid H4 (hidY Y p)) := hid_sub (fun a o y e => y4.1 a o (R3.notRowY y) e) fun a o e h => by
    rcases hidY_iff.mp h with z | z
    · exact z
    · rw [z, hn] at e; cases e
  have s45 : Sub (hid H4 (hidY Y p)) (hid (upd H4 T (.tup [v1, v2, v3, .ref p])) (hidY Y p)) := R4.sub (Ext.new hT)
  have k1 := ((u1.mono (R1.sub y2)).mono (R2.sub y3)).mono (s34.trans s45)
  have k2 := (u2.mono (R2.sub y3)).mono (s34.trans s45)
  have k3 := u3.mono (s34.trans s45)
  have ov5 := ov.mono s45 (H' := upd H4 T (.tup [v1, v2, v3, .ref p])) fun o q => by rw [upd_ne (ne_of_none q hT)]; exact q
  refine ⟨T, _, rfl, .inl (.inl upd_same), rfl, v1, _, rfl, v2, _, rfl, v3, _, rfl, _, _, rfl, rfl, ?_⟩
  obtain ⟨Y1, s1, Q1⟩ := R5.setv i1 k1
  have t1 : Sub (hid (upd H4 T (.tup [v1, v2, v3, .ref p])) (hidY Y p)) (hid (upd H4 T (.tup [v1, v2, v3, .ref p])) Y1) := hid_sub (fun _ _ _ e => e) fun a _ _ h => s1 a h
  obtain ⟨Y2, s2, Q2⟩ := Q1.setv i2 (k2.mono t1)
  have t2 : Sub (hid (upd H4 T (.tup [v1, v2, v3, .ref p])) Y1) (hid (upd H4 T (.tup [v1, v2, v3, .ref p])) Y2) := hid_sub (fun _ _ _ e => e) fun a _ _ h => s2 a h
  obtain ⟨Y3, s3, Q3⟩ := Q2.setv i3 (k3.mono (t1.trans t2))
  have t3 : Sub (hid (upd H4 T (.tup [v1, v2, v3, .ref p])) Y2) (hid (upd H4 T (.tup [v1, v2, v3, .ref p])) Y3) := hid_sub (fun _ _ _ e => e) fun a _ _ h => s3 a h
  obtain ⟨Y4, s4, Q4⟩ := Q3.claim R.rr i4 hB hZ (ov5.mono (t1.trans (t2.trans t3)) fun _ e => e)
  exact L.nx Y4 _ _ _ hp Q4
end
end DL
/-! text P6 -/
/-! P6: the law's own held, ready, still, fits. -/
namespace FT
open PySem PySem.Spec L2 DL
open PyProof.Rows hiding St
abbrev sLHeld : Stmt := topS 41
abbrev sLReady : Stmt := topS 42
abbrev sLStill : Stmt := topS 44
abbrev sLFits : Stmt := topS 46
theorem scLHeld : FnScope ["_law_line_here", "_law_many", "_law_k"] ["_law_line_here"] (defScope sLHeld) := ⟨rfl, rfl, rfl, by decide +kernel, rfl, by decide +kernel, by decide +kernel⟩
theorem scLReady : FnScope ["_law_line_here", "_law_cells", "_law_many", "_law_held_here", "_law_found", "_law_k", "_law_left", "_law_right"] ["_law_line_here"] (defScope sLReady) := ⟨rfl, rfl, rfl, by decide +kernel, rfl, by decide +kernel, by decide +kernel⟩
theorem scLStill : FnScope ["_law_line_here", "_law_cells"] ["_law_line_here", "_law_cells"] (defScope sLStill) := ⟨rfl, rfl, rfl, by decide +kernel, rfl, by decide +kernel, by decide +kernel⟩
theorem scLFits : FnScope ["_law_cells", "_law_wish_here", "_law_k"] ["_law_cells", "_law_wish_here"] (defScope sLFits) := ⟨rfl, rfl, rfl, by decide +kernel, rfl, by decide +kernel, by decide +kernel⟩
/-- a line whose colours are of any kind -/
structure Ln.Ok0 (l : Ln) : Prop where
  pos : 1 ≤ l.cells.length
  most : l.cells.length ≤ 40
theorem Ln.Ok.ok0 {l : Ln} (h : l.Ok) : l.Ok0 := ⟨h.pos, h.most⟩
def Ln.heldN (l : Ln) : List Nat := (List.range l.n).filter fun k => l.isHeld k
theorem at0_shift {c : List Int} {z : Int} (h0 : 0 ≤ z) (h1 : z < c.length) : at0 c (z - c.length) = at0 c z := by
  unfold at0 atI ixN
  rw [if_pos h0, if_pos h1, if_neg (by omega), if_pos (by omega)]
  simp
theorem law_flank {c : List Int} {k : Nat} (hk : k < c.length) : (decide (at0 c ((k : Int) - 1) = at0 c ((k : Int) + 1 - c.length)) && !decide (at0 c ((k : Int) - 1) = at0 c k)) = flankB c k := by
  have hp : (0 : Int) < c.length := by omega
  have hl : at0 c ((k : Int) - 1) = at0 c (((k : Int) - 1) % c.length) := by
    by_cases h : k = 0
    · subst h
      have e : (((0 : Nat) : Int) - 1) % (c.length : Int) = (c.length : Int) - 1 := by
        rw [show (((0 : Nat) : Int) - 1) = ((c.length : Int) - 1) + c.length * (-1) by omega, Int.add_mul_emod_self_left, Int.emod_eq_of_lt (by omega) (by omega)]
      rw [e, ← at0_shift (c := c) (z := (c.length : Int) - 1) (by omega) (by omega)]
      congr 1; omega
    · rw [Int.emod_eq_of_lt (by omega) (by omega)]
  have hr : at0 c ((k : Int) + 1 - c.length) = at0 c (((k : Int) + 1) % c.length) := by
    by_cases h : k + 1 = c.length
    · have e : ((k : Int) + 1) % (c.length : Int) = 0 := by
        rw [show ((k : Int) + 1) = c.length by omega, Int.emod_self]
      rw [e]; congr 1; omega
    · rw [Int.emod_eq_of_lt (by omega) (by omega)]
      exact at0_shift (by omega) (by omega)
  unfold flankB
  rw [hl, hr]
  by_cases q : at0 c (((k : Int) - 1) % c.length) = at0 c (((k : Int) + 1) % c.length)
  · rw [q]
  · simp [q]
section
variable {C : Cfg}
def SLHeld : List D → (D → Prop) → Prop := fun ds k => ∃ l : Ln, ds = [l.D] ∧ l.Ok0 ∧ k (lN l.heldN)
theorem fn_law_held (N : Bare C) {f : Addr} {fd : FuncData} (F : Fun C.K "_law_held" "_law_held" sLHeld f fd) (hm : C.mg "_law_held" = some (.ref f)) (hb : Binds C.K fd ["_law_line_here"] []) : FnD C 1 "_law_held" SLHeld := by
  refine fnD F hm hb scLHeld (by rintro ds k ⟨l, rfl, _⟩; rfl) ?_
  rintro ds kk ⟨l, rfl, ok, hk⟩
  have hmost := ok.most
  have hm0 : l.n ≤ 40 := hmost
  refine wss_seq (ws_set 1 scLHeld.nd (EvD.is (ev_callB (ea_cons (ev_ix (ev_var 0) ev_int (ixd_tup (d := .tup (l.cells.map D.int)) rfl)) ea_nil) cd_lenT N.len) (show _ = D.int (l.n : Int) by rw [List.length_map]; rfl)) (by rintro _ rfl; rfl)) ?_
  refine wss_one (ws_ret (ev_o (eo_compM (List.range l.n) (fun k : Nat => D.int k) (fun k => l.isHeld k) (fun k : Nat => D.int k) [("_law_k", 2)]
    (ei_rangeN (n := l.n) (ev_var 1) (by omega) N.range) scLHeld.nd (sg_name 2 scLHeld.nd) (fun k hk => ⟨_, rfl, ets_one (EvT.imp (et_w (ew_or (k := decide ((k : Int) ∈ l.held)) (k' := !l.ring && decide ((k : Int) ∈ [0, (l.n : Int) - 1]))
      (et_cmp (ev_var 2) (ev_ix (ev_var 0) ev_int (ixd_tup (d := .tup (l.held.map D.int)) rfl)) od_inT) fun _ => ew_or1 (et_w (ew_and (k := !l.ring) (k' := decide ((k : Int) ∈ [0, (l.n : Int) - 1])) (et_not (et_val (ev_ix (ev_var 0) ev_int (ixd_tup (d := .bl l.ring) rfl)))) fun _ =>
        ew_and1 (et_cmp (ev_var 2) (ev_o (eo_lst (ea_cons ev_int (ea_cons (ev_bin (ev_var 1) ev_int od_sub) ea_nil)))) (od_inL (ns := [0, (l.n : Int) - 1]))))))) fun b hb => ?_), fun _ => ev_var 2⟩) (by simp; omega))) ?_)
  · rw [hb]
    unfold Ln.isHeld
    congr 2
    rw [Bool.eq_iff_iff]
    simp
  · rintro _ rfl
    exact hk
def SLReady : List D → (D → Prop) → Prop := fun ds k => ∃ l : Ln, ds = [l.D] ∧ l.Ok0 ∧ k (lN l.ready)
theorem fn_law_ready (N : Bare C) (G : FnD C 1 "_law_held" SLHeld) {f : Addr} {fd : FuncData} (F : Fun C.K "_law_ready" "_law_ready" sLReady f fd) (hm : C.mg "_law_ready" = some (.ref f)) (hb : Binds C.K fd ["_law_line_here"] []) : FnD C 2 "_law_ready" SLReady := by
  refine fnD F hm hb scLReady (by rintro ds k ⟨l, rfl, _⟩; rfl) ?_
  rintro ds kk ⟨l, rfl, ok, hk⟩
  have hpos : 1 ≤ l.n := ok.pos
  have hm0 : l.n ≤ 40 := ok.most
  have hc : l.cells.length = l.n := rfl
  refine wss_seq (ws_t4 1 2 3 4 scLReady.nd (ev_ix (ev_var 0) ev_int (ixd_tup (d := .tup (l.cells.map D.int)) rfl)) (EvD.is (ev_callB (ea_cons (ev_ix (ev_var 0) ev_int (ixd_tup (d := .tup (l.cells.map D.int)) rfl)) ea_nil) cd_lenT N.len) (show _ = D.int (l.n : Int) by rw [List.length_map]; rfl))
    (ev_call G.to (ea_cons (ev_var 0) ea_nil) ⟨l, rfl, ok, rfl⟩) (eo_lst ea_nil) rfl) ?_
  refine wss_cons (ws_forG (List.range l.n) (fun k : Nat => D.int k) (fun xs ρ' => ∃ e5 e6 e7, ρ' = [some (.v l.D), some (.v (.tup (l.cells.map D.int))), some (.v (.int l.n)), some (.v (lN l.heldN)), some (.o (lN (xs.filter fun k : Nat => l.isReady k))), e5, e6, e7]) (ei_rangeN (n := l.n) (ev_var 2) (by omega) N.range) (sg_name 5 scLReady.nd) ⟨_, _, _, rfl⟩ ?_ (fun ρ' h => h)) ?_
  · rintro i k ρ' hi ⟨e5, e6, e7, rfl⟩
    have hk1 : k < l.n := List.mem_range.mp (List.mem_of_getElem? hi)
    have hil : i < l.n := by have := (List.getElem?_eq_some_iff.mp hi).1; simpa using this
    refine ⟨_, rfl, wss_seq (ws_par 6 7 scLReady.nd (ev_ix (ev_var 1) (ev_bin (ev_var 5) ev_int od_sub) (ixd_tup (atI_int (by omega) (by omega)))) (ev_ix (ev_var 1) (ev_bin (ev_bin (ev_var 5) ev_int od_add) (ev_var 2) od_sub) (ixd_tup (atI_int (by omega) (by omega)))) (by rintro _ _ rfl rfl; rfl)) ?_⟩
    have hf : (!decide (k ∈ l.heldN) && (decide (at0 l.cells ((k : Int) - 1) = at0 l.cells ((k : Int) + 1 - l.n)) && !decide (at0 l.cells ((k : Int) - 1) = at0 l.cells k))) = l.isReady k := by
      unfold Ln.isReady
      rw [← law_flank (c := l.cells) (k := k) (by rw [hc]; exact hk1)]
      congr 2
      rw [Bool.eq_iff_iff,  decide_eq_true_eq]
      unfold Ln.heldN
      rw [List.mem_filter, List.mem_range]
      exact ⟨fun h => h.2, fun h => ⟨hk1, h⟩⟩
    refine wss_one (ws_if (p := (· = l.isReady k)) (EvT.imp (et_w (ew_and (k := !decide (k ∈ l.heldN)) (k' := decide (at0 l.cells ((k : Int) - 1) = at0 l.cells ((k : Int) + 1 - l.n)) && !decide (at0 l.cells ((k : Int) - 1) = at0 l.cells k)) (et_cmp (ev_var 5) (ev_var 3) od_niN) fun _ =>
      ew_and (k := decide (at0 l.cells ((k : Int) - 1) = at0 l.cells ((k : Int) + 1 - l.n))) (k' := !decide (at0 l.cells ((k : Int) - 1) = at0 l.cells k)) (et_cmp (ev_var 6) (ev_var 7) od_eqI) fun _ => ew_and1 (et_cmp (ev_var 6) (ev_ix (ev_var 1) (ev_var 5) (ixd_tup (atI_int (by omega) (by omega)))) od_neI))) fun b hb => by rw [hb, hf]) (fun h => ?_) fun h => ?_)
    · refine wss_one (ws_app 4 (ds := (((List.range l.n).take i).filter fun k : Nat => l.isReady k).map fun k : Nat => D.int k) (ev_var 5) ?_ ?_)
      · rintro _ rfl
        refine ⟨some (.v (.int k)), some (.v (.int (at0 l.cells ((k : Int) - 1)))), some (.v (.int (at0 l.cells ((k : Int) + 1 - l.n)))), ?_⟩
        rw [List.filter_append, List.filter_cons, if_pos h.symm, List.filter_nil]
        have e : lN (((List.range l.n).take i).filter (fun k : Nat => l.isReady k) ++ [k]) = D.lst ((((List.range l.n).take i).filter fun k : Nat => l.isReady k).map (fun k : Nat => D.int k) ++ [D.int k]) := by
          show D.lst _ = D.lst _
          rw [List.map_append]; rfl
        rw [e]; rfl
      · rw [List.length_map]
        refine Nat.lt_of_le_of_lt (List.length_filter_le _ _) ?_
        rw [List.length_take, List.length_range]; omega
    · refine wss_nil ⟨some (.v (.int k)), some (.v (.int (at0 l.cells ((k : Int) - 1)))), some (.v (.int (at0 l.cells ((k : Int) + 1 - l.n)))), ?_⟩
      rw [List.filter_append, List.filter_cons, if_neg (by rw [← h]; exact Bool.false_ne_true), List.filter_nil, List.append_nil]
      rfl
  · rintro ρ' ⟨e5, e6, e7, rfl⟩
    exact wss_frz 4 (wss_one (ws_ret (ev_var 4) (by rintro _ rfl; exact hk)))
/-- the line with other colours -/
def Ln.with (l : Ln) (c : List Int) : Ln := { l with cells := c }
def SLStill : List D → (D → Prop) → Prop := fun ds k => ∃ (l : Ln) (c : List Int), ds = [l.D, tI c] ∧ (l.with c).Ok0 ∧ k (.bl (l.with c).ready.isEmpty)
theorem fn_law_still (G : FnD C 2 "_law_ready" SLReady) {f : Addr} {fd : FuncData} (F : Fun C.K "_law_still" "_law_still" sLStill f fd) (hm : C.mg "_law_still" = some (.ref f)) (hb : Binds C.K fd ["_law_line_here", "_law_cells"] []) : FnD C 3 "_law_still" SLStill := by
  refine fnD F hm hb scLStill (by rintro ds k ⟨l, c, rfl, _⟩; rfl) ?_
  rintro ds kk ⟨l, c, rfl, ok, hk⟩
  refine wss_one (ws_ret (ev_cmp (ev_call G.to (ea_cons (ev_tup (ea_cons (ev_var 1) (ea_cons (ev_ix (ev_var 0) ev_int (ixd_tup (d := .tup (l.held.map D.int)) rfl)) (ea_cons (ev_ix (ev_var 0) ev_int (ixd_tup (d := .bl l.ring) rfl)) ea_nil)))) ea_nil) ⟨l.with c, rfl, ok, rfl⟩) (ev_o (eo_lst ea_nil)) (od_eqNil (.map _ (fun k : Nat => PyData.int k) (fun k => .int k) _) ?_)) ?_)
  · have := shaped_lstI (castL (l.with c).ready)
    unfold castL at this
    rw [List.map_map] at this
    exact this
  · rintro _ rfl
    have e : ((l.with c).ready.map fun k : Nat => D.int k).isEmpty = (l.with c).ready.isEmpty := by cases (l.with c).ready <;> rfl
    rw [e]
    exact hk
/-- whether colours have all wished ones -/
def fitsB (c : List Int) (w : List (Option Int)) : Bool := ((List.range w.length).filter fun k => !decide (w.getD k none = none) && !decide (w.getD k none = some (at0 c k))).isEmpty
def SLFits : List D → (D → Prop) → Prop := fun ds k => ∃ (c : List Int) (w : List (Option Int)), ds = [tI c, wishD w] ∧ w.length = c.length ∧ c.length ≤ 1000 ∧ k (.bl (fitsB c w))
theorem fn_law_fits (N : Bare C) {f : Addr} {fd : FuncData} (F : Fun C.K "_law_fits_wish" "_law_fits_wish" sLFits f fd) (hm : C.mg "_law_fits_wish" = some (.ref f)) (hb : Binds C.K fd ["_law_cells", "_law_wish_here"] []) : FnD C 1 "_law_fits_wish" SLFits := by
  refine fnD F hm hb scLFits (by rintro ds k ⟨c, w, rfl, _⟩; rfl) ?_
  rintro ds kk ⟨c, w, rfl, hl, hc, hk⟩
  have hw : ∀ k, k < w.length → atI (w.map optD) (k : Int) = some (optD (w.getD k none)) := fun k h => by
    rw [atI_map, atI_nat (List.getElem?_eq_getElem h), List.getD_eq_getElem?_getD, List.getElem?_eq_getElem h]
    rfl
  refine wss_one (ws_ret (EvD.is (ev_and (k := true) (ev_cmp (ev_var 0) ev_non od_notN) fun _ => ev_one (ev_cmp (ev_o (eo_compM (List.range w.length) (fun k : Nat => D.int k) (fun k => !decide (w.getD k none = none) && !decide (w.getD k none = some (at0 c k))) (fun k : Nat => D.int k) [("_law_k", 2)]
    (ei_rangeN (n := w.length) (EvD.is (ev_callB (ea_cons (ev_var 1) ea_nil) cd_lenT N.len) (by rw [List.length_map])) (by omega) N.range) scLFits.nd (sg_name 2 scLFits.nd) (fun k hk => ?_) (by simp; omega))) (ev_o (eo_lst ea_nil)) (od_eqNil (.map _ (fun k : Nat => PyData.int k) (fun k => .int k) _) ?_))) rfl) ?_)
  · have hkl := List.mem_range.mp hk
    refine ⟨_, rfl, ets_one ?_, fun _ => ev_var 2⟩
    cases e : w.getD k none with
    | none =>
      exact EvT.imp (et_w (ew_and (k := false) (k' := true) (et_cmp (ev_ix (ev_var 1) (ev_var 2) (ixd_tup (d := .non) (by rw [hw k hkl, e]; rfl))) ev_non od_notN) fun h => by cases h)) fun b hb => by rw [hb]; rfl
    | some x =>
      exact EvT.imp (et_w (ew_and (k := true) (k' := !decide (x = at0 c k)) (et_cmp (ev_ix (ev_var 1) (ev_var 2) (ixd_tup (d := .int x) (by rw [hw k hkl, e]; rfl))) ev_non od_notN) fun _ => ew_and1 (et_cmp (ev_ix (ev_var 1) (ev_var 2) (ixd_tup (d := .int x) (by rw [hw k hkl, e]; rfl))) (ev_ix (ev_var 0) (ev_var 2) (ixd_tup (atI_int (by omega) (by omega)))) od_neI))) fun b hb => by rw [hb]; simp
  · have := shaped_lstI (castL ((List.range w.length).filter fun k => !decide (w.getD k none = none) && !decide (w.getD k none = some (at0 c k))))
    unfold castL at this
    rw [List.map_map] at this
    exact this
  · rintro _ rfl
    unfold fitsB at hk
    have e : ∀ xs : List Nat, (xs.map fun k : Nat => D.int k).isEmpty = xs.isEmpty := fun xs => by cases xs <;> rfl
    rw [Bool.true_and, e]
    exact hk
end
end FT
/-! text DL11 -/
/-! DL11: defs that return a new container. -/
namespace DL
open PySem PySem.Spec L2
open PyProof.Rows hiding St
/-- a promise in data: the answer is a new container -/
def SpO (C : Cfg) (S : List D → (D → Prop) → Prop) : Sp := fun vs H Q _ => ∃ ds Z k, S ds k ∧ DVs C.r (hid H Z) vs ds ∧ RowOk C H ∧ (∀ a, C.r = some a → Z a = true) ∧ (∀ a, C.r = some a → Z C.rs = true ∨ KSq C) ∧ (∀ a, Z a = true → ∃ o, H a = some o ∧ isTup o = false) ∧
  ∀ a d H', k d → H a = none → Ext C H H' → OV C.r (hid H' (hidY Z a)) H' a d → Q (.ref a) H'
structure FnO (C : Cfg) (lv : Nat) (x : Str) (S : List D → (D → Prop) → Prop) : Prop where
  ex : ∃ f fd ps, FnOk C.P C.w C.K C.mg C.base CX0 lv f fd ps (SpO C S) ∧ C.mg x = some (.ref f) ∧ PySem.W.keepIn C.K (.ref f) = true ∧ Binds C.K fd ps []
theorem FnO.to {C : Cfg} {lv : Nat} {x : Str} {S : List D → (D → Prop) → Prop} (F : FnO C lv x S) {N : List Str} {sc : Scope} {l : Nat} {dd : Bool} : FnO { C with N := N, sc := sc, lv := l, dd := dd } lv x S := ⟨F.ex⟩
section
variable {C : Cfg} {ρ : DEnv} {e : Expr} {es : List Expr} {pos : Pos}
theorem eo_call {x : Str} {lv : Nat} {S : List D → (D → Prop) → Prop} {ds : List D} {p : D → Prop} {pp : Pos} (F : FnO C lv x S) (ha : EvA C (e :: es) ρ (· = ds)) (hS : S ds p) (hlv : lv ≤ C.lv := by exact Nat.le_of_ble_eq_true rfl) (hg : GlC C x := by rfl) (hdb : (x == ("__debug__" : Str)) = false := by decide)
    (he : ∀ env, starEach (e :: es) env = (false, eval e env) :: starEach es env := by intro _; rfl) (hpl : ∀ env, (backTo pos (starEach es env)).any (·.1) = false := by intro _; rfl) : EvO C (.Call (.Name x pp) (e :: es) [] pos) ρ p := fun X hX B Z Y σ H R Q hQ => by
  obtain ⟨f, fd, pps, h1, h2, h3, h4⟩ := F.ex
  rw [hX.P, hX.w, hX.K, hX.mg, hX.base] at h1
  rw [hX.mg] at h2
  rw [hX.K] at h3 h4
  refine WE.of (pe_call h1 (hX.room.mono hlv) (hX.gl hg) h2 h3 h4 .nil pass0 pa_wa hdb (he _) (hpl _)) (ha X hX B Z Y σ H R _ fun vs ds H1 pd x1 dvs => ?_)
  rw [List.append_nil]
  subst pd
  have R1 := R.ext x1
  exact ⟨_, Y, p, hS, dvs, R1.row, fun a h => R1.rowY h, fun a h => (R1.rowS a h).imp (fun z => (R1.yI _).mpr (.inl z)) id, fun a h => R1.yOk h, fun a d H' kd hn x2 ov => hQ a d H' kd (x1.fresh hn (R1.freshR hn)) (x1.trans x2) ov⟩
end
/-- a def of three statements, the last one returns what slot i owns -/
theorem fnO {C : Cfg} {x qual y : Str} {st s1 s2 : Stmt} {py pr : Pos} {f : Addr} {fd : FuncData} {N ps : List Str} {k : Nat} {S : List D → (D → Prop) → Prop} (i : Nat) (F : Fun C.K x qual st f fd) (hm : C.mg x = some (.ref f)) (hb : Binds C.K fd ps []) (hS : FnScope N ps (defScope st)) (hd3 : defBody st = [s1, s2, .Return (some (.Name y py)) pr]) (len : ∀ ds k, S ds k → ds.length = ps.length)
    (body : ∀ ds kk, S ds kk → ∃ ρ1, WS (bodyCfg C N (defScope st) k) s1 (startD N ds) { nx := (· = ρ1) } ∧ WS (bodyCfg C N (defScope st) k) s2 ρ1 { nx := fun ρ' => ∃ d, ρ'[i]? = some (some (.o d)) ∧ kk d })
    (hN : N[i]? = some y := by rfl) (hv : Vis (defScope st) y := by first | exact Or.inl rfl | exact Or.inr (Or.inl rfl) | exact Or.inr (Or.inr rfl)) (hdb : (y == ("__debug__" : Str)) = false := by decide) (hcd : (y == ("__classdict__" : Str)) = false := by decide) : FnO C (k + 1) x S := by
  refine ⟨f, fd, ps, F.ok hS (fun vs H Q E ⟨ds, Z, kk, h, dv, _⟩ => by rw [dv.length]; exact len ds kk h) fun cdv A outer s H vs Q E hr ⟨ds, Z, kk, h, dv, row, rz, rs, zo, hQ⟩ => ?_, hm, F.kp, hb⟩
  refine ⟨_, pss_wsts, ?_⟩
  have hX : XOk (bodyCfg C N (defScope st) k) (cxOf CX0 C.P C.w C.K C.mg C.base N qual (defScope st) f cdv A outer s H E).nox := ⟨rfl, rfl, rfl, rfl, rfl, rfl, rfl, rfl, hr, fun _ _ => rfl, rfl⟩
  have hl : ds.length ≤ N.length := by
    have h1 := len ds kk h
    have h2 := congrArg List.length hS.pre
    rw [List.length_take] at h2
    omega
  have R : Rl (bodyCfg C N (defScope st) k) H Z Z (startD N ds) (L2.start N vs) H := by
    refine ⟨fun a o _ e => e, row, rz, rs, zo, ?_, fun i d e => ?_, fun i d e => ?_, fun i j d e a h1 _ _ _ => ?_, fun a => ⟨.inl, fun q => q.elim id fun ⟨i, d, e, _⟩ => ?_⟩⟩
    · simp [startD, L2.start, dv.length]
    · obtain ⟨d', e', h'⟩ := startD_get e
      cases e'
      obtain ⟨v, h1, h2⟩ := dv.get h'
      exact ⟨v, start_get h1, h2⟩
    · obtain ⟨d', e', _⟩ := startD_get e; cases e'
    · obtain ⟨d', e', _⟩ := startD_get h1; cases e'
    · obtain ⟨d', e', _⟩ := startD_get e; cases e'
  obtain ⟨ρ1, w1, w2⟩ := body ds kk h
  have hd3' : defBody st = [s1, s2, .Return (some (.Name y py)) pr] := hd3
  rw [hd3']
  refine WSts.of (pss_cons ps_wst pss_wsts) (w1 _ hX H Z Z _ H R _ ⟨fun Y ρ σ H1 p R1 => ?_, fun _ _ _ _ _ _ p => p.elim, fun _ _ _ _ p => p.elim, fun _ _ _ _ p => p.elim⟩)
  subst p
  refine WSts.of (pss_cons ps_wst pss_wsts) (w2 _ hX H Z Y _ H1 R1 _ ⟨fun Y2 ρ2 σ2 H2 p R2 => ?_, fun _ _ _ _ _ _ p => p.elim, fun _ _ _ _ p => p.elim, fun _ _ _ _ p => p.elim⟩)
  obtain ⟨d, hi, hk⟩ := p
  obtain ⟨a, ea, ba, za, ov⟩ := R2.ow i d hi
  refine WSts.of (pss_one ps_wst) (WSt.of (ps_ret (pe_var (by rw [← hX.N]; exact hN) (by rw [← hX.sc]; exact hv) hdb hcd)) ⟨_, ea, ?_⟩)
  refine hQ a d H2 hk ba ⟨R2.base, fun _ => R2.row⟩ (ov.mono (hid_sub (fun _ _ _ e => e) fun b o _ hz => ?_) fun _ e => e)
  rcases hidY_iff.mp hz with z | z
  · exact (R2.yI b).mpr (.inl z)
  · rw [z]; exact (R2.yI a).mpr (.inr ⟨i, d, hi, ea⟩)
end DL
/-! text P7 -/
/-! P7: the law's own singles, ends. -/
namespace FT
open PySem PySem.Spec L2 DL
open PyProof.Rows hiding St
abbrev sSingles : Stmt := topS 43
abbrev sEnds : Stmt := topS 45
theorem scSingles : FnScope ["_law_line_here", "_law_found", "_law_rows", "_law_turn", "_law_more", "_law_cells", "_law_k", "_law_there"] ["_law_line_here"] (defScope sSingles) := ⟨rfl, rfl, rfl, by decide +kernel, rfl, by decide +kernel, by decide +kernel⟩
theorem scEnds : FnScope ["_law_line_here", "_law_found", "_law_rows", "_law_cells", "_law_k"] ["_law_line_here"] (defScope sEnds) := ⟨rfl, rfl, rfl, by decide +kernel, rfl, by decide +kernel, by decide +kernel⟩
/-! ### dicts to ints, plain -/
section
variable {κ : Type} [DecidableEq κ] {κ' : Type} [DecidableEq κ']
def getZ (d : List (κ × Int)) (k : κ) : Int := ((d.find? fun p => decide (p.1 = k)).map (·.2)).getD 0
def putZ (d : List (κ × Int)) (k : κ) (v : Int) : List (κ × Int) := if (d.any fun p => decide (p.1 = k)) = true then d.map (fun p => if p.1 = k then (p.1, v) else p) else d ++ [(k, v)]
def bumpZ (d : List (κ × Int)) (k : κ) (v : Int) : List (κ × Int) := putZ d k (getZ d k + v)
def dZ (d : List (κ × Int)) : List (κ × D) := d.map fun p => (p.1, .int p.2)
theorem valD_dZ (d : List (κ × Int)) (k : κ) : valD (dZ d) k = (d.find? fun p => decide (p.1 = k)).map fun p => D.int p.2 := by
  unfold valD dZ
  induction d with
  | nil => rfl
  | cons p d ih =>
    simp only [List.map_cons, List.find?_cons]
    by_cases h : p.1 = k
    · simp [h]
    · simp only [h, decide_false]; exact ih
theorem valD_dZ0 (d : List (κ × Int)) (k : κ) : (valD (dZ d) k).getD (.int 0) = .int (getZ d k) := by
  rw [valD_dZ]
  unfold getZ
  cases d.find? fun p => decide (p.1 = k) <;> rfl
theorem valD_dZm {d : List (κ × Int)} {k : κ} (h : k ∈ d.map (·.1)) : valD (dZ d) k = some (.int (getZ d k)) := by
  rw [valD_dZ]
  unfold getZ
  cases q : d.find? fun p => decide (p.1 = k) with
  | none =>
    obtain ⟨p, hp, rfl⟩ := List.mem_map.mp  h
    have := List.find?_eq_none.mp q p hp
    simp at this
  | some p => rfl
theorem putD_dZ (d : List (κ × Int)) (k : κ) (v : Int) : putD (dZ d) k (.int v) = dZ (putZ d k v) := by
  unfold putD putZ
  have e : ((dZ d).any fun kv => decide (kv.1 = k)) = (d.any fun p => decide (p.1 = k)) := by
    unfold dZ
    rw [List.any_map]; rfl
  rw [e]
  by_cases h : (d.any fun p => decide (p.1 = k)) = true
  · rw [if_pos h, if_pos h]
    unfold dZ
    rw [List.map_map,  List.map_map]
    refine List.map_congr_left fun p _ =>  ?_
    show (if p.1 = k then (p.1, D.int v) else (p.1, D.int p.2)) = ((if p.1 = k then (p.1, v) else p).1, D.int (if p.1 = k then (p.1, v) else p).2)
    by_cases q : p.1 = k
    · rw [if_pos q, if_pos q]
    · rw [if_neg q, if_neg q]
  · rw [if_neg h, if_neg h]
    unfold dZ
    rw [List.map_append]; rfl
theorem putZ_keys (d : List (κ × Int)) (k : κ) (v : Int) : (putZ d k v).map (·.1) = if k ∈ d.map (·.1) then d.map (·.1) else d.map (·.1) ++ [k] := by
  unfold putZ
  by_cases h : (d.any fun p => decide (p.1 = k)) = true
  · have hm : k ∈ d.map (·.1) := by
      obtain ⟨p, hp, e⟩ := List.any_eq_true.mp h
      exact List.mem_map.mpr ⟨p, hp, of_decide_eq_true  e⟩
    rw [if_pos h, if_pos hm, List.map_map]
    refine List.map_congr_left fun p _ =>  ?_
    show (if p.1 = k then (p.1, v) else p).1 = p.1
    by_cases q : p.1 = k
    · rw [if_pos q]
    · rw [if_neg q]
  · have hm : ¬ k ∈ d.map (·.1) := fun hm => h (by
      obtain ⟨p, hp, e⟩ := List.mem_map.mp  hm
      exact List.any_eq_true.mpr ⟨p, hp, decide_eq_true e⟩)
    rw [if_neg h, if_neg hm, List.map_append]; rfl
theorem putZ_len (d : List (κ × Int)) (k : κ) (v : Int) : d.length ≤ (putZ d k v).length := by
  have := congrArg List.length (putZ_keys d k v)
  rw [List.length_map] at this
  rw [this]
  by_cases h : k ∈ d.map (·.1)
  · rw [if_pos h, List.length_map]; omega
  · rw [if_neg h]; simp
theorem putZ_mem {d : List (κ × Int)} {k : κ} {v : Int} {x : κ} : x ∈ (putZ d k v).map (·.1) ↔ x ∈ d.map (·.1) ∨ x = k := by
  rw [putZ_keys]
  by_cases h : k ∈ d.map (·.1)
  · rw [if_pos h]
    exact ⟨.inl, fun q => q.elim id fun e => e ▸ h⟩
  · rw [if_neg h]; simp
end
/-! ### the levels -/
def turnI (c : List Int) (k : Nat) : List Int := c.set k (at0 c ((k : Int) - 1))
def bump1 (l : Ln) (v : Int) (c : List Int) (m : List (List Int × Int)) (ks : List Nat) : List (List Int × Int) := ks.foldl (fun m k => bumpZ m (turnI c k) v) m
def nextD (l : Ln) (full : List (List Int × Int)) (m : List (List Int × Int)) (rows : List (List Int × Int)) : List (List Int × Int) := rows.foldl (fun m p => bump1 l (getZ full p.1) p.1 m (l.with p.1).ready) m
def lev (l : Ln) : Nat → List (List Int × Int)
  | 0 => [(l.cells, 1)]
  | t + 1 => nextD l (lev l t) [] (lev l t)
theorem bump1_len (l : Ln) (v : Int) (c : List Int) : ∀ (ks : List Nat) (m : List (List Int × Int)), m.length ≤ (bump1 l v c m ks).length
  | [], m => Nat.le_refl _
  | k :: ks, m => Nat.le_trans (putZ_len _ _ _) (bump1_len l v c ks _)
theorem nextD_len (l : Ln) (full : List (List Int × Int)) : ∀ (rows m : List (List Int × Int)), m.length ≤ (nextD l full m rows).length
  | [], m => Nat.le_refl _
  | p :: rows, m => Nat.le_trans (bump1_len l _ _ _ _) (nextD_len l full rows _)
theorem bump1_app (l : Ln) (v : Int) (c : List Int) (m : List (List Int × Int)) (xs ys : List Nat) : bump1 l v c m (xs ++ ys) = bump1 l v c (bump1 l v c m xs) ys := List.foldl_append ..
theorem nextD_app (l : Ln) (full m xs ys : List (List Int × Int)) : nextD l full m (xs ++ ys) = nextD l full (nextD l full m xs) ys := List.foldl_append ..
theorem bump1_keys (l : Ln) (v : Int) (c : List Int) : ∀ (ks : List Nat) (m : List (List Int × Int)) (x : List Int), x ∈ (bump1 l v c m ks).map (·.1) ↔ x ∈ m.map (·.1) ∨ ∃ k ∈ ks, x = turnI c k
  | [], m, x => by simp [bump1]
  | k :: ks, m, x => by
    have := bump1_keys l v c ks (bumpZ m (turnI c k) v) x
    show x ∈ (bump1 l v c (bumpZ m (turnI c k) v) ks).map (·.1) ↔ _
    rw [this]
    unfold bumpZ
    rw [putZ_mem]
    constructor
    · rintro ((h | h) | ⟨k', h, e⟩)
      · exact .inl h
      · exact .inr ⟨k, by simp, h⟩
      · exact .inr ⟨k', by simp [h], e⟩
    · rintro (h | ⟨k', h, e⟩)
      · exact .inl (.inl h)
      · rcases List.mem_cons.mp h with rfl |  h
        · exact .inl (.inr e)
        · exact .inr ⟨k', h, e⟩
theorem nextD_keys (l : Ln) (full : List (List Int × Int)) : ∀ (rows m : List (List Int × Int)) (x : List Int), x ∈ (nextD l full m rows).map (·.1) ↔ x ∈ m.map (·.1) ∨ ∃ c ∈ rows.map (·.1), ∃ k ∈ (l.with c).ready, x = turnI c k
  | [], m, x => by simp [nextD]
  | p :: rows, m, x => by
    have := nextD_keys l full rows (bump1 l (getZ full p.1) p.1 m (l.with p.1).ready) x
    show x ∈ (nextD l full (bump1 l (getZ full p.1) p.1 m (l.with p.1).ready) rows).map (·.1) ↔ _
    rw [this, bump1_keys]
    constructor
    · rintro ((h | ⟨k, h, e⟩) | ⟨c, hc, h⟩)
      · exact .inl h
      · exact .inr ⟨p.1, by simp, k, h, e⟩
      · exact .inr ⟨c, by simp only [List.map_cons, List.mem_cons]; exact .inr hc, h⟩
    · rintro (h | ⟨c, hc, h⟩)
      · exact .inl (.inl h)
      · simp only [List.map_cons, List.mem_cons] at hc
        rcases hc with rfl | hc
        · exact .inl (.inr h)
        · exact .inr ⟨c, hc, h⟩
theorem turnI_len (c : List Int) (k : Nat) : (turnI c k).length = c.length := by unfold turnI; simp
theorem lev_len (l : Ln) : ∀ (t : Nat) (c : List Int), c ∈ (lev l t).map (·.1) → c.length = l.n
  | 0, c, h => by
    simp only [lev, List.map_cons, List.map_nil, List.mem_singleton] at h
    rw [h]; rfl
  | t + 1, c, h => by
    rcases (nextD_keys l _ _ _ _).mp h with h | ⟨c', h', k, _, e⟩
    · cases h
    · rw [e, turnI_len]; exact lev_len l t c' h'
theorem cut_turn {c : List Int} {k : Nat} (hk : k < c.length) : DL.cutD (c.map D.int) none (some (k : Int)) ++ [D.int (at0 c ((k : Int) - 1))] ++ DL.cutD (c.map D.int) (some ((k : Int) + 1)) none = (turnI c k).map D.int := by
  unfold DL.cutD HT.sIx turnI
  simp only [List.length_map]
  have h1 : ¬ ((k : Int) < 0) := by omega
  have h2 : ¬ ((k : Int) + 1 < 0) := by omega
  simp only [h1, h2, if_false, List.drop_zero, Nat.sub_zero]
  have e1 : min (k : Int).toNat c.length = k := by omega
  have e2 : min ((k : Int) + 1).toNat c.length = k + 1 := by omega
  rw [e1, e2, List.set_eq_take_append_cons_drop, if_pos hk]
  simp [List.map_take, List.map_drop]
  exact List.take_of_length_le (by  simp)
section
variable {C : Cfg}
def levKs (l : Ln) (m : Nat) : List (List Int) := (List.range m).flatMap fun t => (lev l t).map (·.1)
structure Ln.Few (l : Ln) : Prop where
  all : ∀ m, (levKs l m).length < 90000
theorem levKs_succ (l : Ln) (m : Nat) : levKs l (m + 1) = levKs l m ++ (lev l m).map (·.1) := by
  unfold levKs
  rw [List.range_succ, List.flatMap_append]
  simp
theorem Ln.Few.lv {l : Ln} (h : l.Few) (t : Nat) : (lev l t).length < 90000 := by
  have := h.all (t + 1)
  rw [levKs_succ, List.length_append, List.length_map] at this
  omega
def dLev (l : Ln) (t : Nat) : D := .dT (dZ (lev l t))
def SSingles : List D → (D → Prop) → Prop := fun ds k => ∃ l : Ln, ds = [l.D] ∧ l.Ok0 ∧ l.Few ∧ ∀ m : Nat, 1 ≤ m → m ≤ l.n + 1 → (∀ t, t < m → lev l t ≠ []) → (m = l.n + 1 ∨ lev l m = []) → k (.lst ((List.range m).map (dLev l)))
set_option maxHeartbeats 4000000  in
theorem fn_law_singles (N : Bare C) (G : FnD C 2 "_law_ready" SLReady) {f : Addr} {fd : FuncData} (F : Fun C.K "_law_singles" "_law_singles" sSingles f fd) (hm : C.mg "_law_singles" = some (.ref f)) (hb : Binds C.K fd ["_law_line_here"] []) : FnD C 3 "_law_singles" SSingles := by
  refine fnD F hm hb scSingles (by rintro ds k ⟨l, rfl, _⟩; rfl) ?_
  rintro ds kk ⟨l, rfl, ok, few, hk⟩
  have hpos : 1 ≤ l.n := ok.pos
  have hm0 : l.n ≤ 40 := ok.most
  refine wss_seq (ws_parOO (p1 := (· = .lst [])) (p2 := (· = dLev l 0)) 1 2 scSingles.nd (eo_lst ea_nil) (eo_disp1 (ev_ix (ev_var 0) ev_int (ixd_tup (d := .tup (l.cells.map D.int)) rfl)) ev_int) (by rintro _ _ rfl rfl; rfl)) ?_
  refine wss_frz 2 (d := dLev l 0) ?_
  refine wss_cons (ws_forM (List.range (l.n + 1)) (fun k : Nat => D.int k) (fun i ρ' => (∀ t, t < i + 1 → lev l t ≠ []) ∧ ∃ e3 e4 e5 e6 e7, ρ' = [some (.v l.D), some (.o (.lst ((List.range i).map (dLev l)))), some (.v (dLev l i)), e3, e4, e5, e6, e7]) (ei_rangeN (n := l.n + 1) (EvD.is (ev_bin (ev_callB (ea_cons (ev_ix (ev_var 0) ev_int (ixd_tup (d := .tup (l.cells.map D.int)) rfl)) ea_nil) cd_lenT N.len) ev_int od_add) (by rw [List.length_map]; rfl)) (by omega) N.range) (sg_name 3 scSingles.nd) ⟨fun t ht => ?_, none, none, none, none, none, by rw [List.range_zero]; rfl⟩ ?_ (fun ρ' h => h)) ?_
  · have : t = 0 := by omega
    subst this
    exact List.cons_ne_nil _ _
  · rintro i ρ' k hi ⟨hne, e3, e4, e5, e6, e7, rfl⟩
    have hil : i < l.n + 1 := by have := (List.getElem?_eq_some_iff.mp hi).1; simpa using this
    refine ⟨_, rfl, ?_⟩
    refine wss_seq (ws_app 1 (ds := (List.range i).map (dLev l)) (ev_var 2) (by rintro _ rfl; rfl) (by simp; omega)) ?_
    refine wss_seq (ws_setO 4 scSingles.nd eo_dictT (by rintro _ rfl; rfl)) ?_
    refine wss_cons (ws_forKT (fun j ρ' => ∃ f5 f6 f7, ρ' = [some (.v l.D), some (.o (.lst ((List.range i).map (dLev l) ++ [dLev l i]))), some (.v (dLev l i)), some (.v (.int k)), some (.o (.dT (dZ (nextD l (lev l i) [] ((lev l i).take j))))), f5, f6, f7]) (ex_var 2) (sg_name 5 scSingles.nd) ⟨e5, e6, e7, by rw [List.take_zero]; rfl⟩ ?_ (fun ρ' h => h) ⟨by intro _; rfl, by decide +kernel⟩) ?_
    · rintro j ρ' p hj ⟨f5, f6, f7, rfl⟩
      refine ⟨_, rfl, ?_⟩
      obtain ⟨q, hq, rfl⟩ : ∃ q, (lev l i)[j]? = some q ∧ (q.1, D.int q.2) = p := by
        unfold dZ at hj
        rw [List.getElem?_map] at hj
        cases e : (lev l i)[j]? with
        | none => rw [e] at hj; cases hj
        | some q => rw [e] at hj; cases hj; exact ⟨q, rfl, rfl⟩
      have hqm : q.1 ∈ (lev l i).map (·.1) := List.mem_map.mpr ⟨q, List.mem_of_getElem? hq, rfl⟩
      have hql : q.1.length = l.n := lev_len l i _ hqm
      have okq : (l.with q.1).Ok0 := ⟨by show 1 ≤ q.1.length; omega, by show q.1.length ≤ 40; omega⟩
      have etk : (lev l i).take (j + 1) = (lev l i).take j ++ [q] := by rw [List.take_add_one, hq]; rfl
      have hfew : ∀ ys, (bump1 l (getZ (lev l i) q.1) q.1 (nextD l (lev l i) [] ((lev l i).take j)) ys).length < 90000 ∨ ¬ ∃ zs, ys ++ zs = (l.with q.1).ready := fun ys => by
        by_cases h : ∃ zs, ys ++ zs = (l.with q.1).ready
        · obtain ⟨zs, h⟩ := h
          refine .inl (Nat.lt_of_le_of_lt ?_ (few.lv (i + 1)))
          refine Nat.le_trans (bump1_len l (getZ (lev l i) q.1) q.1 zs _) ?_
          rw [← bump1_app, h]
          have : lev l (i + 1) = nextD l (lev l i) (nextD l (lev l i) [] ((lev l i).take (j + 1))) ((lev l i).drop (j + 1)) := by
            rw [← nextD_app, List.take_append_drop]; rfl
          rw [this, etk]
          refine Nat.le_trans ?_ (nextD_len _ _ _ _)
          rw [nextD_app]
          exact Nat.le_refl _
        · exact .inr h
      refine wss_one (ws_forG (l.with q.1).ready (fun k : Nat => D.int k) (fun ys ρ' => ∃ f6 f7, ρ' = [some (.v l.D), some (.o (.lst ((List.range i).map (dLev l) ++ [dLev l i]))), some (.v (dLev l i)), some (.v (.int k)), some (.o (.dT (dZ (bump1 l (getZ (lev l i) q.1) q.1 (nextD l (lev l i) [] ((lev l i).take j)) ys)))), some (.v (.tup (q.1.map D.int))), f6, f7])
        (ei_list (ev_call G.to (ea_cons (ev_tup (ea_cons (ev_var 5) (ea_cons (ev_ix (ev_var 0) ev_int (ixd_tup (d := .tup (l.held.map D.int)) rfl)) (ea_cons (ev_ix (ev_var 0) ev_int (ixd_tup (d := .bl l.ring) rfl)) ea_nil)))) ea_nil) ⟨l.with q.1, rfl, okq, rfl⟩)) (sg_name 6 scSingles.nd) ⟨f6, f7, rfl⟩ ?_ ?_)
      · rintro a b ρ' hab ⟨g6, g7, rfl⟩
        have hbr : b ∈ (l.with q.1).ready := List.mem_of_getElem? hab
        have hbn : b < q.1.length := by
          unfold Ln.ready at hbr
          have := (List.mem_filter.mp hbr).1
          exact List.mem_range.mp this
        refine ⟨_, rfl, ?_⟩
        refine wss_seq (ws_set 7 scSingles.nd (EvD.is (ev_bin (ev_bin (ev_slT (ev_var 5) epo_none (epo_some (ev_var 6))) (ev_tup (ea_cons (ev_ix (ev_var 5) (ev_bin (ev_var 6) ev_int od_sub) (ixd_tup (atI_int (by omega) (by omega)))) ea_nil)) (od_catT ?_)) (ev_slT (ev_var 5) (epo_some (ev_bin (ev_var 6) ev_int od_add)) epo_none) (od_catT ?_)) (congrArg D.tup (cut_turn hbn))) (by rintro _ rfl; rfl)) ?_
        · unfold DL.cutD; simp; omega
        · unfold DL.cutD; simp; omega
        · refine wss_one (ws_putT 4 (ev_bin (EvD.is (ev_getOT 4 (ev_var 7) ev_int ⟨by intro _; rfl, by intro _; rfl, by decide +kernel, by intro _; rfl⟩) (valD_dZ0 _ _)) (ev_dgetT (ev_var 2) (ev_var 5) (valD_dZm hqm)) od_add) (ev_var 7) ?_ ?_)
          · rintro _ rfl
            refine ⟨some (.v (.int b)), some (.v (tI (turnI q.1 b))), ?_⟩
            rw [bump1_app, putD_dZ]
            rfl
          · unfold dZ
            rw [List.length_map]
            rcases hfew (List.take a (l.with q.1).ready) with h | h
            · omega
            · exact absurd ⟨_, List.take_append_drop _ _⟩ h
      · rintro ρ' ⟨g6, g7, rfl⟩
        refine ⟨some (.v (tI q.1)), g6, g7, ?_⟩
        rw [etk, nextD_app]
        rfl
    · rintro ρ' ⟨f5, f6, f7, rfl⟩
      rw [show (dZ (lev l i)).length = (lev l i).length from List.length_map .., List.take_length]
      refine wss_frz 4 (d := dLev l (i + 1)) ?_
      · refine wss_seq (ws_set 2 scSingles.nd (ev_var 4) (by rintro _ rfl; rfl)) ?_
        refine wss_one (ws_if (p := (· = (lev l (i + 1)).isEmpty)) (EvT.imp (et_cmp (ev_var 2) (ev_o eo_dictT) od_eqET) ?_) (fun h => ?_) fun h => ?_)
        · rintro b rfl
          unfold dZ
          cases lev l (i + 1) <;> rfl
        · refine wss_frz 1 (wss_one (ws_ret (ev_var 1) ?_))
          rintro _ rfl
          have := hk (i + 1) (by omega) (by omega) hne (.inr (by simpa using h.symm))
          rw [List.range_succ, List.map_append] at this
          exact this
        · refine wss_nil ⟨fun t ht => ?_, some (.v (.int k)), some (.v (dLev l (i + 1))), f5, f6, f7, ?_⟩
          · by_cases ht' : t < i + 1
            · exact hne t ht'
            · have : t = i + 1 := by omega
              subst this
              intro e
              rw [e] at h
              cases h
          · rw [List.range_succ, List.map_append]; rfl
  · rintro ρ' ⟨hne, e3, e4, e5, e6, e7, rfl⟩
    rw [List.length_range] at hne
    refine wss_frz 1 (wss_one (ws_ret (ev_var 1) ?_))
    rintro _ rfl
    rw [List.length_range]
    exact hk (l.n + 1) (by omega) (by omega) (fun t ht => hne t (by omega)) (.inl rfl)
/-- how many levels there are -/
structure Lv (l : Ln) (m : Nat) : Prop where
  pos : 1 ≤ m
  most : m ≤ l.n + 1
  ne : ∀ t, t < m → lev l t ≠ []
  fin : m = l.n + 1 ∨ lev l m = []
theorem Lv.uniq {l : Ln} {m m' : Nat} (h : Lv l m) (h' : Lv l m') : m = m' := by
  rcases Nat.lt_trichotomy m m' with q | q | q
  · rcases h.fin with e | e
    · have := h'.most; omega
    · exact absurd e (h'.ne m q)
  · exact q
  · rcases h'.fin with e | e
    · have := h.most; omega
    · exact absurd e (h.ne m' q)
def SSing (l : Ln) (m : Nat) : D := .lst ((List.range m).map (dLev l))
def SSing1 : List D → (D → Prop) → Prop := fun ds k => ∃ (l : Ln) (m : Nat), ds = [l.D] ∧ l.Ok0 ∧ l.Few ∧ Lv l m ∧ k (.lst ((List.range m).map (dLev l)))
theorem fn_law_singles1 (G : FnD C 3 "_law_singles" SSingles) : FnD C 3 "_law_singles" SSing1 := G.imp fun ds k ⟨l, m, e, ok, few, lv, hk⟩ => ⟨l, e, ok, few, fun m' h1 h2 h3 h4 => by
  have : m = m' := lv.uniq ⟨h1, h2, h3, h4⟩
  subst this
  exact hk⟩
/-- the ends, with the cells that differ -/
def diffN (l : Ln) (c : List Int) : List Nat := (List.range c.length).filter fun k : Nat => !decide (at0 c k = at0 l.cells k)
def endsF (l : Ln) (acc : List (List Int × D)) (cs : List (List Int)) : List (List Int × D) := cs.foldl (fun a c => if (l.with c).ready.isEmpty = true then putD a c (lN (diffN l c)) else a) acc
theorem putD_len {κ : Type} [DecidableEq κ] (d : List (κ × D)) (k : κ) (v : D) : (putD d k v).length ≤ d.length + 1 := by
  unfold putD
  split
  · simp
  · simp
theorem endsF_len (l : Ln) : ∀ (cs : List (List Int)) (acc : List (List Int × D)), (endsF l acc cs).length ≤ acc.length + cs.length
  | [], acc => Nat.le_refl _
  | c :: cs, acc => by
    refine Nat.le_trans (endsF_len l cs _) ?_
    rw [List.length_cons]
    dsimp only
    split
    · have := putD_len acc c (lN (diffN l c)); omega
    · omega
theorem endsF_app (l : Ln) (acc : List (List Int × D)) (xs ys : List (List Int)) : endsF l acc (xs ++ ys) = endsF l (endsF l acc xs) ys := List.foldl_append ..
def SEnds : List D → (D → Prop) → Prop := fun ds k => ∃ (l : Ln) (m : Nat), ds = [l.D] ∧ l.Ok0 ∧ l.Few ∧ Lv l m ∧ k (.dT (endsF l [] (levKs l m)))
set_option maxHeartbeats 4000000  in
theorem fn_law_ends (N : Bare C) (G1 : FnD C 3 "_law_singles" SSing1) (G2 : FnD C 3 "_law_still" SLStill) {f : Addr} {fd : FuncData} (F : Fun C.K "_law_ends" "_law_ends" sEnds f fd) (hm : C.mg "_law_ends" = some (.ref f)) (hb : Binds C.K fd ["_law_line_here"] []) : FnO C 4 "_law_ends" SEnds := by
  refine fnO 1 F hm hb scEnds rfl (by rintro ds k ⟨l, m, rfl, _⟩; rfl) ?_
  rintro ds kk ⟨l, m, rfl, ok, few, lv, hk⟩
  have hpos : 1 ≤ l.n := ok.pos
  have hm0 : l.n ≤ 40 := ok.most
  refine ⟨_, ws_setO 1 scEnds.nd eo_dictT (by rintro _ rfl; rfl), ?_⟩
  refine ws_forM (List.range m) (dLev l) (fun i ρ' => ∃ e2 e3 e4, ρ' = [some (.v l.D), some (.o (.dT (endsF l [] (levKs l i)))), e2, e3, e4]) (ei_list (ev_call G1.to (ea_cons (ev_var 0) ea_nil) ⟨l, m, rfl, ok, few, lv, rfl⟩)) (sg_name 2 scEnds.nd) ⟨none, none, none, rfl⟩ ?_ ?_
  · rintro i ρ' t hi ⟨e2, e3, e4, rfl⟩
    have ht : t = i ∧ i < m := by
      have h1 := (List.getElem?_eq_some_iff.mp hi).1
      rw [List.length_range] at h1
      rw [List.getElem?_range h1] at hi
      cases hi
      exact ⟨rfl, h1⟩
    obtain ⟨rfl, him⟩ := ht
    refine ⟨_, rfl, ?_⟩
    refine wss_one (ws_forKT (fun j ρ' => ∃ f3 f4, ρ' = [some (.v l.D), some (.o (.dT (endsF l (endsF l [] (levKs l t)) (((lev l t).take j).map (·.1))))), some (.v (dLev l t)), f3, f4]) (ex_var 2) (sg_name 3 scEnds.nd) ⟨e3, e4, by rw [List.take_zero]; rfl⟩ ?_ ?_ ⟨by intro _; rfl, by decide +kernel⟩)
    · rintro j ρ' p hj ⟨f3, f4, rfl⟩
      refine ⟨_, rfl, ?_⟩
      obtain ⟨q, hq, rfl⟩ : ∃ q, (lev l t)[j]? = some q ∧ (q.1, D.int q.2) = p := by
        unfold dZ at hj
        rw [List.getElem?_map] at hj
        cases e : (lev l t)[j]? with
        | none => rw [e] at hj; cases hj
        | some q => rw [e] at hj; cases hj; exact ⟨q, rfl, rfl⟩
      have hqm : q.1 ∈ (lev l t).map (·.1) := List.mem_map.mpr ⟨q, List.mem_of_getElem? hq, rfl⟩
      have hql : q.1.length = l.n := lev_len l t _ hqm
      have hlc : l.cells.length = l.n := rfl
      have okq : (l.with q.1).Ok0 := ⟨by show 1 ≤ q.1.length; omega, by show q.1.length ≤ 40; omega⟩
      have etk : ((lev l t).take (j + 1)).map (·.1) = ((lev l t).take j).map (·.1) ++ [q.1] := by rw [List.take_add_one, hq, List.map_append]; rfl
      refine wss_one (ws_if (et_val (ev_call G2.to (ea_cons (ev_var 0) (ea_cons (ev_var 3) ea_nil)) ⟨l, q.1, rfl, okq, rfl⟩)) (fun h => ?_) fun h => ?_)
      · refine wss_one (ws_putT 1 (ev_o (eo_compM (List.range q.1.length) (fun k : Nat => D.int k) (fun k : Nat => !decide (at0 q.1 k = at0 l.cells k)) (fun k : Nat => D.int k) [("_law_k", 4)]
          (ei_rangeN (n := q.1.length) (EvD.is (ev_callB (ea_cons (ev_var 3) ea_nil) cd_lenT N.len) (by rw [List.length_map])) (by omega) N.range) scEnds.nd (sg_name 4 scEnds.nd) (fun k hk => ?_) (by simp; omega))) (ev_var 3) ?_ ?_)
        · have hkl := List.mem_range.mp hk
          exact ⟨_, rfl, ets_one (et_cmp (ev_ix (ev_var 3) (ev_var 4) (ixd_tup (atI_int (by omega) (by omega)))) (ev_ix (ev_ix (ev_var 0) ev_int (ixd_tup (d := .tup (l.cells.map D.int)) rfl)) (ev_var 4) (ixd_tup (atI_int (by omega) (by omega)))) od_neI), fun _ => ev_var 4⟩
        · rintro _ rfl
          refine ⟨some (.v (tI q.1)), f4, ?_⟩
          rw [etk, endsF_app]
          show _ = [_, some (Ent.o (D.dT (if (l.with q.1).ready.isEmpty = true then _ else _))), _, _, _]
          rw [if_pos h.symm]
          rfl
        · have h1 := endsF_len l (((lev l t).take j).map (·.1)) (endsF l [] (levKs l t))
          have h2 := endsF_len l (levKs l t) []
          have h3 := few.all (t + 1)
          rw [levKs_succ, List.length_append, List.length_map] at h3
          rw [List.length_map, List.length_take] at h1
          simp only [List.length_nil] at h2
          omega
      · refine wss_nil ⟨some (.v (tI q.1)), f4, ?_⟩
        rw [etk, endsF_app]
        show _ = [_, some (Ent.o (D.dT (if (l.with q.1).ready.isEmpty = true then _ else _))), _, _, _]
        rw [if_neg (by rw [← h]; exact Bool.false_ne_true)]
        rfl
    · rintro ρ' ⟨f3, f4, rfl⟩
      refine ⟨some (.v (dLev l t)), f3, f4, ?_⟩
      rw [show (dZ (lev l t)).length = (lev l t).length from List.length_map .., List.take_length, levKs_succ, endsF_app]
  · rintro ρ' ⟨e2, e3, e4, rfl⟩
    rw [List.length_range]
    exact ⟨_, rfl, hk⟩
end
end FT
/-! text P8 -/
/-! P8: the law's own likeness, for equal things. -/
namespace FT
open PySem PySem.Spec L2 DL
open PyProof.Rows hiding St
abbrev sAlike : Stmt := topS 47
theorem scAlike : FnScope ["_law_found", "_law_due", "_law_k"] ["_law_found", "_law_due"] (defScope sAlike) := ⟨rfl, rfl, rfl, by decide +kernel, rfl, by decide +kernel, by decide +kernel⟩
section
variable {C : Cfg}
theorem filter_no {α : Type} (xs : List α) : xs.filter (fun _ => false) = [] := by induction xs <;> simp
def SAlike0 : List D → (D → Prop) → Prop := fun ds k => ((∃ i : Int, ds = [.int i, .int i]) ∨ ds = [.non, .non]) ∧ k (.bl true)
theorem fn_alike0 (N : Bare C) {f : Addr} {fd : FuncData} (F : Fun C.K "_law_alike" "_law_alike" sAlike f fd) (hm : C.mg "_law_alike" = some (.ref f)) (hb : Binds C.K fd ["_law_found", "_law_due"] []) : FnD C 1 "_law_alike" SAlike0 := by
  refine fnD F hm hb scAlike (by rintro ds k ⟨⟨i, rfl⟩ | rfl, _⟩ <;> rfl) ?_
  rintro ds kk ⟨h, hk⟩
  rcases h with ⟨i, rfl⟩ | rfl
  · refine wss_seq (ws_ifF (et_val (k := false) (ev_callB (ea_cons (ev_var 1) (ea_cons (ev_tup (ea_cons (ev_ty (n := "tuple") N.tuple) (ea_cons (ev_ty (n := "list") N.list) ea_nil))) ea_nil)) (cd_isi2 (b1 := false) (b2 := false) rfl) N.isinstance)) (wss_nil rfl)) ?_
    refine wss_seq (ws_ifF (EvT.imp (et_w (ew_or (k := false) (k' := false) (et_cmp (ev_var 1) ev_non od_isN) fun _ => ew_or1 (et_val (k := false) (ev_callB (ea_cons (ev_var 1) (ea_cons (ev_ty (n := "str") N.str) ea_nil)) (cd_isi (b := false) rfl) N.isinstance)))) (by rintro _ rfl; rfl)) (wss_nil rfl)) ?_
    refine wss_one (ws_ret (EvD.is (ev_and (k := true) (k' := true && true) (ev_callB (ea_cons (ev_var 0) (ea_cons (ev_ty (n := "int") N.int) ea_nil)) (cd_isi (b := true) rfl) N.isinstance) fun _ =>
      ev_and (k := true) (k' := true) (EvD.is (ev_cmp (ev_callB (ea_cons (ev_var 0) (ea_cons (ev_ty (n := "bool") N.bool) ea_nil)) (cd_isi (b := false) rfl) N.isinstance) (ev_callB (ea_cons (ev_var 1) (ea_cons (ev_ty (n := "bool") N.bool) ea_nil)) (cd_isi (b := false) rfl) N.isinstance) od_eqB) rfl) fun _ => ev_one (EvD.is (ev_cmp (ev_var 0) (ev_var 1) od_eqI) (by simp))) rfl) ?_)
    rintro _ rfl
    exact hk
  · refine wss_seq (ws_ifF (et_val (k := false) (ev_callB (ea_cons (ev_var 1) (ea_cons (ev_tup (ea_cons (ev_ty (n := "tuple") N.tuple) (ea_cons (ev_ty (n := "list") N.list) ea_nil))) ea_nil)) (cd_isi2 (b1 := false) (b2 := false) rfl) N.isinstance)) (wss_nil rfl)) ?_
    refine wss_cons (M := fun _ => False) (ws_ifT (EvT.imp (et_w (ew_or (k := true) (k' := true) (et_cmp (ev_var 1) ev_non od_isN) fun h => by cases h)) (by rintro _ rfl; rfl)) ?_) (fun _ h => h.elim)
    refine wss_one (ws_ret (EvD.is (ev_and (k := true) (k' := true) (EvD.is (ev_cmp (ev_var 0) (ev_var 1) (od_eqD .non .non)) (by rw [PyData.eqv])) fun _ => ev_one (EvD.is (ev_cmp (ev_callB (ea_cons (ev_var 0) (ea_cons (ev_ty (n := "str") N.str) ea_nil)) (cd_isi (b := false) rfl) N.isinstance) (ev_callB (ea_cons (ev_var 1) (ea_cons (ev_ty (n := "str") N.str) ea_nil)) (cd_isi (b := false) rfl) N.isinstance) od_eqB) rfl)) rfl) ?_)
    rintro _ rfl
    exact hk
def SAlikeT : List D → (D → Prop) → Prop := fun ds k => ∃ c : List Int, c.length ≤ 1000 ∧ ds = [tI c, tI c] ∧ k (.bl true)
theorem fn_alike (N : Bare C) (G : FnD C 1 "_law_alike" SAlike0) {f : Addr} {fd : FuncData} (F : Fun C.K "_law_alike" "_law_alike" sAlike f fd) (hm : C.mg "_law_alike" = some (.ref f)) (hb : Binds C.K fd ["_law_found", "_law_due"] []) : FnD C 2 "_law_alike" SAlikeT := by
  refine fnD F hm hb scAlike (by rintro ds k ⟨c, _, rfl, _⟩; rfl) ?_
  rintro ds kk ⟨c, hc, rfl, hk⟩
  refine wss_cons (M := fun _ => False) (ws_ifT (et_val (k := true) (ev_callB (ea_cons (ev_var 1) (ea_cons (ev_tup (ea_cons (ev_ty (n := "tuple") N.tuple) (ea_cons (ev_ty (n := "list") N.list) ea_nil))) ea_nil)) (cd_isi2 (b1 := true) (b2 := false) rfl) N.isinstance)) ?_) (fun _ h => h.elim)
  refine wss_seq (ws_ifF (EvT.imp (et_w (ew_or (k := false) (k' := false) (EvT.imp (et_not (et_val (k := true) (ev_callB (ea_cons (ev_var 0) (ea_cons (ev_tup (ea_cons (ev_ty (n := "tuple") N.tuple) (ea_cons (ev_ty (n := "list") N.list) ea_nil))) ea_nil)) (cd_isi2 (b1 := true) (b2 := false) rfl) N.isinstance))) (by rintro _ rfl; rfl)) fun _ =>
    ew_or1 (EvT.imp (et_cmp (ev_callB (ea_cons (ev_var 0) (ea_cons (ev_ty (n := "list") N.list) ea_nil)) (cd_isi (b := false) rfl) N.isinstance) (ev_callB (ea_cons (ev_var 1) (ea_cons (ev_ty (n := "list") N.list) ea_nil)) (cd_isi (b := false) rfl) N.isinstance) od_neB) (by rintro _ rfl; rfl)))) (by rintro _ rfl; rfl)) (wss_nil rfl)) ?_
  refine wss_seq (ws_ifF (EvT.imp (et_cmp (ev_callB (ea_cons (ev_var 0) ea_nil) cd_lenT N.len) (ev_callB (ea_cons (ev_var 1) ea_nil) cd_lenT N.len) od_neI) (by rintro _ rfl; simp)) (wss_nil rfl)) ?_
  refine wss_one (ws_ret (ev_cmp (ev_o (eo_compM (List.range c.length) (fun k : Nat => D.int k) (fun _ => false) (fun k : Nat => D.int k) [("_law_k", 2)]
    (ei_rangeN (n := c.length) (EvD.is (ev_callB (ea_cons (ev_var 1) ea_nil) cd_lenT N.len) (by rw [List.length_map])) (by omega) N.range) scAlike.nd (sg_name 2 scAlike.nd) (fun k hk => ?_) (by simp; omega))) (ev_o (eo_lst ea_nil)) (od_eqNil (ps := []) (by rw [filter_no]; exact .nil) rfl)) ?_)
  · have hkl := List.mem_range.mp hk
    exact ⟨_, rfl, ets_one (EvT.imp (et_not (et_val (ev_call G.to (ea_cons (ev_ix (ev_var 0) (ev_var 2) (ixd_tup (atI_int (by omega) (by omega)))) (ea_cons (ev_ix (ev_var 1) (ev_var 2) (ixd_tup (atI_int (by omega) (by omega)))) ea_nil)) ⟨.inl ⟨_, rfl⟩, rfl⟩))) (by rintro _ rfl; rfl)), fun h => by cases h⟩
  · rintro _ rfl
    rw [filter_no]
    exact hk
end
end FT
/-! text P9 -/
/-! P9: the row of draws: taken. -/
namespace FT
open PySem PySem.Spec L2 DL
open PyProof.Rows hiding St
abbrev sTaken : Stmt := topS 37
theorem scTaken : FnScope ["_law_row", "_law_many", "_law_found", "_law_cell"] ["_law_row", "_law_many"] (defScope sTaken) := ⟨rfl, rfl, rfl, by decide +kernel, rfl, by decide +kernel, by decide +kernel⟩
/-! ### plain expressions, the heap stays -/
def EV (X : Cx) (σ : L2.St) (H : Hp) (e : Expr) (v : V) : Prop := ∀ Q : VK, Q v H → WE X e σ H Q
def TV (X : Cx) (σ : L2.St) (H : Hp) (e : Expr) (k : Bool) : Prop := ∀ Q : Bool → Hp → Prop, Q k H → WT X e σ H Q
section
variable {C : Cfg} {X : Cx} {σ : L2.St} {H : Hp} {a b c e : Expr} {pos : Pos} {x y z : Int}
theorem zv_int {i : Int} {j} : EV X σ H (.Constant (.int i) j pos) (.int i) := fun Q q => WE.of pe_int q
theorem zv_var (hX : XOk C X) (i : Nat) {x : Str} {v : V} (h : σ[i]? = some (some v)) (hN : C.N[i]? = some x := by rfl) (hv : Vis C.sc x := by first | exact Or.inl rfl | exact Or.inr (Or.inl rfl) | exact Or.inr (Or.inr rfl)) (hd : (x == ("__debug__" : Str)) = false := by decide)
    (hcd : (x == ("__classdict__" : Str)) = false := by decide) : EV X σ H (.Name x pos) v := fun Q q => WE.of (pe_var (by rw [← hX.N]; exact hN) (by rw [← hX.sc]; exact hv) hd hcd) ⟨v, h, q⟩
theorem zv_op {op : Operator} (ha : EV X σ H a (.int x)) (hb : EV X σ H b (.int y)) (h : ∀ Q : VK, Q (.int z) H → oAny X (binaryOp op) (.int x) (.int y) H Q) : EV X σ H (.BinOp a op b pos) (.int z) := fun Q q => WE.of (pe_op op_any pe_we pe_we) (ha _ (hb _ (h Q q)))
theorem zv_add (ha : EV X σ H a (.int x)) (hb : EV X σ H b (.int y)) : EV X σ H (.BinOp a .Add b pos) (.int (x + y)) := zv_op ha hb fun Q q => ⟨_, op_add, _, _, rfl, rfl, q⟩
theorem zv_sub (ha : EV X σ H a (.int x)) (hb : EV X σ H b (.int y)) : EV X σ H (.BinOp a .Sub b pos) (.int (x - y)) := zv_op ha hb fun Q q => ⟨_, op_sub, _, _, rfl, rfl, q⟩
theorem zv_mul (ha : EV X σ H a (.int x)) (hb : EV X σ H b (.int y)) (h : CMul x y) : EV X σ H (.BinOp a .Mult b pos) (.int (x * y)) := zv_op ha hb fun Q q => ⟨_, op_mul, _, _, rfl, rfl, h, q⟩
theorem zv_mod (ha : EV X σ H a (.int x)) (hb : EV X σ H b (.int y)) (h : 0 < y) : EV X σ H (.BinOp a .Mod b pos) (.int (x % y)) := zv_op ha hb fun Q q => ⟨_, op_mod, _, _, rfl, rfl, h, q⟩
theorem zv_fdiv (ha : EV X σ H a (.int x)) (hb : EV X σ H b (.int y)) (h : CDiv x y) : EV X σ H (.BinOp a .FloorDiv b pos) (.int (x / y)) := zv_op ha hb fun Q q => ⟨_, op_fdiv, _, _, rfl, rfl, h, q⟩
theorem zv_pow (ha : EV X σ H a (.int x)) (hb : EV X σ H b (.int y)) (h : CPow x y) : EV X σ H (.BinOp a .Pow b pos) (.int (x ^ y.toNat)) := zv_op ha hb fun Q q => ⟨_, op_pow, _, _, rfl, rfl, h, q⟩
theorem zv_ix {p : Addr} {vs : List V} {v : V} (ha : EV X σ H a (.ref p)) (hb : EV X σ H b (.int x)) (h : SqL X.K H p vs) (hv : atI vs x = some v) (hs : PlainIx b := by intro _ _; rfl) : EV X σ H (.Subscript a b pos) v := fun Q q =>
  WE.of (pe_ix ix_list pe_we pe_we hs) (ha _ (hb _ ⟨p, vs, x, v, rfl, rfl, h, hv, q⟩))
theorem zv_intc (hX : XOk C X) {pp : Pos} (he : EV X σ H e (.int x)) (hm : C.mg "int" = none) (hg : GlC C "int" := by rfl) (h1 : ∀ env, starEach [e] env = (false, eval e env) :: starEach [] env := by intro _; rfl) (hpl : ∀ env, (backTo pos (starEach [] env)).any (·.1) = false := by intro _; rfl) : EV X σ H (.Call (.Name "int" pp) [e] [] pos) (.int x) := fun Q q =>
  WE.of (pe_callTy call_any (hX.gl hg) (by rw [← hX.mg]; exact hm) (by decide +kernel) pa_wa (by decide) (by decide) (h1 _) (hpl _)) (WA.of (pa_cons pe_we pa_wa (h1 _)) (he _ (WA.of pa_nil ⟨_, call_int1, .inl ⟨x, rfl, q⟩⟩)))
theorem zv_len (hX : XOk C X) {pp : Pos} {p : Addr} {vs : List V} (he : EV X σ H e (.ref p)) (h : SqL X.K H p vs) (hm : C.mg "len" = none) (hg : GlC C "len" := by rfl) (h1 : ∀ env, starEach [e] env = (false, eval e env) :: starEach [] env := by intro _; rfl) (hpl : ∀ env, (backTo pos (starEach [] env)).any (·.1) = false := by intro _; rfl) : EV X σ H (.Call (.Name "len" pp) [e] [] pos) (.int vs.length) := fun Q q =>
  WE.of (pe_callB call_any (hX.gl hg) (by rw [← hX.mg]; exact hm) (by decide +kernel) pa_wa (by decide) (by decide) (h1 _) (hpl _)) (WA.of (pa_cons pe_we pa_wa (h1 _)) (he _ (WA.of pa_nil ⟨_, call_len_seq, p, vs, rfl, .inl h, q⟩)))
theorem zt_gt (ha : EV X σ H a (.int x)) (hb : EV X σ H b (.int y)) (hm : behindInMarks .Gt b = false := by first | exact nomark _ | rfl) : TV X σ H (.Compare a [.Gt] [b] pos) (decide (y < x)) := fun Q q => WT.of (pt_cmpR op_any pe_we pe_we hm) (ha _ (hb _ ⟨_, op_gt, _, _, rfl, rfl, _, rfl, q⟩))
theorem zt_ge (ha : EV X σ H a (.int x)) (hb : EV X σ H b (.int y)) (hm : behindInMarks .GtE b = false := by first | exact nomark _ | rfl) : TV X σ H (.Compare a [.GtE] [b] pos) (decide (y ≤ x)) := fun Q q => WT.of (pt_cmpR op_any pe_we pe_we hm) (ha _ (hb _ ⟨_, op_ge, _, _, rfl, rfl, _, rfl, q⟩))
theorem zs_if {k : Bool} {A B : List Stmt} {Dn : Ends} (hc : TV X σ H c k) (h1 : k = true → WSts X A Dn σ H) (h2 : k = false → WSts X B Dn σ H) : WSt X (.If c A B pos) Dn σ H :=
  WSt.of (ps_if pt_wt pss_wsts pss_wsts) (hc _ (by
    cases k with
    | true => exact iteT (h1 rfl)
    | false => exact iteF (h2 rfl)))
theorem zs_ret {v : V} {Dn : Ends} (he : EV X σ H e v) (h : Dn.rt v H) : WSt X (.Return (some e) pos) Dn σ H := WSt.of (ps_ret pe_we) (he _ h)
theorem zs_cons {st : Stmt} {sts : List Stmt} {Dn : Ends} (h : WSt X st { Dn with nx := fun σ' H' => WSts X sts Dn σ' H' } σ H) : WSts X (st :: sts) Dn σ H := WSts.of (pss_cons ps_wst pss_wsts) h
theorem zs_one {st : Stmt} {Dn : Ends} (h : WSt X st Dn σ H) : WSts X [st] Dn σ H := WSts.of (pss_one ps_wst) h
theorem zs_nil {Dn : Ends} (h : Dn.nx σ H) : WSts X [] Dn σ H := WSts.of pss_nil h
theorem zs_set (hX : XOk C X) (i : Nat) {x : Str} {v : V} {Dn : Ends} {pos' : Pos} (hnd : C.N.Nodup) (h : EV X σ H e v) (hn : Dn.nx (σ.set i (some v)) H) (hN : C.N[i]? = some x := by rfl) (hl : LocC C x := by first | exact Or.inl rfl | exact Or.inr ⟨rfl, rfl⟩) (hs : ∀ (pos pos' : Pos) (env : Env), swapsWith e (some (.Name x pos')) pos.line env = pure false := by intro _ _ _; rfl) :
    WSt X (.Assign [.Name x pos'] e pos) Dn σ H := by
  obtain ⟨h1, h2⟩ := hX.loc hl
  exact WSt.of (ps_set (by rw [← hX.N]; exact hnd) (by rw [← hX.N]; exact hN) h1 pe_we (hs _ _ _) h2) (h _ hn)
theorem zs_put {p : Addr} {vs : List V} {v : V} {j : Nat} {Dn : Ends} {ppos : Pos} (he : EV X σ H e v) (ho : EV X σ H a (.ref p)) (hk : EV X σ H b (.int x)) (hp : H p = some (.lst vs)) (hj : ixN vs.length x = some j) (hn : Dn.nx σ (upd H p (.lst (vs.set j v))))
    (ha : ∀ env v, assign (.Subscript a b ppos) env v = (do
      let ov ← holding [v] (eval a env)
      let iv ← holding [v, ov] (eval b env)
      standAt ppos
      holding [v, ov, iv] (setItem ov iv  v)
      release [v, ov, iv] []) := by intro _ _; rfl)
    (hs : ∀ (pos : Pos) (env : Env), swapsWithSole [.Subscript a b ppos] e pos.line env = pure false := by intro _ _; rfl) (hw : ∀ env : Env, swappedStores [.Subscript a b ppos] e env = pure none := by intro _; rfl)
    (h1 : ∀ env, (assignEach [.Subscript a b ppos] env).map (·.2) = [assign (.Subscript a b ppos) env] := by intro _; rfl) :
    WSt X (.Assign [.Subscript a b ppos] e pos) Dn σ H :=
  WSt.of (ps_asg pe_we (pg_sub pe_we pe_we set_list (ha _)) (hs _ _) (hw _) (h1 _)) (he _ (ho _ (hk _ ⟨p, vs, x, j, rfl, rfl, hp, hj, hn⟩)))
end
def STaken : List D → (D → Prop) → Prop := fun ds k => ∃ m : Int, ds = [.row, .int m] ∧ 0 < m ∧ m < 1000000 ∧ ∀ r, 0 ≤ r → r < m → k (.int r)
theorem _root_.DL.RowAt.put {C : Cfg} {H : Hp} {a : Addr} (h : RowAt C H a) {i s g : Int} (h0 : 0 ≤ i) (h1 : 0 ≤ s) (h2 : s < 2147483647) (h3 : 0 ≤ g) : RowAt C (upd H a (.lst [.ref C.rs, .int i, .int s, .int g])) a := by
  obtain ⟨i0, s0, g0, e, sq, p⟩ := id h
  refine ⟨i, s, g, upd_same, ?_, h0, h1, h2, h3⟩
  rcases sq with sq | sq
  · have ne := h.ne (u := .lst []) sq
    rcases sq with sq | ⟨ob, sq⟩
    · exact .inl (.inl (by rw [upd_ne ne]; exact sq))
    · exact .inl (.inr ⟨ob, by rw [upd_ne ne]; exact sq⟩)
  · exact .inr sq
section
variable {C : Cfg}
theorem _root_.DL.Ext.put {C : Cfg} {H : Hp} {a : Addr} (ha : C.r = some a) (h : RowAt C H a) {i s g : Int} (h0 : 0 ≤ i) (h1 : 0 ≤ s) (h2 : s < 2147483647) (h3 : 0 ≤ g) : Ext C H (upd H a (.lst [.ref C.rs, .int i, .int s, .int g])) :=
  ⟨fun b o n e => by rw [upd_ne (fun z => n (by rw [z, ha]))]; exact e, fun _ b hb => by rw [ha] at hb; cases hb; exact h.put h0 h1 h2 h3⟩
set_option maxHeartbeats 4000000  in
theorem fn_taken (N : Bare C) {f : Addr} {fd : FuncData} (F : Fun C.K "_law_taken" "_law_taken" sTaken f fd) (hm : C.mg "_law_taken" = some (.ref f)) (hb : Binds C.K fd ["_law_row", "_law_many"] []) : FnD C 1 "_law_taken" STaken := by
  refine ⟨f, fd, _, F.ok scTaken (fun vs H Q E ⟨ds, Z, kk, ⟨m, e, _⟩, dv, _⟩ => by rw [dv.length, e]; rfl) fun cdv A outer s H vs Q E hr ⟨ds, Z, kk, ⟨m, e, m0, m1, hk⟩, dv, row, rz, rs, zo, hQ⟩ => ?_, hm, F.kp, hb⟩
  subst e
  refine ⟨_, pss_wsts, ?_⟩
  have hX : XOk (bodyCfg C ["_law_row", "_law_many", "_law_found", "_law_cell"] (defScope sTaken) 0) (cxOf CX0 C.P C.w C.K C.mg C.base ["_law_row", "_law_many", "_law_found", "_law_cell"] "_law_taken" (defScope sTaken) f cdv A outer s H E).nox := ⟨rfl, rfl, rfl, rfl, rfl, rfl, rfl, rfl, hr, fun _ _ => rfl, rfl⟩
  generalize (cxOf CX0 C.P C.w C.K C.mg C.base ["_law_row", "_law_many", "_law_found", "_law_cell"] "_law_taken" (defScope sTaken) f cdv A outer s H E).nox = X at hX ⊢
  cases dv with
  | cons d1 t =>
    cases t with
    | cons d2 t =>
      cases t
      cases d2
      cases d1 with
      | @row a ha =>
        have hra := row a ha
        obtain ⟨i, sd, g, e0, sq, i0, s0, s1, g0⟩ := id hra
        have hK : X.K = C.K := hX.K.symm
        have hmod : ∀ u : Int, 0 ≤ u % m ∧ u % m < m := fun u => ⟨Int.emod_nonneg _ (by omega), Int.emod_lt_of_pos _ m0⟩
        have fin : ∀ (u : Int) (H' : Hp), Ext C H H' → Q (.int (u % m)) H' := fun u H' x => hQ (.int (u % m)) (.int (u % m)) H' (hk _ (hmod u).1 (hmod u).2) x (.int _)
        refine zs_cons (zs_if (zt_gt (zv_ix (p := a) (vs := [.ref C.rs, .int i, .int sd, .int g]) (zv_var hX 0 rfl) zv_int (.inl (.inl e0)) rfl) zv_int) (fun hc => ?_) fun hc => ?_)
        · refine zs_cons (zs_set hX 2 scTaken.nd (zv_mod (zv_intc hX (zv_ix (p := a) (vs := [.ref C.rs, .int i, .int sd, .int g]) (zv_var hX 0 rfl) zv_int (.inl (.inl e0)) rfl) N.int) (zv_var hX 1 rfl) m0) ?_)
          refine zs_cons (zs_put (p := a) (vs := [.ref C.rs, .int i, .int sd, .int g]) (j := 3) (zv_fdiv (zv_ix (p := a) (vs := [.ref C.rs, .int i, .int sd, .int g]) (zv_var hX 0 rfl) zv_int (.inl (.inl e0)) rfl) (zv_var hX 1 rfl) ⟨m0, by omega⟩) (zv_var hX 0 rfl) zv_int e0 rfl ?_)
          refine zs_one (zs_ret (zv_var hX 2 rfl) ?_)
          exact fin g _ (Ext.put ha hra i0 s0 s1 (Int.ediv_nonneg g0 (by omega)))
        · refine zs_nil ?_
          refine zs_cons (zs_put (p := a) (vs := [.ref C.rs, .int i, .int sd, .int g]) (j := 1) (zv_add (zv_ix (p := a) (vs := [.ref C.rs, .int i, .int sd, .int g]) (zv_var hX 0 rfl) zv_int (.inl (.inl e0)) rfl) zv_int) (zv_var hX 0 rfl) zv_int e0 rfl ?_)
          have x1 : Ext C H (upd H a (.lst [.ref C.rs, .int (i + 1), .int sd, .int g])) := Ext.put ha hra (by omega) s0 s1 g0
          have r1 : RowAt C (upd H a (.lst [.ref C.rs, .int (i + 1), .int sd, .int g])) a := hra.put (by omega) s0 s1 g0
          obtain ⟨_, _, _, _, sq1, _⟩ := id r1
          have e1 : upd H a (.lst [.ref C.rs, .int (i + 1), .int sd, .int g]) a = some (.lst [.ref C.rs, .int (i + 1), .int sd, .int g]) := upd_same
          show WSts X _ _ _ (upd H a (.lst [.ref C.rs, .int (i + 1), .int sd, .int g]))
          generalize hH1 : upd H a (.lst [.ref C.rs, .int (i + 1), .int sd, .int g]) = H1 at x1 r1 sq1 e1 ⊢
          rw [← hK] at sq1
          refine zs_cons (zs_if (zt_gt (zv_ix (p := a) (vs := [.ref C.rs, .int (i + 1), .int sd, .int g]) (zv_var hX 0 rfl) zv_int (.inl (.inl e1)) rfl) (zv_len hX (zv_ix (p := a) (vs := [.ref C.rs, .int (i + 1), .int sd, .int g]) (zv_var hX 0 rfl) zv_int (.inl (.inl e1)) rfl) sq1 N.len)) (fun hc2 => ?_) fun hc2 => ?_)
          · refine zs_cons (zs_put (p := a) (vs := [.ref C.rs, .int (i + 1), .int sd, .int g]) (j := 2) (zv_mod (zv_intc hX (zv_add (zv_mul (zv_ix (p := a) (vs := [.ref C.rs, .int (i + 1), .int sd, .int g]) (zv_var hX 0 rfl) zv_int (.inl (.inl e1)) rfl) zv_int (.inr (by omega))) zv_int) N.int) zv_int (by omega)) (zv_var hX 0 rfl) zv_int e1 rfl ?_)
            refine zs_one (zs_ret (zv_mod (zv_intc hX (zv_fdiv (zv_ix (p := a) (vs := [.ref C.rs, .int (i + 1), .int ((sd * 48271 + 11) % 2147483647), .int g]) (zv_var hX 0 rfl) zv_int (.inl (.inl upd_same)) rfl) zv_int ⟨by omega, by omega⟩) N.int) (zv_var hX 1 rfl) m0) ?_)
            exact fin _ _ (x1.trans (Ext.put ha r1 (by omega) (by omega) (by omega) g0))
          · refine zs_nil ?_
            rw [List.length_map] at hc2
            have hlt : i < C.ns.length := by
              have := of_decide_eq_false hc2
              omega
            obtain ⟨cell, hcell⟩ : ∃ cell : Int, atI (C.ns.map V.int) (i + 1 - 1) = some (.int cell) := by
              rw [atI_map]
              obtain ⟨q, hq⟩ := atI_some (c := C.ns) (z := i + 1 - 1) (by omega) (by omega)
              exact ⟨q, by rw [hq]; rfl⟩
            refine zs_cons (zs_set hX 3 scTaken.nd (zv_ix (p := C.rs) (vs := C.ns.map V.int) (zv_ix (p := a) (vs := [.ref C.rs, .int (i + 1), .int sd, .int g]) (zv_var hX 0 rfl) zv_int (.inl (.inl e1)) rfl) (zv_sub (zv_ix (p := a) (vs := [.ref C.rs, .int (i + 1), .int sd, .int g]) (zv_var hX 0 rfl) zv_int (.inl (.inl e1)) rfl) zv_int) sq1 hcell) ?_)
            refine zs_cons (zs_put (p := a) (vs := [.ref C.rs, .int (i + 1), .int sd, .int g]) (j := 2) (zv_mod (zv_intc hX (zv_add (zv_add (zv_mul (zv_ix (p := a) (vs := [.ref C.rs, .int (i + 1), .int sd, .int g]) (zv_var hX 0 rfl) zv_int (.inl (.inl e1)) rfl) zv_int (.inr (by omega))) (zv_var hX 3 rfl)) zv_int) N.int) zv_int (by omega)) (zv_var hX 0 rfl) zv_int e1 rfl ?_)
            have x2 : Ext C H (upd H1 a (.lst [.ref C.rs, .int (i + 1), .int ((sd * 48271 + cell + 11) % 2147483647), .int g])) := x1.trans (Ext.put ha r1 (by omega) (by omega) (by omega) g0)
            have r2 : RowAt C (upd H1 a (.lst [.ref C.rs, .int (i + 1), .int ((sd * 48271 + cell + 11) % 2147483647), .int g])) a := r1.put (by omega) (by omega) (by omega) g0
            have e2 : upd H1 a (.lst [.ref C.rs, .int (i + 1), .int ((sd * 48271 + cell + 11) % 2147483647), .int g]) a = some (.lst [.ref C.rs, .int (i + 1), .int ((sd * 48271 + cell + 11) % 2147483647), .int g]) := upd_same
            show WSts X _ _ _ (upd H1 a (.lst [.ref C.rs, .int (i + 1), .int ((sd * 48271 + cell + 11) % 2147483647), .int g]))
            generalize upd H1 a (.lst [.ref C.rs, .int (i + 1), .int ((sd * 48271 + cell + 11) % 2147483647), .int g]) = H2 at x2 r2 e2 ⊢
            refine zs_cons (zs_if (zt_ge (zv_var hX 3 rfl) (zv_pow zv_int zv_int ⟨by omega, by omega, by omega⟩)) (fun hc3 => ?_) fun hc3 => ?_)
            · have hbig : (0 : Int) ≤ cell := by
                have := of_decide_eq_true hc3
                exact Int.le_trans (by decide) this
              refine zs_one (zs_put (p := a) (vs := [.ref C.rs, .int (i + 1), .int ((sd * 48271 + cell + 11) % 2147483647), .int g]) (j := 3) (zv_fdiv (zv_var hX 3 rfl) (zv_var hX 1 rfl) ⟨m0, by omega⟩) (zv_var hX 0 rfl) zv_int e2 rfl ?_)
              exact zs_one (zs_ret (zv_mod (zv_intc hX (zv_var hX 3 rfl) N.int) (zv_var hX 1 rfl) m0) (fin cell _ (x2.trans (Ext.put ha r2 (by omega) (by omega) (by omega) (Int.ediv_nonneg hbig (by omega))))))
            · exact zs_nil (zs_one (zs_ret (zv_mod (zv_intc hX (zv_var hX 3 rfl) N.int) (zv_var hX 1 rfl) m0) (fin cell _ x2)))
end
end FT
/-! text P10 -/
/-! P10: the row of draws: pick, line, wish. -/
namespace FT
open PySem PySem.Spec L2 DL
open PyProof.Rows hiding St
abbrev sPick : Stmt := topS 38
abbrev sLine : Stmt := topS 39
abbrev sLWish : Stmt := topS 40
theorem scPick : FnScope ["_law_row", "_law_things"] ["_law_row", "_law_things"] (defScope sPick) := ⟨rfl, rfl, rfl, by decide +kernel, rfl, by decide +kernel, by decide +kernel⟩
theorem scLine : FnScope ["_law_row", "_law_most", "_law_colours", "_law_is_ring", "_law_many", "_law_way", "_law_cells", "_law_k", "_law_free", "_law_thin", "_law_held_here"] ["_law_row", "_law_most", "_law_colours"] (defScope sLine) := ⟨rfl, rfl, rfl, by decide +kernel, rfl, by decide +kernel, by decide +kernel⟩
theorem scLWish : FnScope ["_law_row", "_law_many", "_law_colours", "_law_thin", "_law_base", "_law_k"] ["_law_row", "_law_many", "_law_colours"] (defScope sLWish) := ⟨rfl, rfl, rfl, by decide +kernel, rfl, by decide +kernel, by decide +kernel⟩
section
variable {C : Cfg} {ρ : DEnv} {e c : Expr}
theorem atI_mem {α : Type} {xs : List α} {z : Int} {x : α} (h : atI xs z = some x) : x ∈ xs := by
  unfold atI at h
  cases q : ixN xs.length z with
  | none => rw [q] at h; cases h
  | some j => rw [q] at h; exact List.mem_of_getElem? h
def inD (m : Int) (d : D) : Prop := ∃ r : Int, d = .int r ∧ 0 ≤ r ∧ r < m
theorem ev_taken (G : FnD C 1 "_law_taken" STaken) {a b : Expr} {m : Int} {pp pos : Pos} (ha : EvD C a ρ .row) (hb : EvD C b ρ (.int m)) (h0 : 0 < m) (h1 : m < 1000000) (hlv : 1 ≤ C.lv := by exact Nat.le_of_ble_eq_true rfl) (hg : GlC C "_law_taken" := by rfl) (h2 : ∀ env, starEach [a, b] env = (false, eval a env) :: starEach [b] env := by intro _; rfl)
    (h3 : ∀ env, starEach [b] env = (false, eval b env) :: starEach [] env := by intro _; rfl) (hpl : ∀ env, (backTo pos (starEach [b] env)).any (·.1) = false := by intro _; rfl) : EvP C (.Call (.Name "_law_taken" pp) [a, b] [] pos) ρ (inD m) :=
  ev_callP (p := inD m) G (ea_cons ha (ea_cons hb ea_nil h3) h2) (by rintro _ rfl; exact ⟨m, rfl, h0, h1, fun r a b => ⟨r, rfl, a, b⟩⟩) hlv hg (by decide) h2 hpl
def SPick : List D → (D → Prop) → Prop := fun ds k => ∃ xs : List D, ds = [.row, .lst xs] ∧ xs ≠ [] ∧ xs.length < 1000000 ∧ ∀ x ∈ xs, k x
theorem fn_pick (N : Bare C) (G : FnD C 1 "_law_taken" STaken) {f : Addr} {fd : FuncData} (F : Fun C.K "_law_pick" "_law_pick" sPick f fd) (hm : C.mg "_law_pick" = some (.ref f)) (hb : Binds C.K fd ["_law_row", "_law_things"] []) : FnD C 2 "_law_pick" SPick := by
  refine fnD F hm hb scPick (by rintro ds k ⟨xs, rfl, _⟩; rfl) ?_
  rintro ds kk ⟨xs, rfl, hne, hl, hk⟩
  have hp : 0 < xs.length := List.length_pos_iff.mpr hne
  refine wss_one (ws_ret (p := (· ∈ xs)) (ev_ixP (pa := (· = .lst xs)) (pb := inD xs.length) (ev_var 1) (ev_taken G.to (ev_var 0) (ev_callB (ea_cons (ev_var 1) ea_nil) cd_lenL N.len) (by omega) (by omega)) ?_) hk)
  rintro _ _ rfl ⟨r, rfl, h0, h1⟩
  obtain ⟨x, hx⟩ := atI_some (c := xs) (z := r) (by omega) h1
  have hxm : x ∈ xs := atI_mem hx
  exact fun X hX Y H u v Q y du dv hQ => ixd_lst hx X hX Y H u v Q y du dv fun z d H' hd => hQ z d H' (hd ▸ hxm)
def SLine : List D → (D → Prop) → Prop := fun ds k => ∃ c : Int, ds = [.row, .int 11, .int c] ∧ 2 ≤ c ∧ c ≤ 3 ∧ ∀ l : Ln, l.Ok → l.n ≤ 11 → (∀ x ∈ l.cells, 0 ≤ x ∧ x < c) → k l.D
theorem rangeD_at {i : Int} {n k : Nat} {d : D} (h : (rangeD i n)[k]? = some d) : d = .int (i + k) ∧ k < n := by
  unfold rangeD at h
  rw [List.getElem?_map] at h
  by_cases hk : k < n
  · rw [List.getElem?_range hk] at h
    cases h
    exact ⟨rfl, hk⟩
  · rw [List.getElem?_eq_none (by simpa using Nat.le_of_not_lt hk)] at h
    cases h
set_option maxHeartbeats 4000000  in
theorem fn_line (N : Bare C) (G : FnD C 1 "_law_taken" STaken) (G2 : FnD C 2 "_law_pick" SPick) {f : Addr} {fd : FuncData} (F : Fun C.K "_law_line" "_law_line" sLine f fd) (hm : C.mg "_law_line" = some (.ref f)) (hb : Binds C.K fd ["_law_row", "_law_most", "_law_colours"] []) : FnD C 3 "_law_line" SLine := by
  refine fnD F hm hb scLine (by rintro ds k ⟨c, rfl, _⟩; rfl) ?_
  rintro ds kk ⟨c, rfl, c2, c3, hk⟩
  refine wss_cons (M := fun ρ' => ∃ b : Bool, ρ' = [some (.v .row), some (.v (.int 11)), some (.v (.int c)), some (.v (.bl b)), none, none, none, none, none, none, none]) (ws_set 3 scLine.nd (p := fun d => ∃ b : Bool, d = .bl b) (ev_cmpP (pb := (· = .int 0)) (ev_taken G.to (ev_var 0) ev_int (by omega) (by omega)) ev_int ?_) ?_) ?_
  · rintro _ _ ⟨r, rfl, _, _⟩ rfl
    exact fun X hX Y H u v Q y du dv hQ => od_eqI X hX Y H u v Q y du dv fun z d H' hd => hQ z d H' ⟨_, hd⟩
  · rintro _ ⟨b, rfl⟩; exact ⟨b, rfl⟩
  rintro _ ⟨b, rfl⟩
  refine wss_cons (M := fun ρ' => ∃ n : Nat, (1 ≤ n ∧ n ≤ 11 ∧ (b = true → 3 ≤ n)) ∧ ρ' = [some (.v .row), some (.v (.int 11)), some (.v (.int c)), some (.v (.bl b)), some (.v (.int n)), none, none, none, none, none, none]) (ws_set 4 scLine.nd (p := fun d => ∃ n : Nat, d = .int n ∧ 1 ≤ n ∧ n ≤ 11 ∧ (b = true → 3 ≤ n))
    (ev_ifP (et_val (k := b) (ev_var 3)) (fun hbt => ev_binP (pa := (· = .int 3)) ev_int (ev_taken G.to (ev_var 0) (ev_bin (ev_var 1) ev_int od_sub) (by omega) (by omega)) ?_) (fun hbf => ev_binP (pa := (· = .int 1)) ev_int (ev_taken G.to (ev_var 0) (ev_var 1) (by omega) (by omega)) ?_)) ?_) ?_
  · rintro _ _ rfl ⟨r, rfl, r0, r1⟩
    exact fun X hX Y H u v Q y du dv hQ => od_add X hX Y H u v Q y du dv fun z d H' hd => hQ z d H' ⟨(3 + r).toNat, by rw [hd]; congr 1; omega, by omega, by omega, fun _ => by omega⟩
  · rintro _ _ rfl ⟨r, rfl, r0, r1⟩
    exact fun X hX Y H u v Q y du dv hQ => od_add X hX Y H u v Q y du dv fun z d H' hd => hQ z d H' ⟨(1 + r).toNat, by rw [hd]; congr 1; omega, by omega, by omega, fun h => by rw [h] at hbf; cases hbf⟩
  · rintro _ ⟨n, rfl, h⟩; exact ⟨n, h, rfl⟩
  rintro _ ⟨n, ⟨n1, n2, n3⟩, rfl⟩
  refine wss_cons (M := fun ρ' => ∃ (w : Int) (cs : List Int), cs.length = 2 ∧ (∀ x ∈ cs, 0 ≤ x ∧ x < c) ∧ ρ' = [some (.v .row), some (.v (.int 11)), some (.v (.int c)), some (.v (.bl b)), some (.v (.int n)), some (.v (.int w)), some (.o (.lst (cs.map D.int))), none, none, none, none])
    (ws_parVO 5 6 scLine.nd (p2 := fun d => ∃ cs : List Int, cs.length = 2 ∧ (∀ x ∈ cs, 0 ≤ x ∧ x < c) ∧ d = .lst (cs.map D.int)) (ev_taken G.to (ev_var 0) ev_int (by omega) (by omega))
      (eo_lstP (ps := fun ds => ∃ cs : List Int, cs.length = 2 ∧ (∀ x ∈ cs, 0 ≤ x ∧ x < c) ∧ ds = cs.map D.int) (ea_consP (ps := fun ds => ∃ y : Int, ds = [.int y] ∧ 0 ≤ y ∧ y < c) (ev_taken G.to (ev_var 0) (ev_var 2) (by omega) (by omega)) (ea_consP (ps := (· = [])) (ev_taken G.to (ev_var 0) (ev_var 2) (by omega) (by omega)) ea_nil ?_) ?_) ?_) ?_) ?_
  · rintro _ _ ⟨r, rfl, h0, h1⟩ rfl; exact ⟨r, rfl, h0, h1⟩
  · rintro _ _ ⟨r, rfl, h0, h1⟩ ⟨y, rfl, h2, h3⟩
    exact ⟨[r, y], rfl, by simp; omega, rfl⟩
  · rintro _ ⟨cs, h, h', rfl⟩; exact ⟨by simp; omega, cs, h, h', rfl⟩
  · rintro _ _ ⟨w, rfl, _, _⟩ ⟨cs, h, h', rfl⟩; exact ⟨w, cs, h, h', rfl⟩
  rintro _ ⟨w, cs, hl, hc, rfl⟩
  refine wss_cons (ws_for (fun i ρ' => ∃ (cs : List Int) (e7 e8 : Option Ent), cs.length = 2 + i ∧ (∀ x ∈ cs, 0 ≤ x ∧ x < c) ∧ ρ' = [some (.v .row), some (.v (.int 11)), some (.v (.int c)), some (.v (.bl b)), some (.v (.int n)), some (.v (.int w)), some (.o (.lst (cs.map D.int))), e7, e8, none, none]) (ei_range2 ev_int (ev_var 4) (by omega) (by omega) N.range) (sg_name 7 scLine.nd) ⟨cs, none, none, hl, hc, rfl⟩ ?_ (fun ρ' h => h)) ?_
  · rintro i ρ' d hd ⟨cs, e7, e8, hl, hc, rfl⟩
    obtain ⟨rfl, hi⟩ := rangeD_at hd
    refine ⟨_, rfl, ?_⟩
    refine wss_cons (M := fun ρ' => ∃ y : Int, (0 ≤ y ∧ y < c) ∧ ρ' = [some (.v .row), some (.v (.int 11)), some (.v (.int c)), some (.v (.bl b)), some (.v (.int n)), some (.v (.int w)), some (.o (.lst (cs.map D.int))), some (.v (.int (2 + i))), some (.v (.int y)), none, none]) (ws_set 8 scLine.nd (ev_taken G.to (ev_var 0) (ev_var 2) (by omega) (by omega)) ?_) ?_
    · rintro _ ⟨y, rfl, h0, h1⟩; exact ⟨y, ⟨h0, h1⟩, rfl⟩
    rintro _ ⟨y, ⟨y0, y1⟩, rfl⟩
    have hat : atI (cs.map D.int) (2 + i - 2) = some (.int (at0 cs (2 + i - 2))) := atI_int (by omega) (by omega)
    have hin : 0 ≤ at0 cs (2 + i - 2) ∧ at0 cs (2 + i - 2) < c := by
      exact hc _ (atI_mem (atI_at0 (c := cs) (z := 2 + i - 2) (by omega) (by omega)))
    refine wss_one (ws_app 6 (ds := cs.map D.int) (p := inD c) (ev_ifP (pk := fun _ => True) (et_w (ew_andP (k := decide (0 < w)) (et_cmp (ev_var 5) ev_int od_gt) (fun _ => trivial) fun _ => ew_and1 (et_cmpP (pb := fun d => ∃ z : Int, d = .int z) (ev_taken G.to (ev_var 0) ev_int (by omega) (by omega)) (EvP.imp (ev_bin (ev_var 5) ev_int od_add) fun d h => ⟨_, h⟩) ?_))) (fun _ => EvP.imp (ev_ixO 6 (ev_bin (ev_var 7) ev_int od_sub) hat) ?_) (fun _ => EvP.imp (ev_var 8) ?_)) ?_ (by rw [List.length_map]; omega))
    · rintro _ _ ⟨r, rfl, _, _⟩ ⟨z, rfl⟩
      exact fun X hX Y H u v Q y du dv hQ => od_lt X hX Y H u v Q y du dv fun z d H' hd => hQ z d H' ⟨_, hd, trivial⟩
    · rintro _ rfl; exact ⟨_, rfl, hin.1, hin.2⟩
    · rintro _ rfl; exact ⟨_, rfl, y0, y1⟩
    · rintro _ ⟨r, rfl, r0, r1⟩
      refine ⟨cs ++ [r], some (.v (.int (2 + i))), some (.v (.int y)), by simp; omega, fun x hx => ?_, ?_⟩
      · rcases List.mem_append.mp hx with h | h
        · exact hc x h
        · rw [List.mem_singleton.mp h]; exact ⟨r0, r1⟩
      · rw [List.map_append]; rfl
  rintro _ ⟨cs, e7, e8, hl, hc, rfl⟩
  have hln : n ≤ cs.length := by
    unfold rangeD at hl
    rw [List.length_map, List.length_range] at hl
    omega
  refine wss_cons (M := fun ρ' => ∃ t : Int, (0 < t ∧ t < 1000) ∧ ρ' = [some (.v .row), some (.v (.int 11)), some (.v (.int c)), some (.v (.bl b)), some (.v (.int n)), some (.v (.int w)), some (.o (.lst (cs.map D.int))), e7, e8, some (.v (.int t)), none])
    (ws_set 9 scLine.nd (p := fun d => ∃ t : Int, d = .int t ∧ 0 < t ∧ t < 1000) (ev_callP G2.to (ea_cons (ev_var 0) (ea_cons (ev_o (eo_lst (ea_cons ev_int (ea_cons ev_int (ea_cons ev_int ea_nil))))) ea_nil)) ?_) ?_) ?_
  · rintro _ rfl
    refine ⟨_, rfl, by simp, by simp, fun x hx => ?_⟩
    rcases List.mem_cons.mp hx with rfl |  hx
    · exact ⟨_, rfl, by omega, by omega⟩
    rcases List.mem_cons.mp hx with rfl |  hx
    · exact ⟨_, rfl, by omega, by omega⟩
    rcases List.mem_cons.mp hx with rfl |  hx
    · exact ⟨_, rfl, by omega, by omega⟩
    cases hx
  · rintro _ ⟨t, rfl, h⟩; exact ⟨t, h, rfl⟩
  rintro _ ⟨t, ⟨t0, t1⟩, rfl⟩
  refine wss_cons (M := fun ρ' => ∃ hs : List Int, (hs.Pairwise (· < ·) ∧ ∀ x ∈ hs, 0 ≤ x ∧ x < n) ∧ ρ' = [some (.v .row), some (.v (.int 11)), some (.v (.int c)), some (.v (.bl b)), some (.v (.int n)), some (.v (.int w)), some (.o (.lst (cs.map D.int))), e7, e8, some (.v (.int t)), some (.v (tI hs))])
    (ws_set 10 scLine.nd (p := fun d => ∃ hs : List Int, d = tI hs ∧ hs.Pairwise (· < ·) ∧ ∀ x ∈ hs, 0 ≤ x ∧ x < n) (ev_callTP (T := "tuple") (ps := fun ds => ∃ hs : List Int, ds = [.lst (hs.map D.int)] ∧ hs.Pairwise (· < ·) ∧ ∀ x ∈ hs, 0 ≤ x ∧ x < n)
      (ea_consP (ps := (· = [])) (ev_o (eo_compP (p := fun d => ∃ hs : List Int, d = .lst (hs.map D.int) ∧ hs.Pairwise (· < ·) ∧ ∀ x ∈ hs, 0 ≤ x ∧ x < n) (Iv := fun i acc => ∃ hs : List Int, acc = hs.map D.int ∧ hs.Pairwise (· < ·) ∧ ∀ x ∈ hs, 0 ≤ x ∧ x < i) (ei_rangeN (n := n) (ev_var 4) (by omega) N.range) scLine.nd (own := [("_law_k", 7)]) ⟨_, _, sg_name 7 scLine.nd, by decide, fun i d acc hd ha => ?_⟩ ⟨[], rfl, .nil, fun _ h => by cases h⟩ (by simp; omega) ?_)) ea_nil ?_) ?_ N.tuple) ?_) ?_
  · obtain ⟨hs, rfl, hp, hin⟩ := ha
    rw [← range_nat] at hd
    obtain ⟨rfl, hi⟩ := rangeD_at hd
    refine ⟨_, fun _ => True, rfl, ets_one (et_cmpP (pb := (· = .int 0)) (ev_taken G.to (ev_var 0) (ev_var 9) (by omega) (by omega)) ev_int ?_), fun _ => EvP.imp (ev_var 7) ?_, fun _ => ⟨hs, rfl, hp, fun x hx => ?_⟩⟩
    · rintro _ _ ⟨r, rfl, _, _⟩ rfl
      exact fun X hX Y H u v Q y du dv hQ => od_eqI X hX Y H u v Q y du dv fun z d H' hd => hQ z d H' ⟨_, hd, trivial⟩
    · rintro _ rfl
      refine ⟨hs ++ [0 + (i : Int)], by rw [List.map_append]; rfl, ?_, fun x hx => ?_⟩
      · refine List.pairwise_append.mpr ⟨hp, List.pairwise_singleton _ _, fun x hx y hy => ?_⟩
        rw [List.mem_singleton.mp hy]
        have := hin x hx; omega
      · rcases List.mem_append.mp hx with h | h
        · have := hin x h; omega
        · rw [List.mem_singleton.mp h]; omega
    · have := hin x hx; omega
  · rintro acc ⟨hs, rfl, hp, hin⟩
    exact ⟨hs, rfl, hp, by simpa using hin⟩
  · rintro _ _ ⟨hs, rfl, h⟩ rfl
    exact ⟨hs, rfl, h⟩
  · rintro _ ⟨hs, rfl, h⟩
    exact fun X hX Y H us Q y du hQ => cd_tupL X hX Y H us Q y du fun z d H' hd => hQ z d H' ⟨hs, hd, h⟩
  · rintro _ ⟨hs, rfl, h⟩; exact ⟨hs, h, rfl⟩
  rintro _ ⟨hs, ⟨hp, hin⟩, rfl⟩
  refine wss_frz 6 (wss_one (ws_ret (ev_tup (ea_cons (EvD.is (ev_callT (ea_cons (ev_o (eo_slL (ev_var 6) epo_none (epo_some (ev_var 4)))) ea_nil) cd_tupL N.tuple) (d' := tI (cs.take n)) (by rw [cutD_map, cutL_first])) (ea_cons (ev_var 10) (ea_cons (ev_var 3) ea_nil)))) ?_))
  rintro _ rfl
  have hlen : (cs.take n).length = n := by rw [List.length_take]; omega
  refine hk ⟨cs.take n, hs, b⟩ ⟨?_, ?_, ?_, ?_, ?_, hp⟩ ?_ ?_
  · show 1 ≤ (cs.take n).length; omega
  · show (cs.take n).length ≤ 40; omega
  · intro h; show 3 ≤ (cs.take n).length; have := n3 h; omega
  · intro x hx; have := hc x (List.mem_of_mem_take hx); omega
  · intro x hx; have := hin x hx; show 0 ≤ x ∧ x < ((cs.take n).length : Int); omega
  · show (cs.take n).length ≤ 11; omega
  · intro x hx; exact hc x (List.mem_of_mem_take hx)
def SLWish : List D → (D → Prop) → Prop := fun ds k => ∃ n : Nat, ds = [.row, .int n, .int 2] ∧ n ≤ 1000 ∧ ∀ w : List (Option Int), w.length = n → (∀ x : Int, some x ∈ w → 0 ≤ x ∧ x < 2) → k (wishD w)
theorem fn_lwish (N : Bare C) (G : FnD C 1 "_law_taken" STaken) (G2 : FnD C 2 "_law_pick" SPick) {f : Addr} {fd : FuncData} (F : Fun C.K "_law_wish" "_law_wish" sLWish f fd) (hm : C.mg "_law_wish" = some (.ref f)) (hb : Binds C.K fd ["_law_row", "_law_many", "_law_colours"] []) : FnD C 3 "_law_wish" SLWish := by
  refine fnD F hm hb scLWish (by rintro ds k ⟨n, rfl, _⟩; rfl) ?_
  rintro ds kk ⟨n, rfl, hn, hk⟩
  refine wss_cons (M := fun ρ' => ∃ t : Int, (0 < t ∧ t < 1000) ∧ ρ' = [some (.v .row), some (.v (.int n)), some (.v (.int 2)), some (.v (.int t)), none, none])
    (ws_set 3 scLWish.nd (p := fun d => ∃ t : Int, d = .int t ∧ 0 < t ∧ t < 1000) (ev_callP G2.to (ea_cons (ev_var 0) (ea_cons (ev_o (eo_lst (ea_cons ev_int (ea_cons ev_int (ea_cons ev_int ea_nil))))) ea_nil)) ?_) ?_) ?_
  · rintro _ rfl
    refine ⟨_, rfl, by simp, by simp, fun x hx => ?_⟩
    rcases List.mem_cons.mp hx with rfl |  hx
    · exact ⟨_, rfl, by omega, by omega⟩
    rcases List.mem_cons.mp hx with rfl |  hx
    · exact ⟨_, rfl, by omega, by omega⟩
    rcases List.mem_cons.mp hx with rfl |  hx
    · exact ⟨_, rfl, by omega, by omega⟩
    cases hx
  · rintro _ ⟨t, rfl, h⟩; exact ⟨t, h, rfl⟩
  rintro _ ⟨t, ⟨t0, t1⟩, rfl⟩
  refine wss_cons (M := fun ρ' => ∃ y : Int, (0 ≤ y ∧ y < 2) ∧ ρ' = [some (.v .row), some (.v (.int n)), some (.v (.int 2)), some (.v (.int t)), some (.v (.int y)), none]) (ws_set 4 scLWish.nd (ev_taken G.to (ev_var 0) (ev_var 2) (by omega) (by omega)) ?_) ?_
  · rintro _ ⟨y, rfl, h0, h1⟩; exact ⟨y, ⟨h0, h1⟩, rfl⟩
  rintro _ ⟨y, ⟨y0, y1⟩, rfl⟩
  refine wss_one (ws_ret (p := fun d => ∃ w : List (Option Int), d = wishD w ∧ w.length = n ∧ ∀ x : Int, some x ∈ w → 0 ≤ x ∧ x < 2) (ev_callTP (T := "tuple") (ps := fun ds => ∃ w : List (Option Int), ds = [.lst (w.map optD)] ∧ w.length = n ∧ ∀ x : Int, some x ∈ w → 0 ≤ x ∧ x < 2)
      (ea_consP (ps := (· = [])) (ev_o (eo_compP (p := fun d => ∃ w : List (Option Int), d = .lst (w.map optD) ∧ w.length = n ∧ ∀ x : Int, some x ∈ w → 0 ≤ x ∧ x < 2) (Iv := fun i acc => ∃ w : List (Option Int), acc = w.map optD ∧ w.length = i ∧ ∀ x : Int, some x ∈ w → 0 ≤ x ∧ x < 2) (ei_rangeN (n := n) (ev_var 1) (by omega) N.range) scLWish.nd (own := [("_law_k", 5)]) ⟨_, _, sg_name 5 scLWish.nd, by decide, fun i d acc hd ha => ?_⟩ ⟨[], rfl, rfl, fun _ h => by cases h⟩ (by simp; omega) ?_)) ea_nil ?_) ?_ N.tuple) ?_)
  · obtain ⟨w, rfl, hw, hin⟩ := ha
    refine ⟨_, (· = true), rfl, ets_nil, fun _ => ev_ifP (pk := fun _ => True) (et_cmpP (pb := (· = .int 0)) (ev_taken G.to (ev_var 0) (ev_var 3) (by omega) (by omega)) ev_int ?_) (fun _ => ev_callP G2.to (ea_consP (ps := fun ds => ∃ u v : Int, (0 ≤ u ∧ u < 2 ∧ 0 ≤ v ∧ v < 2) ∧ ds = [.lst [.int u, .int v]]) (pa := (· = .row)) (ev_var 0) (ea_consP (ps := (· = [])) (pa := fun d => ∃ u v : Int, (0 ≤ u ∧ u < 2 ∧ 0 ≤ v ∧ v < 2) ∧ d = .lst [.int u, .int v])
        (ev_o (eo_lstP (ps := fun ds => ∃ u v : Int, (0 ≤ u ∧ u < 2 ∧ 0 ≤ v ∧ v < 2) ∧ ds = [.int u, .int v]) (ea_consP (ps := fun ds => ∃ v : Int, (0 ≤ v ∧ v < 2) ∧ ds = [.int v]) (pa := (· = .int y)) (ev_var 4) (ea_consP (ps := (· = [])) (ev_taken G.to (ev_var 0) (ev_var 2) (by omega) (by omega)) ea_nil ?_) ?_) ?_)) ea_nil ?_) (p := fun ds => ∃ u v : Int, (0 ≤ u ∧ u < 2 ∧ 0 ≤ v ∧ v < 2) ∧ ds = [.row, .lst [.int u, .int v]]) ?_) ?_) (fun _ => EvP.imp ev_non ?_), fun h => by cases h⟩
    · rintro _ _ ⟨r, rfl, _, _⟩ rfl
      exact fun X hX Y H u v Q y du dv hQ => od_eqI X hX Y H u v Q y du dv fun z d H' hd => hQ z d H' ⟨_, hd, trivial⟩
    · rintro _ _ ⟨r, rfl, h0, h1⟩ rfl; exact ⟨r, ⟨h0, h1⟩, rfl⟩
    · rintro _ _ rfl ⟨v, h, rfl⟩; exact ⟨y, v, ⟨y0, y1, h.1, h.2⟩, rfl⟩
    · rintro _ ⟨u, v, h, rfl⟩; exact ⟨by simp, u, v, h, rfl⟩
    · rintro _ _ ⟨u, v, h, rfl⟩ rfl; exact ⟨u, v, h, rfl⟩
    · rintro _ _ rfl ⟨u, v, h, rfl⟩; exact ⟨u, v, h, rfl⟩
    · rintro _ ⟨u, v, h, rfl⟩
      refine ⟨_, rfl, by simp, by simp, fun x hx => ?_⟩
      have key : ∀ z : Int, 0 ≤ z → z < 2 → ∃ w' : List (Option Int), w.map optD ++ [.int z] = w'.map optD ∧ w'.length = i + 1 ∧ ∀ x : Int, some x ∈ w' → 0 ≤ x ∧ x < 2 := fun z z0 z1 => by
        refine ⟨w ++ [some z], by rw [List.map_append]; rfl, by simp [hw], fun x hx => ?_⟩
        rcases List.mem_append.mp hx with q |  q
        · exact hin x q
        · cases List.mem_singleton.mp q; exact ⟨z0, z1⟩
      rcases List.mem_cons.mp hx with rfl |  hx
      · exact key u h.1 h.2.1
      rcases List.mem_cons.mp hx with rfl |  hx
      · exact key v h.2.2.1 h.2.2.2
      cases hx
    · rintro _ rfl
      refine ⟨w ++ [none], by rw [List.map_append]; rfl, by simp [hw], fun x hx => ?_⟩
      rcases List.mem_append.mp hx with q |  q
      · exact hin x q
      · cases List.mem_singleton.mp q
  · rintro acc ⟨w, rfl, hw, hin⟩
    exact ⟨w, rfl, by simpa using hw, hin⟩
  · rintro _ _ ⟨w, rfl, h⟩ rfl
    exact ⟨w, rfl, h⟩
  · rintro _ ⟨w, rfl, h⟩
    exact fun X hX Y H us Q y du hQ => cd_tupL X hX Y H us Q y du fun z d H' hd => hQ z d H' ⟨w, hd, h⟩
  · rintro _ ⟨w, rfl, h⟩; exact hk w h.1 h.2
end
end FT
/-! text DL12 -/
/-! DL12: instances: attributes, methods, making. -/
namespace DL
open PySem PySem.Spec L2
open PyProof.Rows hiding St
/-- one field set -/
def putFD (f : Str) (v : D) : List (Str × D) → List (Str × D)
  | [] => [(f, v)]
  | (g, x) :: r => if g = f then (g, v) :: r else (g, x) :: putFD f v r
theorem fld_look {r : Option Addr} {G : Hp} {f : Str} : ∀ {fs : List (Str × V)} {ds : List (Str × D)}, fs.map (·.1) = ds.map (·.1) → DVs r G (fs.map (·.2)) (ds.map (·.2)) → (∀ d, ds.lookup f = some d → ∃ v, fs.lookup f = some v ∧ DV r G v d) ∧ (ds.lookup f = none → fs.lookup f = none)
  | [], [], _, _ => ⟨fun d h => (by cases h), fun _ => rfl⟩
  | [], _ :: _, h, _ => by cases  h
  | _ :: _, [], h, _ => by cases  h
  | (a, v) :: fs, (b, d) :: ds, h, t => by
    simp only [List.map_cons, List.cons.injEq] at  h
    obtain ⟨h1, h2⟩ := h
    subst h1
    cases t with
    | cons x t =>
      have ih := fld_look (f := f) h2 t
      by_cases e : f = a
      · subst e
        simp only [List.lookup_cons_self]
        exact ⟨fun d' hd => by cases hd; exact ⟨v, rfl, x⟩, fun hd => by cases hd⟩
      · have q : (f == a) = false := by simpa using e
        simp only [List.lookup_cons, q]
        exact ih
theorem fld_put {r : Option Addr} {G : Hp} {f : Str} {y : V} {z : D} (hz : DV r G y z) : ∀ {fs : List (Str × V)} {ds : List (Str × D)}, fs.map (·.1) = ds.map (·.1) → DVs r G (fs.map (·.2)) (ds.map (·.2)) → (putF f y fs).map (·.1) = (putFD f z ds).map (·.1) ∧ DVs r G ((putF f y fs).map (·.2)) ((putFD f z ds).map (·.2))
  | [], [], _, _ => ⟨rfl, .cons hz .nil⟩
  | [], _ :: _, h, _ => by cases  h
  | _ :: _, [], h, _ => by cases  h
  | (a, v) :: fs, (b, d) :: ds, h, t => by
    simp only [List.map_cons, List.cons.injEq] at  h
    obtain ⟨h1, h2⟩ := h
    subst h1
    cases t with
    | cons x t =>
      have ih := fld_put (f := f) hz h2 t
      unfold putF putFD
      by_cases e : a = f
      · rw [if_pos e, if_pos e]
        exact ⟨by simp [h2], .cons hz t⟩
      · rw [if_neg e, if_neg e]
        exact ⟨by simp [ih.1], .cons x ih.2⟩
theorem fld_len {α β : Type} {fs : List (Str × α)} {ds : List (Str × β)} (h : fs.map (·.1) = ds.map (·.1)) : fs.length = ds.length := by
  have := congrArg List.length  h
  simpa using this
def gFld (K : PySem.W.Frag) (to : TE) (f : Str) : TG := fun v σ H Q => to σ H fun x H1 => ∃ a C dx fs, x = .ref a ∧ H1 a = some (.ins C dx fs) ∧ Cls K C ∧ NoAttr K C f ∧ fs.length < 1000 ∧ Q σ (upd H1 a (.ins C dx (putF f v fs)))
theorem pg_fld {X : Cx} {o : Expr} {to : TE} {f : Str} {pos : Pos} (ho : PE X o to) : PG X (.Attribute o f pos) (gFld X.K to f) := by
  refine ⟨fun pins s σ H v u Q I r h =>  ?_⟩
  rw [assign_Attribute]
  refine wpAny_bind (wpAny_holding (thn (ho.run pins s σ H _ I h) fun ov s1 ⟨x, H1, I1, r1, a, C, dx, fs, ex, ea, c, n, l, q⟩ => ?_))
  subst ex
  obtain rfl : ov = Value.ref a := r1
  refine wpAny_bind (wpAny_standAt (wpAny_bind (wpAny_holding  ?_)))
  exact setattr_ok I1 ea c n l r fun s3 I3 => wpAny_release ⟨σ, _, I3, q⟩
section
variable {C : Cfg} {ρ : DEnv} {P : Post} {e o : Expr} {es : List Expr} {f m : Str} {pos apos pos' : Pos} {K : Addr} {fs : List (Str × D)} {d : D}
/-- e.f -/
theorem ev_fld (he : EvD C e ρ (.obj K fs)) (hl : fs.lookup f = some d) (c : Cls C.K K) (n : NoAttr C.K K f) (hb : ∀ env, attributeBase e f env (eval e env) = eval e env := by intro _; rfl) : EvD C (.Attribute e f pos) ρ d := fun X hX B Z Y σ H R Q hQ => by
  refine WE.of (pe_fld pe_we (hb _)) (he X hX B Z Y σ H R _ fun v x H1 hx x1 dv => ?_)
  subst hx
  cases dv with
  | @obj a _ dx vs _ e1 hk t =>
    obtain ⟨w, h1, h2⟩ := (fld_look hk t).1 d hl
    rw [hX.K] at c n
    exact ⟨a, K, dx, vs, w, rfl, (hid_some e1).2, c, n, h1, hQ w d H1 rfl x1 h2⟩
/-- x.f = e, x owned -/
theorem ws_fld (i : Nat) {z : Addr} {x : Str} {px : Pos} {p : D → Prop} (he : EvP C e ρ p) (c : Cls C.K K) (n : NoAttr C.K K f) (hp : ∀ d, p d → P.nx (ρ.set i (some (.o (.self z K (putFD f d fs)))))) (hi : ρ[i]? = some (some (.o (.self z K fs))) := by rfl) (hl : fs.length < 1000 := by exact Nat.le_of_ble_eq_true rfl) (hN : C.N[i]? = some x := by rfl)
    (hv : Vis C.sc x := by first | exact Or.inl rfl | exact Or.inr (Or.inl rfl) | exact Or.inr (Or.inr rfl)) (hd : (x == ("__debug__" : Str)) = false := by decide) (hcd : (x == ("__classdict__" : Str)) = false := by decide)
    (hs : ∀ (pos pos' : Pos) (env : Env), swapsWith e (some (.Attribute (.Name x px) f pos')) pos.line env = pure false := by intro _ _ _; rfl) : WS C (.Assign [.Attribute (.Name x px) f pos'] e pos) ρ P := fun X hX B Z Y σ H R Dn L => by
  obtain ⟨a, ea, hB, hZ, az, dx, vs, ev, hk, t⟩ := R.ow i _ hi
  refine WSt.of (ps_fld (pe_var (by rw [← hX.N]; exact hN) (by rw [← hX.sc]; exact hv) hd hcd) pe_we (hs _ _ _)) (he X hX B Z Y σ H R _ fun v d H1 pd x1 dv => ?_)
  have R1 := R.ext x1
  rw [hX.K] at c n
  have e1 : H1 a = some (.ins K dx vs) := x1.1 a _ (R.notRow hZ) ev
  refine ⟨_, ea, a, K, dx, vs, rfl, e1, c, n, by rw [fld_len hk]; exact hl, ?_⟩
  obtain ⟨q1, q2⟩ := fld_put (f := f) dv hk (t.mono (R.sub x1))
  exact L.nx Y _ σ _ (hp d pd) (R1.mut hi ea ⟨az, dx, _, upd_same, q1, q2⟩)
/-- x.f, x.g = e, x owned, e a pair -/
theorem ws_fld2 (i : Nat) {z : Addr} {x g : Str} {px px2 pa pa2 pt : Pos} {k : Nat} {p : D → D → Prop} (he : EvP C e ρ (fun d => ∃ d1 d2, d = .tup [d1, d2] ∧ p d1 d2)) (c : Cls C.K K) (n : NoAttr C.K K f) (n2 : NoAttr C.K K g) (hp : ∀ d1 d2, p d1 d2 → P.nx (ρ.set i (some (.o (.self z K (putFD g d2 (putFD f d1 fs))))))) (hi : ρ[i]? = some (some (.o (.self z K fs))) := by rfl) (hl : fs.length < 998 := by exact Nat.le_of_ble_eq_true rfl) (hN : C.N[i]? = some x := by rfl)
    (hv : Vis C.sc x := by first | exact Or.inl rfl | exact Or.inr (Or.inl rfl) | exact Or.inr (Or.inr rfl)) (hd : (x == ("__debug__" : Str)) = false := by decide) (hcd : (x == ("__classdict__" : Str)) = false := by decide)
    (hs : ∀ (pos : Pos) (env : Env), swapsWithSole [.Tuple [.Attribute (.Name x px) f pa, .Attribute (.Name x px2) g pa2] k pt] e pos.line env = pure false := by intro _ _; rfl) (hw : ∀ env : Env, env.scope = C.sc → swappedStores [.Tuple [.Attribute (.Name x px) f pa, .Attribute (.Name x px2) g pa2] k pt] e env = pure none := by intro _ _; rfl)
    (h1 : ∀ env, (assignEach [.Tuple [.Attribute (.Name x px) f pa, .Attribute (.Name x px2) g pa2] k pt] env).map (·.2) = [assign (.Tuple [.Attribute (.Name x px) f pa, .Attribute (.Name x px2) g pa2] k pt) env] := by intro _; rfl)
    (h2 : ∀ env, (assignEach [.Attribute (.Name x px) f pa, .Attribute (.Name x px2) g pa2] env).map (·.2) = assign (.Attribute (.Name x px) f pa) env :: (assignEach [.Attribute (.Name x px2) g pa2] env).map (·.2) := by intro _; rfl)
    (h3 : ∀ env, (assignEach [.Attribute (.Name x px2) g pa2] env).map (·.2) = assign (.Attribute (.Name x px2) g pa2) env :: (assignEach [] env).map (·.2) := by intro _; rfl)
    (h4 : ∀ env, (assignEach [.Attribute (.Name x px) f pa, .Attribute (.Name x px2) g pa2] env).length = 2 := by intro _; rfl) (h5 : ∀ env, (assignEach [.Attribute (.Name x px) f pa, .Attribute (.Name x px2) g pa2] env).findIdx? (·.1) = none := by intro _; rfl) :
    WS C (.Assign [.Tuple [.Attribute (.Name x px) f pa, .Attribute (.Name x px2) g pa2] k pt] e pos) ρ P := fun X hX B Z Y σ H R Dn L => by
  obtain ⟨a, ea, hB, hZ, az, dx, vs, ev, hk, t⟩ := R.ow i _ hi
  have pv : ∀ q : Pos, PE X (.Name x q) _ := fun q => pe_var (by rw [← hX.N]; exact hN) (by rw [← hX.sc]; exact hv) hd hcd
  refine WSt.of (ps_asg pe_we (pg_tup hX.calm (pgs_cons (pg_fld (pv px)) (pgs_cons (pg_fld (pv px2)) pgs_nil (h3 _)) (h2 _)) (h4 _) (h5 _)) (hs _ _) (hw _ hX.sc.symm) (h1 _)) (he X hX B Z Y σ H R _ fun v d H1 pd x1 dv => ?_)
  obtain ⟨d1, d2, rfl, pd⟩ := pd
  have R1 := R.ext x1
  rw [hX.K] at c n n2
  have e1 : H1 a = some (.ins K dx vs) := x1.1 a _ (R.notRow hZ) ev
  cases dv with
  | @tup b us _ eb tt =>
    cases tt with
    | @cons v1 _ _ _ t1 tt =>
      cases tt with
      | @cons v2 _ _ _ t2 tt =>
        cases tt
        refine ⟨b, [v1, v2], rfl, hid_st eb, rfl, v1, [v2], rfl, _, ea, a, K, dx, vs, rfl, e1, c, n, by rw [fld_len hk]; omega, v2, [], rfl, _, ea, a, K, dx, _, rfl, upd_same, c, n2, ?_, rfl, ?_⟩
        · have := length_putF f v1 vs
          rw [fld_len hk] at this
          omega
        · rw [upd_upd]
          obtain ⟨q1, q2⟩ := fld_put (f := f) t1 hk (t.mono (R.sub x1))
          obtain ⟨q3, q4⟩ := fld_put (f := g) t2 q1 q2
          exact L.nx Y _ σ _ (hp d1 d2 pd) (R1.mut hi ea ⟨az, dx, _, upd_same, q3, q4⟩)
/-! ### methods -/
structure MthD (C : Cfg) (lv : Nat) (K : Addr) (m : Str) (S : List D → (D → Prop) → Prop) : Prop where
  ex : ∃ f fd ps, FnOk C.P C.w C.K C.mg C.base CX0 lv f fd ps (SpD C S) ∧ Meth C.K K m f ∧ Binds C.K fd ps []
theorem MthD.to {lv : Nat} {S : List D → (D → Prop) → Prop} (F : MthD C lv K m S) {N : List Str} {sc : Scope} {l : Nat} {dd : Bool} : MthD { C with N := N, sc := sc, lv := l, dd := dd } lv K m S := ⟨F.ex⟩
theorem mthD {qual : Str} {st : Stmt} {f : Addr} {fd : FuncData} {N ps : List Str} {k : Nat} {S : List D → (D → Prop) → Prop} {x : Str} (F : Fun C.K x qual st f fd) (hm : Meth C.K K m f) (hb : Binds C.K fd ps []) (hS : FnScope N ps (defScope st)) (len : ∀ ds k, S ds k → ds.length = ps.length)
    (body : ∀ ds kk, S ds kk → WSs (bodyCfg C N (defScope st) k) (defBody st) (startD N ds) { nx := fun _ => kk .non, rt := kk }) : MthD C (k + 1) K m S := ⟨f, fd, ps, def_ok F hS len body, hm, hb⟩
theorem ev_methP {lv : Nat} {S : List D → (D → Prop) → Prop} {ps : List D → Prop} {p : D → Prop} {pl : Env → Sem Bool} (F : MthD C lv K m S) (c : Cls C.K K) (ho : EvD C o ρ (.obj K fs)) (hn : fs.lookup m = none) (ha : EvA C (e :: es) ρ ps) (hS : ∀ ds, ps ds → S (.obj K fs :: ds) p) (hlv : lv ≤ C.lv := by exact Nat.le_of_ble_eq_true rfl)
    (he : ∀ env, starEach (e :: es) env = (false, eval e env) :: starEach es env := by intro _; rfl) (hpl : ∀ env, (backTo pos (starEach es env)).any (·.1) = false := by intro _; rfl)
    (ht : ∀ env, eval (.Call (.Attribute o m apos) (e :: es) [] pos) env = (do
      let ov ← eval o env
      standAt apos.atName
      let (f, first) ← holding [ov] (getMethod ov m (pl env))
      callWith pos f first (backTo pos (starEach (e :: es) env)) (backToKw pos (keywordEach [] env))) := by intro _; rfl) : EvP C (.Call (.Attribute o m apos) (e :: es) [] pos) ρ p := fun X hX B Z Y σ H R Q hQ => by
  obtain ⟨f, fd, pps, h1, h2, h4⟩ := F.ex
  rw [hX.P, hX.w, hX.K, hX.mg, hX.base] at h1
  rw [hX.K] at h2 h4 c
  refine WE.of (pe_meth pe_we c h2 h1 (hX.room.mono hlv) h4 .nil pass0 pa_wa (he _) (hpl _) (ht _)) (ho X hX B Z Y σ H R _ fun v d H1 pd x1 dv => ?_)
  subst pd
  cases id dv with
  | @obj a _ dx vs _ e1 hk t =>
    refine ⟨a, dx, vs, rfl, (hid_some e1).2, (fld_look hk t).2 hn, ha X hX B Z Y σ H1 (R.ext x1) _ fun us ds H2 pds x2 dvs => ?_⟩
    rw [List.append_nil]
    exact ((R.ext x1).ext x2).sp (hS ds pds) (.cons (dv.mono ((R.ext x1).sub x2)) dvs) fun v d H' kd x3 dv => hQ v d H' kd ((x1.trans x2).trans x3) dv
theorem ev_methP0 {lv : Nat} {S : List D → (D → Prop) → Prop} {p : D → Prop} {pl : Env → Sem Bool} (F : MthD C lv K m S) (c : Cls C.K K) (ho : EvD C o ρ (.obj K fs)) (hn : fs.lookup m = none) (hS : S [.obj K fs] p) (hlv : lv ≤ C.lv := by exact Nat.le_of_ble_eq_true rfl)
    (ht : ∀ env, eval (.Call (.Attribute o m apos) [] [] pos) env = (do
      let ov ← eval o env
      standAt apos.atName
      let (f, first) ← holding [ov] (getMethod ov m (pl env))
      callWith pos f first (backTo pos (starEach [] env)) (backToKw pos (keywordEach [] env))) := by intro _; rfl) : EvP C (.Call (.Attribute o m apos) [] [] pos) ρ p := fun X hX B Z Y σ H R Q hQ => by
  obtain ⟨f, fd, pps, h1, h2, h4⟩ := F.ex
  rw [hX.P, hX.w, hX.K, hX.mg, hX.base] at h1
  rw [hX.K] at h2 h4 c
  refine WE.of (pe_meth0 pe_we c h2 h1 (hX.room.mono hlv) h4 .nil pass0 (ht _)) (ho X hX B Z Y σ H R _ fun v d H1 pd x1 dv => ?_)
  subst pd
  cases id dv with
  | @obj a _ dx vs _ e1 hk t =>
    exact ⟨a, dx, vs, rfl, (hid_some e1).2, (fld_look hk t).2 hn, (R.ext x1).sp (vs := [.ref a]) (Q := Q) (E := fun _ _ _ => False) hS (.cons dv .nil) fun v d H' kd x3 dv => hQ v d H' kd (x1.trans x3) dv⟩
/-! ### making -/
/-- what __init__ promises: the new instance's fields -/
def SpI (C : Cfg) (K : Addr) (S : List D → (D → Prop) → Prop) : Sp := fun us H Q _ => ∃ x dx H0 vs ds Z k, us = .ref x :: vs ∧ H = upd (upd H0 dx (.own x)) x (.ins K dx []) ∧ H0 x = none ∧ H0 dx = none ∧ dx ≠ x ∧ S ds k ∧ DVs C.r (hid H0 Z) vs ds ∧ RowOk C H0 ∧ (∀ a, C.r = some a → Z a = true) ∧ (∀ a, C.r = some a → Z C.rs = true ∨ KSq C) ∧ (∀ a, Z a = true → ∃ o, H0 a = some o ∧ isTup o = false) ∧
  ∀ d H', k d → Ext C H0 H' → OV C.r (hid H' (hidY Z x)) H' x d → Q .non H'
structure MkD (C : Cfg) (lv : Nat) (n : Str) (K : Addr) (S : List D → (D → Prop) → Prop) : Prop where
  ex : ∃ f fd ps, FnOk C.P C.w C.K C.mg C.base CX0 lv f fd ps (SpI C K S) ∧ Mk C.K K f ∧ Binds C.K fd ps [] ∧ C.mg n = some (.ref K)
theorem MkD.to {lv : Nat} {n : Str} {S : List D → (D → Prop) → Prop} (F : MkD C lv n K S) {N : List Str} {sc : Scope} {l : Nat} {dd : Bool} : MkD { C with N := N, sc := sc, lv := l, dd := dd } lv n K S := ⟨F.ex⟩
theorem eo_make {n : Str} {lv : Nat} {S : List D → (D → Prop) → Prop} {ds : List D} {p : D → Prop} {pp : Pos} (F : MkD C lv n K S) (ha : EvA C (e :: es) ρ (· = ds)) (hS : S ds p) (hlv : lv + 1 ≤ C.lv := by exact Nat.le_of_ble_eq_true rfl) (hg : GlC C n := by rfl) (hdb : (n == ("__debug__" : Str)) = false := by decide)
    (he : ∀ env, starEach (e :: es) env = (false, eval e env) :: starEach es env := by intro _; rfl) (hpl : ∀ env, (backTo pos (starEach es env)).any (·.1) = false := by intro _; rfl) : EvO C (.Call (.Name n pp) (e :: es) [] pos) ρ p := fun X hX B Z Y σ H R Q hQ => by
  obtain ⟨f, fd, pps, h1, h2, h4, h5⟩ := F.ex
  rw [hX.P, hX.w, hX.K, hX.mg, hX.base] at h1
  rw [hX.K] at h2 h4
  rw [hX.mg] at h5
  refine WE.of (pe_make h2 h1 (hX.room.mono hlv) (hX.gl hg) h5 h4 .nil pass0 pa_wa hdb (he _) (hpl _)) (ha X hX B Z Y σ H R _ fun vs ds H1 pd x1 dvs => ?_)
  subst pd
  intro x dx hx hdx hne
  rw [List.append_nil]
  have R1 := R.ext x1
  exact ⟨x, dx, H1, vs, ds, Y, p, rfl, rfl, hx, hdx, hne, hS, dvs, R1.row, fun a h => R1.rowY h, fun a h => (R1.rowS a h).imp (fun z => (R1.yI _).mpr (.inl z)) id, fun a h => R1.yOk h, fun d H' kd x2 ov => ⟨rfl, hQ x d H' kd (x1.fresh hx (R1.freshR hx)) (x1.trans x2) ov⟩⟩
theorem mkD {qual : Str} {st : Stmt} {f : Addr} {fd : FuncData} {N ps : List Str} {k : Nat} {S : List D → (D → Prop) → Prop} {x n : Str} (F : Fun C.K x qual st f fd) (hm : Mk C.K K f) (hb : Binds C.K fd ps []) (hn : C.mg n = some (.ref K)) (hS : FnScope N ps (defScope st)) (len : ∀ ds k, S ds k → ds.length + 1 = ps.length)
    (body : ∀ z ds kk, S ds kk → WSs (bodyCfg C N (defScope st) k) (defBody st) (some (.o (.self z K [])) :: (ds.map (fun d => some (.v d)) ++ List.replicate (N.length - (ds.length + 1)) none)) { nx := fun ρ' => ∃ fs, ρ'[0]? = some (some (.o (.self z K fs))) ∧ kk (.obj K fs) }) : MkD C (k + 1) n K S := by
  refine ⟨f, fd, ps, F.ok hS (fun us H Q E ⟨x, dx, H0, vs, ds, Z, kk, e1, e2, hx, hdx, hne, h, dv, _⟩ => by rw [e1, List.length_cons, dv.length]; exact len ds kk h) fun cdv A outer s H us Q E hr ⟨x, dx, H0, vs, ds, Z, kk, e1, e2, hx, hdx, hne, h, dv, row, rz, rs, zo, hQ⟩ => ?_, hm, hb, hn⟩
  subst e1
  refine ⟨_, pss_wsts, ?_⟩
  have hX : XOk (bodyCfg C N (defScope st) k) (cxOf CX0 C.P C.w C.K C.mg C.base N qual (defScope st) f cdv A outer s H E).nox := ⟨rfl, rfl, rfl, rfl, rfl, rfl, rfl, rfl, hr, fun _ _ => rfl, rfl⟩
  have hl : ds.length + 1 ≤ N.length := by
    have h1 := len ds kk h
    have h2 := congrArg List.length hS.pre
    rw [List.length_take] at h2
    omega
  have hH : ∀ a o, H0 a = some o → H a = some o := fun a o e => by
    rw [e2, upd_ne (ne_of_none e hx), upd_ne (ne_of_none e hdx)]; exact e
  have hHx : H x = some (.ins K dx []) := by rw [e2]; exact upd_same
  have rowH : RowOk C H := fun a ha => (row a ha).keep (by
    obtain ⟨_, _, _, q, _⟩ := row a ha
    rw [q, hH a _ q]) (.inr fun o _ e => hH _ _ e)
  have hsub : Sub (hid H0 Z) (hid H (hidY Z x)) := hid_sub (fun a o _ e => hH a o e) fun a o e h => by
    rcases hidY_iff.mp h with z | z
    · exact z
    · rw [z, hx] at e; cases e
  have zx : Z x = false := by
    cases q : Z x with
    | false => rfl
    | true => obtain ⟨o, e, _⟩ := zo x q; rw [hx] at e; cases e
  have hσ : L2.start N (.ref x :: vs) = some (.ref x) :: (vs.map some ++ List.replicate (N.length - (vs.length + 1)) none) := rfl
  have R : Rl (bodyCfg C N (defScope st) k) H0 Z (hidY Z x) (some (.o (.self x K [])) :: (ds.map (fun d => some (.v d)) ++ List.replicate (N.length - (ds.length + 1)) none)) (L2.start N (.ref x :: vs)) H := by
    have get : ∀ (i : Nat) (e : Ent), (some (Ent.o (D.self x K [])) :: (ds.map (fun d => some (Ent.v d)) ++ List.replicate (N.length - (ds.length + 1)) none))[i]? = some (some e) → (i = 0 ∧ e = .o (.self x K [])) ∨ ∃ j d, i = j + 1 ∧ e = .v d ∧ ds[j]? = some d := fun i e h => by
      cases i with
      | zero => simp at h; exact .inl ⟨rfl, h.symm⟩
      | succ j =>
        refine .inr ⟨j, ?_⟩
        rw [List.getElem?_cons_succ, List.getElem?_append] at h
        split at h
        · rw [List.getElem?_map] at h
          cases q : ds[j]? with
          | none => rw [q] at h; cases h
          | some d => rw [q] at h; simp at h; exact ⟨d, rfl, h.symm, rfl⟩
        · rw [List.getElem?_replicate] at h
          split at h
          · simp at h
          · cases h
    refine ⟨fun a o _ e => hH a o e, rowH, rz, rs, fun a z => ?_, ?_, fun i d e => ?_, fun i d e => ?_, fun i j d e a h1 h2 _ _ => ?_, fun a => ⟨fun z => ?_, fun q => ?_⟩⟩
    · obtain ⟨o, e, t⟩ := zo a z
      exact ⟨o, hH a o e, t⟩
    · rw [hσ]; simp [dv.length]
    · rcases get i _ e with ⟨_, e'⟩ | ⟨j, d', rfl, e', hj⟩
      · cases e'
      · cases e'
        obtain ⟨v, h1, h2⟩ := dv.get hj
        refine ⟨v, ?_, h2.mono hsub⟩
        rw [hσ, List.getElem?_cons_succ, List.getElem?_append_left (by simpa using (List.getElem?_eq_some_iff.mp h1).1), List.getElem?_map, h1]; rfl
    · rcases get i _ e with ⟨rfl, e'⟩ | ⟨j, d', rfl, e', hj⟩
      · cases e'
        exact ⟨x, rfl, hx, zx, rfl, dx, [], hHx, rfl, .nil⟩
      · cases e'
    · rcases get i _ h1 with ⟨rfl, e'⟩ | ⟨j', d', rfl, e', hj⟩
      · rcases get j _ h2 with ⟨rfl, e''⟩ | ⟨j', d', rfl, e'', hj⟩
        · rfl
        · cases e''
      · cases e'
    · rcases hidY_iff.mp z with z | z
      · exact .inl z
      · subst z; exact .inr ⟨0, _, rfl, rfl⟩
    · rcases q with z | ⟨i, d, e, e'⟩
      · exact hidY_iff.mpr (.inl z)
      · rcases get i _ e with ⟨rfl, _⟩ | ⟨j, d', rfl, e'', hj⟩
        · rw [hσ] at e'; simp at e'; exact hidY_iff.mpr (.inr e'.symm)
        · cases e''
  refine body x ds kk h _ hX H0 Z _ _ H R _ ⟨fun Y ρ σ H' p R' => ?_, fun _ _ _ _ _ _ p => p.elim, fun _ _ _ _ p => p.elim, fun _ _ _ _ p => p.elim⟩
  obtain ⟨fs, hi, hk⟩ := p
  obtain ⟨a, ea, _, _, rfl, dx', vs', ev, hk', t⟩ := R'.ow 0 _ hi
  refine hQ (.obj K fs) H' hk ⟨R'.base, fun _ => R'.row⟩ ⟨dx', vs', ev, hk', t.mono (hid_sub (fun _ _ _ e => e) fun b o _ hz => ?_)⟩
  rcases hidY_iff.mp hz with z | z
  · exact (R'.yI b).mpr (.inl z)
  · rw [z]; exact (R'.yI a).mpr (.inr ⟨0, _, hi, ea⟩)
end
end DL
/-! text LK3 -/
/-! LK3: f(e.view()), the view of a dict with int keys: sum of the values, the sorted keys. -/
namespace DL
open PySem PySem.Spec L2 PySem.W PySem.Calls
open PyProof.Rows hiding St
/-- which view -/
structure View (prog : Program) (w : World) (nm : Str) (id cls : String) (B : Builtin) : Prop where
  slot : Slot "dict" nm id
  ty : typeOf (Value.builtin id) = pure (Value.type "method_descriptor")
  entry : entryFor table id = some B
  args : ∀ a : Value, argsOk id { pos := [a] }
  runs : ∀ (d : Addr), (d == sysModules) = false → MeetsIn prog w (B ⟨[.ref d], []⟩) (fun _ R s => (∃ kvs, s.heap.DictOf (mixKind prog w) d kvs) ∧ R (.ok (.ret (.ref s.heap.objs.size))) { s with heap := s.heap.push { cls := .type cls, data := .fields #[.ref d] } })
theorem valuesV (prog : Program) (w : World) : View prog w "values" "dict.values" "dict_values" Builtin.«dict.values» := ⟨F.slot_dict_values, F.type_dict_values, F.entry_dict_values, F.args_dict_values_1, meets_dict_values _⟩
theorem keysV (prog : Program) (w : World) : View prog w "keys" "dict.keys" "dict_keys" Builtin.«dict.keys» := ⟨F.slot_dict_keys, F.type_dict_keys, F.entry_dict_keys, F.args_dict_keys_1, kdl_meets_keys _⟩
section
variable {X : Cx} {o : Expr} {p pos apos mpos : Pos} {td : TE} {nm fn : Str} {id cls fid : String} {B : Builtin}
/-- what f does with the view of the dict at a -/
def Eats (X : Cx) (fid cls : String) (a : Addr) (kvs : List (Key × V)) (G : Hp → VK → Prop) : Prop := ∀ (pins : List (Addr × Obj)) (s : Shared) (σ : L2.St) (H : Hp) (Q : VK) (vs : List (Key × Value)) (ep : Nat), Inv X pins σ H s → Rd H a (.dK kvs) → KV kvs vs → s.heap.DictAt (mixKind X.prog X.w) a vs ep → G H Q →
  wpAny (model X.prog X.w) X.A (call (.builtin fid) [.ref s.heap.objs.size]) (EP X pins σ Q) X.xe { s with heap := s.heap.push { cls := .type cls, data := .fields #[.ref a] } }
def tEats (td : TE) (I : Addr → List (Key × V) → (Hp → VK → Prop) → Prop) : TE := fun σ H Q => td σ H fun x H1 => ∃ a kvs G, x = V.ref a ∧ Rd H1 a (.dK kvs) ∧ I a kvs G ∧ G H1 Q
theorem pe_eats {I : Addr → List (Key × V) → (Hp → VK → Prop) → Prop} (v : View X.prog X.w nm id cls B) (hI : ∀ a kvs G, I a kvs G → Eats X fid cls a kvs G) (hg : Gl X fn) (hm : X.mg fn = none) (hb : bootBuiltins fn = some (.builtin fid)) (h1 : fn ≠ "__name__") (h2 : (fn == ("__debug__" : Str)) = false) (hd : PE X o td)
    (ba : attributeBase o nm X.env (eval o X.env) = eval o X.env) (li : (apos.endLine == mpos.line) = true) (st : starEach [Expr.Call (.Attribute o nm apos) [] [] mpos] X.env = [(false, eval (Expr.Call (.Attribute o nm apos) [] [] mpos) X.env)]) : PE X (.Call (.Name fn p) [.Call (.Attribute o nm apos) [] [] mpos] [] pos) (tEats td I) where
  run pins s σ H Q inv h := by
    refine wpAny_Call_Name_kw (ld_blt inv hg hm hb ?_ h1 h2)
    have dictPart := hd.run pins s σ H _ inv h
    rw [st]
    refine PySem.callWith_builtin1 (wpAny_Call_method0_late ba li (wpAny_mono dictPart (fun u s1 hu => ?_) fun _ _ e => e))
    obtain ⟨x, H1, inv1, rx, a, kvs, G, rfl, rd, hi, hG⟩ := hu
    have eu : u = Value.ref a := rx
    obtain ⟨_, lo, vs, kv, dof⟩ := dk_rd inv1.hok rd
    obtain ⟨ep, dat⟩ :=  dof.dictAt
    have ty := dof.typeIs
    rw [eu]
    refine ⟨"dict", id, F.plainAttrs_dict, v.slot, v.ty, ty, fun b e => ?_, Calls.callWith_builtin rfl (PySem.evalArgs_none ?_)⟩
    · obtain ⟨ob, es, ho, ex, _⟩ := dat
      cases e
      exact ⟨ob, ho, ex.2.1⟩
    · exact call_meetsIn v.slot ty v.entry (v.args _) (v.runs a lo) ⟨⟨vs, dof⟩, hI a kvs G hi pins s1 σ H1 Q vs ep inv1 rd kv dat hG⟩
/-- ints at their places -/
theorem places_int {us : List Value} {is : List Int} (hl : us.length = is.length) (h : ∀ (j : Nat) (v : Value), us[j]? = some v → ∃ t, v = Value.int (is.getD j 0) t) : Vals (is.map V.int) us := by
  induction us generalizing is with
  | nil =>
    obtain rfl : is = [] := List.length_eq_zero_iff.mp hl.symm
    exact .nil
  | cons u us ih =>
    match is, hl with
    | i :: is, hl =>
      obtain ⟨t, e⟩ := h 0 u rfl
      exact .cons ⟨t, e⟩ (ih (Nat.succ.inj hl) fun j v q => h (j + 1) v q)
theorem preSum_getD : ∀ is : List Int, preSum (fun i => is.getD i 0) is.length = is.sum
  | [] => rfl
  | x :: is => (kdu_shift (fun i => (x :: is).getD i 0) is.length).trans (by rw [List.sum_cons, ← preSum_getD is]; rfl)
/-- sum -/
theorem eats_sum (hc : X.calm = true) {a : Addr} {kvs : List (Key × V)} {is : List Int} (hv : kvs.map (·.2) = is.map V.int) : Eats X "sum" "dict_values" a kvs fun H Q => Q (.int is.sum) H := fun pins s σ H Q vs ep inv rd kv dat q => by
  have push : ∀ b u, s.heap.get? b = some u → (s.heap.push { cls := .type "dict_values", data := .fields #[.ref a] }).get? b = some u := fun _ _ e => Heap.get?_push_of_some _ e
  have src := kdl_values (prog := X.prog) (w := X.w) (knd := mixKind X.prog X.w) (r := s.heap.objs.size) (d := a) (kvs := vs) (ep := ep)
  have ln : vs.length = is.length := by rw [← KV.length kv, ← List.length_map (f := (·.2)), hv, List.length_map]
  obtain ⟨oI, S, go, W, S0⟩ := src.iter X.A.in1 { s with heap := s.heap.push { cls := .type "dict_values", data := .fields #[.ref a] } } (inv.ok.hd hc) ⟨⟨_, Heap.get?_push_size _ rfl, rfl, rfl⟩, dat.keep push⟩
  refine call_sum_walkAnyS (go _ _ ⟨_, _, _, _, vs.length, _, _, fun i => is.getD i 0, rfl, W.toS, S0, ?_, ?_, ?_⟩)
  · intro b hb
    have lt := dat.lt_size
    simp only [List.mem_cons, List.not_mem_nil, or_false] at  hb
    have e1 : (s.heap.push { cls := .type "dict_values", data := .fields #[.ref a] }).objs.size = s.heap.objs.size + 1 := Heap.size_push _ _
    have e2 : ((s.heap.push { cls := .type "dict_values", data := .fields #[.ref a] }).push oI).objs.size = (s.heap.push { cls := .type "dict_values", data := .fields #[.ref a] }).objs.size + 1 := Heap.size_push _ _
    show b < ((s.heap.push { cls := .type "dict_values", data := .fields #[.ref a] }).push oI).objs.size
    rw [e2, e1]
    rcases hb with q | q
    · rw [q]; show (s.heap.push _).objs.size < _; rw [e1]; exact Nat.lt_succ_self _
    · rw [q]; exact Nat.lt_succ_of_lt (Nat.lt_succ_of_lt lt)
  · rintro i u ⟨k, hk⟩
    obtain ⟨x, hx, rx⟩ := KV.at' kv hk
    have ex : (is.map V.int)[i]? = some x := by rw [← hv, List.getElem?_map, hx]; rfl
    rw [List.getElem?_map] at ex
    cases hi : is[i]? with
    | none => rw [hi] at ex; cases ex
    | some j =>
      rw [hi] at ex; cases ex
      obtain ⟨t, rfl⟩ := rx
      exact ⟨t, by simp [List.getD_eq_getElem?_getD, hi]⟩
  · intro s' t mv
    rw [mv.eq_with, ln, preSum_getD]
    refine ⟨.int is.sum, H, inv.kept (t' := s'.toks) fun b u e => ?_, ⟨t, rfl⟩, q⟩
    refine mv.heap b u (fun hw => ?_) (Heap.get?_push_of_some _ (push b u e))
    have := Heap.lt_size e
    rw [List.mem_singleton.mp hw] at this
    have z : (s.heap.push { cls := .type "dict_values", data := .fields #[.ref a] }).objs.size = s.heap.objs.size + 1 := Heap.size_push _ _
    have this' : (s.heap.push { cls := .type "dict_values", data := .fields #[.ref a] }).objs.size < s.heap.objs.size := this
    omega
/-- sorted -/
theorem eats_sorted (hc : X.calm = true) {a : Addr} {kvs : List (Key × V)} {is : List Int} (hk : kvs.map (·.1) = is.map fun i : Int => (Sum.inl i : Key)) (hz : kvs.length ≤ sizeLine) : Eats X "sorted" "dict_keys" a kvs fun H Q => ∀ (ms : List Int) (p : Addr), ms.Perm is → ms.Pairwise (· ≤ ·) → H p = none → Q (.ref p) (upd H p (.lst (ms.map V.int))) := fun pins s σ H Q vs ep inv rd kv dat q => by
  have push : ∀ b u, s.heap.get? b = some u → (s.heap.push { cls := .type "dict_keys", data := .fields #[.ref a] }).get? b = some u := fun _ _ e => Heap.get?_push_of_some _ e
  have ln : vs.length = is.length := by rw [← KV.length kv, ← List.length_map (f := (·.1)), hk, List.length_map]
  have zv : vs.length ≤ sizeLine := by rw [← KV.length kv]; exact hz
  have view : KdlKeysView (s.heap.push { cls := .type "dict_keys", data := .fields #[.ref a] }) s.heap.objs.size a := ⟨_, Heap.get?_push_size _ rfl, rfl, rfl⟩
  refine call_function_entry kind_sorted plain_sorted entry_sorted (args_sorted1 _) (?_ : wpAny _ _ (Builtin.«sorted» _) _ _ _)
  unfold Builtin.«sorted»
  refine wpAny_bind (m := checkCount "sorted" 1 1 _) (wpAny_pure (wpAny_bind (kdu_collect (kdl_keys (prog := X.prog) (w := X.w) (knd := mixKind X.prog X.w) (r := s.heap.objs.size) (d := a) (kvs := vs) (ep := ep)) (inv.ok.hd hc) ⟨view, dat.keep push⟩ zv fun h' tk acc keep items => ?_)))
  have la : acc.toList.length = vs.length := by simpa using items.1
  have old : ∀ b u, s.heap.get? b = some u → h'.get? b = some u := fun b u e => keep b u (push b u e)
  have top : s.heap.objs.size < h'.objs.size := by
    obtain ⟨ov, hov, _⟩ := view
    exact Heap.lt_size (keep _ _ hov)
  have isv : Vals (is.map V.int) acc.toList := places_int (la.trans ln) fun j u hu => by
    obtain ⟨k, y, hx, ki⟩ := items.2 j u (by rw [← Array.getElem?_toList]; exact hu)
    obtain ⟨y', hx', _⟩ := KV.at' kv hx
    have ek : (is.map fun i : Int => (Sum.inl i : Key))[j]? = some k := by rw [← hk, List.getElem?_map, hx']; rfl
    rw [List.getElem?_map] at ek
    cases hi : is[j]? with
    | none => rw [hi] at ek; cases ek
    | some i =>
      rw [hi] at ek; cases ek
      rcases keyIs_shape (show keyIs (Sum.inl i) u = true from ki) with ⟨i', t, e1, e2⟩ | ⟨_, _, e1, _⟩
      · cases e1
        exact ⟨t, by simp [List.getD_eq_getElem?_getD, hi, e2]⟩
      · cases e1
  have lz : acc.toList.length ≤ sizeLine := by rw [la]; exact zv
  refine wpAny_bind (wpAny_newList (wpAny_bind (wpAny_holding ?_)) lz)
  have new : (h'.push { cls := .type "list", data := .seq acc.toList.toArray }).get? h'.objs.size = some { cls := .type "list", data := .seq acc.toList.toArray } := Heap.get?_push_size _ rfl
  refine wpAny_call_entry PyProof.Rows.slot_list_sort ⟨_, new, rfl⟩ PyProof.Rows.entry_list_sort (SrtO.list_sort_ord SrtO.swo_int new lz (fun two => SrtO.ints_sortable isv.ints two) fun out so sb => ⟨.none, rfl, wpAny_pure ⟨_, rfl, ?_⟩⟩) (PyProof.Rows.args_list_sort _)
  obtain ⟨oi, op, os⟩ := SrtO.ints_out isv.ints so sb
  obtain ⟨e, there⟩ := PyProof.Rows.sortedHeap_at (out := out.toArray) new
  have lo : ((out.map SrtO.iv).map V.int).length ≤ sizeLine := by
    have := op.length_eq
    rw [List.length_map, this, ← ln]; exact zv
  refine ⟨.ref h'.objs.size, upd H h'.objs.size (.lst ((out.map SrtO.iv).map V.int)), inv.laid (t' := tk) (fun b u hu => ?_) (Nat.le_of_lt top) ⟨lo, out, e, vals_of_ints oi, there⟩, rfl, q _ _ op os (inv.hok.fresh (Nat.le_of_lt top))⟩
  have lt := Heap.lt_size (old b u hu)
  have hu' : (h'.push { cls := .type "list", data := .seq acc.toList.toArray }).get? b = some u := Heap.get?_push_of_some _ (old b u hu)
  rw [PyProof.Rows.sortedHeap_old (Nat.ne_of_lt lt) (Heap.lt_size hu')]
  exact hu'
end
end DL
/-! text DL13 -/
/-! DL13: views of dicts of ints, in data. -/
namespace DL
open PySem PySem.Spec L2
open PyProof.Rows hiding St
def iZ (ds : List (Int × Int)) : List (Int × D) := ds.map fun p => (p.1, .int p.2)
section
variable {C : Cfg} {ρ : DEnv} {e : Expr} {p pos apos mpos : Pos}
theorem iZ_vals {r : Option Addr} {G : Hp} {vs : List V} {ds : List (Int × Int)} (h : DVs r G vs ((iZ ds).map (·.2))) : vs = (ds.map (·.2)).map V.int := by
  have e : (iZ ds).map (·.2) = (ds.map (·.2)).map D.int := by unfold iZ; rw [List.map_map, List.map_map]; rfl
  rw [e] at h
  exact h.ints
/-- sum(e.values()) -/
theorem ev_sumVals {I : List (Int × Int) → Prop} (he : EvP C e ρ (fun d => ∃ ds, I ds ∧ d = .dI (iZ ds))) (hm : C.mg "sum" = none) (hg : GlC C "sum" := by rfl) (ba : ∀ env, attributeBase e "values" env (eval e env) = eval e env := by intro _; rfl) (li : (apos.endLine == mpos.line) = true := by decide +kernel)
    (st : ∀ env, starEach [Expr.Call (.Attribute e "values" apos) [] [] mpos] env = [(false, eval (Expr.Call (.Attribute e "values" apos) [] [] mpos) env)] := by intro _; rfl) : EvP C (.Call (.Name "sum" p) [.Call (.Attribute e "values" apos) [] [] mpos] [] pos) ρ (fun d => ∃ ds, I ds ∧ d = .int (ds.map (·.2)).sum) := fun X hX B Z Y σ H R Q hQ => by
  refine WE.of (pe_eats (I := fun a kvs G => ∃ is : List Int, kvs.map (·.2) = is.map V.int ∧ G = fun H Q => Q (.int is.sum) H) (valuesV X.prog X.w) (fun a kvs G ⟨is, h, eG⟩ => by rw [eG]; exact eats_sum hX.calm h) (hX.gl hg) (by rw [← hX.mg]; exact hm) (by decide +kernel) (by decide) (by decide) pe_we (ba _) li (st _)) (he X hX B Z Y σ H R _ fun v d H1 hd x1 dv => ?_)
  obtain ⟨ds, hI, rfl⟩ := hd
  cases dv with
  | @dI a kvs _ rd hk t =>
    exact ⟨a, kvs, _, rfl, (hid_le H1 Y).rd rd, ⟨ds.map (·.2), iZ_vals t, rfl⟩, hQ _ _ H1 ⟨ds, hI, rfl⟩ x1 (.int _)⟩
/-- sorted(e.keys()) -/
theorem eo_sortedKeys {I : List (Int × Int) → Prop} (he : EvP C e ρ (fun d => ∃ ds, I ds ∧ d = .dI (iZ ds))) (hl : ∀ ds, I ds → ds.length ≤ 100000) (hm : C.mg "sorted" = none) (hg : GlC C "sorted" := by rfl) (ba : ∀ env, attributeBase e "keys" env (eval e env) = eval e env := by intro _; rfl) (li : (apos.endLine == mpos.line) = true := by decide +kernel)
    (st : ∀ env, starEach [Expr.Call (.Attribute e "keys" apos) [] [] mpos] env = [(false, eval (Expr.Call (.Attribute e "keys" apos) [] [] mpos) env)] := by intro _; rfl) : EvO C (.Call (.Name "sorted" p) [.Call (.Attribute e "keys" apos) [] [] mpos] [] pos) ρ (fun d => ∃ (ds : List (Int × Int)) (ms : List Int), I ds ∧ d = .lst (ms.map D.int) ∧ ms.Perm (ds.map (·.1)) ∧ ms.Pairwise (· ≤ ·)) := fun X hX B Z Y σ H R Q hQ => by
  refine WE.of (pe_eats (I := fun a kvs G => ∃ is : List Int, kvs.map (·.1) = is.map (fun i : Int => (Sum.inl i : Key)) ∧ kvs.length ≤ sizeLine ∧ G = fun H Q => ∀ (ms : List Int) (p : Addr), ms.Perm is → ms.Pairwise (· ≤ ·) → H p = none → Q (.ref p) (upd H p (.lst (ms.map V.int)))) (keysV X.prog X.w) (fun a kvs G ⟨is, h, hz, eG⟩ => by rw [eG]; exact eats_sorted hX.calm h hz) (hX.gl hg) (by rw [← hX.mg]; exact hm) (by decide +kernel) (by decide) (by decide) pe_we (ba _) li (st _)) (he X hX B Z Y σ H R _ fun v d H1 hd x1 dv => ?_)
  obtain ⟨ds, hI, rfl⟩ := hd
  have R1 := R.ext x1
  cases dv with
  | @dI a kvs _ rd hk t =>
    have hk' : kvs.map (·.1) = (ds.map (·.1)).map (fun i : Int => (Sum.inl i : Key)) := by
      rw [hk]; unfold iZ; rw [List.map_map, List.map_map]; rfl
    have hz : kvs.length ≤ sizeLine := by
      have := keys_len hk
      rw [this]; unfold iZ; rw [List.length_map]
      exact Nat.le_trans (hl ds hI) (by decide)
    exact ⟨a, kvs, _, rfl, (hid_le H1 Y).rd rd, ⟨ds.map (·.1), hk', hz, rfl⟩, fun ms q pm pw hq => hQ q _ _ ⟨ds, ms, hI, rfl, pm, pw⟩ (x1.fresh hq (R1.freshR hq)) (x1.trans (Ext.new hq)) (R1.y.newLst hq (.of_ints ms))⟩
/-- x += e, x *= e, e one of several -/
theorem ws_augAddP {P : Post} {pos' : Pos} (i : Nat) {x : Str} {z : Int} {I : Int → Prop} (hnd : C.N.Nodup) (h : EvP C e ρ (fun d => ∃ y, I y ∧ d = .int y)) (hp : ∀ y, I y → P.nx (ρ.set i (some (.v (.int (z + y)))))) (hi : ρ[i]? = some (some (.v (.int z))) := by rfl) (hN : C.N[i]? = some x := by rfl) (hl : LocC C x := by first | exact Or.inl rfl | exact Or.inr ⟨rfl, rfl⟩) :
    WS C (.AugAssign (.Name x pos') .Add e pos) ρ P := fun X hX B Z Y σ H R Dn L => by
  obtain ⟨h1, h2⟩ := hX.loc hl
  obtain ⟨v, ev, dv⟩ := R.fz i _ hi
  cases dv
  refine WSt.of (ps_aug (by rw [← hX.N]; exact hnd) (by rw [← hX.N]; exact hN) h1 pe_we ip_add h2) ⟨_, ev, h X hX B Z Y σ H R _ fun v d H1 pd x1 dv => ?_⟩
  obtain ⟨y, hy, rfl⟩ := pd
  cases dv
  obtain ⟨Y', s', R'⟩ := (R.ext x1).setv i (.int (z + y))
  exact ⟨z, y, rfl, rfl, L.nx Y' _ _ H1 (hp y hy) R'⟩
theorem ws_augMulP {P : Post} {pos' : Pos} (i : Nat) {x : Str} {z : Int} {I : Int → Prop} (hnd : C.N.Nodup) (h : EvP C e ρ (fun d => ∃ y, I y ∧ d = .int y)) (hc : ∀ y, I y → CMul z y) (hp : ∀ y, I y → P.nx (ρ.set i (some (.v (.int (z * y)))))) (hi : ρ[i]? = some (some (.v (.int z))) := by rfl) (hN : C.N[i]? = some x := by rfl) (hl : LocC C x := by first | exact Or.inl rfl | exact Or.inr ⟨rfl, rfl⟩) :
    WS C (.AugAssign (.Name x pos') .Mult e pos) ρ P := fun X hX B Z Y σ H R Dn L => by
  obtain ⟨h1, h2⟩ := hX.loc hl
  obtain ⟨v, ev, dv⟩ := R.fz i _ hi
  cases dv
  refine WSt.of (ps_aug (by rw [← hX.N]; exact hnd) (by rw [← hX.N]; exact hN) h1 pe_we (ti := fun x y H Q => rI CMul (fun i j => .int (i * j)) x y H Q) iop_mul h2) ⟨_, ev, h X hX B Z Y σ H R _ fun v d H1 pd x1 dv => ?_⟩
  obtain ⟨y, hy, rfl⟩ := pd
  cases dv
  obtain ⟨Y', s', R'⟩ := (R.ext x1).setv i (.int (z * y))
  exact ⟨z, y, rfl, rfl, hc y hy, L.nx Y' _ _ H1 (hp y hy) R'⟩
end
end DL
/-! text P11 -/
/-! P11: the class Lots: making, still. -/
namespace FT
open PySem PySem.Spec L2 DL
open PyProof.Rows hiding St
def clB : Stmt → List Stmt
  | .ClassDef _ _ _ b _ _ _ _ _ _ _ => b
  | _ => []
def mthS (i : Nat) : Stmt := (clB (topS 31)).getD i (.Pass ⟨0, 0, 0, 0⟩)
abbrev sInit : Stmt := mthS 0
abbrev sStill : Stmt := mthS 1
abbrev sCosts : Stmt := mthS 2
abbrev sCount : Stmt := mthS 3
abbrev sOuter : Stmt := mthS 4
abbrev sBest : Stmt := mthS 5
abbrev sColours : Stmt := mthS 6
theorem scInit : FnScope ["self", "line", "wish", "prices", "must_fill", "k"] ["self", "line", "wish", "prices", "must_fill"] (defScope sInit) := ⟨rfl, rfl, rfl, by decide +kernel, rfl, by decide +kernel, by decide +kernel⟩
theorem scStill : FnScope ["self", "ready", "k"] ["self"] (defScope sStill) := ⟨rfl, rfl, rfl, by decide +kernel, rfl, by decide +kernel, by decide +kernel⟩
theorem scCosts : FnScope ["self", "some"] ["self", "some"] (defScope sCosts) := ⟨rfl, rfl, rfl, by decide +kernel, rfl, by decide +kernel, by decide +kernel⟩
theorem scCount : FnScope ["self", "found", "some"] ["self"] (defScope sCount) := ⟨rfl, rfl, rfl, by decide +kernel, rfl, by decide +kernel, by decide +kernel⟩
theorem scOuter : FnScope ["self", "is_most", "found", "some", "told"] ["self", "is_most"] (defScope sOuter) := ⟨rfl, rfl, rfl, by decide +kernel, rfl, by decide +kernel, by decide +kernel⟩
theorem scColours : FnScope ["self", "some", "one", "told", "k"] ["self", "some", "one"] (defScope sColours) := ⟨rfl, rfl, rfl, by decide +kernel, rfl, by decide +kernel, by decide +kernel⟩
def pricesD (n : Nat) (p : Int) : D := .tup ((List.replicate n p).map D.int)
def lotsF (l : Ln) (w : List (Option Int)) (p : Int) (m : Bool) (ps : List (List Nat)) (ring : Bool) : List (Str × D) := [("base", l.D), ("suits", suitsD l.n (suit0 l w) (suit1 l w)), ("prices", pricesD l.n p), ("must_fill", .bl m), ("paths", .lst (ps.map lN)), ("is_ring", .bl ring)]
def PathsOk (l : Ln) (ps : List (List Nat)) (ring : Bool) : Prop := (l.swings = true ∧ ps = [l.ready] ∧ ring = true) ∨ (l.swings = false ∧ ps.Perm (runs l) ∧ ring = false)
structure LotsC (C : Cfg) (K : Addr) : Prop where
  cl : Cls C.K K
  n1 : NoAttr C.K K "base"
  n2 : NoAttr C.K K "suits"
  n3 : NoAttr C.K K "prices"
  n4 : NoAttr C.K K "must_fill"
  n5 : NoAttr C.K K "paths"
  n6 : NoAttr C.K K "is_ring"
section
variable {C : Cfg} {K : Addr}
def SInit (K : Addr) : List D → (D → Prop) → Prop := fun ds k => ∃ (l : Ln) (w : List (Option Int)) (p : Int) (m : Bool), ds = [l.D, wishD w, pricesD l.n p, .bl m] ∧ l.Ok ∧ WishOk l w ∧ ∀ ps ring, PathsOk l ps ring → k (.obj K (lotsF l w p m ps ring))
theorem mk_lots (N : Bare C) (T : LotsC C K) (G1 : FnD C 1 "choices" SChoices) (G2 : FnD C 6 "paths_in" SPaths) {f : Addr} {fd : FuncData} (F : Fun C.K "__init__" "Lots.__init__" sInit f fd) (hm : Mk C.K K f) (hb : Binds C.K fd ["self", "line", "wish", "prices", "must_fill"] []) (hn : C.mg "Lots" = some (.ref K)) : MkD C 7 "Lots" K (SInit K) := by
  refine mkD F hm hb hn scInit (by rintro ds k ⟨l, w, p, m, rfl, _⟩; rfl) ?_
  rintro z ds kk ⟨l, w, p, m, rfl, ok, wok, hk⟩
  have hmost : l.n ≤ 40 := ok.most
  refine wss_seq (ws_fld 0 (ev_var 1) T.cl T.n1 (by rintro _ rfl; rfl)) ?_
  refine wss_seq (ws_fld 0 (p := (· = suitsD l.n (suit0 l w) (suit1 l w))) (ev_o (eo_map (List.range l.n) (fun k : Nat => D.int k) (fun k => .lst [.bl (suit0 l w k), .bl (suit1 l w k)]) [("k", 5)]
    (ei_rangeN (n := l.n) (EvD.is (ev_callB (ea_cons (ev_ix (ev_var 1) ev_int (ixd_tup (d := .tup (l.cells.map D.int)) rfl)) ea_nil) cd_lenT N.len) (by rw [List.length_map]; rfl)) (by omega) N.range) scInit.nd (sg_name 5 scInit.nd) (fun k hk => ⟨_, rfl, ev_call G1.to (ea_cons (ev_var 1) (ea_cons (ev_var 2) (ea_cons (ev_var 5) ea_nil))) ⟨l, w, k, rfl, ok, wok, List.mem_range.mp hk, rfl⟩⟩) (by simp; omega))) T.cl T.n2 (by rintro _ rfl; rfl)) ?_
  refine wss_seq (ws_fld 0 (ev_var 3) T.cl T.n3 (by rintro _ rfl; rfl)) ?_
  refine wss_seq (ws_fld 0 (ev_var 4) T.cl T.n4 (by rintro _ rfl; rfl)) ?_
  refine wss_one (ws_fld2 0 (p := fun d1 d2 => ∃ ps ring, PathsOk l ps ring ∧ d1 = .lst (ps.map lN) ∧ d2 = .bl ring) (ev_callP G2.to (ea_cons (ev_var 1) ea_nil) ?_) T.cl T.n5 T.n6 ?_)
  · rintro _ rfl
    refine ⟨l, rfl, ok, fun h => ⟨_, _, rfl, [l.ready], true, .inl ⟨h, rfl, rfl⟩, rfl, rfl⟩, fun h ps hp => ⟨_, _, rfl, ps, false, .inr ⟨h, hp, rfl⟩, rfl, rfl⟩⟩
  · rintro _ _ ⟨ps, ring, hp, rfl, rfl⟩
    exact ⟨_, rfl, hk ps ring hp⟩
/-- no cell that is not ready has colours it must not have -/
def stillB (l : Ln) (w : List (Option Int)) : Bool := ((List.range l.n).filter fun k : Nat => !decide (k ∈ l.ready) && !suit0 l w k).isEmpty
def SStill (K : Addr) : List D → (D → Prop) → Prop := fun ds k => ∃ l w p m ps ring, ds = [.obj K (lotsF l w p m ps ring)] ∧ l.Ok ∧ WishOk l w ∧ k (.bl (stillB l w))
theorem m_still (N : Bare C) (T : LotsC C K) (G : FnD C 3 "ready_in" SReady) {f : Addr} {fd : FuncData} (F : Fun C.K "still" "Lots.still" sStill f fd) (hm : Meth C.K K "still" f) (hb : Binds C.K fd ["self"] []) : MthD C 4 K "still" (SStill K) := by
  refine mthD F hm hb scStill (by rintro ds k ⟨l, w, p, m, ps, ring, rfl, _⟩; rfl) ?_
  rintro ds kk ⟨l, w, p, m, ps, ring, rfl, ok, wok, hk⟩
  have hmost : l.n ≤ 40 := ok.most
  refine wss_seq (ws_set 1 scStill.nd (ev_call G.to (ea_cons (ev_fld (ev_var 0) rfl T.cl T.n1) ea_nil) ⟨l, rfl, ok, rfl⟩) (by rintro _ rfl; rfl)) ?_
  refine wss_one (ws_ret (ev_cmp (ev_o (eo_compM (List.range l.n) (fun k : Nat => D.int k) (fun k : Nat => !decide (k ∈ l.ready) && !suit0 l w k) (fun k : Nat => D.int k) [("k", 2)]
    (ei_rangeN (n := l.n) (EvD.is (ev_callB (ea_cons (ev_ix (ev_fld (ev_var 0) rfl T.cl T.n1) ev_int (ixd_tup (d := .tup (l.cells.map D.int)) rfl)) ea_nil) cd_lenT N.len) (by rw [List.length_map]; rfl)) (by omega) N.range) scStill.nd (sg_name 2 scStill.nd) (fun k hk => ?_) (by simp; omega))) (ev_o (eo_lst ea_nil)) (od_eqNil (.map _ (fun k : Nat => PyData.int k) (fun k => .int k) _) ?_)) ?_)
  · have hkl := List.mem_range.mp hk
    refine ⟨_, rfl, ets_one (et_w (ew_and (k := !decide (k ∈ l.ready)) (k' := !suit0 l w k) (et_cmp (ev_var 2) (ev_var 1) od_niN) fun _ => ew_and1 (et_not (et_val (ev_ix (ev_ix (ev_fld (ev_var 0) rfl T.cl T.n2) (ev_var 2) (ixd_lst (d := .lst [.bl (suit0 l w k), .bl (suit1 l w k)]) ?_)) ev_int (ixd_lst (d := .bl (suit0 l w k)) rfl)))))), fun _ => ev_var 2⟩
    rw [atI_map]
    rw [show atI (List.range l.n) (k : Int) = some k from atI_nat (List.getElem?_range hkl)]
    rfl
  · have := shaped_lstI (castL ((List.range l.n).filter fun k : Nat => !decide (k ∈ l.ready) && !suit0 l w k))
    unfold castL at this
    rw [List.map_map] at this
    exact this
  · rintro _ rfl
    have e : ∀ xs : List Nat, (xs.map fun k : Nat => D.int k).isEmpty = xs.isEmpty := fun xs => by cases xs <;> rfl
    rw [e]
    exact hk
end
end FT
/-! text P12 -/
/-! P12: Lots: costs, count, outer. -/
namespace FT
open PySem PySem.Spec L2 DL
open PyProof.Rows hiding St
/-- d tells, of the rows' costs, which there are; its values together are the rows -/
structure HistOf (d : List (Int × Int)) (rows : List (List Int)) (p : Int) : Prop where
  nd : (d.map (·.1)).Nodup
  key : ∀ z : Int, z ∈ d.map (·.1) ↔ ∃ row ∈ rows, p * row.sum = z
  tot : (d.map (·.2)).sum = rows.length
def SCostsOf : List D → (D → Prop) → Prop := fun ds k => ∃ (n : Nat) (ks : List Nat) (r f : Bool) (s0 s1 : Nat → Bool) (p : Int), ds = [lN ks, .bl r, suitsD n s0 s1, pricesD n p, .bl f] ∧ (∀ k ∈ ks, k < n) ∧ ks.length ≤ 12 ∧ (p = 0 ∨ p = 1) ∧
  ∀ d, HistOf d (setsF s0 s1 r f ks) p → k (.dI (iZ d))
structure PsOk (l : Ln) (ps : List (List Nat)) : Prop where
  lt : ∀ ks ∈ ps, ∀ k ∈ ks, k < l.n
  le : ∀ ks ∈ ps, ks.length ≤ 12
  few : ps.length ≤ 40
theorem pow12 {n : Nat} (h : n ≤ 12) : 2 ^ n ≤ 4096 := Nat.le_trans (Nat.pow_le_pow_right (by decide) h) (by decide)
theorem setsF_few {s0 s1 : Nat → Bool} {r f : Bool} {ks : List Nat} (h : ks.length ≤ 12) : (setsF s0 s1 r f ks).length ≤ 4096 :=
  Nat.le_trans (List.length_filter_le _ _) (Nat.le_trans (rowsF_len s0 s1 r f ks) (pow12 h))
theorem nodup_le {α : Type} [DecidableEq α] : ∀ {xs ys : List α}, xs.Nodup → (∀ x ∈ xs, x ∈ ys) → xs.length ≤ ys.length
  | [], _, _, _ => Nat.zero_le  _
  | x :: xs, ys, hn, hs => by
    have hx := hs x (List.mem_cons_self ..)
    have hn' := List.nodup_cons.mp  hn
    have := nodup_le (ys := ys.erase x) hn'.2 fun z hz => (List.mem_erase_of_ne (fun e => hn'.1 (by rw [← e]; exact hz))).mpr (hs z (List.mem_cons_of_mem _ hz))
    have h2 := (List.perm_cons_erase hx).length_eq
    rw [List.length_cons] at h2 ⊢
    omega
theorem hist_few {d : List (Int × Int)} {rows : List (List Int)} {p : Int} (h : HistOf d rows p) : d.length ≤ rows.length := by
  have hs : ∀ z ∈ d.map (·.1), z ∈ rows.map fun row => p * row.sum := fun z hz => by
    obtain ⟨row, h1, h2⟩ := (h.key z).mp hz
    exact List.mem_map.mpr ⟨row, h1, h2⟩
  have := nodup_le h.nd hs
  simpa using this
section
variable {C : Cfg} {K : Addr}
def rowsOf (l : Ln) (w : List (Option Int)) (ring m : Bool) (ks : List Nat) : List (List Int) := setsF (suit0 l w) (suit1 l w) ring m ks
def SCosts (K : Addr) : List D → (D → Prop) → Prop := fun ds k => ∃ l w p m ps ring ks, ds = [.obj K (lotsF l w p m ps ring), lN ks] ∧ (∀ k ∈ ks, k < l.n) ∧ ks.length ≤ 12 ∧ (p = 0 ∨ p = 1) ∧ ∀ d, HistOf d (rowsOf l w ring m ks) p → k (.dI (iZ d))
theorem m_costs (T : LotsC C K) (G : FnD C 2 "costs_of" SCostsOf) {f : Addr} {fd : FuncData} (F : Fun C.K "costs" "Lots.costs" sCosts f fd) (hm : Meth C.K K "costs" f) (hb : Binds C.K fd ["self", "some"] []) : MthD C 3 K "costs" (SCosts K) := by
  refine mthD F hm hb scCosts (by rintro ds k ⟨l, w, p, m, ps, ring, ks, rfl, _⟩; rfl) ?_
  rintro ds kk ⟨l, w, p, m, ps, ring, ks, rfl, hlt, hle, hp, hk⟩
  refine wss_one (ws_ret (p := fun d => ∃ h, HistOf h (rowsOf l w ring m ks) p ∧ d = .dI (iZ h)) (ev_callP G.to (ea_cons (ev_var 1) (ea_cons (ev_fld (ev_var 0) rfl T.cl T.n6) (ea_cons (ev_fld (ev_var 0) rfl T.cl T.n2) (ea_cons (ev_fld (ev_var 0) rfl T.cl T.n3) (ea_cons (ev_fld (ev_var 0) rfl T.cl T.n4) ea_nil))))) ?_) ?_)
  · rintro _ rfl
    exact ⟨l.n, ks, ring, m, suit0 l w, suit1 l w, p, rfl, hlt, hle, hp, fun d hd => ⟨d, hd, rfl⟩⟩
  · rintro _ ⟨h, hh, rfl⟩
    exact hk h hh
def prodN (xs : List Nat) : Int := xs.foldl (fun (a : Int) (x : Nat) => a * x) 1
def countF (l : Ln) (w : List (Option Int)) (ring m : Bool) (ps : List (List Nat)) : Int := ps.foldl (fun (a : Int) ks => a * (rowsOf l w ring m ks).length) (if stillB l w = true then 1 else 0)
def SCount (K : Addr) : List D → (D → Prop) → Prop := fun ds k => ∃ l w p m ps ring, ds = [.obj K (lotsF l w p m ps ring)] ∧ l.Ok ∧ WishOk l w ∧ PsOk l ps ∧ (p = 0 ∨ p = 1) ∧ k (.int (countF l w ring m ps))
theorem m_count (N : Bare C) (T : LotsC C K) (G1 : MthD C 4 K "still" (SStill K)) (G2 : MthD C 3 K "costs" (SCosts K)) {f : Addr} {fd : FuncData} (F : Fun C.K "count" "Lots.count" sCount f fd) (hm : Meth C.K K "count" f) (hb : Binds C.K fd ["self"] []) : MthD C 5 K "count" (SCount K) := by
  refine mthD F hm hb scCount (by rintro ds k ⟨l, w, p, m, ps, ring, rfl, _⟩; rfl) ?_
  rintro ds kk ⟨l, w, p, m, ps, ring, rfl, ok, wok, pok, hp, hk⟩
  refine wss_seq (ws_set 1 scCount.nd (ev_callT (ea_cons (ev_methP0 G1.to T.cl (ev_var 0) rfl ⟨l, w, p, m, ps, ring, rfl, ok, wok, rfl⟩) ea_nil) cd_intB N.int) (by rintro _ rfl; rfl)) ?_
  refine wss_cons (ws_forG ps lN (fun xs ρ' => ∃ e2, ρ' = [some (.v (.obj K (lotsF l w p m ps ring))), some (.v (.int (countF l w ring m xs))), e2]) (ei_list (ev_fld (ev_var 0) rfl T.cl T.n5)) (sg_name 2 scCount.nd) ⟨none, rfl⟩ ?_ (fun ρ' h => h)) ?_
  · rintro i ks ρ' hi ⟨e2, rfl⟩
    have hm := List.mem_of_getElem?  hi
    refine ⟨_, rfl, ?_⟩
    refine wss_one (ws_augMulP 1 (I := fun y => y = ((rowsOf l w ring m ks).length : Int)) scCount.nd (EvP.imp (ev_sumVals (I := fun d => HistOf d (rowsOf l w ring m ks) p) (ev_methP G2.to T.cl (ev_var 0) rfl (ea_cons (ev_var 2) ea_nil) (by rintro _ rfl; exact ⟨l, w, p, m, ps, ring, ks, rfl, pok.lt ks hm, pok.le ks hm, hp, fun d hd => ⟨d, hd, rfl⟩⟩)) N.sum) ?_) ?_ ?_)
    · rintro _ ⟨d, hd, rfl⟩
      exact ⟨_, rfl, by rw [hd.tot]⟩
    · rintro _ rfl
      have := setsF_few (s0 := suit0 l w) (s1 := suit1 l w) (r := ring) (f := m) (pok.le ks hm)
      refine .inr ⟨by omega, ?_⟩
      show ((setsF (suit0 l w) (suit1 l w) ring m ks).length : Int) < _
      omega
    · rintro _ rfl
      refine ⟨some (.v (lN ks)), ?_⟩
      unfold countF
      rw [List.foldl_append]
      rfl
  · rintro ρ' ⟨e2, rfl⟩
    exact wss_one (ws_ret (ev_var 1) (by rintro _ rfl; exact hk))
def IsBest (rows : List (List Int)) (p : Int) (most : Bool) (c : Int) : Prop := (∃ row ∈ rows, p * row.sum = c) ∧ ∀ row ∈ rows, if most = true then p * row.sum ≤ c else c ≤ p * row.sum
def SOuter (K : Addr) : List D → (D → Prop) → Prop := fun ds k => ∃ l w p m ps ring most, ds = [.obj K (lotsF l w p m ps ring), .bl most] ∧ l.Ok ∧ WishOk l w ∧ PsOk l ps ∧ (p = 0 ∨ p = 1) ∧ ((stillB l w = false ∨ ∃ ks ∈ ps, rowsOf l w ring m ks = []) → k .non) ∧
  (stillB l w = true → (∀ ks ∈ ps, rowsOf l w ring m ks ≠ []) → ∀ c : List Nat → Int, (∀ ks ∈ ps, IsBest (rowsOf l w ring m ks) p most (c ks)) → k (.int (ps.foldl (fun (a : Int) ks => a + c ks) 0)))
theorem best_uniq {rows : List (List Int)} {p : Int} {most : Bool} {c d : Int} (h : IsBest rows p most c) (h' : IsBest rows p most d) : c = d := by
  obtain ⟨⟨r, hr, e⟩, h2⟩ := h
  obtain ⟨⟨r', hr', e'⟩, h2'⟩ := h'
  have a := h2 r' hr'
  have b := h2' r hr
  cases most
  · simp only [Bool.false_eq_true, if_false] at a b; omega
  · simp only [if_true] at a b; omega
theorem told_first {d : List (Int × Int)} {rows : List (List Int)} {p : Int} {ms : List Int} (h : HistOf d rows p) (pm : ms.Perm (d.map (·.1))) (pw : ms.Pairwise (· ≤ ·)) (hne : ms ≠ []) : atI ms 0 = some (at0 ms 0) ∧ IsBest rows p false (at0 ms 0) ∧ atI ms (-1) = some (at0 ms (-1)) ∧ IsBest rows p true (at0 ms (-1)) := by
  have hl : 0 < ms.length := List.length_pos_iff.mpr hne
  have mem : ∀ z, z ∈ ms ↔ ∃ row ∈ rows, p * row.sum = z := fun z => (pm.mem_iff).trans (h.key z)
  have e0 : atI ms 0 = some (at0 ms 0) := atI_at0 (by omega) (by omega)
  have e1 : atI ms (-1) = some (at0 ms (-1)) := atI_at0 (by omega) (by omega)
  have g0 : ms[0]? = some (at0 ms 0) := by
    have := e0
    unfold atI ixN at this
    rw [if_pos (by omega), if_pos (by omega)] at this
    exact this
  have g1 : ms[ms.length - 1]? = some (at0 ms (-1)) := by
    have := e1
    unfold atI ixN at this
    rw [if_neg (by omega), if_pos (by omega)] at this
    have e : (-1 + (ms.length : Int)).toNat = ms.length - 1 := by omega
    rw [e] at this
    exact this
  have srt : ∀ (i j : Nat) (x y : Int), i ≤ j → ms[i]? = some x → ms[j]? = some y → x ≤ y := fun i j x y hij hx hy => by
    obtain ⟨hi, rfl⟩ := List.getElem?_eq_some_iff.mp hx
    obtain ⟨hj, rfl⟩ := List.getElem?_eq_some_iff.mp hy
    rcases Nat.lt_or_eq_of_le hij with q | q
    · exact List.pairwise_iff_getElem.mp pw i j hi hj q
    · subst q; exact Int.le_refl _
  refine ⟨e0, ⟨(mem _).mp (List.mem_of_getElem? g0), fun row hr => ?_⟩, e1, ⟨(mem _).mp (List.mem_of_getElem? g1), fun row hr => ?_⟩⟩
  · obtain ⟨j, hj⟩ := List.mem_iff_getElem?.mp ((mem _).mpr ⟨row, hr, rfl⟩)
    exact srt 0 j _ _ (Nat.zero_le _) g0 hj
  · obtain ⟨j, hj⟩ := List.mem_iff_getElem?.mp ((mem _).mpr ⟨row, hr, rfl⟩)
    have := (List.getElem?_eq_some_iff.mp hj).1
    exact srt j (ms.length - 1) _ _ (by omega) hj g1
theorem m_outer (N : Bare C) (T : LotsC C K) (G1 : MthD C 4 K "still" (SStill K)) (G2 : MthD C 3 K "costs" (SCosts K)) {f : Addr} {fd : FuncData} (F : Fun C.K "outer" "Lots.outer" sOuter f fd) (hm : Meth C.K K "outer" f) (hb : Binds C.K fd ["self", "is_most"] []) : MthD C 5 K "outer" (SOuter K) := by
  refine mthD F hm hb scOuter (by rintro ds k ⟨l, w, p, m, ps, ring, most, rfl, _⟩; rfl) ?_
  rintro ds kk ⟨l, w, p, m, ps, ring, most, rfl, ok, wok, pok, hp, hno, hk⟩
  refine wss_cons (M := fun ρ' => stillB l w = true ∧ ρ' = [some (.v (.obj K (lotsF l w p m ps ring))), some (.v (.bl most)), none, none, none]) (ws_if (EvT.imp (et_not (et_val (k := stillB l w) (ev_methP0 G1.to T.cl (ev_var 0) rfl ⟨l, w, p, m, ps, ring, rfl, ok, wok, rfl⟩))) fun b h => h) (fun h => wss_one (ws_ret ev_non ?_)) fun h => wss_nil ⟨?_, rfl⟩) ?_
  · rintro _ rfl
    exact hno (.inl (by simpa using h.symm))
  · simpa using h.symm
  rintro _ ⟨hst, rfl⟩
  refine wss_seq (ws_set 2 scOuter.nd ev_int (by rintro _ rfl; rfl)) ?_
  refine wss_cons (ws_forG ps lN (fun xs ρ' => (∀ ks ∈ xs, rowsOf l w ring m ks ≠ []) ∧ ∃ (c : List Nat → Int) (e3 e4 : Option Ent), (∀ ks ∈ xs, IsBest (rowsOf l w ring m ks) p most (c ks)) ∧ ρ' = [some (.v (.obj K (lotsF l w p m ps ring))), some (.v (.bl most)), some (.v (.int (xs.foldl (fun (a : Int) ks => a + c ks) 0))), e3, e4]) (ei_list (ev_fld (ev_var 0) rfl T.cl T.n5)) (sg_name 3 scOuter.nd) ⟨fun _ h => (by cases h), fun _ => 0, none, none, fun _ h => (by cases h), rfl⟩ ?_ (fun ρ' h => h)) ?_
  · rintro i ks ρ' hi ⟨hne, c, e3, e4, hc, rfl⟩
    have hm := List.mem_of_getElem?  hi
    refine ⟨_, rfl, ?_⟩
    refine wss_cons (M := fun ρ' => ∃ (d : List (Int × Int)) (ms : List Int), (HistOf d (rowsOf l w ring m ks) p ∧ ms.Perm (d.map (·.1)) ∧ ms.Pairwise (· ≤ ·)) ∧ ρ' = [some (.v (.obj K (lotsF l w p m ps ring))), some (.v (.bl most)), some (.v (.int ((ps.take i).foldl (fun (a : Int) ks => a + c ks) 0))), some (.v (lN ks)), some (.v (.lst (ms.map D.int)))])
      (ws_set 4 scOuter.nd (ev_o (eo_sortedKeys (I := fun d => HistOf d (rowsOf l w ring m ks) p) (ev_methP G2.to T.cl (ev_var 0) rfl (ea_cons (ev_var 3) ea_nil) (by rintro _ rfl; exact ⟨l, w, p, m, ps, ring, ks, rfl, pok.lt ks hm, pok.le ks hm, hp, fun d hd => ⟨d, hd, rfl⟩⟩)) (fun d hd => ?_) N.sorted)) ?_) ?_
    · have h1 := hist_few hd
      have h2 := setsF_few (s0 := suit0 l w) (s1 := suit1 l w) (r := ring) (f := m) (pok.le ks hm)
      unfold rowsOf at h1
      omega
    · rintro _ ⟨d, ms, hd, rfl, pm, pw⟩
      exact ⟨d, ms, ⟨hd, pm, pw⟩, rfl⟩
    rintro _ ⟨d, ms, ⟨hd, pm, pw⟩, rfl⟩
    have hemp : ms = [] ↔ rowsOf l w ring m ks = [] := by
      constructor
      · intro e
        cases hr : rowsOf l w ring m ks with
        | nil => rfl
        | cons r rs =>
          have := (pm.mem_iff).mpr ((hd.key (p * r.sum)).mpr ⟨r, by rw [hr]; simp, rfl⟩)
          rw [e] at this; cases this
      · intro e
        cases hms : ms with
        | nil => rfl
        | cons x xs =>
          have : x ∈ d.map (·.1) := (pm.mem_iff).mp (by rw [hms]; simp)
          obtain ⟨r, hr, _⟩ := (hd.key x).mp this
          rw [e] at hr; cases hr
    refine wss_cons (M := fun ρ' => ms ≠ [] ∧ ρ' = [some (.v (.obj K (lotsF l w p m ps ring))), some (.v (.bl most)), some (.v (.int ((ps.take i).foldl (fun (a : Int) ks => a + c ks) 0))), some (.v (lN ks)), some (.v (.lst (ms.map D.int)))])
      (ws_if (et_cmp (ev_var 4) (ev_o (eo_lst ea_nil)) od_eqNilI) (fun h => wss_one (ws_ret ev_non ?_)) fun h => wss_nil ⟨?_, rfl⟩) ?_
    · rintro _ rfl
      exact hno (.inr ⟨ks, hm, hemp.mp (by simpa using h.symm)⟩)
    · intro e; rw [e] at h; cases h
    rintro _ ⟨hms, rfl⟩
    obtain ⟨a0, b0, a1, b1⟩ := told_first hd pm pw hms
    refine wss_one (ws_augAddP 2 (I := fun y => IsBest (rowsOf l w ring m ks) p most y) scOuter.nd (ev_ifP (pk := (· = most)) (et_val (ev_var 1)) (fun h => EvP.imp (ev_ix (ev_var 4) (ev_neg ev_int) (ixd_lst (d := .int (at0 ms (-1))) ?_)) ?_) (fun h => EvP.imp (ev_ix (ev_var 4) ev_int (ixd_lst (d := .int (at0 ms 0)) ?_)) ?_)) ?_)
    · rw [atI_map, a1]; rfl
    · rintro _ rfl; exact ⟨_, by rw [← h]; exact b1, rfl⟩
    · rw [atI_map, a0]; rfl
    · rintro _ rfl; exact ⟨_, by rw [← h]; exact b0, rfl⟩
    · intro y hy
      refine ⟨fun ks' hk' => ?_, fun ks' => if ks' = ks then y else c ks', some (.v (lN ks)), some (.v (.lst (ms.map D.int))), fun ks' hk' => ?_, ?_⟩
      · rcases List.mem_append.mp hk' with q | q
        · exact hne ks' q
        · rw [List.mem_singleton.mp q]; exact fun e => hms (hemp.mpr e)
      · by_cases e : ks' = ks
        · subst e; dsimp only; rw [if_pos rfl]; exact hy
        · dsimp only; rw [if_neg e]
          rcases List.mem_append.mp hk' with q | q
          · exact hc ks' q
          · exact absurd (List.mem_singleton.mp q) e
      · have same : ∀ (xs : List (List Nat)) (a : Int), (∀ ks' ∈ xs, IsBest (rowsOf l w ring m ks') p most (c ks')) → xs.foldl (fun (a : Int) ks' => a + if ks' = ks then y else c ks') a = xs.foldl (fun (a : Int) ks' => a + c ks') a := by
          intro xs
          induction xs with
          | nil => intro a _; rfl
          | cons x xs ih =>
            intro a hh
            rw [List.foldl_cons, List.foldl_cons, ih _ fun ks' hk' => hh ks' (List.mem_cons_of_mem _ hk')]
            congr 1
            by_cases e : x = ks
            · subst e; rw [if_pos rfl, best_uniq hy (hh _ (List.mem_cons_self ..))]
            · rw [if_neg e]
        rw [List.foldl_append, List.foldl_cons, List.foldl_nil]
        dsimp only
        rw [if_pos rfl, same _ _ hc]
        rfl
  · rintro ρ' ⟨hne, c, e3, e4, hc, rfl⟩
    exact wss_one (ws_ret (ev_var 2) (by rintro _ rfl; exact hk hst hne c hc))
end
end FT
/-! text LK4 -/
/-! LK4: a tuple once over, t * 1. -/
namespace DL
open PySem PySem.Spec L2
open PyProof.Rows hiding St
theorem mul_once (l : Addr) (items : Array Value) (n : Nat) (dd : Option Addr) (sl : Array (Option Value)) (u : Tok) : Meets (Builtin.«tuple.__mul__» ⟨[.ref l, .int 1 u], []⟩) (fun _ R s => s.heap.get? l = some { cls := .type "tuple", dict := dd, data := .seq items n, slots := sl } ∧ R (.ok (.ret (.ref l))) s) :=
  .of_wp fun prog w A R s h =>  by
    obtain ⟨hp, g, d, tk, os⟩ :=  s
    obtain ⟨hl, h⟩ := h
    have hx : (items.isEmpty || (1 : Int) == 1) = true := by rw [Bool.or_eq_true]; exact .inr rfl
    have f1 := AutoSeq1.idx_int
    wp_walk using wpAny_loadPart'  hl
    first
      | (refine wpAny_ite_false (decide_eq_false (by decide)) ?_; wp_walk using wpAny_loadPart' hl)
      | skip
    first
      | (refine wpAny_ite_true (decide_eq_true (by rw [hx])) ?_; wp_walk using wpAny_loadPart' hl)
      | (rw [if_pos hx]; wp_walk using wpAny_loadPart' hl)
      | skip
    exact ⟨_, rfl, h⟩
theorem op_repT1 {X : Cx} : OpR X (binaryOp .Mult) (fun x y H Q => ∃ l xs, x = .ref l ∧ y = .int 1 ∧ SqT X.K H l xs ∧ Q (.ref l) H) := by
  intro pins s σ H x y v u Q I rx ry  h
  obtain ⟨l, xs, rfl, rfl, hT, q⟩ := h
  have ev : v = Value.ref l := rx
  obtain ⟨t, eu⟩ : ∃ t, u = Value.int 1 t := ry
  rw [ev, eu]
  obtain ⟨its, r, ⟨⟨cls, dd, data, sl⟩, ho, hc, n, hd⟩, hs⟩ := I.tuple  hT
  have hc' : cls = Value.type "tuple" := hc
  have hd' : data = Data.seq its.toArray n := hd
  rw [hc', hd'] at ho
  have tyL : s.TypeIs (.ref l) "tuple" := ⟨_, ho, rfl⟩
  have twice := call_meets (prog := X.prog) (w := X.w) (A := X.A) (E := X.xe) (Q := EP X pins σ Q) (s := s) F.slot_tuple_mul tyL F.entry_tuple_mul (F.args_tuple_mul_2 _ _) (mul_once l its.toArray n dd sl t) ⟨ho, ⟨.ref l, H, I, rfl, q⟩⟩
  exact wpAny_binaryOp_repeat_ref (T := "tuple") (U := "int") (by decide) tyL (fun s' => typeIs_int s' 1 t) noFill_tuple_mul F.fills_int_mul F.slot_int_rmul repeat_tuple F.slot_int_index.lookup (call_meets F.slot_int_rmul (typeIs_int s 1 t) F.entry_int_rmul (F.args_int_rmul_2 _ _) (int_rmul_tuple 1 t l its.toArray n dd sl) ⟨ho, rfl, tyL, twice⟩)
/-- (x,) * n -/
theorem od_rep {C : Cfg} {x : Int} {n : Nat} (h1 : 1 ≤ n) (h2 : n ≤ 1000) : OpD C (binaryOp .Mult) (.tup [.int x]) (.int n) (· = .tup ((List.replicate n x).map D.int)) := fun X hX Y H u v Q y du dv hQ => by
  cases dv
  cases du with
  | @tup p vs _ e t =>
    have hv : vs = [V.int x] := DVs.ints (ns := [x]) t
    subst hv
    by_cases hn : n = 1
    · subst hn
      exact ⟨_, op_repT1, p, [.int x], rfl, rfl, hid_st e, hQ _ _ H rfl (Ext.refl C H) (.tup e t)⟩
    · refine ⟨_, op_repT, p, n, [.int x], rfl, rfl, hid_st e, by simp, by omega, by omega, by simp, fun q hq => ?_⟩
      have e2 : (List.replicate (n : Int).toNat [V.int x]).flatten = (List.replicate n x).map V.int := by
        rw [Int.toNat_natCast]
        clear hn h1 h2 hQ
        induction n with
        | zero => rfl
        | succ n ih => rw [List.replicate_succ, List.flatten_cons, ih, List.replicate_succ]; rfl
      rw [e2]
      exact hQ _ _ _ rfl (Ext.new hq) (y.newTup hq (.of_ints _))
end DL
/-! text DL14 -/
/-! DL14: a method of one of several instances. -/
namespace DL
open PySem PySem.Spec L2
open PyProof.Rows hiding St
section
variable {C : Cfg} {ρ : DEnv} {e o : Expr} {es : List Expr} {m : Str} {pos apos : Pos} {K : Addr}
theorem ev_methQ {lv : Nat} {S : List D → (D → Prop) → Prop} {I : List (Str × D) → Prop} {ps : List D → Prop} {p : D → Prop} {pl : Env → Sem Bool} (F : MthD C lv K m S) (c : Cls C.K K) (ho : EvP C o ρ (fun d => ∃ fs, I fs ∧ d = .obj K fs)) (hn : ∀ fs, I fs → fs.lookup m = none) (ha : EvA C (e :: es) ρ ps) (hS : ∀ fs ds, I fs → ps ds → S (.obj K fs :: ds) p) (hlv : lv ≤ C.lv := by exact Nat.le_of_ble_eq_true rfl)
    (he : ∀ env, starEach (e :: es) env = (false, eval e env) :: starEach es env := by intro _; rfl) (hpl : ∀ env, (backTo pos (starEach es env)).any (·.1) = false := by intro _; rfl)
    (ht : ∀ env, eval (.Call (.Attribute o m apos) (e :: es) [] pos) env = (do
      let self ← eval o env
      standAt apos.atName
      let (code, first) ← holding [self] (getMethod self m (pl env))
      callWith pos code first (backTo pos (starEach (e :: es) env)) (backToKw pos (keywordEach [] env))) := by intro _; rfl) : EvP C (.Call (.Attribute o m apos) (e :: es) [] pos) ρ p := fun X hX B Z Y σ H R Q hQ => by
  obtain ⟨f, fd, pps, h1, h2, h4⟩ := F.ex
  rw [hX.P, hX.w, hX.K, hX.mg, hX.base] at h1
  rw [hX.K] at h2 h4 c
  refine WE.of (pe_meth pe_we c h2 h1 (hX.room.mono hlv) h4 .nil pass0 pa_wa (he _) (hpl _) (ht _)) (ho X hX B Z Y σ H R _ fun v d H1 pd x1 dv => ?_)
  obtain ⟨fs, hI, rfl⟩ := pd
  cases id dv with
  | @obj a _ dx vs _ e1 hk t =>
    refine ⟨a, dx, vs, rfl, (hid_some e1).2, (fld_look hk t).2 (hn fs hI), ha X hX B Z Y σ H1 (R.ext x1) _ fun us ds H2 pds x2 dvs => ?_⟩
    rw [List.append_nil]
    exact ((R.ext x1).ext x2).sp (hS fs ds hI pds) (.cons (dv.mono ((R.ext x1).sub x2)) dvs) fun v d H' kd x3 dv => hQ v d H' kd ((x1.trans x2).trans x3) dv
theorem ev_methQ0 {lv : Nat} {S : List D → (D → Prop) → Prop} {I : List (Str × D) → Prop} {p : D → Prop} {pl : Env → Sem Bool} (F : MthD C lv K m S) (c : Cls C.K K) (ho : EvP C o ρ (fun d => ∃ fs, I fs ∧ d = .obj K fs)) (hn : ∀ fs, I fs → fs.lookup m = none) (hS : ∀ fs, I fs → S [.obj K fs] p) (hlv : lv ≤ C.lv := by exact Nat.le_of_ble_eq_true rfl)
    (ht : ∀ env, eval (.Call (.Attribute o m apos) [] [] pos) env = (do
      let self ← eval o env
      standAt apos.atName
      let (code, first) ← holding [self] (getMethod self m (pl env))
      callWith pos code first (backTo pos (starEach [] env)) (backToKw pos (keywordEach [] env))) := by intro _; rfl) : EvP C (.Call (.Attribute o m apos) [] [] pos) ρ p := fun X hX B Z Y σ H R Q hQ => by
  obtain ⟨f, fd, pps, h1, h2, h4⟩ := F.ex
  rw [hX.P, hX.w, hX.K, hX.mg, hX.base] at h1
  rw [hX.K] at h2 h4 c
  refine WE.of (pe_meth0 pe_we c h2 h1 (hX.room.mono hlv) h4 .nil pass0 (ht _)) (ho X hX B Z Y σ H R _ fun v d H1 pd x1 dv => ?_)
  obtain ⟨fs, hI, rfl⟩ := pd
  cases id dv with
  | @obj a _ dx vs _ e1 hk t =>
    exact ⟨a, dx, vs, rfl, (hid_some e1).2, (fld_look hk t).2 (hn fs hI), (R.ext x1).sp (vs := [.ref a]) (Q := Q) (E := fun _ _ _ => False) (hS fs hI) (.cons dv .nil) fun v d H' kd x3 dv => hQ v d H' kd (x1.trans x3) dv⟩
end
end DL
/-! text P13 -/
/-! P13: wished_ends, fewest_to, most_to. -/
namespace FT
open PySem PySem.Spec L2 DL
open PyProof.Rows hiding St
abbrev sWEnds : Stmt := topS 32
abbrev sWEnd : Stmt := topS 33
abbrev sFewest : Stmt := topS 34
abbrev sMost : Stmt := topS 35
theorem scWEnds : FnScope ["line", "wish"] ["line", "wish"] (defScope sWEnds) := ⟨rfl, rfl, rfl, by decide +kernel, rfl, by decide +kernel, by decide +kernel⟩
theorem scFewest : FnScope ["line", "wish"] ["line", "wish"] (defScope sFewest) := ⟨rfl, rfl, rfl, by decide +kernel, rfl, by decide +kernel, by decide +kernel⟩
theorem scMost : FnScope ["line", "wish"] ["line", "wish"] (defScope sMost) := ⟨rfl, rfl, rfl, by decide +kernel, rfl, by decide +kernel, by decide +kernel⟩
section
variable {C : Cfg} {K : Addr}
/-- the paths of a line are good -/
def GoodL (l : Ln) : Prop := ∀ ps ring, PathsOk l ps ring → PsOk l ps
def SWEnds : List D → (D → Prop) → Prop := fun ds k => ∃ (l : Ln) (w : List (Option Int)), ds = [l.D, wishD w] ∧ l.Ok ∧ WishOk l w ∧ GoodL l ∧ ∀ ps ring, PathsOk l ps ring → k (.int (countF l w ring true ps))
theorem fn_wished_ends (N : Bare C) (T : LotsC C K) (G1 : FnD C 4 "need_wish" SNeedWish) (M : MkD C 7 "Lots" K (SInit K)) (G2 : MthD C 5 K "count" (SCount K)) {f : Addr} {fd : FuncData} (F : Fun C.K "wished_ends" "wished_ends" sWEnds f fd) (hm : C.mg "wished_ends" = some (.ref f)) (hb : Binds C.K fd ["line", "wish"] []) : FnD C 9 "wished_ends" SWEnds := by
  refine fnD F hm hb scWEnds (by rintro ds k ⟨l, w, rfl, _⟩; rfl) ?_
  rintro ds kk ⟨l, w, rfl, ok, wok, good, hk⟩
  have h1 : 1 ≤ l.n := ok.pos
  have h2 : l.n ≤ 40 := ok.most
  refine wss_seq (ws_expr (ev_call G1.to (ea_cons (ev_var 0) (ea_cons (ev_var 1) ea_nil)) ⟨l, w, rfl, ok, wok, rfl⟩) rfl) ?_
  refine wss_one (ws_ret (p := fun d => ∃ ps ring, PathsOk l ps ring ∧ d = .int (countF l w ring true ps)) (ev_methQ0 (I := fun fs => ∃ ps ring, PathsOk l ps ring ∧ fs = lotsF l w 0 true ps ring) G2.to T.cl (ev_o (eo_make M.to (ea_cons (ev_var 0) (ea_cons (ev_var 1) (ea_cons (ev_bin (ev_tup (ea_cons ev_int ea_nil)) (EvD.is (ev_callB (ea_cons (ev_ix (ev_var 0) ev_int (ixd_tup (d := .tup (l.cells.map D.int)) rfl)) ea_nil) cd_lenT N.len) (show _ = D.int (l.n : Int) by rw [List.length_map]; rfl)) (od_rep h1 (by omega))) (ea_cons ev_bl ea_nil))))
    ⟨l, w, 0, true, rfl, ok, wok, fun ps ring h => ⟨_, ⟨ps, ring, h, rfl⟩, rfl⟩⟩)) ?_ ?_) ?_)
  · rintro _ ⟨ps, ring, h, rfl⟩; rfl
  · rintro _ ⟨ps, ring, h, rfl⟩
    exact ⟨l, w, 0, true, ps, ring, rfl, ok, wok, good ps ring h, .inl rfl, ps, ring, h, rfl⟩
  · rintro _ ⟨ps, ring, h, rfl⟩
    exact hk ps ring h
/-- what the outermost numbers are -/
def OuterIs (l : Ln) (w : List (Option Int)) (m most : Bool) (ps : List (List Nat)) (ring : Bool) (k : D → Prop) : Prop := ((stillB l w = false ∨ ∃ ks ∈ ps, rowsOf l w ring m ks = []) → k .non) ∧
  (stillB l w = true → (∀ ks ∈ ps, rowsOf l w ring m ks ≠ []) → ∀ c : List Nat → Int, (∀ ks ∈ ps, IsBest (rowsOf l w ring m ks) 1 most (c ks)) → k (.int (ps.foldl (fun (a : Int) ks => a + c ks) 0)))
def STo (most : Bool) : List D → (D → Prop) → Prop := fun ds k => ∃ (l : Ln) (w : List (Option Int)), ds = [l.D, wishD w] ∧ l.Ok ∧ WishOk l w ∧ GoodL l ∧ ∀ ps ring, PathsOk l ps ring → OuterIs l w false most ps ring k
theorem fn_fewest (N : Bare C) (T : LotsC C K) (G1 : FnD C 4 "need_wish" SNeedWish) (M : MkD C 7 "Lots" K (SInit K)) (G2 : MthD C 5 K "outer" (SOuter K)) {f : Addr} {fd : FuncData} (F : Fun C.K "fewest_to" "fewest_to" sFewest f fd) (hm : C.mg "fewest_to" = some (.ref f)) (hb : Binds C.K fd ["line", "wish"] []) : FnD C 9 "fewest_to" (STo false) := by
  refine fnD F hm hb scFewest (by rintro ds k ⟨l, w, rfl, _⟩; rfl) ?_
  rintro ds kk ⟨l, w, rfl, ok, wok, good, hk⟩
  have h1 : 1 ≤ l.n := ok.pos
  have h2 : l.n ≤ 40 := ok.most
  refine wss_seq (ws_expr (ev_call G1.to (ea_cons (ev_var 0) (ea_cons (ev_var 1) ea_nil)) ⟨l, w, rfl, ok, wok, rfl⟩) rfl) ?_
  refine wss_one (ws_ret (p := kk) (ev_methQ (I := fun fs => ∃ ps ring, PathsOk l ps ring ∧ fs = lotsF l w 1 false ps ring) G2.to T.cl (ev_o (eo_make M.to (ea_cons (ev_var 0) (ea_cons (ev_var 1) (ea_cons (ev_bin (ev_tup (ea_cons ev_int ea_nil)) (EvD.is (ev_callB (ea_cons (ev_ix (ev_var 0) ev_int (ixd_tup (d := .tup (l.cells.map D.int)) rfl)) ea_nil) cd_lenT N.len) (show _ = D.int (l.n : Int) by rw [List.length_map]; rfl)) (od_rep h1 (by omega))) (ea_cons ev_bl ea_nil))))
    ⟨l, w, 1, false, rfl, ok, wok, fun ps ring h => ⟨_, ⟨ps, ring, h, rfl⟩, rfl⟩⟩)) ?_ (ea_cons ev_bl ea_nil) ?_) fun _ h => h)
  · rintro _ ⟨ps, ring, h, rfl⟩; rfl
  · rintro _ _ ⟨ps, ring, h, rfl⟩ rfl
    exact ⟨l, w, 1, false, ps, ring, false, rfl, ok, wok, good ps ring h, .inr rfl, (hk ps ring h).1, (hk ps ring h).2⟩
theorem fn_most (N : Bare C) (T : LotsC C K) (G1 : FnD C 4 "need_wish" SNeedWish) (M : MkD C 7 "Lots" K (SInit K)) (G2 : MthD C 5 K "outer" (SOuter K)) {f : Addr} {fd : FuncData} (F : Fun C.K "most_to" "most_to" sMost f fd) (hm : C.mg "most_to" = some (.ref f)) (hb : Binds C.K fd ["line", "wish"] []) : FnD C 9 "most_to" (STo true) := by
  refine fnD F hm hb scMost (by rintro ds k ⟨l, w, rfl, _⟩; rfl) ?_
  rintro ds kk ⟨l, w, rfl, ok, wok, good, hk⟩
  have h1 : 1 ≤ l.n := ok.pos
  have h2 : l.n ≤ 40 := ok.most
  refine wss_seq (ws_expr (ev_call G1.to (ea_cons (ev_var 0) (ea_cons (ev_var 1) ea_nil)) ⟨l, w, rfl, ok, wok, rfl⟩) rfl) ?_
  refine wss_one (ws_ret (p := kk) (ev_methQ (I := fun fs => ∃ ps ring, PathsOk l ps ring ∧ fs = lotsF l w 1 false ps ring) G2.to T.cl (ev_o (eo_make M.to (ea_cons (ev_var 0) (ea_cons (ev_var 1) (ea_cons (ev_bin (ev_tup (ea_cons ev_int ea_nil)) (EvD.is (ev_callB (ea_cons (ev_ix (ev_var 0) ev_int (ixd_tup (d := .tup (l.cells.map D.int)) rfl)) ea_nil) cd_lenT N.len) (show _ = D.int (l.n : Int) by rw [List.length_map]; rfl)) (od_rep h1 (by omega))) (ea_cons ev_bl ea_nil))))
    ⟨l, w, 1, false, rfl, ok, wok, fun ps ring h => ⟨_, ⟨ps, ring, h, rfl⟩, rfl⟩⟩)) ?_ (ea_cons ev_bl ea_nil) ?_) fun _ h => h)
  · rintro _ ⟨ps, ring, h, rfl⟩; rfl
  · rintro _ _ ⟨ps, ring, h, rfl⟩ rfl
    exact ⟨l, w, 1, false, ps, ring, true, rfl, ok, wok, good ps ring h, .inr rfl, (hk ps ring h).1, (hk ps ring h).2⟩
end
end FT
/-! text M1 -/
/-! M1: turned cells, levels, in plain words. -/
namespace FT
open PySem PySem.Spec L2 DL
open PyProof.Rows hiding St
def own (l : Ln) (k : Nat) : Int := at0 l.cells k
def pre (l : Ln) (k : Nat) : Int := at0 l.cells ((k : Int) - 1)
def nxt (n k : Nat) : Nat := (k + 1) % n
def colS (l : Ln) (S : Nat → Bool) : List Int := (List.range l.n).map fun k : Nat => if S k = true then pre l k else own l k
theorem prevN_eq {n k : Nat} (h : k < n) : prevN n k = if k = 0 then n - 1 else k - 1 := by
  unfold prevN
  by_cases q : k = 0
  · subst q; rw [if_pos rfl, Nat.mod_eq_of_lt (by omega)]; omega
  · rw [if_neg q, show k + n - 1 = (k - 1) + n by omega, Nat.add_mod_right, Nat.mod_eq_of_lt (by omega)]
theorem nxt_eq {n k : Nat} (h : k < n) : nxt n k = if k + 1 = n then 0 else k + 1 := by
  unfold nxt
  by_cases q : k + 1 = n
  · rw [if_pos q, q, Nat.mod_self]
  · rw [if_neg q, Nat.mod_eq_of_lt (by omega)]
theorem prevN_lt {n k : Nat} (h : k < n) : prevN n k < n := Nat.mod_lt _ (by omega)
theorem nxt_lt {n k : Nat} (h : k < n) : nxt n k < n := Nat.mod_lt _ (by omega)
theorem nxt_prev {n k : Nat} (h : k < n) : nxt n (prevN n k) = k := by
  rw [nxt_eq (prevN_lt h), prevN_eq h]
  by_cases q : k = 0
  · rw [if_pos q, if_pos (by omega)]; omega
  · rw [if_neg q, if_neg (by omega)]; omega
theorem prev_nxt {n k : Nat} (h : k < n) : prevN n (nxt n k) = k := by
  rw [prevN_eq (nxt_lt h), nxt_eq h]
  by_cases q : k + 1 = n
  · rw [if_pos q, if_pos rfl]; omega
  · rw [if_neg q, if_neg (by omega)]; omega
theorem pre_eq {l : Ln} {k : Nat} (h : k < l.n) : pre l k = own l (prevN l.n k) := by
  unfold pre own
  rw [prevN_eq h]
  by_cases q : k = 0
  · subst q
    rw [if_pos rfl, ← at0_shift (c := l.cells) (z := ((l.n - 1 : Nat) : Int)) (by omega) (by unfold Ln.n at h ⊢; omega)]
    congr 1
    unfold Ln.n at h ⊢; omega
  · rw [if_neg q]
    congr 1; omega
theorem flank_iff {l : Ln} {k : Nat} (h : k < l.n) : flankB l.cells k = true ↔ own l (prevN l.n k) = own l (nxt l.n k) ∧ own l (nxt l.n k) ≠ own l k := by
  have h1 : ((k : Int) - 1) % (l.cells.length : Int) = (prevN l.n k : Int) := prev_cast (n := l.n) (by omega) h
  have h2 : ((k : Int) + 1) % (l.cells.length : Int) = (nxt l.n k : Int) := next_cast l.n k
  unfold flankB
  rw [h1, h2]
  unfold own
  simp
theorem isReady_iff {l : Ln} {k : Nat} (h : k < l.n) : l.isReady k = true ↔ l.isHeld k = false ∧ own l (prevN l.n k) = own l (nxt l.n k) ∧ own l (nxt l.n k) ≠ own l k := by
  unfold Ln.isReady
  rw [Bool.and_eq_true, flank_iff h]
  simp
theorem colS_len (l : Ln) (S : Nat → Bool) : (colS l S).length = l.n := by unfold colS; simp
theorem with_n (l : Ln) (S : Nat → Bool) : (l.with (colS l S)).n = l.n := colS_len l S
theorem with_held {l : Ln} {c : List Int} (h : c.length = l.n) (k : Int) : (l.with c).isHeld k = l.isHeld k := by
  unfold Ln.isHeld Ln.with Ln.n
  rw [show c.length = l.cells.length from h]
theorem own_col {l : Ln} {S : Nat → Bool} {k : Nat} (h : k < l.n) : own (l.with (colS l S)) k = if S k = true then pre l k else own l k := by
  show at0 (colS l S) k = _
  unfold at0
  rw [atI_nat (v := if S k = true then pre l k else own l k) (by unfold colS; rw [List.getElem?_map, List.getElem?_range h]; rfl)]
  rfl
structure Ind (l : Ln) (S : Nat → Bool) : Prop where
  rdy : ∀ k, k < l.n → S k = true → k ∈ l.ready
  apart : ∀ k, k < l.n → S k = true → S (nxt l.n k) = false
theorem Ind.flank {l : Ln} {S : Nat → Bool} (I : Ind l S) {k : Nat} (h : k < l.n) (hs : S k = true) : own l (prevN l.n k) = own l (nxt l.n k) := ((isReady_iff h).mp (mem_ready.mp (I.rdy k h hs)).2).2.1
theorem ready_turn {l : Ln} {S : Nat → Bool} (I : Ind l S) {k : Nat} : k ∈ (l.with (colS l S)).ready ↔ k ∈ l.ready ∧ S k = false ∧ S (prevN l.n k) = false ∧ S (nxt l.n k) = false := by
  rw [mem_ready, mem_ready, with_n]
  rcases Nat.lt_or_ge k l.n with hk | hk
  case inr => exact ⟨fun h => absurd h.1 (by omega), fun h => absurd h.1.1 (by omega)⟩
  have ha := prevN_lt hk
  have hb := nxt_lt hk
  rw [isReady_iff (l := l.with (colS l S)) (by rw [with_n]; exact hk), isReady_iff hk, with_n, own_col ha, own_col hb, own_col hk, with_held (colS_len l S), pre_eq ha, pre_eq hb, pre_eq hk, prev_nxt hk]
  have na := nxt_prev hk
  have fa : S (prevN l.n k) = true → own l (prevN l.n (prevN l.n k)) = own l k := fun h => by
    have := I.flank ha h
    rwa [na] at this
  have ka : S k = true → S (prevN l.n k) = false := fun h => by
    cases q : S (prevN l.n k) with
    | false => rfl
    | true => have := I.apart _ ha q; rw [na, h] at this; cases this
  have kb : S k = true → S (nxt l.n k) = false := fun h => I.apart k hk h
  have rk : S k = true → k ∈ l.ready := fun h => I.rdy k hk h
  cases hS : S k with
  | true =>
    rw [ka hS, kb hS]
    simp only [Bool.false_eq_true, if_false, if_true]
    constructor
    · rintro ⟨_, _, h1, h2⟩; exact absurd h1.symm h2
    · rintro ⟨_, h, _⟩; cases h
  | false =>
    cases hA : S (prevN l.n k) with
    | true =>
      rw [fa hA]
      simp only [Bool.false_eq_true, if_false, if_true]
      constructor
      · rintro ⟨_, _, h1, h2⟩; exact absurd h1.symm h2
      · rintro ⟨_, _, h, _⟩; cases h
    | false =>
      cases hB : S (nxt l.n k) with
      | true =>
        simp only [Bool.false_eq_true, if_false, if_true]
        constructor
        · rintro ⟨_, _, h1, h2⟩; exact absurd rfl h2
        · rintro ⟨_, _, _, h⟩; cases h
      | false =>
        simp only [Bool.false_eq_true, if_false, and_true]
/-! ### one more cell -/
def cnt (l : Ln) (S : Nat → Bool) : Nat := (List.range l.n).countP S
def addS (S : Nat → Bool) (k : Nat) : Nat → Bool := fun j => S j || decide (j = k)
def dropS (S : Nat → Bool) (k : Nat) : Nat → Bool := fun j => S j && !decide (j = k)
theorem countP_congr' {S T : Nat → Bool} : ∀ {xs : List Nat}, (∀ x ∈ xs, S x = T x) → xs.countP S = xs.countP T
  | [], _ => rfl
  | x :: xs, h => by
    rw [List.countP_cons, List.countP_cons, countP_congr' fun y hy => h y (List.mem_cons_of_mem _ hy), h x (List.mem_cons_self ..)]
theorem countP_add {S : Nat → Bool} {k : Nat} (hk : S k = false) : ∀ {xs : List Nat}, xs.Nodup → k ∈ xs → xs.countP (addS S k) = xs.countP S + 1
  | [], _, h => by cases h
  | x :: xs, hn, h => by
    obtain ⟨h1, h2⟩ := List.nodup_cons.mp  hn
    rw [List.countP_cons, List.countP_cons]
    by_cases e : x = k
    · subst e
      have : xs.countP (addS S x) = xs.countP S := countP_congr' fun y hy => by
        have : ¬ y = x := fun e => h1 (e ▸ hy)
        simp [addS, this]
      rw [this, hk]
      simp [addS]
    · have hm : k ∈ xs := (List.mem_cons.mp h).resolve_left fun q => e q.symm
      rw [countP_add hk h2 hm]
      simp only [addS, e, decide_false, Bool.or_false]
      omega
theorem colS_congr {l : Ln} {S T : Nat → Bool} (h : ∀ k, k < l.n → S k = T k) : colS l S = colS l T := by
  unfold colS
  refine List.map_congr_left fun k hk => ?_
  rw [h k (List.mem_range.mp hk)]
theorem cnt_congr {l : Ln} {S T : Nat → Bool} (h : ∀ k, k < l.n → S k = T k) : cnt l S = cnt l T := countP_congr' fun k hk => h k (List.mem_range.mp hk)
theorem Ind.congr {l : Ln} {S T : Nat → Bool} (h : ∀ k, k < l.n → S k = T k) (I : Ind l S) : Ind l T :=
  ⟨fun k hk ht => I.rdy k hk (by rw [h k hk]; exact ht), fun k hk ht => by rw [← h _ (nxt_lt hk)]; exact I.apart k hk (by rw [h k hk]; exact ht)⟩
theorem turn_col {l : Ln} {S : Nat → Bool} (I : Ind l S) {k : Nat} (h : k ∈ (l.with (colS l S)).ready) : turnI (colS l S) k = colS l (addS S k) ∧ Ind l (addS S k) ∧ cnt l (addS S k) = cnt l S + 1 := by
  obtain ⟨h1, h2, h3, h4⟩ := (ready_turn I).mp h
  have hk := (mem_ready.mp h1).1
  refine ⟨?_, ⟨fun j hj hs => ?_, fun j hj hs => ?_⟩, countP_add h2 List.nodup_range (List.mem_range.mpr hk)⟩
  · have e : at0 (colS l S) ((k : Int) - 1) = pre l k := by
      show pre (l.with (colS l S)) k = _
      rw [pre_eq (l := l.with (colS l S)) (by rw [with_n]; exact hk), with_n, own_col (prevN_lt hk), h3, pre_eq hk]
      simp
    unfold turnI
    rw [e]
    apply List.ext_getElem?
    intro j
    rw [List.getElem?_set]
    unfold colS
    rw [List.getElem?_map, List.getElem?_map, List.length_map, List.length_range]
    by_cases q : k = j
    · subst q
      rw [if_pos rfl, if_pos hk, List.getElem?_range hk]
      simp [addS]
    · rw [if_neg q]
      have : ¬ j = k := fun z => q z.symm
      by_cases hj : j < l.n
      · rw [List.getElem?_range hj]
        simp [addS, this]
      · rw [List.getElem?_eq_none (by simp; omega)]; rfl
  · unfold addS at hs
    rcases Bool.or_eq_true _ _ |>.mp hs with q | q
    · exact I.rdy j hj q
    · rw [of_decide_eq_true q]; exact h1
  · unfold addS at hs ⊢
    rcases Bool.or_eq_true _ _ |>.mp hs with q | q
    · have hn : ¬ nxt l.n j = k := fun e => by
        have : j = prevN l.n k := by rw [← e, prev_nxt hj]
        rw [this, h3] at q; cases q
      rw [I.apart j hj q]; simp [hn]
    · have e := of_decide_eq_true q
      subst e
      have hn : ¬ nxt l.n j = j := fun e => by
        rw [e, h2] at h4
        have := (isReady_iff hk).mp (mem_ready.mp h1).2
        rw [e] at this
        exact this.2.2 rfl
      rw [h4]; simp [hn]
theorem dropS_add {S : Nat → Bool} {k : Nat} (h : S k = true) : addS (dropS S k) k = S := by
  funext j
  unfold addS dropS
  by_cases e : j = k
  · subst e; rw [h]; simp
  · simp [e]
theorem Ind.drop {l : Ln} {S : Nat → Bool} (I : Ind l S) {k : Nat} (hk : k < l.n) (hs : S k = true) : Ind l (dropS S k) ∧ k ∈ (l.with (colS l (dropS S k))).ready := by
  have J : Ind l (dropS S k) := ⟨fun j hj h => I.rdy j hj (by unfold dropS at h; exact (Bool.and_eq_true _ _ ▸ h).1), fun j hj h => by
    unfold dropS at h ⊢
    rw [I.apart j hj (Bool.and_eq_true _ _ ▸ h).1]; rfl⟩
  refine ⟨J, (ready_turn J).mpr ⟨I.rdy k hk hs, by simp [dropS], ?_, ?_⟩⟩
  · cases q : dropS S k (prevN l.n k) with
    | false => rfl
    | true =>
      have h1 : S (prevN l.n k) = true := by unfold dropS at q; exact (Bool.and_eq_true _ _ ▸ q).1
      have := I.apart _ (prevN_lt hk) h1
      rw [nxt_prev hk, hs] at this; cases this
  · unfold dropS
    rw [I.apart k hk hs]; rfl
theorem colS_none (l : Ln) {S : Nat → Bool} (h : ∀ k, k < l.n → S k = false) : colS l S = l.cells := by
  apply List.ext_getElem?
  intro j
  unfold colS
  rw [List.getElem?_map]
  by_cases hj : j < l.n
  · rw [List.getElem?_range hj]
    have hj' : j < l.cells.length := hj
    show some (if S j = true then pre l j else own l j) = _
    rw [h j hj]
    unfold own at0
    rw [atI_nat (List.getElem?_eq_getElem hj')]
    simp [hj']
  · rw [List.getElem?_eq_none (by simp; omega), List.getElem?_eq_none (by unfold Ln.n at hj; omega)]; rfl
theorem lev_iff (l : Ln) : ∀ (t : Nat) (c : List Int), c ∈ (lev l t).map (·.1) ↔ ∃ S, Ind l S ∧ cnt l S = t ∧ c = colS l S
  | 0, c => by
    constructor
    · intro h
      simp only [lev, List.map_cons, List.map_nil, List.mem_singleton] at h
      refine ⟨fun _ => false, ⟨fun k hk h => (by cases h), fun k hk h => (by cases h)⟩, ?_, ?_⟩
      · unfold cnt; rw [List.countP_eq_zero]; intro a _; simp
      · rw [h, colS_none l fun _ _ => rfl]
    · rintro ⟨S, I, h0, rfl⟩
      unfold cnt at h0
      rw [List.countP_eq_zero] at h0
      rw [colS_none l fun k hk => by simpa using h0 k (List.mem_range.mpr hk)]
      simp [lev]
  | t + 1, c => by
    refine (nextD_keys l _ _ _ _).trans ?_
    constructor
    · rintro (h | ⟨c', h', k, hk, rfl⟩)
      · cases h
      · obtain ⟨S, I, h0, rfl⟩ := (lev_iff l t c').mp h'
        obtain ⟨e, J, hc⟩ := turn_col I hk
        exact ⟨addS S k, J, by rw [hc, h0], e⟩
    · rintro ⟨S, I, h0, rfl⟩
      obtain ⟨k, hk, hs⟩ : ∃ k, k ∈ List.range l.n ∧ S k = true := by
        have : 0 < (List.range l.n).countP S := by unfold cnt at h0; omega
        exact List.countP_pos_iff.mp this
      have hk' := List.mem_range.mp hk
      obtain ⟨J, hr⟩ := I.drop hk' hs
      obtain ⟨e, _, hc⟩ := turn_col J hr
      rw [dropS_add hs] at e hc
      exact .inr ⟨colS l (dropS S k), (lev_iff l t _).mpr ⟨_, J, by omega, rfl⟩, k, hr, e.symm⟩
/-! ### how many -/
section
variable {κ : Type} [DecidableEq  κ]
theorem putZ_nd {d : List (κ × Int)} {k : κ} {v : Int} (h : (d.map (·.1)).Nodup) : ((putZ d k v).map (·.1)).Nodup := by
  rw [putZ_keys]
  by_cases q : k ∈ d.map (·.1)
  · rw [if_pos q]; exact h
  · rw [if_neg q]
    refine List.nodup_append.mpr ⟨h, by simp, fun a ha b hb e => ?_⟩
    rw [List.mem_singleton.mp hb] at e
    exact q (e ▸ ha)
end
theorem bump1_nd (l : Ln) (v : Int) (c : List Int) : ∀ (ks : List Nat) (m : List (List Int × Int)), (m.map (·.1)).Nodup → ((bump1 l v c m ks).map (·.1)).Nodup
  | [], m, h => h
  | k :: ks, m, h => bump1_nd l v c ks _ (putZ_nd h)
theorem nextD_nd (l : Ln) (full : List (List Int × Int)) : ∀ (rows m : List (List Int × Int)), (m.map (·.1)).Nodup → ((nextD l full m rows).map (·.1)).Nodup
  | [], m, h => h
  | p :: rows, m, h => nextD_nd l full rows _ (bump1_nd l _ _ _ _ h)
theorem lev_nd (l : Ln) : ∀ t, ((lev l t).map (·.1)).Nodup
  | 0 => by simp [lev]
  | t + 1 => nextD_nd l _ _ _ List.nodup_nil
/-- all ways to choose -/
def picks (l : Ln) : List Nat → List (List Int)
  | [] => [[]]
  | k :: ks => (picks l ks).map (own l k :: ·) ++ (picks l ks).map (pre l k :: ·)
theorem picks_len (l : Ln) : ∀ ks, (picks l ks).length = 2 ^ ks.length
  | [] => rfl
  | k :: ks => by
    rw [picks, List.length_append, List.length_map, List.length_map, picks_len l ks, List.length_cons, Nat.pow_succ]; omega
theorem picks_mem (l : Ln) (S : Nat → Bool) : ∀ ks : List Nat, (ks.map fun k : Nat => if S k = true then pre l k else own l k) ∈ picks l ks
  | [] => by simp [picks]
  | k :: ks => by
    have := picks_mem l S ks
    rw [List.map_cons, picks, List.mem_append]
    cases S k with
    | true => exact .inr (List.mem_map.mpr ⟨_, this, rfl⟩)
    | false => exact .inl (List.mem_map.mpr ⟨_, this, rfl⟩)
theorem lev_few (l : Ln) (t : Nat) : (lev l t).length ≤ 2 ^ l.n := by
  have h := nodup_le (ys := picks l (List.range l.n)) (lev_nd l t) fun c hc => by
    obtain ⟨S, _, _, rfl⟩ := (lev_iff l t c).mp hc
    exact picks_mem l S _
  rw [List.length_map, picks_len, List.length_range] at h
  exact h
theorem cnt_le (l : Ln) (S : Nat → Bool) : cnt l S ≤ l.n := by
  unfold cnt
  have := List.countP_le_length (p := S) (l := List.range l.n)
  simpa using this
theorem lev_none (l : Ln) {t : Nat} (h : l.n < t) : lev l t = [] := by
  cases q : lev l t with
  | nil => rfl
  | cons p r =>
    have : p.1 ∈ (lev l t).map (·.1) := by rw [q]; simp
    obtain ⟨S, _, h0, _⟩ := (lev_iff l t p.1).mp this
    have := cnt_le l S
    omega
theorem lev_stop (l : Ln) {m : Nat} (h : lev l m = []) : ∀ d, lev l (m + d) = []
  | 0 => h
  | d + 1 => by
    have := lev_stop l h d
    show nextD l (lev l (m + d)) [] (lev l (m + d)) = []
    rw [this]; rfl
theorem few_of {l : Ln} (h : l.n ≤ 11) : l.Few := by
  have hp : 2 ^ l.n ≤ 2048 := Nat.le_trans (Nat.pow_le_pow_right (by decide) h) (by decide)
  have key : ∀ m, (levKs l m).length ≤ min m (l.n + 1) * 2048 := by
    intro m
    induction m with
    | zero => simp [levKs]
    | succ m ih =>
      rw [levKs_succ, List.length_append, List.length_map]
      have h1 := lev_few l m
      by_cases q : m ≤ l.n
      · rw [Nat.min_eq_left (by omega)] at ih ⊢
        omega
      · rw [lev_none l (by omega), List.length_nil]
        rw [Nat.min_eq_right (by omega)] at ih ⊢
        omega
  exact ⟨fun m => by
    have := key m
    have h2 : min m (l.n + 1) ≤ 12 := by omega
    have h3 : min m (l.n + 1) * 2048 ≤ 12 * 2048 := Nat.mul_le_mul_right _ h2
    omega⟩
theorem exists_lv {l : Ln} : ∃ m, Lv l m := by
  have step : ∀ j, j ≤ l.n + 1 → (∃ m, Lv l m) ∨ ∀ t, t < j → lev l t ≠ [] := by
    intro j
    induction j with
    | zero => intro _; exact .inr fun t h => by omega
    | succ j ih =>
      intro hj
      rcases ih (by omega) with h | h
      · exact .inl h
      · by_cases e : lev l j = []
        · by_cases h0 : j = 0
          · subst h0; cases e
          · exact .inl ⟨j, by omega, by omega, h, .inr e⟩
        · refine .inr fun t ht => ?_
          by_cases q : t = j
          · rw [q]; exact e
          · exact h t (by omega)
  rcases step (l.n + 1) (Nat.le_refl _) with h | h
  · exact h
  · exact ⟨l.n + 1, by omega, Nat.le_refl _, h, .inl rfl⟩
/-- a reachable set's number of turns is a level -/
theorem Lv.in {l : Ln} {m : Nat} (h : Lv l m) {S : Nat → Bool} (I : Ind l S) : cnt l S < m := by
  apply Classical.byContradiction
  intro hc
  rcases h.fin with e | e
  · have := cnt_le l S; omega
  · have hs := lev_stop l e (cnt l S - m)
    rw [show m + (cnt l S - m) = cnt l S by omega] at hs
    have : colS l S ∈ (lev l (cnt l S)).map (·.1) := (lev_iff l _ _).mpr ⟨S, I, rfl, rfl⟩
    rw [hs] at this; cases this
theorem levKs_iff {l : Ln} {m : Nat} (h : Lv l m) {c : List Int} : c ∈ levKs l m ↔ ∃ S, Ind l S ∧ c = colS l S := by
  unfold levKs
  rw [List.mem_flatMap]
  constructor
  · rintro ⟨t, _, hc⟩
    obtain ⟨S, I, _, e⟩ := (lev_iff l t c).mp hc
    exact ⟨S, I, e⟩
  · rintro ⟨S, I, rfl⟩
    exact ⟨cnt l S, List.mem_range.mpr (h.in I), (lev_iff l _ _).mpr ⟨S, I, rfl, rfl⟩⟩
/-! ### the ends -/
section
variable {κ : Type} [DecidableEq  κ]
theorem putD_keys (d : List (κ × D)) (k : κ) (v : D) : (putD d k v).map (·.1) = if k ∈ d.map (·.1) then d.map (·.1) else d.map (·.1) ++ [k] := by
  unfold putD
  by_cases h : (d.any fun p => decide (p.1 = k)) = true
  · have hm : k ∈ d.map (·.1) := by
      obtain ⟨p, hp, e⟩ := List.any_eq_true.mp h
      exact List.mem_map.mpr ⟨p, hp, of_decide_eq_true  e⟩
    rw [if_pos h, if_pos hm, List.map_map]
    refine List.map_congr_left fun p _ =>  ?_
    show (if p.1 = k then (p.1, v) else p).1 = p.1
    by_cases q : p.1 = k
    · rw [if_pos q]
    · rw [if_neg q]
  · have hm : ¬ k ∈ d.map (·.1) := fun hm => h (by
      obtain ⟨p, hp, e⟩ := List.mem_map.mp  hm
      exact List.any_eq_true.mpr ⟨p, hp, decide_eq_true e⟩)
    rw [if_neg h, if_neg hm, List.map_append]; rfl
end
theorem endsF_keys (l : Ln) : ∀ (cs : List (List Int)) (acc : List (List Int × D)), (acc.map (·.1)).Nodup → ((endsF l acc cs).map (·.1)).Nodup ∧ ∀ x, x ∈ (endsF l acc cs).map (·.1) ↔ x ∈ acc.map (·.1) ∨ (x ∈ cs ∧ (l.with x).ready = [])
  | [], acc, h => ⟨h, fun x => by simp [endsF]⟩
  | c :: cs, acc, h => by
    have hs : endsF l acc (c :: cs) = endsF l (if (l.with c).ready.isEmpty = true then putD acc c (lN (diffN l c)) else acc) cs := rfl
    by_cases e : (l.with c).ready.isEmpty = true
    · rw [hs, if_pos e]
      have hn : ((putD acc c (lN (diffN l c))).map (·.1)).Nodup := by
        rw [putD_keys]
        by_cases q : c ∈ acc.map (·.1)
        · rw [if_pos q]; exact h
        · rw [if_neg q]
          refine List.nodup_append.mpr ⟨h, by simp, fun a ha b hb e => ?_⟩
          rw [List.mem_singleton.mp hb] at e
          exact q (e ▸ ha)
      obtain ⟨i1, i2⟩ := endsF_keys l cs _ hn
      refine ⟨i1, fun x => ?_⟩
      rw [i2, putD_keys]
      have e' : (l.with c).ready = [] := by simpa using e
      constructor
      · rintro (q | ⟨q1, q2⟩)
        · by_cases z : c ∈ acc.map (·.1)
          · rw [if_pos z] at q; exact .inl q
          · rw [if_neg z, List.mem_append, List.mem_singleton] at q
            rcases q with q | q
            · exact .inl q
            · subst q; exact .inr ⟨by simp, e'⟩
        · exact .inr ⟨List.mem_cons_of_mem _ q1, q2⟩
      · rintro (q | ⟨q1, q2⟩)
        · left
          by_cases z : c ∈ acc.map (·.1)
          · rw [if_pos z]; exact q
          · rw [if_neg z]; exact List.mem_append_left _ q
        · rcases List.mem_cons.mp q1 with rfl | q1
          · left
            by_cases z : x ∈ acc.map (·.1)
            · rw [if_pos z]; exact z
            · rw [if_neg z]; simp
          · exact .inr ⟨q1, q2⟩
    · rw [hs, if_neg e]
      obtain ⟨i1, i2⟩ := endsF_keys l cs _ h
      refine ⟨i1, fun x => ?_⟩
      rw [i2]
      constructor
      · rintro (q | ⟨q1, q2⟩)
        · exact .inl q
        · exact .inr ⟨List.mem_cons_of_mem _ q1, q2⟩
      · rintro (q | ⟨q1, q2⟩)
        · exact .inl q
        · rcases List.mem_cons.mp q1 with rfl | q1
          · rw [q2] at e; exact absurd rfl e
          · exact .inr ⟨q1, q2⟩
/-- none can be added -/
def Full (l : Ln) (S : Nat → Bool) : Prop := ∀ k ∈ l.ready, S k = true ∨ S (prevN l.n k) = true ∨ S (nxt l.n k) = true
theorem full_iff {l : Ln} {S : Nat → Bool} (I : Ind l S) : (l.with (colS l S)).ready = [] ↔ Full l S := by
  constructor
  · intro h k hk
    cases h1 : S k with
    | true => exact .inl rfl
    | false =>
      cases h2 : S (prevN l.n k) with
      | true => exact .inr (.inl rfl)
      | false =>
        cases h3 : S (nxt l.n k) with
        | true => exact .inr (.inr rfl)
        | false =>
          have := (ready_turn I).mpr ⟨hk, h1, h2, h3⟩
          rw [h] at this; cases this
  · intro h
    cases q : (l.with (colS l S)).ready with
    | nil => rfl
    | cons k r =>
      have hm : k ∈ (l.with (colS l S)).ready := by rw [q]; simp
      obtain ⟨h1, h2, h3, h4⟩ := (ready_turn I).mp hm
      rcases h k h1 with z | z | z
      · rw [h2] at z; cases z
      · rw [h3] at z; cases z
      · rw [h4] at z; cases z
/-- the wished colours -/
def FitS (l : Ln) (w : List (Option Int)) (S : Nat → Bool) : Prop := ∀ k, k < l.n → (if S k = true then suit1 l w k else suit0 l w k) = true
theorem fits_iff {l : Ln} {w : List (Option Int)} (hw : w.length = l.n) (S : Nat → Bool) : fitsB (colS l S) w = true ↔ FitS l w S := by
  unfold fitsB
  rw [List.isEmpty_iff, List.filter_eq_nil_iff, hw]
  refine forall_congr' fun k => ?_
  rw [List.mem_range]
  refine imp_congr_right fun hk => ?_
  have e : at0 (colS l S) k = if S k = true then pre l k else own l k := own_col (S := S) hk
  rw [e]
  unfold suit0 suit1 pre own
  cases S k with
  | true => simp; cases w[k]?.getD none <;> simp [eq_comm]
  | false => simp; cases w[k]?.getD none <;> simp [eq_comm]
/-- the wished ends -/
theorem mem_lasts {l : Ln} {m : Nat} {w : List (Option Int)} (h : Lv l m) (hw : w.length = l.n) {c : List Int} : c ∈ ((endsF l [] (levKs l m)).map (·.1)).filter (fitsB · w) ↔ ∃ S, Ind l S ∧ Full l S ∧ FitS l w S ∧ c = colS l S := by
  rw [List.mem_filter, (endsF_keys l (levKs l m) [] List.nodup_nil).2]
  constructor
  · rintro ⟨q | ⟨q1, q2⟩, q3⟩
    · cases q
    · obtain ⟨S, I, rfl⟩ := (levKs_iff h).mp q1
      exact ⟨S, I, (full_iff I).mp q2, (fits_iff hw S).mp q3, rfl⟩
  · rintro ⟨S, I, hf, ht, rfl⟩
    exact ⟨.inr ⟨(levKs_iff h).mpr ⟨S, I, rfl⟩, (full_iff I).mpr hf⟩, (fits_iff hw S).mpr ht⟩
end FT
/-! text LK11 -/
/-! LK11: zip(a list, a tuple) as an iterable. -/
namespace DL
open PySem PySem.Spec L2 PySem.W
open PyProof.Rows hiding St
/-- a list's iterator behind the end -/
theorem drawn_outL {prog : Program} {w : World} {A : Around} (hh : A.handled = none) {it a : Addr} (ne : a ≠ it) {items : Array Value} {i : Nat} (hi : items[i]? = none) : Draws prog w A it [it, a] i (fun _ _ => False) (fun j h => j = i ∧ h.IsListIter it a i ∧ h.IsList a items) where
  live _ _ st := let ⟨o, ho, _⟩ := st.2.1; ⟨o, ho⟩
  frame _ _ _ st k := ⟨st.1, st.2.1.at fun o e => k it (by simp) o e, st.2.2.at fun o e => k a (by simp) o e⟩
  item j s Q E lt st _ := absurd st.1 (Nat.ne_of_lt lt)
  done s Q E st k := wpAny_nextOf_list_end hh st.2.1 st.2.2 hi k
theorem drawAtT {prog : Program} {w : World} {A : Around} (hh : A.handled = none) {it a : Addr} (ne : a ≠ it) (items : Array Value) (i : Nat) : ∃ (n : Nat) (P : Nat → Value → Prop) (S : Nat → Heap → Prop), Draws prog w A it [it, a] n P S ∧ i ≤ n ∧ (items.size ≤ i → i = n) ∧ ∀ h : Heap, h.IsTupleIter it a i → h.IsTuple a items → S i h := by
  by_cases q : i < items.size
  · exact ⟨_, _, _, Draws.tuple hh it a ne items, Nat.le_of_lt q, fun z => absurd z (Nat.not_le_of_lt q), fun h x y => ⟨x, y⟩⟩
  · exact ⟨i, _, _, drawn_out hh ne (items := items) (i := i) (by simp; omega), Nat.le_refl i, fun _ => rfl, fun h x y => ⟨rfl, x, y⟩⟩
theorem drawAtL {prog : Program} {w : World} {A : Around} (hh : A.handled = none) {it a : Addr} (ne : a ≠ it) (items : Array Value) (i : Nat) : ∃ (n : Nat) (P : Nat → Value → Prop) (S : Nat → Heap → Prop), Draws prog w A it [it, a] n P S ∧ i ≤ n ∧ (items.size ≤ i → i = n) ∧ ∀ h : Heap, h.IsListIter it a i → h.IsList a items → S i h := by
  by_cases q : i < items.size
  · exact ⟨_, _, _, Draws.list hh it a ne items, Nat.le_of_lt q, fun z => absurd z (Nat.not_le_of_lt q), fun h x y => ⟨x, y⟩⟩
  · exact ⟨i, _, _, drawn_outL hh ne (items := items) (i := i) (by simp; omega), Nat.le_refl i, fun _ => rfl, fun h x y => ⟨rfl, x, y⟩⟩
/-- one list and one tuple, apart from the zip over them -/
theorem sep_of {z TI TO i1 i2 a b : Addr} (D : ZipApart z TI TO i1 i2 a b) : ZipSep2 z TI TO i1 i2 [i1, a] [i2, b] where
  TIz := D.TIz
  TOz := D.TOz
  TITO := D.TITO
  TIi1 := D.TIi1
  mem1 := List.mem_cons_self ..
  zf1 := by simp [D.i1z.symm, D.l1z.symm]
  Tf1 := by simp [D.TOi1, D.l1TO.symm]
  TIi2 := D.TIi2
  mem2 := List.mem_cons_self ..
  zf2 := by simp [D.i2z.symm, D.l2z.symm]
  Tf2 := by simp [D.TOi2, D.l2TO.symm]
  sep1_2 := by simp [D.i12, D.l2i1.symm]
  sep2_1 := by simp [D.i12.symm, D.l1i2.symm]
/-- the list at a beside the tuple at b -/
def ItzM (K : PySem.W.Frag) (a b : Addr) : It where
  go i H := ∃ xs ys x y, SqL K H a xs ∧ SqT K H b ys ∧ xs[i]? = some x ∧ ys[i]? = some y
  yld i H v H' := ∃ T x y, v = V.ref T ∧ H T = none ∧ H' = upd H T (.tup [x, y]) ∧ (∀ xs, SqL K H a xs → xs[i]? = some x) ∧ ∀ ys, SqT K H b ys → ys[i]? = some y
  stop i H := ∃ xs ys, SqL K H a xs ∧ SqT K H b ys ∧ (xs.length ≤ i ∨ ys.length ≤ i)
theorem turn_zipM {P : Program} {w : World} {K : PySem.W.Frag} {elts : List Expr} {kk : Nat} {tpos : Pos} {a b z TI TO i1 i2 : Addr} (D : ZipApart z TI TO i1 i2 a b) :
    Turn P w K (.Tuple elts kk tpos) (ItzM K a b) [z, TI, TO, i1, i2] z (fun i h => IsZip h z TI TO .none ∧ IsTupOf2 h TI (.ref i1) (.ref i2) ∧ (∃ x y, IsTupOf2 h TO x y) ∧ h.IsListIter i1 a i ∧ h.IsTupleIter i2 b i) where
  mem := List.mem_cons_self ..
  obj i h st c hc := by
    obtain ⟨s1, s2, ⟨x, y, s3⟩, ⟨o4, e4, _, d4⟩, ⟨o5, e5, _, d5⟩⟩ := st
    simp only [List.mem_cons, List.not_mem_nil, or_false] at hc
    rcases hc with q | q | q | q | q <;> subst q
    · exact ⟨_, s1, fun v q => nomatch q⟩
    · exact ⟨_, s2, fun v q => nomatch q⟩
    · exact ⟨_, s3, fun v q => nomatch q⟩
    · exact ⟨o4, e4, fun v q => by rw [d4] at q; cases q⟩
    · exact ⟨o5, e5, fun v q => by rw [d5] at q; cases q⟩
  keep i h h' st k := by
    obtain ⟨s1, s2, ⟨x, y, s3⟩, s4, s5⟩ := st
    exact ⟨k z (by simp) _ s1, k TI (by simp) _ s2, ⟨x, y, k TO (by simp) _ s3⟩, s4.at fun o q => k i1 (by simp) o q, s5.at fun o q => k i2 (by simp) o q⟩
  item := by
    intro X hP hw hK hc i pins s σ H E I hf st ⟨xs, ys, x, y, hqx, hqy, hx, hy⟩
    subst hP hw hK
    obtain ⟨s1, s2, ⟨x0, y0, s3⟩, s4, s5⟩ := st
    obtain ⟨its, rv, p, _⟩ := I.list  hqx
    obtain ⟨its2, rv2, p2, _⟩ := I.tuple  hqy
    obtain ⟨u, hu, ru⟩ := rv.get  hx
    obtain ⟨u2, hu2, ru2⟩ := rv2.get  hy
    have le := Heap.lt_size s1
    have D1 := Draws.list (prog := X.prog) (w := X.w) (A := X.A.in1) (I.ok.hd hc) i1 a D.l1i1 its.toArray
    have D2 := Draws.tuple (prog := X.prog) (w := X.w) (A := X.A.in1) (I.ok.hd hc) i2 b D.l2i2 its2.toArray
    have lt1 : i < its.toArray.size := by
      have := (List.getElem?_eq_some_iff.mp hu).1
      simpa using this
    have lt2 : i < its2.toArray.size := by
      have := (List.getElem?_eq_some_iff.mp hu2).1
      simpa using this
    refine wpAny_pyNext_zipD2_item (sep_of D) D1 D2 s1 s2 s3 ⟨s4, p.isList⟩ ⟨s5, p2⟩ lt1 lt2 fun y1 y2 h' tk g1 g2 out t3 st4 st5 hT hsz hk => ⟨_, rfl, ?_⟩
    have ey1 : y1 = u := Option.some.inj (g1.symm.trans (by simpa using hu))
    have ey2 : y2 = u2 := Option.some.inj (g2.symm.trans (by simpa using hu2))
    subst ey1 ey2
    refine wpAny_letOwnedTupleGo_zip (s := { s with heap := h', toks := tk }) out fun h2 out2 sb => ?_
    have new2 := (sb.2 _ (Nat.ne_of_gt le)).trans hT
    have ok2 : ObjOk X.prog X.w (upd H s.heap.objs.size (.tup [x, y])) h2 s.heap.objs.size (.tup [x, y]) := ⟨by show 2 ≤ sizeLine; decide, [y1, y2], .cons ru (.cons ru2 .nil), _, new2, rfl, _, rfl⟩
    have I2 : Inv X pins σ (upd H s.heap.objs.size (.tup [x, y])) { s with heap := h2, toks := tk } := I.turnedNew (ch := [z, TI, TO, i1, i2]) (fun c ob nb q => (sb.2 c fun e => nb (by simp [e])).trans (hk c ob (fun e => nb (by simp [e])) (fun e => nb (by simp [e])) (fun e => nb (by simp [e])) (fun e => nb (by simp [e])) q)) hf (Nat.le_refl _) ok2
    refine ⟨.ref s.heap.objs.size, _, I2, rfl, ⟨_, x, y, rfl, I.hok.fresh (Nat.le_refl _), rfl, fun l hl => by rw [I.list_inj hl hqx]; exact hx, fun l hl => by rw [I.tuple_inj hl hqy]; exact hy⟩, ⟨out2, (sb.2 _ D.TIz).trans (hk _ _ D.TIz D.TITO D.TIi1 D.TIi2 s2), ⟨y1, y2, (sb.2 _ D.TOz).trans t3⟩, st4.1.at fun o q => (sb.2 _ D.i1z).trans q, st5.1.at fun o q => (sb.2 _ D.i2z).trans q⟩, fun c hcm => ?_⟩
    have lc : c < s.heap.objs.size := by
      simp only [List.mem_cons, List.not_mem_nil, or_false] at hcm
      rcases hcm with q | q | q | q | q <;> subst q
      · exact le
      · exact Heap.lt_size s2
      · exact Heap.lt_size s3
      · exact let ⟨_, e, _⟩ := s4; Heap.lt_size e
      · exact let ⟨_, e, _⟩ := s5; Heap.lt_size e
    rw [upd_ne (Nat.ne_of_lt lc)]
    exact (hf c hcm).1
  done := by
    intro X hP hw hK hc i pins s σ H E I hf st ⟨xs, ys, hqx, hqy, over⟩
    subst hP hw hK
    obtain ⟨s1, s2, ⟨x0, y0, s3⟩, s4, s5⟩ := st
    obtain ⟨its, rv, p, _⟩ := I.list  hqx
    obtain ⟨its2, rv2, p2, _⟩ := I.tuple  hqy
    have l1 := rv.length
    have l2 := rv2.length
    obtain ⟨n1, P1, S1, D1, le1, end1, st1⟩ := drawAtL (prog := X.prog) (w := X.w) (A := X.A.in1) (I.ok.hd hc) D.l1i1 its.toArray i
    obtain ⟨n2, P2, S2, D2, le2, end2, st2⟩ := drawAtT (prog := X.prog) (w := X.w) (A := X.A.in1) (I.ok.hd hc) D.l2i2 its2.toArray i
    have he : i = n1 ∨ i = n2 := by
      rcases over with q | q
      · exact .inl (end1 (by simp; omega))
      · exact .inr (end2 (by simp; omega))
    exact wpAny_pyNext_zipD2_end (sep_of D) D1 D2 s1 s2 s3 (st1 _ s4 p.isList) (st2 _ s5 p2) le1 le2 he fun h' tk hk => ⟨rfl, I.turnedL (t' := tk) (ch := [z, TI, TO, i1, i2]) (fun c o nb q => hk c o (fun e => nb (by simp [e])) (fun e => nb (by simp [e])) (fun e => nb (by simp [e])) (fun e => nb (by simp [e])) q) hf⟩
  self A i s Q E st h := wpAny_pyIter_zip st.1 h
def iZipM (K : PySem.W.Frag) (ta : TA) : TI := fun σ H R => ta σ H fun vs H1 => ∃ a b xs ys, vs = [V.ref a, V.ref b] ∧ SqL K H1 a xs ∧ SqT K H1 b ys ∧ R (ItzM K a b) H1
/-- zip(..) of one list and one tuple: what stands after the call -/
theorem zipM_call {prog : Program} {w : World} {A : Around} {E : Value → Shared → Prop} {s : Shared} {a b : Addr} {xs ys : Array Value} {Q : Value → Shared → Prop} (p1 : s.heap.IsList a xs) (p2 : s.heap.IsTuple b ys)
    (k : ∀ h', IsZip h' (s.heap.objs.size + 4) (s.heap.objs.size + 2) (s.heap.objs.size + 3) .none → IsTupOf2 h' (s.heap.objs.size + 2) (.ref s.heap.objs.size) (.ref (s.heap.objs.size + 1)) → IsTupOf2 h' (s.heap.objs.size + 3) .none .none → h'.IsListIter s.heap.objs.size a 0 → h'.IsTupleIter (s.heap.objs.size + 1) b 0 → (∀ c o, s.heap.get? c = some o → h'.get? c = some o) → Q (.ref (s.heap.objs.size + 4)) { s with heap := h' }) : wpAny (model prog w) A (call (.type "zip") [.ref a, .ref b]) Q E s :=
  zip_begins2 (begins_list a xs) (begins_tuple b ys) p1 p2 fun h' hz hTI hTO h1 h2 _ hk => k h' hz hTI hTO ⟨_, h1, rfl, rfl⟩ ⟨_, h2, rfl, rfl⟩ hk
theorem pi_zipM {X : Cx} {e e2 : Expr} {ta : TA} {p pos tpos : Pos} {elts : List Expr} {kk : Nat} (hg : Gl X "zip") (hm : X.mg "zip" = none) (ha : PA X [e, e2] ta) (hs : starEach [e, e2] X.env = (false, eval e X.env) :: starEach [e2] X.env) (hpl : (backTo pos (starEach [e2] X.env)).any (·.1) = false) : PI X (.Tuple elts kk tpos) (.Call (.Name "zip" p) [e, e2] [] pos) (iZipM X.K ta) where
  run pins s σ H R I h := by
    have args := ha.run pos pins s σ H _ I h
    refine Call_ (ld_blt I hg hm PyProof.Rows.boot_zip (PyProof.Rows.callWith_type1 (wpAny_mono args (fun us s1 hu => ?_) fun _ _ z => z) hs hpl))
    obtain ⟨vs, H1, I1, r1, a, b, xs, ys, rfl, hqx, hqy, q⟩ := hu
    obtain ⟨its, rv, p1, _⟩ := I1.list  hqx
    obtain ⟨its2, rv2, p2, _⟩ := I1.tuple  hqy
    have la := p1.lt
    have lb : b < s1.heap.objs.size :=  p2.lt
    cases r1 with
    | cons r r' =>
      cases r' with
      | cons r2 r3 =>
        cases r3
        cases r
        cases r2
        refine zipM_call p1.isList p2 fun h' hz hTI hTO h1 h2 hk => wpAny_pyIter_zip hz ?_
        refine ⟨s1.heap.objs.size + 4, [s1.heap.objs.size + 4, s1.heap.objs.size + 2, s1.heap.objs.size + 3, s1.heap.objs.size, s1.heap.objs.size + 1], _, _, H1, rfl, I1.kept (t' := s1.toks) hk, turn_zipM (PySem.W.ktu_apart s1.heap.objs.size a b la lb), ⟨hz, hTI, ⟨_, _, hTO⟩, h1, h2⟩, fun c hcm => ?_, q⟩
        have lc : s1.heap.objs.size ≤ c := by
          simp only [List.mem_cons, List.not_mem_nil, or_false] at hcm
          rcases hcm with q | q | q | q | q <;> rw [q]
          · exact Nat.le_add_right _ _
          · exact Nat.le_add_right _ _
          · exact Nat.le_add_right _ _
          · exact Nat.le_refl _
          · exact Nat.le_add_right _ _
        exact I1.fpOk lc (I1.hok.fresh lc)
section
variable {C : Cfg} {ρ : DEnv} {e a b : Expr} {pos pp tpos : Pos} {ds es : List D}
theorem ei_zipLT {elts : List Expr} {kk : Nat} (ha : EvD C a ρ (.lst ds)) (hb : EvD C b ρ (.tup es)) (hm : C.mg "zip" = none) (hg : GlC C "zip" := by rfl) (hs : ∀ env, starEach [a, b] env = (false, eval a env) :: starEach [b] env := by intro _; rfl) (hs2 : ∀ env, starEach [b] env = (false, eval b env) :: starEach [] env := by intro _; rfl)
    (hpl : ∀ env, (backTo pos (starEach [b] env)).any (·.1) = false := by intro _; rfl) : EvI C (.Tuple elts kk tpos) (.Call (.Name "zip" pp) [a, b] [] pos) ρ (zipD ds es) := fun X hX B Z Y σ H R Rr hR => by
  refine WI.of (pi_zipM (hX.gl hg) (by rw [← hX.mg]; exact hm) pa_wa (hs _) (hpl _)) ((ea_cons ha (ea_cons hb ea_nil hs2) hs) X hX B Z Y σ H R _ fun vs d H1 hd x1 dv => ?_)
  subst hd
  cases dv with
  | cons k1 k2 =>
    cases k2 with
    | cons k2 k3 =>
      cases k3
      cases k1 with
      | @lst p vs _ e1 dvs =>
        cases k2 with
        | @tup q ws _ e2 dws =>
          refine ⟨p, q, vs, ws, rfl, hid_sq e1, hid_st e2, hR _ H1 x1 ⟨fun i d Y' H' hi y hs => ?_, fun i Y' H' hi y hs => ?_⟩⟩
          · obtain ⟨dx, dy, h1, h2, rfl⟩ := zipD_get ds es i d hi
            obtain ⟨v, g1, g2⟩ := (dvs.mono hs).get h1
            obtain ⟨w, g3, g4⟩ := (dws.mono hs).get h2
            refine ⟨⟨vs, ws, v, w, hid_sq (hs _ _ e1), hid_st (hs _ _ e2), g1, g3⟩, fun x H'' ⟨T, x0, y0, ex, nT, eH, f1, f2⟩ => ?_⟩
            subst ex eH
            rw [f1 vs (hid_sq (hs _ _ e1))] at g1
            rw [f2 ws (hid_st (hs _ _ e2))] at g3
            cases g1; cases g3
            exact ⟨Ext.new nT, y.newTup nT (.cons g2 (.cons g4 .nil))⟩
          · rw [zipD_len] at hi
            exact ⟨vs, ws, hid_sq (hs _ _ e1), hid_st (hs _ _ e2), by rw [dvs.length, dws.length]; omega⟩
end
end DL
/-! text LK12 -/
/-! LK12: dict(zip(a list, a tuple)). -/
namespace DL
open PySem PySem.Spec L2 PySem.W
open PyProof.Rows hiding St
section
variable {prog : Program} {w : World} {A : Around} {E : Value → Shared → Prop} {s : Shared} {z TI TO i1 i2 T : Addr} {fp1 fp2 : List Addr} {n1 n2 i : Nat} {P1 P2 : Nat → Value → Prop} {S1 S2 : Nat → Heap → Prop} {f : Bool} {oT : Obj}
/-- zip's next while its last pair is still in use, over any two iterators -/
theorem zipHeld_item {Q : Value → Shared → Prop} (S : ZipSep2 z TI TO i1 i2 fp1 fp2) (D1 : Draws prog w A i1 fp1 n1 P1 S1) (D2 : Draws prog w A i2 fp2 n2 P2 S2) (zz : IsZipHeld s.heap z TI TO T f) (tt : s.heap.get? T = some oT) (ti : IsTupOf2 s.heap TI (.ref i1) (.ref i2)) (st1 : S1 i s.heap) (st2 : S2 i s.heap) (lt1 : i < n1) (lt2 : i < n2)
    (k : ∀ x1 x2 h' tk, P1 i x1 → P2 i x2 → IsZipHeld h' z TI TO T true → S1 (i + 1) h' → S2 (i + 1) h' → IsTupOf2 h' s.heap.objs.size x1 x2 → (∀ c o, c ≠ z → c ≠ i1 → c ≠ i2 → s.heap.get? c = some o → h'.get? c = some o) → Q (.ref s.heap.objs.size) { s with heap := h', toks := tk }) : wpAny (model prog w) A (Builtin.«zip.__next__» ⟨[.ref z], []⟩) (fun fin s' => ∃ v, fin = .done (.ret v) ∧ Q v s') E s := by
  obtain ⟨hp, gn, dn, tk0, sy⟩ := s
  show wpAny _ _ (field (.ref z) 2 >>= _) _ _ ⟨hp, gn, dn, tk0, sy⟩; refine wpAny_bind (wpAny_field zz rfl (x := .bool false) rfl ?_)
  show wpAny _ _ (field (.ref z) 3 >>= _) _ _ ⟨hp, gn, dn, tk0, sy⟩; refine wpAny_bind (wpAny_field zz rfl (x := .ref TI) rfl ?_)
  refine wpAny_bind (wpAny_seqItems ti rfl ?_); show wpAny _ _ (Builtin.SmallTypes.ownedTupleIsFree (.ref z) >>= _) _ _ ⟨hp, gn, dn, tk0, sy⟩
  refine wpAny_bind (wpAny_tupleHeld_zip zz tt fun g0 z0 b0 => ?_); simp only [Bool.false_eq_true, if_false]
  replace b0 : Heap.SameBut z hp g0 := b0
  refine wpAny_bind ?_; rw [← Array.forIn_toList]; simp only [List.forIn_cons, List.forIn_nil]
  refine wpAny_bind (wpAny_bind (wpAny_holding ?_)); show wpAny _ _ (Builtin.SmallTypes.nextOf (.ref i1) >>= _) _ _ ⟨g0, gn, dn, tk0, sy⟩
  refine wpAny_bind (D1.item i _ _ _ lt1 (D1.over st1 b0 S.zf1) fun x1 p1 tk1 r1 sn1 e1 => wpAny_pure ?_); refine wpAny_pure ?_
  replace e1 : Heap.SameBut i1 g0 p1 := e1
  refine wpAny_bind (wpAny_bind (wpAny_holding ?_)); show wpAny _ _ (Builtin.SmallTypes.nextOf (.ref i2) >>= _) _ _ ⟨p1, gn, dn, tk1, sy⟩
  refine wpAny_bind (D2.item i _ _ _ lt2 (D2.over (D2.over st2 b0 S.zf2) e1 S.sep1_2) fun x2 p2 tk2 r2 sn2 e2 => wpAny_pure ?_)
  replace e2 : Heap.SameBut i2 p1 p2 := e2
  refine wpAny_pure (wpAny_pure ?_); show wpAny _ _ (newTuple [x1, x2] >>= _) _ _ ⟨p2, gn, dn, tk2, sy⟩; refine wpAny_bind (wpAny_newTuple ?_)
  have size : p2.objs.size = hp.objs.size := by rw [e2.1, e1.1, b0.1]
  have zn : IsZipHeld p2 z TI TO T true := e2.extBut _ _ S.zi2 (e1.extBut _ _ S.zi1 z0)
  have old : ∀ c o, c ≠ z → c ≠ i1 → c ≠ i2 → hp.get? c = some o → p2.get? c = some o := fun c o c1 c2 c3 e => e2.extBut _ _ c3 (e1.extBut _ _ c2 (b0.extBut _ _ c1 e))
  have nd1 : S1 (i + 1) p2 := D1.over sn1 e2 S.sep2_1
  refine wpAny_pure ⟨_, rfl, ?_⟩; show Q (.ref p2.objs.size) ⟨p2.push { cls := .type "tuple", data := .seq #[x1, x2] }, gn, dn, tk2, sy⟩
  have pr : IsTupOf2 (p2.push { cls := .type "tuple", data := .seq #[x1, x2] }) p2.objs.size x1 x2 := Heap.get?_push_size _ rfl
  rw [size] at pr ⊢
  exact k x1 x2 _ tk2 r1 r2 (Heap.get?_push_of_some _ zn) (D1.frame _ _ _ nd1 fun b _ o e => Heap.get?_push_of_some _ e) (D2.frame _ _ _ sn2 fun b _ o e => Heap.get?_push_of_some _ e) pr fun c o c1 c2 c3 e => Heap.get?_push_of_some _ (old c o c1 c2 c3 e)
theorem zipHeld_end {Q : Fin → Shared → Prop} (S : ZipSep2 z TI TO i1 i2 fp1 fp2) (D1 : Draws prog w A i1 fp1 n1 P1 S1) (D2 : Draws prog w A i2 fp2 n2 P2 S2) (zz : IsZipHeld s.heap z TI TO T f) (tt : s.heap.get? T = some oT) (ti : IsTupOf2 s.heap TI (.ref i1) (.ref i2)) (st1 : S1 i s.heap) (st2 : S2 i s.heap) (le1 : i ≤ n1) (le2 : i ≤ n2) (over : i = n1 ∨ i = n2)
    (k : ∀ h' tk e, (∀ c o, c ≠ z → c ≠ i1 → c ≠ i2 → s.heap.get? c = some o → h'.get? c = some o) → (∃ o, h'.get? e = some o ∧ o.cls = .type "StopIteration") → E (.ref e) { s with heap := h', toks := tk }) : wpAny (model prog w) A (Builtin.«zip.__next__» ⟨[.ref z], []⟩) Q E s := by
  obtain ⟨hp, gn, dn, tk0, sy⟩ := s
  show wpAny _ _ (field (.ref z) 2 >>= _) _ _ ⟨hp, gn, dn, tk0, sy⟩; refine wpAny_bind (wpAny_field zz rfl (x := .bool false) rfl ?_)
  show wpAny _ _ (field (.ref z) 3 >>= _) _ _ ⟨hp, gn, dn, tk0, sy⟩; refine wpAny_bind (wpAny_field zz rfl (x := .ref TI) rfl ?_)
  refine wpAny_bind (wpAny_seqItems ti rfl ?_); show wpAny _ _ (Builtin.SmallTypes.ownedTupleIsFree (.ref z) >>= _) _ _ ⟨hp, gn, dn, tk0, sy⟩
  refine wpAny_bind (wpAny_tupleHeld_zip zz tt fun g0 z0 b0 => ?_); simp only [Bool.false_eq_true, if_false]
  replace b0 : Heap.SameBut z hp g0 := b0
  refine wpAny_bind ?_; rw [← Array.forIn_toList]; simp only [List.forIn_cons, List.forIn_nil]
  refine wpAny_bind (wpAny_bind (wpAny_holding ?_)); show wpAny _ _ (Builtin.SmallTypes.nextOf (.ref i1) >>= _) _ _ ⟨g0, gn, dn, tk0, sy⟩
  by_cases lt1 : i < n1
  · have at2 : i = n2 := by omega
    refine wpAny_bind (D1.item i _ _ _ lt1 (D1.over st1 b0 S.zf1) fun x1 p1 tk1 r1 sn1 e1 => wpAny_pure ?_); refine wpAny_pure ?_
    replace e1 : Heap.SameBut i1 g0 p1 := e1
    refine wpAny_bind (wpAny_bind (wpAny_holding ?_)); show wpAny _ _ (Builtin.SmallTypes.nextOf (.ref i2) >>= _) _ _ ⟨p1, gn, dn, tk1, sy⟩
    have sn2 : S2 n2 p1 := by rw [← at2]; exact D2.over (D2.over st2 b0 S.zf2) e1 S.sep1_2
    refine wpAny_bind (D2.done ⟨p1, gn, dn, tk1, sy⟩ _ _ sn2 fun q e eb he => ?_)
    exact k q tk1 e (fun c o c1 c2 c3 x => eb _ _ c3 (e1.extBut _ _ c2 (b0.extBut _ _ c1 x))) he
  · have at1 : i = n1 := by omega
    have sn1 : S1 n1 g0 := by rw [← at1]; exact D1.over st1 b0 S.zf1
    refine wpAny_bind (D1.done ⟨g0, gn, dn, tk0, sy⟩ _ _ sn1 fun q e eb he => ?_)
    exact k q tk0 e (fun c o c1 c2 c3 x => eb _ _ c2 (b0.extBut _ _ c1 x)) he
theorem pyNext_zipHeld {Q : Option Value → Shared → Prop} (S : ZipSep2 z TI TO i1 i2 fp1 fp2) (D1 : Draws prog w A.in1 i1 fp1 n1 P1 S1) (D2 : Draws prog w A.in1 i2 fp2 n2 P2 S2) (zz : IsZipHeld s.heap z TI TO T f) (tt : s.heap.get? T = some oT) (ti : IsTupOf2 s.heap TI (.ref i1) (.ref i2)) (st1 : S1 i s.heap) (st2 : S2 i s.heap) (lt1 : i < n1) (lt2 : i < n2)
    (k : ∀ x1 x2 h' tk, P1 i x1 → P2 i x2 → IsZipHeld h' z TI TO T true → S1 (i + 1) h' → S2 (i + 1) h' → IsTupOf2 h' s.heap.objs.size x1 x2 → (∀ c o, c ≠ z → c ≠ i1 → c ≠ i2 → s.heap.get? c = some o → h'.get? c = some o) → Q (some (.ref s.heap.objs.size)) { s with heap := h', toks := tk }) : wpAny (model prog w) A (pyNext (.ref z)) Q E s := by
  have ty : s.TypeIs (.ref z) "zip" := ⟨_, zz, rfl⟩
  unfold pyNext; exact wpAny_bind (wpAny_attempt (wpAny_callSpecial?_slot (name := Str.ofString "__next__") ty F.slot_zip_next (wpAny_call_entry F.slot_zip_next ty F.entry_zip_next (zipHeld_item S D1 D2 zz tt ti st1 st2 lt1 lt2 fun x1 x2 h' tk b1 b2 b3 b4 b5 b6 b7 => wpAny_pure (k x1 x2 h' tk b1 b2 b3 b4 b5 b6 b7)) (F.args_zip_next_1 _))))
theorem pyNext_zipHeldEnd {Q : Option Value → Shared → Prop} (S : ZipSep2 z TI TO i1 i2 fp1 fp2) (D1 : Draws prog w A.in1 i1 fp1 n1 P1 S1) (D2 : Draws prog w A.in1 i2 fp2 n2 P2 S2) (zz : IsZipHeld s.heap z TI TO T f) (tt : s.heap.get? T = some oT) (ti : IsTupOf2 s.heap TI (.ref i1) (.ref i2)) (st1 : S1 i s.heap) (st2 : S2 i s.heap) (le1 : i ≤ n1) (le2 : i ≤ n2) (over : i = n1 ∨ i = n2)
    (k : ∀ h' tk, (∀ c o, c ≠ z → c ≠ i1 → c ≠ i2 → s.heap.get? c = some o → h'.get? c = some o) → Q none { s with heap := h', toks := tk }) : wpAny (model prog w) A (pyNext (.ref z)) Q E s := by
  have ty : s.TypeIs (.ref z) "zip" := ⟨_, zz, rfl⟩
  unfold pyNext; refine wpAny_bind (wpAny_attempt (wpAny_callSpecial?_slot (name := Str.ofString "__next__") ty F.slot_zip_next (wpAny_call_entry F.slot_zip_next ty F.entry_zip_next (zipHeld_end S D1 D2 zz tt ti st1 st2 le1 le2 over fun h' tk e hk he => ?_) (F.args_zip_next_1 _))))
  obtain ⟨o, ho, hc⟩ := he
  exact wpAny_bind (wpAny_isInstance (T := "StopIteration") (b := true) ⟨o, ho, hc⟩ isSubtype_stop (wpAny_pure (k _ _ hk)))
end
/-- zip(a list, a tuple) as what dict() is made of -/
theorem pairZipM {prog : Program} {w : World} {z TI TO i1 i2 a b : Addr} (D : ZipApart z TI TO i1 i2 a b) (xs ys : Array Value) :
    PairArg prog w "zip" z [z, TI, TO, i1, i2, a, b] [z, TO, i1, i2] (min xs.size ys.size) (fun i k v => xs[i]? = some k ∧ ys[i]? = some v) (fun h => IsZip h z TI TO .none ∧ IsTupOf2 h TI (.ref i1) (.ref i2) ∧ (∃ x y, IsTupOf2 h TO x y) ∧ (h.IsListIter i1 a 0 ∧ h.IsList a xs) ∧ h.IsTupleIter i2 b 0 ∧ h.IsTuple b ys) where
  type s ok := ⟨_, ok.1, rfl⟩
  notDict := by decide
  keep h h' ok k := by
    obtain ⟨o1, o2, ⟨x, y, o3⟩, ⟨o4, o5⟩, o6, o7⟩ := ok
    exact ⟨k _ _ o1, k _ _ o2, ⟨x, y, k _ _ o3⟩, ⟨o4.at fun o e => k _ o e, o5.at fun o e => k _ o e⟩, o6.at fun o e => k _ o e, o7.at fun o e => k _ o e⟩
  there h ok c hc := by
    obtain ⟨o1, o2, ⟨x, y, o3⟩, ⟨⟨p4, o4, _⟩, p5, o5, _⟩, ⟨p6, o6, _⟩, p7, o7, _⟩ := ok
    simp only [List.mem_cons, List.not_mem_nil, or_false] at hc
    rcases hc with q | q | q | q | q | q | q <;> subst q <;> exact ⟨_, by assumption⟩
  sub c hc := by
    simp only [List.mem_cons, List.not_mem_nil, or_false] at hc ⊢
    rcases hc with q | q | q | q <;> simp [q]
  noKeys A s Q E hA ok k := getAttrOr_miss_zip ok.1 rfl rfl rfl zip_no_keys (by decide +kernel) hA k
  iter A s d Q E hA ok hd off k := by
    obtain ⟨o1, o2, ⟨x, y, o3⟩, ⟨o4, o5⟩, o6, o7⟩ := ok
    simp only [List.mem_cons, List.not_mem_nil, or_false, not_or] at off
    obtain ⟨dz, dI, dO, d1, d2, da, db⟩ := off
    refine wpAny_pyIter_zip o1 (k z [z, TO, i1, i2] (fun i h => IsTupOf2 h TI (.ref i1) (.ref i2) ∧ (h.IsListIter i1 a i ∧ h.IsList a xs) ∧ (h.IsTupleIter i2 b i ∧ h.IsTuple b ys) ∧ ((IsZip h z TI TO .none ∧ ∃ x y, IsTupOf2 h TO x y) ∨ ∃ T f oT, IsZipHeld h z TI TO T f ∧ h.get? T = some oT ∧ T ≠ z ∧ T ≠ i1 ∧ T ≠ i2 ∧ T ≠ d)) s.heap s.toks ⟨?_, ?_, ?_, ?_⟩ ⟨o2, ⟨o4, o5⟩, ⟨o6, o7⟩, .inl ⟨o1, x, y, o3⟩⟩ (fun _ _ e => e) fun c hc => .inl hc)
    · simp only [List.mem_cons, List.not_mem_nil, or_false, not_or]
      exact ⟨dz, dO, d1, d2⟩
    · rintro i h h' ⟨t2, ⟨t4, t5⟩, ⟨t6, t7⟩, tz⟩ kk
      refine ⟨kk _ _ (Ne.symm dI) t2, ⟨t4.at fun o e => kk _ o (Ne.symm d1) e, t5.at fun o e => kk _ o (Ne.symm da) e⟩, ⟨t6.at fun o e => kk _ o (Ne.symm d2) e, t7.at fun o e => kk _ o (Ne.symm db) e⟩, ?_⟩
      rcases tz with ⟨t1, x, y, t3⟩ | ⟨T, f, oT, t1, tT, r⟩
      · exact .inl ⟨kk _ _ (Ne.symm dz) t1, x, y, kk _ _ (Ne.symm dO) t3⟩
      · exact .inr ⟨T, f, oT, kk _ _ (Ne.symm dz) t1, kk _ _ r.2.2.2 tT, r⟩
    · intro i s1 Q1 E1 hi ⟨t2, t45, t67, tz⟩ hds kk
      have lt1 : i < xs.size := Nat.lt_of_lt_of_le hi (Nat.min_le_left ..)
      have lt2 : i < ys.size := Nat.lt_of_lt_of_le hi (Nat.min_le_right ..)
      have D1 := Draws.list (prog := prog) (w := w) (A := A.in1) hA i1 a D.l1i1 xs
      have D2 := Draws.tuple (prog := prog) (w := w) (A := A.in1) hA i2 b D.l2i2 ys
      have new : ∀ {c : Addr} {o : Obj}, s1.heap.get? c = some o → s1.heap.objs.size ≠ c := fun e => Nat.ne_of_gt (Heap.lt_size e)
      have m1 : s1.heap.objs.size ≠ i1 := let ⟨_, e, _⟩ := t45.1; new e
      have m2 : s1.heap.objs.size ≠ i2 := let ⟨_, e, _⟩ := t67.1; new e
      rcases tz with ⟨t1, x, y, t3⟩ | ⟨T, f, oT, t1, tT, r1, r2, r3, r4⟩
      · refine wpAny_pyNext_zipD2_item (sep_of D) D1 D2 t1 t2 t3 t45 t67 lt1 lt2 fun y1 y2 h' tk g1 g2 out u3 st4 st5 hT _ hk => ?_
        exact kk s1.heap.objs.size _ _ h' tk ⟨g1, g2⟩ (.inl ⟨_, hT, rfl, _, rfl⟩) ⟨hk _ _ D.TIz D.TITO D.TIi1 D.TIi2 t2, st4, st5, .inr ⟨s1.heap.objs.size, false, _, out, hT, new t1, m1, m2, Nat.ne_of_gt hds⟩⟩
          fun c o hc e => hk c o (fun q => hc (by simp [q])) (fun q => hc (by simp [q])) (fun q => hc (by simp [q])) (fun q => hc (by simp [q])) e
      · refine pyNext_zipHeld (sep_of D) D1 D2 t1 tT t2 t45 t67 lt1 lt2 fun y1 y2 h' tk g1 g2 out st4 st5 hT hk => ?_
        exact kk s1.heap.objs.size _ _ h' tk ⟨g1, g2⟩ (.inl ⟨_, hT, rfl, _, rfl⟩) ⟨hk _ _ D.TIz D.TIi1 D.TIi2 t2, st4, st5, .inr ⟨T, true, oT, out, hk _ _ r1 r2 r3 tT, r1, r2, r3, r4⟩⟩
          fun c o hc e => hk c o (fun q => hc (by simp [q])) (fun q => hc (by simp [q])) (fun q => hc (by simp [q])) e
    · intro s1 Q1 E1 ⟨t2, t45, t67, tz⟩ kk
      have D1 := Draws.list (prog := prog) (w := w) (A := A.in1) hA i1 a D.l1i1 xs
      have D2 := Draws.tuple (prog := prog) (w := w) (A := A.in1) hA i2 b D.l2i2 ys
      have over : min xs.size ys.size = xs.size ∨ min xs.size ys.size = ys.size := by omega
      rcases tz with ⟨t1, x, y, t3⟩ | ⟨T, f, oT, t1, tT, r⟩
      · exact wpAny_pyNext_zipD2_end (sep_of D) D1 D2 t1 t2 t3 t45 t67 (Nat.min_le_left ..) (Nat.min_le_right ..) over fun h' tk hk => kk h' tk fun c o hc e => hk c o (fun q => hc (by simp [q])) (fun q => hc (by simp [q])) (fun q => hc (by simp [q])) (fun q => hc (by simp [q])) e
      · exact pyNext_zipHeldEnd (sep_of D) D1 D2 t1 tT t2 t45 t67 (Nat.min_le_left ..) (Nat.min_le_right ..) over fun h' tk hk => kk h' tk fun c o hc e => hk c o (fun q => hc (by simp [q])) (fun q => hc (by simp [q])) (fun q => hc (by simp [q])) e
end DL
/-! text LK13 -/
/-! LK13: the rule of dict(zip(a list of ints, a tuple of ints)). -/
namespace DL
open PySem PySem.Spec L2 PySem.W
open PyProof.Rows hiding St
def zipK (ks : List Int) (vs : List V) : List (Key × V) := (ks.zip vs).map fun p => (Sum.inl p.1, p.2)
def zipKU (ks : List Int) (us : List Value) : List (Key × Value) := (ks.zip us).map fun p => (Sum.inl p.1, p.2)
theorem zipK_rel : ∀ {ks : List Int} {vs : List V} {us : List Value}, Vals vs us → KV (zipK ks vs) (zipKU ks us)
  | [], _, _, _ => .nil
  | k :: ks, _, _, .nil => .nil
  | k :: ks, _, _, .cons r t => .cons ⟨rfl, r⟩ (zipK_rel t)
theorem zipKU_len {ks : List Int} {us : List Value} : (zipKU ks us).length = min ks.length us.length := by
  unfold zipKU
  rw [List.length_map, List.length_zip]
theorem zipKU_get {ks : List Int} {us : List Value} {i : Nat} {k : Int} {u : Value} (h : ks[i]? = some k) (h' : us[i]? = some u) : (zipKU ks us)[i]? = some (Sum.inl k, u) := by
  unfold zipKU
  rw [List.getElem?_map, List.getElem?_zip_eq_some.mpr (show ks[i]? = some (k, u).1 ∧ us[i]? = some (k, u).2 from ⟨h, h'⟩)]
  rfl
theorem merge_nd : ∀ (l acc : List (Key × V)), ((acc ++ l).map (·.1)).Nodup → mergeK acc l = acc ++ l
  | [], acc, _ => by rw [List.append_nil]; rfl
  | (k, v) :: l, acc, h => by
    have ne : (acc.any fun kv => decide (kv.1 = k)) = false := by
      rw [List.any_eq_false]
      intro x hx q
      rw [List.map_append, List.nodup_append] at h
      exact h.2.2 x.1 (List.mem_map.mpr ⟨x, hx, rfl⟩) k (List.mem_map.mpr ⟨(k, v), List.mem_cons_self .., rfl⟩) (of_decide_eq_true q)
    show mergeK (putK acc k v) l = _
    have e : putK acc k v = acc ++ [(k, v)] := by unfold putK; rw [ne]; rfl
    rw [e, merge_nd l (acc ++ [(k, v)]) (by rw [List.append_assoc]; exact h), List.append_assoc]
    rfl
def eZipD (K : PySem.W.Frag) (ta : TA) : TE := fun σ H Q => ta σ H fun vs H1 => ∃ a b ks ys, vs = [V.ref a, V.ref b] ∧ SqL K H1 a (ks.map V.int) ∧ SqT K H1 b ys ∧ ks.length = ys.length ∧ ks.Nodup ∧ ∀ p, H1 p = none → Q (.ref p) (upd H1 p (.dK (zipK ks ys)))
theorem pe_dictZip {X : Cx} (hcalm : X.calm = true) {e e2 : Expr} {ta : TA} {p p2 q pos : Pos} (hg : Gl X "zip") (hm : X.mg "zip" = none) (hg2 : Gl X "dict") (hm2 : X.mg "dict" = none) (ha : PA X [e, e2] ta) (hs : starEach [e, e2] X.env = (false, eval e X.env) :: starEach [e2] X.env) (hpl : (backTo q (starEach [e2] X.env)).any (·.1) = false)
    (hs2 : starEach [.Call (.Name "zip" p2) [e, e2] [] q] X.env = (false, eval (.Call (.Name "zip" p2) [e, e2] [] q) X.env) :: starEach [] X.env) : PE X (.Call (.Name "dict" p) [.Call (.Name "zip" p2) [e, e2] [] q] [] pos) (eZipD X.K ta) where
  run pins s σ H Q I h := by
    refine Call_ (ld_blt I hg2 hm2 PyProof.Rows.boot_dict (PyProof.Rows.callWith_type1 ?_ hs2 rfl))
    rw [hs2]
    show wpAny _ _ (spliced ((false, eval (.Call (.Name "zip" p2) [e, e2] [] q) X.env) :: [])) _ _ s
    refine Calls.spliced_cons (wpAny_mono (Q := fun v s2 => wpAny (model X.prog X.w) X.A (call (.type "dict") [v]) (EP X pins σ Q) X.xe s2) ?_ (fun v s2 z => Calls.spliced_nil z) fun _ _ z => z)
    have args := ha.run q pins s σ H _ I h
    refine Call_ (ld_blt I hg hm PyProof.Rows.boot_zip (PyProof.Rows.callWith_type1 (wpAny_mono args (fun us s1 hu => ?_) fun _ _ z => z) hs hpl))
    obtain ⟨vs, H1, I1, r1, a, b, ks, ys, rfl, hqx, hqy, hlen, hnd, k⟩ := hu
    obtain ⟨its, rv, p1, hz⟩ := I1.list hqx
    obtain ⟨its2, rv2, t1, _⟩ := I1.tuple hqy
    have la := p1.lt
    have lb : b < s1.heap.objs.size := t1.lt
    have inz := rv.ints
    have len1 := rv.length
    have len2 := rv2.length
    rw [List.length_map] at len1 hz
    cases r1 with
    | cons r r' =>
      cases r' with
      | cons r2 r3 =>
        cases r3
        cases r
        cases r2
        refine zipM_call p1.isList t1 fun h1 hz1 hTI hTO i1 i2 hk => ?_
        have ap := PySem.W.ktu_apart s1.heap.objs.size a b la lb
        have pa := pairZipM (prog := X.prog) (w := X.w) ap its.toArray its2.toArray
        refine PySem.call_dict_pairs (knd := mixKind X.prog X.w) (kvs := zipKU ks its2) pa (I1.ok.hd hcalm) ⟨hz1, hTI, ⟨_, _, hTO⟩, ⟨i1, p1.isList.at fun o e => hk _ o e⟩, i2, t1.keeps fun c o e => hk _ o e⟩ ⟨by rw [zipKU_len]; simp; omega, fun i key v ⟨g1, g2⟩ => ?_⟩ (by simp; omega) fun h' tk hd' hk' => ?_
        · have g1' : its[i]? = some key := by simpa using g1
          have g2' : its2[i]? = some v := by simpa using g2
          have li : i < ks.length := by rw [len1]; exact (List.getElem?_eq_some_iff.mp g1').1
          obtain ⟨u, hu, ru⟩ := rv.get (show (ks.map V.int)[i]? = some (V.int ks[i]) by rw [List.getElem?_map, List.getElem?_eq_getElem li]; rfl)
          cases g1'.symm.trans hu
          obtain ⟨t, rfl⟩ := ru
          exact ⟨.inl ks[i], zipKU_get (List.getElem?_eq_getElem li) g2', mixKind_int X.prog X.w ks[i] t⟩
        · have old : ∀ c o, s1.heap.get? c = some o → h'.get? c = some o := fun c o e => by
            refine hk' c o (fun hc => ?_) (hk c o e)
            have lc := Heap.lt_size e
            simp only [List.mem_cons, List.not_mem_nil, or_false] at hc
            rcases hc with q | q | q | q <;> rw [q] at lc
            · exact absurd lc (Nat.not_lt_of_le (Nat.le_add_right _ _))
            · exact absurd lc (Nat.not_lt_of_le (Nat.le_add_right _ _))
            · exact absurd lc (Nat.lt_irrefl _)
            · exact absurd lc (Nat.not_lt_of_le (Nat.le_add_right _ _))
          have up : s1.heap.objs.size ≤ h1.objs.size := Nat.le_of_lt (Nat.lt_of_le_of_lt (Nat.le_add_right _ 4) (Heap.lt_size hz1))
          have big : (h1.objs.size == sysModules) = false := beq_eq_false_iff_ne.mpr (Nat.ne_of_gt (Nat.lt_of_lt_of_le I1.big up))
          have rel : KV (zipK ks ys) (merged [] (zipKU ks its2)) := by
            have m := KV.merge (zipK_rel (ks := ks) rv2) .nil
            rwa [merge_nd _ [] ?_] at m
            rw [List.nil_append]
            unfold zipK
            rw [List.map_map]
            show ((ks.zip ys).map fun p => (Sum.inl p.1 : Key)).Nodup
            have e : (ks.zip ys).map (fun p => (Sum.inl p.1 : Key)) = ks.map Sum.inl := by
              rw [show (fun p : Int × V => (Sum.inl p.1 : Key)) = (Sum.inl ∘ Prod.fst) from rfl, ← List.map_map, List.map_fst_zip (by omega)]
            rw [e]
            exact List.Pairwise.map _ (fun x y hxy q => hxy (Sum.inl.inj q)) hnd
          have sz : (zipK ks ys).length ≤ sizeLine := by unfold zipK; rw [List.length_map, List.length_zip]; omega
          exact ⟨.ref h1.objs.size, upd H1 h1.objs.size (.dK (zipK ks ys)), I1.laid (t' := tk) old up (show ObjOk X.prog X.w _ _ _ (.dK (zipK ks ys)) from ⟨sz, big, _, rel, hd'⟩), rfl, k _ (I1.hok.fresh up)⟩
section
variable {C : Cfg} {ρ : DEnv} {a b : Expr} {pos p p2 q : Pos}
theorem eo_dictZip {ks ns : List Int} (ha : EvD C a ρ (.lst (ks.map D.int))) (hb : EvD C b ρ (.tup (ns.map D.int))) (hl : ks.length = ns.length) (hn : ks.Nodup) (hm : C.mg "zip" = none) (hm2 : C.mg "dict" = none) (hg : GlC C "zip" := by rfl) (hg2 : GlC C "dict" := by rfl) (hs : ∀ env, starEach [a, b] env = (false, eval a env) :: starEach [b] env := by intro _; rfl) (hs2 : ∀ env, starEach [b] env = (false, eval b env) :: starEach [] env := by intro _; rfl)
    (hpl : ∀ env, (backTo q (starEach [b] env)).any (·.1) = false := by intro _; rfl) (hs3 : ∀ env, starEach [.Call (.Name "zip" p2) [a, b] [] q] env = (false, eval (.Call (.Name "zip" p2) [a, b] [] q) env) :: starEach [] env := by intro _; rfl) :
    EvO C (.Call (.Name "dict" p) [.Call (.Name "zip" p2) [a, b] [] q] [] pos) ρ (· = .dI (ks.zip (ns.map D.int))) := fun X hX B Z Y σ H R Q hQ => by
  refine WE.of (pe_dictZip hX.calm (hX.gl hg) (by rw [← hX.mg]; exact hm) (hX.gl hg2) (by rw [← hX.mg]; exact hm2) pa_wa (hs _) (hpl _) (hs3 _)) ((ea_cons ha (ea_cons hb ea_nil hs2) hs) X hX B Z Y σ H R _ fun vs d H1 hd x1 dv => ?_)
  subst hd
  cases dv with
  | cons k1 k2 =>
    cases k2 with
    | cons k2 k3 =>
      cases k3
      cases k1 with
      | @lst x vs _ e1 dvs =>
        cases k2 with
        | @tup y ws _ e2 dws =>
          have ev := dvs.ints
          have ew := dws.ints
          subst ev ew
          refine ⟨x, y, ks, ns.map V.int, rfl, hid_sq e1, hid_st e2, by rw [List.length_map]; exact hl, hn, fun p hp => hQ p _ _ rfl (x1.fresh hp ((R.ext x1).freshR hp)) (x1.trans (Ext.new hp)) ⟨_, upd_same, ?_, ?_⟩⟩
          · unfold zipK
            rw [List.map_map]
            have e1 := List.map_fst_zip (l₁ := ks) (l₂ := ns.map V.int) (by rw [List.length_map]; omega)
            have e2 := List.map_fst_zip (l₁ := ks) (l₂ := ns.map D.int) (by rw [List.length_map]; omega)
            have f1 : (ks.zip (ns.map V.int)).map ((fun x : Key × V => x.1) ∘ fun p : Int × V => ((Sum.inl p.1 : Key), p.2)) = ((ks.zip (ns.map V.int)).map Prod.fst).map Sum.inl := by rw [List.map_map]; rfl
            have f2 : (ks.zip (ns.map D.int)).map (fun p => (Sum.inl p.1 : Key)) = ((ks.zip (ns.map D.int)).map Prod.fst).map Sum.inl := by rw [List.map_map]; rfl
            rw [f1, f2, e1, e2]
          · unfold zipK
            rw [List.map_map]
            have e1 := List.map_snd_zip (l₁ := ks) (l₂ := ns.map V.int) (by rw [List.length_map]; omega)
            have e2 := List.map_snd_zip (l₁ := ks) (l₂ := ns.map D.int) (by rw [List.length_map]; omega)
            have f1 : (ks.zip (ns.map V.int)).map ((fun x : Key × V => x.2) ∘ fun p : Int × V => ((Sum.inl p.1 : Key), p.2)) = (ks.zip (ns.map V.int)).map Prod.snd := rfl
            have f2 : (ks.zip (ns.map D.int)).map (fun x => x.2) = (ks.zip (ns.map D.int)).map Prod.snd := rfl
            rw [f1, f2, e1, e2]
            exact .of_ints ns
end
end DL
/-! text LK9 -/
/-! LK9: dicts whose keys are pairs of tuples of ints: d[k], d.get(k, x), d[k] = v, {}. -/
namespace DL
open PySem PySem.Spec L2 PySem.W
open PyProof.Rows hiding St
theorem nums_is {h : Heap} : ∀ {vs : List Value} {ns : List Int}, Vals (ns.map V.int) vs → NestedAll h (ns.map NestedKey.num) vs
  | _, [], .nil => .nil
  | _, n :: ns, .cons r t => by
    obtain ⟨t', rfl⟩ := r
    exact .cons (.int n t') (nums_is t)
theorem nums_depth : ∀ ns : List Int, NestedKey.depthAll (ns.map NestedKey.num) = 0
  | [] => by simp [NestedKey.depthAll]
  | n :: ns => by simp only [List.map_cons, NestedKey.depthAll, nums_depth ns, NestedKey.depth]; rfl
theorem nkey_depth (k : NK) : (nkey k).depth = 2 := by
  unfold nkey
  simp only [NestedKey.depth, NestedKey.depthAll, nums_depth]; rfl
theorem nums_inj : ∀ {a b : List Int}, a.map NestedKey.num = b.map NestedKey.num → a = b
  | [], [], _ => rfl
  | [], _ :: _, h => by cases h
  | _ :: _, [], h => by cases h
  | x :: xs, y :: ys, h => by
    simp only [List.map_cons, List.cons.injEq, NestedKey.num.injEq] at h
    rw [h.1, nums_inj h.2]
theorem nkey_inj {a b : NK} (h : nkey a = nkey b) : a = b := by
  unfold nkey at h
  simp only [NestedKey.tup.injEq, List.cons.injEq, and_true] at h
  exact Prod.ext (nums_inj h.1) (nums_inj h.2)
section
variable {P : Program} {w : World} {H : Hp} {h : Heap} {a b : Addr} {k : NK} {ob : Obj} {xs : List (NK × Addr × Addr)}
theorem tup_at {vs : List V} (ok : HOk P w H h) (e : H a = some (.tup vs)) : ∃ its o n, Vals vs its ∧ h.get? a = some o ∧ o.cls = .type "tuple" ∧ o.data = .seq its.toArray n := by
  obtain ⟨_, its, r, o, h1, h2, n, h3⟩ := (show ObjOk P w H h a (.tup vs) from ok a _ e)
  exact ⟨its, o, n, r, h1, h2, h3⟩
theorem key_nk (ok : HOk P w H h) (x : KeyAt H k a) : (nestedKind P w).is h (nkey k) a := by
  obtain ⟨p, q, e1, e2, e3⟩ := x
  obtain ⟨i1, o1, n1, r1, g1, c1, d1⟩ := tup_at ok e1
  obtain ⟨i2, o2, n2, r2, g2, c2, d2⟩ := tup_at ok e2
  obtain ⟨i3, o3, n3, r3, g3, c3, d3⟩ := tup_at ok e3
  refine ⟨.tup g1 c1 d1 ?_, by show (nkey k).depth ≤ 8; rw [nkey_depth]; omega⟩
  cases r1 with
  | cons ra t =>
    cases t with
    | cons rb t =>
      cases t
      cases ra; cases rb
      exact .cons (.tup g2 c2 d2 (by simpa using nums_is r2)) (.cons (.tup g3 c3 d3 (by simpa using nums_is r3)) .nil)
def toH (xs : List (NK × Addr × Addr)) : List (NestedKey × Addr × Value) := xs.map fun x => (nkey x.1, x.2.1, .ref x.2.2)
theorem hobj_at (ok : HOk P w H h) (e : H a = some (HObj a ob)) : h.get? a = some ob := (show ObjOk P w H h a (HObj a ob) from ok a _ e).1
theorem nob_nd (n : (xs.map (·.1)).Nodup) : ((toH xs).map (·.1)).Nodup := by
  unfold toH
  rw [List.map_map]
  have : (xs.map ((fun x => x.1) ∘ fun x : NK × Addr × Addr => (nkey x.1, x.2.1, Value.ref x.2.2))) = (xs.map (·.1)).map nkey := by rw [List.map_map]; rfl
  rw [this]
  exact List.Pairwise.map _ (fun a b hne e => hne (nkey_inj e)) n
theorem nob_dict (ok : HOk P w H h) (e : H a = some (HObj a ob)) (n : NOb w a ob xs) (ks : ∀ x ∈ xs, KeyAt H x.1 x.2.1) : h.DictOfH (nestedKind P w) a (toH xs) := by
  obtain ⟨ex, _, _, nd, es, ep, hd, he⟩ := n
  refine ⟨ob, es, ep, hobj_at ok e, ex, hd, ?_, fun y hy => ?_, nob_nd nd⟩
  · rw [he, toH, List.map_map]; rfl
  · unfold toH at hy
    obtain ⟨x, hx, rfl⟩ := List.mem_map.mp hy
    exact key_nk ok (ks x hx)
def lookN (xs : List (NK × Addr × Addr)) (k : NK) : Option Addr := (xs.find? fun x => decide (x.1 = k)).map (·.2.2)
theorem at_look (xs : List (NK × Addr × Addr)) (k : NK) : (atKey (toH xs) (nkey k)).map (·.2) = (lookN xs k).map Value.ref := by
  unfold atKey lookN toH
  induction xs with
  | nil => rfl
  | cons x xs ih =>
    rw [List.map_cons, List.find?_cons, List.find?_cons]
    by_cases e : x.1 = k
    · simp [e]
    · have e' : ¬ nkey x.1 = nkey k := fun q => e (nkey_inj q)
      simp only [e, e', decide_false]
      exact ih
def storeN (xs : List (NK × Addr × Addr)) (k : NK) (b v : Addr) : List (NK × Addr × Addr) :=
  if (lookN xs k).isSome = true then xs.map (fun x => if x.1 = k then (x.1, x.2.1, v) else x) else xs ++ [(k, b, v)]
theorem toH_store (xs : List (NK × Addr × Addr)) (k : NK) (b v : Addr) : toH (storeN xs k b v) = storedH (toH xs) (nkey k) b (.ref v) := by
  have e : (lookN xs k).isSome = (atKey (toH xs) (nkey k)).isSome := by
    have := congrArg Option.isSome (at_look xs k)
    simpa using this.symm
  unfold storeN storedH
  rw [e]
  by_cases q : (atKey (toH xs) (nkey k)).isSome = true
  · rw [if_pos q, if_pos q]
    unfold toH
    rw [List.map_map,  List.map_map]
    refine List.map_congr_left fun x _ =>  ?_
    by_cases z : x.1 = k
    · simp [putAt, z]
    · have z' : ¬ nkey x.1 = nkey k := fun q => z (nkey_inj q)
      simp [putAt, z, z']
  · rw [if_neg q, if_neg q]
    unfold toH
    rw [List.map_append]; rfl
theorem toH_inj : ∀ {xs ys : List (NK × Addr × Addr)}, toH xs = toH ys → xs = ys
  | [], [], _ => rfl
  | [], _ :: _, h => by cases h
  | _ :: _, [], h => by cases h
  | (k, b, v) :: xs, (k', b', v') :: ys, h => by
    simp only [toH, List.map_cons, List.cons.injEq, Prod.mk.injEq, Value.ref.injEq] at h
    obtain ⟨⟨h1, h2, h3⟩, h4⟩ := h
    rw [nkey_inj h1, h2, h3, toH_inj (show toH xs = toH ys from h4)]
theorem store_len (xs : List (NK × Addr × Addr)) (k : NK) (b v : Addr) : (storeN xs k b v).length ≤ xs.length + 1 := by
  unfold storeN
  split
  · simp
  · simp
theorem dict_nob {h' : Heap} (hs : (a == sysModules) = false) (hl : xs.length ≤ 100000) (d : h'.DictOfH (nestedKind P w) a (toH xs)) : ∃ ob, h'.get? a = some ob ∧ NOb w a ob xs := by
  obtain ⟨o, es, ep, ho, hc, hd, he, _, nd⟩ := d
  refine ⟨o, ho, hc, hs, hl, ?_, es, ep, hd, by rw [he, toH, List.map_map]; rfl⟩
  unfold toH at nd
  rw [List.map_map] at nd
  have e : (xs.map ((fun x => x.1) ∘ fun x : NK × Addr × Addr => (nkey x.1, x.2.1, Value.ref x.2.2))) = (xs.map (·.1)).map nkey := by rw [List.map_map]; rfl
  rw [e] at nd
  exact (List.pairwise_map.mp nd).imp fun hne q => hne (by rw [q])
theorem hobj_ok {H' : Hp} {h' : Heap} {o : Obj} (g : h'.get? a = some o) : ObjOk P w H' h' a (HObj a o) := ⟨g, ⟨o, g⟩, fun h1 h2 e k => k o e⟩
end
/-! ### rules -/
def KeysAt (H : Hp) (xs : List (NK × Addr × Addr)) : Prop := ∀ x ∈ xs, KeyAt H x.1 x.2.1
section
variable {X : Cx} {o i e f : Expr} {pos apos cpos : Pos} {td ty tx : TE}
def tGetN (w : World) (td ty : TE) : TE := fun σ H Q => td σ H fun x H1 => ty σ H1 fun y H2 => ∃ a ob xs k b v, x = V.ref a ∧ y = V.ref b ∧ H2 a = some (HObj a ob) ∧ NOb w a ob xs ∧ KeysAt H2 xs ∧ KeyAt H2 k b ∧ lookN xs k = some v ∧ Q (.ref v) H2
theorem pe_getN (hu : X.A.units + 10 < cLine) (ho : PE X o td) (hi : PE X i ty) (hs : NoSl i) : PE X (.Subscript o i pos) (tGetN X.w td ty) := ⟨fun pins s σ H Q I h => by
  refine subD_of PySem.F.slot_dict_getitem.lookup hs (thn (ho.run pins s σ H _ I h) fun u s1 ⟨x, H1, I1, rx, q1⟩ => thn (hi.run pins s1 σ H1 _ I1 q1) fun iv s2 ⟨y, H2, I2, ry, a, ob, xs, k, b, v, ex, ey, ea, n, ks, kb, l, q2⟩ => ?_)
  subst ex ey
  obtain rfl : u = Value.ref a :=  rx
  obtain rfl : iv = Value.ref b := ry
  have D := nob_dict I2.hok ea n ks
  have al := at_look xs k
  rw [l] at al
  obtain ⟨p, hp, ep⟩ := Option.map_eq_some_iff.mp al
  refine ⟨D.typeIs, wpAny_getItem_heap (show X.A.in1.units + 8 < cLine by simp only [Around.in1_units]; omega) (key_nk I2.hok kb) D hp ?_⟩
  rw [ep]
  exact ⟨.ref v, H2, I2.tok _, rfl, q2⟩⟩
def tGet2N (w : World) (td ty tx : TE) : TE := fun σ H Q => td σ H fun x H1 => ∃ a ob0, x = V.ref a ∧ H1 a = some (HObj a ob0) ∧ ob0.ExactDict ∧ ty σ H1 fun y H2 => tx σ H2 fun z H3 => ∃ ob xs k b, y = V.ref b ∧ H3 a = some (HObj a ob) ∧ NOb w a ob xs ∧ KeysAt H3 xs ∧ KeyAt H3 k b ∧ Q (((lookN xs k).map V.ref).getD z) H3
theorem pe_get2N (hu : X.A.units + 10 < cLine) (ho : PE X o td) (he : PE X e ty) (hf : PE X f tx) (m : M2 X o "get" apos e f cpos) : PE X (.Call (.Attribute o "get" apos) [e, f] [] cpos) (tGet2N X.w td ty tx) := ⟨fun pins s σ H Q I h => by
  refine wpAny_Call_method m.base m.few m.line PySem.F.plainAttrs_dict PySem.F.slot_dict_get PySem.F.type_dict_get (thn (ho.run pins s σ H _ I h) fun u s1 ⟨x, H1, I1, rx, a, ob0, ex, e0, xd, q1⟩ => ?_)
  subst ex
  obtain rfl : u = Value.ref a :=  rx
  have g0 := hobj_at I1.hok e0
  refine ⟨⟨ob0, g0, xd.1⟩, fun b eb => by cases eb; exact ⟨ob0, g0, xd.2.1⟩, ?_⟩
  rw [m.trees]
  refine Calls.callWith_builtin rfl (Calls.evalArgs_plain (Calls.spliced_cons (thn (he.run pins s1 σ H1 _ I1 q1) fun iv s2 ⟨y, H2, I2, ry, q2⟩  =>
    Calls.spliced_cons (thn (hf.run pins s2 σ H2 _ I2 q2) fun fv s3 ⟨z, H3, I3, rz, ob, xs, k, b, ey, ea, n, ks, kb, q3⟩ => Calls.spliced_nil ?_))))
  subst ey
  obtain rfl : iv = Value.ref b := ry
  have D := nob_dict I3.hok ea n ks
  refine getOr_keyed (knd := nestedKind X.prog X.w) (show X.A.in1.units + 8 < cLine by simp only [Around.in1_units]; omega) (key_nk I3.hok kb) n.2.1 ⟨_, D, rfl⟩ ⟨_, H3, I3.tok _, ?_, q3⟩
  rw [valueAt_pairsH, at_look]
  cases lookN xs k with
  | none => exact rz
  | some v => exact rfl⟩
theorem set_N (hu : X.A.units + 10 < cLine) : PSet X (fun o i v H Q => ∃ a ob xs k b va, o = V.ref a ∧ i = V.ref b ∧ v = V.ref va ∧ H a = some (HObj a ob) ∧ NOb X.w a ob xs ∧ KeysAt H xs ∧ KeyAt H k b ∧ xs.length < 100000 ∧ ∀ ob', NOb X.w a ob' (storeN xs k b va) → Q (upd H a (HObj a ob'))) := by
  rintro pins s σ H o i v ov iv u Q I ro ri rv ⟨a, ob, xs, k, b, va, rfl, rfl, rfl, ea, n, ks, kb, hl, q⟩
  obtain rfl : ov = Value.ref a := ro
  obtain rfl : iv = Value.ref b := ri
  obtain rfl : u = Value.ref va := rv
  have D := nob_dict I.hok ea n ks
  have hz : (toH xs).length ≤ sizeLine := by unfold toH; rw [List.length_map]; exact Nat.le_trans (Nat.le_of_lt hl) (by decide)
  refine wpAny_setItem_heap (hsz := hz) (show X.A.in1.units + 8 < cLine by simp only [Around.in1_units]; omega) (key_nk I.hok kb) D fun h' D' sb => ?_
  rw [← toH_store] at D'
  obtain ⟨ob', g', n'⟩ := dict_nob n.2.1 (by have := store_len xs k b va; omega) D'
  exact ⟨_, d_write I (by rw [ea]; exact True.intro) sb ⟨ob', g'⟩ (hobj_ok g'), q ob' n'⟩
def tDNewN (w : World) : TE := fun _ H Q => ∀ p ob, H p = none → NOb w p ob [] → Q (.ref p) (upd H p (HObj p ob))
theorem pe_dnewN : PE X (.Dict [] [] pos) (tDNewN X.w) := ⟨fun pins s σ H Q I h => by
  have g : (s.heap.push { cls := .type "dict", data := .dict #[] }).get? s.heap.objs.size = some { cls := .type "dict", data := .dict #[] } := Heap.get?_push_size _ rfl
  exact wpAny_Dict_empty ⟨.ref s.heap.objs.size, _, I.laid (a := s.heap.objs.size) (o := HObj s.heap.objs.size { cls := .type "dict", data := .dict #[] }) (t' := s.toks) (fun _ _ q => Heap.get?_push_of_some _ q) (Nat.le_refl _) (hobj_ok g), rfl, h _ _ (I.hok.fresh (Nat.le_refl _)) ⟨⟨rfl, rfl, rfl⟩, beq_eq_false_iff_ne.mpr (Ne.symm (Nat.ne_of_lt I.big)), Nat.zero_le _, List.nodup_nil, #[], 0, rfl, rfl⟩⟩⟩
end
end DL
/-! text LK10 -/
/-! LK10: dicts whose keys are pairs of tuples: walked, sorted, displayed; dicts locked for good. -/
namespace DL
open PySem PySem.Spec L2 PySem.W PySem.Calls
open PyProof.Rows hiding St
/-- the keys of such a dict, in their order -/
def ItkN (a : Addr) (ob : Obj) (xs : List (NK × Addr × Addr)) : It :=
  ⟨fun i H => H a = some (HObj a ob) ∧ i < xs.length, fun i H x H' => H' = H ∧ ∃ y, xs[i]? = some y ∧ x = V.ref y.2.1, fun i H => H a = some (HObj a ob) ∧ xs.length ≤ i⟩
theorem turn_keysN {P : Program} {w : World} {K : PySem.W.Frag} {tg : Expr} {a : Addr} {ob : Obj} {xs : List (NK × Addr × Addr)} {es : Array DictEntry} {ep : Nat} (it : Addr) (hod : ob.data = .dict es ep) (he : es.toList = xs.map fun x => ⟨(nkey x.1).hash w, .ref x.2.1, .ref x.2.2⟩) :
    Turn P w K tg (ItkN a ob xs) [it] it (fun i h => h.IsKeyIter it a i xs.length ep) where
  mem := List.mem_cons_self ..
  obj i h st b hb := by
    obtain rfl := List.mem_singleton.mp hb
    obtain ⟨oi, e, c, dd⟩ := st
    exact ⟨oi, e, fun v z => by rw [dd] at z; cases  z⟩
  keep i h h' st k := st.at fun oi e => k it (List.mem_cons_self ..) oi e
  item := by
    intro X hP hw hK hc i pins s σ H E I hf st  hg
    obtain ⟨hd, hi⟩ := hg
    obtain ⟨f0, f1, f2, f3, f4, f5⟩ := hf it (List.mem_cons_self ..)
    have hx : xs[i]? = some xs[i] := List.getElem?_eq_getElem hi
    have hen : es[i]? = some ⟨(nkey (xs[i]).1).hash w, .ref (xs[i]).2.1, .ref (xs[i]).2.2⟩ := by
      rw [← Array.getElem?_toList, he, List.getElem?_map, hx]; rfl
    have hsz : es.size = xs.length := by
      have := congrArg List.length he
      simpa using this
    refine next_key_item st (hobj_at I.hok hd) hod hsz hen fun h' st' sb => ?_
    obtain ⟨oi, e, c, dd⟩ := id  st'
    have I1 : Inv X pins σ H { s with heap := h' } := I.turned (t' := s.toks) (fun b ob' hb q => (sb.2 b hb).trans q) f0 f1 f3 f4 f5
    exact ⟨_, rfl, go_of (s := { s with heap := h' }) e c dd (by decide) ⟨.ref (xs[i]).2.1, H, I1, rfl, ⟨rfl, xs[i], hx, rfl⟩, st', fun b hb => (hf b hb).1⟩⟩
  done := by
    intro X hP hw hK hc i pins s σ H E I hf st  hg
    obtain ⟨hd, hi⟩ := hg
    obtain ⟨f0, f1, f2, f3, f4, f5⟩ := hf it (List.mem_cons_self ..)
    have hsz : es.size = xs.length := by
      have := congrArg List.length he
      simpa using this
    exact next_key_end (I.ok.hd hc) st (hobj_at I.hok hd) hod hsz hi fun h' eb => ⟨rfl, I.turned (t' := s.toks) (fun b o nb q => eb b o nb q) f0 f1 f3 f4 f5⟩
  self A i s Q E st h := wpAny_pyIter_keyiter st h
theorem nob_raw {P : Program} {w : World} {H : Hp} {h : Heap} {a : Addr} {ob : Obj} {xs : List (NK × Addr × Addr)} (ok : HOk P w H h) (e : H a = some (HObj a ob)) (n : NOb w a ob xs) : ∃ es ep, h.DictRaw a es ep ∧ es.size = xs.length ∧ ob.data = .dict es ep ∧ es.toList = xs.map fun x => ⟨(nkey x.1).hash w, .ref x.2.1, .ref x.2.2⟩ := by
  obtain ⟨ex, _, _, _, es, ep, hd, he⟩ := n
  refine ⟨es, ep, ⟨ob, hobj_at ok e, ex, hd⟩, ?_, hd, he⟩
  have := congrArg List.length he
  simpa using this
section
variable {X : Cx} {tg e o : Expr} {td : TE} {ap cp p pos apos mpos : Pos}
def iKeysN (w : World) (td : TE) : TI := fun σ H R => td σ H fun x H1 => ∃ a ob xs, x = V.ref a ∧ H1 a = some (HObj a ob) ∧ NOb w a ob xs ∧ R (ItkN a ob xs) H1
theorem pi_keysN (pe : PE X e td) (hb : attributeBase e "keys" X.env (eval e X.env) = eval e X.env := by rfl) (hl : (ap.endLine == cp.line) = true := by rfl) : PI X tg (.Call (.Attribute e "keys" ap) [] [] cp) (iKeysN X.w td) where
  run pins s σ H R J0 hw := by
    refine wpAny_Call_method (T := "dict") (id := "dict.keys") hb rfl hl F.plainAttrs_dict F.slot_dict_keys F.type_dict_keys (thn (pe.run pins s σ H _ J0 hw) fun u s1 hu => ?_)
    obtain ⟨x, H1, J1, rx, a, ob, xs, ex, hd, n, hR⟩ := hu
    rw [ex] at rx
    have eu : u = Value.ref a := rx
    rw [eu]
    obtain ⟨es, ep, raw, hlen, hdat, he⟩ := nob_raw J1.hok hd n
    refine ⟨raw.typeIs, fun b eb => by cases eb; exact ⟨ob, hobj_at J1.hok hd, n.1.2.1⟩, ?_⟩
    have J2 : Inv X pins σ H1 { s1 with heap := s1.heap.push { cls := .type "dict_keys", data := .fields #[.ref a] } } := J1.kept (t' := s1.toks) fun b o q => Heap.get?_push_of_some _ q
    have walk : wpAny (model X.prog X.w) X.A (pyIter (.ref s1.heap.objs.size)) (PIE X pins σ tg R) X.xe { s1 with heap := s1.heap.push { cls := .type "dict_keys", data := .fields #[.ref a] } } := by
      refine PySem.wpAny_pyIter_keys_raw (s := { s1 with heap := s1.heap.push { cls := .type "dict_keys", data := .fields #[.ref a] } }) (d := a) (es := es) (ep := ep) ⟨_, Heap.get?_push_size _ rfl, rfl, rfl⟩ (raw.at fun o q => Heap.get?_push_of_some _ q) (pi_one (tk := s1.toks) J2 _ (turn_keysN (xs := xs) _ hdat he) ⟨_, Heap.get?_push_size _ rfl, rfl, ?_⟩ hR)
      rw [← hlen]; rfl
    show wpAny _ _ (callWith cp (.builtin "dict.keys") [.ref a] [] []) _ X.xe s1
    exact method_meetsIn F.slot_dict_keys F.entry_dict_keys rfl (PySem.evalArgs_none ⟨rfl, raw.typeIs, F.args_dict_keys_1 _, _, PySem.meets_dict_keys_raw a n.2.1, ⟨es, ep, raw⟩, walk⟩)
/-! ### sorted -/
def encN (b : NK × Addr) : PyData := .tuple [.tuple (b.1.1.map .int), .tuple (b.1.2.map .int)]
theorem encN_depth (b : NK × Addr) : (encN b).depth = 2 := by
  unfold encN
  simp only [PyData.depth, PyData.depthAll, PySem.W.depth_ints]; rfl
theorem reads_ints {h : Heap} : ∀ {vs : List Value} {ns : List Int}, Vals (ns.map V.int) vs → ReadsAll h vs (ns.map PyData.int) []
  | _, [], .nil => .nil
  | _, n :: ns, .cons r t => by
    obtain ⟨t', rfl⟩ := r
    exact .cons (as := []) (bs := []) (.int n t') (reads_ints t)
theorem reads_key {P : Program} {w : World} {H : Hp} {h : Heap} {a : Addr} {k : NK} (ok : HOk P w H h) (x : KeyAt H k a) : Reads h (.ref a) (encN (k, a)) [] := by
  obtain ⟨p, q, e1, e2, e3⟩ := x
  obtain ⟨i1, o1, n1, r1, g1, c1, d1⟩ := tup_at ok e1
  obtain ⟨i2, o2, n2, r2, g2, c2, d2⟩ := tup_at ok e2
  obtain ⟨i3, o3, n3, r3, g3, c3, d3⟩ := tup_at ok e3
  refine .tuple g1 c1 d1 ?_
  cases r1 with
  | cons ra t =>
    cases t with
    | cons rb t =>
      cases t
      cases ra; cases rb
      exact .cons (as := []) (bs := []) (.tuple g2 c2 d2 (by simpa using reads_ints r2)) (.cons (as := []) (bs := []) (.tuple g3 c3 d3 (by simpa using reads_ints r3)) .nil)
theorem encN_alike (b c : NK × Addr) : alike (encN b) (encN c) = true := by
  unfold encN
  simp only [alike, alikeAll, PySem.W.alike_ints, Bool.and_true]
theorem each_refs {vs : List Value} {bs : List (NK × Addr)} (h : EachIs (fun v b => v = Value.ref b.2) vs bs) : vs = bs.map fun b => Value.ref b.2 := by
  induction h with
  | nil => rfl
  | cons r _ ih => rw [List.map_cons, r, ih]
theorem each_of_refs {R : Value → NK × Addr → Prop} : ∀ {bs : List (NK × Addr)}, (∀ b ∈ bs, R (.ref b.2) b) → EachIs R (bs.map fun b => Value.ref b.2) bs
  | [], _ => .nil
  | b :: bs, h => .cons (h b (List.mem_cons_self ..)) (each_of_refs fun c hc => h c (List.mem_cons_of_mem _ hc))
theorem vals_refs : ∀ as : List Addr, Vals (as.map V.ref) (as.map  Value.ref)
  | [] => .nil
  | a :: as => .cons rfl (vals_refs as)
def tSortN (w : World) (td : TE) : TE := fun σ H Q => td σ H fun x H1 => ∃ a ob xs, x = V.ref a ∧ H1 a = some (HObj a ob) ∧ NOb w a ob xs ∧ KeysAt H1 xs ∧ ∀ (vs : List Addr) (p : Addr), vs.Perm (xs.map (·.2.1)) → H1 p = none → Q (.ref p) (upd H1 p (.lst (vs.map V.ref)))
theorem pe_sortN (hc : X.calm = true) (hu : X.A.units + 10 < cLine) (hg : Gl X "sorted") (hm : X.mg "sorted" = none) (hd : PE X o td) (ba : attributeBase o "keys" X.env (eval o X.env) = eval o X.env) (li : (apos.endLine == mpos.line) = true)
    (st : starEach [Expr.Call (.Attribute o "keys" apos) [] [] mpos] X.env = [(false, eval (Expr.Call (.Attribute o "keys" apos) [] [] mpos) X.env)]) : PE X (.Call (.Name "sorted" p) [.Call (.Attribute o "keys" apos) [] [] mpos] [] pos) (tSortN X.w td) where
  run pins s0 σ H Q inv0 h := by
    refine wpAny_Call_Name_kw (ld_blt inv0 hg hm (u := .builtin "sorted") (by decide +kernel) ?_ (by decide) (by decide))
    have part := hd.run pins s0 σ H _ inv0 h
    rw [st]
    refine PySem.callWith_builtin1 (wpAny_Call_method0_late ba li (wpAny_mono part (fun u s hu => ?_) fun _ _ e => e))
    obtain ⟨x, H1, inv, rx, a, ob, xs, ex, ea, n, ks, q⟩ := hu
    rw [ex] at rx
    have eu : u = Value.ref a := rx
    rw [eu]
    obtain ⟨es, ep, raw, hlen, hdat, he⟩ := nob_raw inv.hok ea n
    refine ⟨"dict", "dict.keys", F.plainAttrs_dict, F.slot_dict_keys, F.type_dict_keys, raw.typeIs, fun b eb => by cases eb; exact ⟨ob, hobj_at inv.hok ea, n.1.2.1⟩, Calls.callWith_builtin rfl (PySem.evalArgs_none ?_)⟩
    refine call_meetsIn F.slot_dict_keys raw.typeIs F.entry_dict_keys (F.args_dict_keys_1 _) (PySem.meets_dict_keys_raw a n.2.1) ⟨⟨es, ep, raw⟩, ?_⟩
    have push : ∀ b u, s.heap.get? b = some u → (s.heap.push { cls := .type "dict_keys", data := .fields #[.ref a] }).get? b = some u := fun _ _ e => Heap.get?_push_of_some _ e
    have zv : es.size ≤ sizeLine := by rw [hlen]; exact Nat.le_trans n.2.2.1 (by decide)
    have view : KdlKeysView (s.heap.push { cls := .type "dict_keys", data := .fields #[.ref a] }) s.heap.objs.size a := ⟨_, Heap.get?_push_size _ rfl, rfl, rfl⟩
    refine call_function_entry kind_sorted plain_sorted entry_sorted (args_sorted1 _) (?_ : wpAny _ _ (Builtin.«sorted» _) _ _ _)
    unfold Builtin.«sorted»
    refine wpAny_bind (m := checkCount "sorted" 1 1 _) (wpAny_pure (wpAny_bind (kdu_collect (KdlSrc.rawKeys (prog := X.prog) (w := X.w) (r := s.heap.objs.size) (d := a) (es := es) (ep := ep)) (inv.ok.hd hc) ⟨view, raw.at fun o q => push _ _ q⟩ zv fun h' tk acc keep items => ?_)))
    have old : ∀ b u, s.heap.get? b = some u → h'.get? b = some u := fun b u e => keep b u (push b u e)
    have top : s.heap.objs.size < h'.objs.size := by
      obtain ⟨ov, hov, _⟩ := view
      exact Heap.lt_size (keep _ _ hov)
    let bs : List (NK × Addr) := xs.map fun x => (x.1, x.2.1)
    have eb : acc.toList = bs.map fun b => Value.ref b.2 := by
      apply List.ext_getElem?
      intro j
      show _ = ((xs.map fun x => (x.1, x.2.1)).map fun b : NK × Addr => Value.ref b.2)[j]?
      rw [List.map_map, List.getElem?_map]
      have la : acc.toList.length = xs.length := by have := items.1; simp at this ⊢; omega
      by_cases hj : j < xs.length
      · have hja : j < acc.toList.length := by  omega
        rw [List.getElem?_eq_getElem hja, List.getElem?_eq_getElem hj]
        obtain ⟨hi, ev⟩ := items.2 j _ (by rw [← Array.getElem?_toList]; exact List.getElem?_eq_getElem hja)
        have hen : es.toList[j]? = some ⟨(nkey (xs[j]).1).hash X.w, .ref (xs[j]).2.1, .ref (xs[j]).2.2⟩ := by
          rw [he, List.getElem?_map, List.getElem?_eq_getElem hj]; rfl
        rw [ev]
        have : es[j] = ⟨(nkey (xs[j]).1).hash X.w, .ref (xs[j]).2.1, .ref (xs[j]).2.2⟩ := by
          rw [Array.getElem?_toList, Array.getElem?_eq_getElem hi] at hen
          exact Option.some.inj hen
        rw [this]
        rfl
      · rw [List.getElem?_eq_none (by omega), List.getElem?_eq_none (by omega)]; rfl
    have lz : acc.toList.length ≤ sizeLine := by
      rw [eb, List.length_map]; show (xs.map _).length ≤ _
      rw [List.length_map]; exact Nat.le_trans n.2.2.1 (by decide)
    refine wpAny_bind (wpAny_newList (wpAny_bind (wpAny_holding ?_)) lz)
    have new : (h'.push { cls := .type "list", data := .seq acc.toList.toArray }).get? h'.objs.size = some { cls := .type "list", data := .seq acc.toList.toArray } := Heap.get?_push_size _ rfl
    have hk' : ∀ x ∈ xs, Reads (h'.push { cls := .type "list", data := .seq acc.toList.toArray }) (.ref x.2.1) (encN (x.1, x.2.1)) [] := fun x hx => PyProof.Rows.Reads.keeps (fun b u e => Heap.get?_push_of_some _ (old b u e)) (reads_key inv.hok (ks x hx))
    have hbs : ∀ b ∈ bs, Reads (h'.push { cls := .type "list", data := .seq acc.toList.toArray }) (.ref b.2) (encN b) [] := fun b hb => by
      obtain ⟨x, hx, e⟩ := List.mem_map.mp hb
      subst e
      exact hk' x hx
    rw [eb] at new hbs ⊢
    have lb : bs.length ≤ sizeLine := by show (xs.map _).length ≤ _; rw [List.length_map]; exact Nat.le_trans n.2.2.1 (by decide)
    refine list_sort_data (n := 0) (enc := encN) (bs := bs) (R := fun v b => v = Value.ref b.2) new (each_of_refs fun b _ => rfl) (each_of_refs fun b hb => ⟨[], hbs b hb, by simp⟩) (AllAlike.of encN_alike) (Sortable.tuples fun b => ⟨_, _, rfl⟩) lb (fun b _ => ?_) fun out ol oe => ?_
    · rw [encN_depth]
      simp only [Around.in1_units]; omega
    · refine wpAny_pure ⟨_, rfl, ?_⟩
      have eo := each_refs oe
      obtain ⟨ep', there⟩ := PyProof.Rows.sortedHeap_at (out := out.toArray) new
      have pm := List.mergeSort_perm bs (dataLe false encN)
      have po : ((bs.mergeSort (dataLe false encN)).map (·.2)).Perm (xs.map (·.2.1)) := by
        have := pm.map (·.2)
        rw [show bs.map (·.2) = xs.map (·.2.1) from by show (xs.map _).map _ = _; rw [List.map_map]; rfl] at this
        exact this
      have vo : Vals (((bs.mergeSort (dataLe false encN)).map (·.2)).map V.ref) out := by
        rw [eo, show (bs.mergeSort (dataLe false encN)).map (fun b => Value.ref b.2) = ((bs.mergeSort (dataLe false encN)).map (·.2)).map Value.ref by rw [List.map_map]; rfl]
        exact vals_refs _
      have lo : (((bs.mergeSort (dataLe false encN)).map (·.2)).map V.ref).length ≤ sizeLine := by
        rw [List.length_map, po.length_eq, List.length_map]; exact Nat.le_trans n.2.2.1 (by decide)
      refine ⟨.ref h'.objs.size, upd H1 h'.objs.size (.lst _), inv.laid (t' := tk) (fun b u hu => ?_) (Nat.le_of_lt top) ⟨lo, out, ep', vo, there⟩, rfl, q _ _ po (inv.hok.fresh (Nat.le_of_lt top))⟩
      have lt := Heap.lt_size (old b u hu)
      rw [PyProof.Rows.sortedHeap_old (Nat.ne_of_lt lt) (Nat.lt_of_lt_of_le lt (by rw [Heap.size_push]; exact Nat.le_succ _))]
      exact Heap.get?_push_of_some _ (old b u hu)
/-! ### locked for good -/
def tLk (t : TE) : TE := fun σ H Q => t σ H fun x H1 => ∃ d kvs, x = V.ref d ∧ H1 d = some (.dK kvs) ∧ ∀ ob, Q x (upd H1 d (.frz ob (.dK kvs)))
theorem pe_lk (h : PE X e td) : PE X e (tLk td) := ⟨fun pins s σ H Q I hw => thn (h.run pins s σ H _ I hw) fun u s1 ⟨x, H1, I1, r, d, kvs, ex, hd, q⟩ => by
  obtain ⟨ob, I2⟩ := I1.lock hd trivial
  exact ⟨x, _, I2, r, q ob⟩⟩
/-! ### a display with one pair -/
def tDispN (w : World) (tk tv : TE) : TE := fun σ H Q => ∀ p ob, H p = none → NOb w p ob [] → tPairs [(tk, tv)] σ (upd H p (HObj p ob)) fun ps H2 => ∃ b k v, ps = [(V.ref b, V.ref v)] ∧ H2 p = some (HObj p ob) ∧ KeyAt H2 k b ∧ ∀ ob', NOb w p ob' [(k, b, v)] → Q (.ref p) (upd H2 p (HObj p ob'))
theorem pe_dispN {k v : Expr} {tk tv : TE} (hu : X.A.units + 10 < cLine) (hk : PE X k tk) (hv : PE X v tv) : PE X (.Dict [some k] [v] pos) (tDispN X.w tk tv) where
  run pins s σ H Q I q := by
    have free := I.hok.fresh (Nat.le_refl s.heap.objs.size)
    have g : (s.heap.push { cls := .type "dict", data := .dict #[] }).get? s.heap.objs.size = some { cls := .type "dict", data := .dict #[] } := Heap.get?_push_size _ rfl
    have I1 := I.laid (a := s.heap.objs.size) (o := HObj s.heap.objs.size { cls := .type "dict", data := .dict #[] }) (h' := s.heap.push { cls := .type "dict", data := .dict #[] }) (t' := s.toks) (fun b ob e => Heap.get?_push_of_some _ e) (Nat.le_refl _) (hobj_ok g)
    have n0 : NOb X.w s.heap.objs.size { cls := .type "dict", data := .dict #[] } [] := ⟨⟨rfl, rfl, rfl⟩, beq_eq_false_iff_ne.mpr (Ne.symm (Nat.ne_of_lt I.big)), Nat.zero_le _, List.nodup_nil, #[], 0, rfl, rfl⟩
    rw [arm_eval_Dict, zip_pairTrees [some k] [v] X.env pos rfl rfl, dictDisplay_pairs _ (by simp [pairTrees]) (by simp [pairTrees])]
    refine wpAny_bind (wpAny_standAt (wpAny_bind (wpAny_subDictH (knd := nestedKind X.prog X.w) (show X.A.units + 8 < cLine by omega) (by simp [pairTrees]) ?_)))
    refine thn ((pps_cons hk hv pps_nil).run pins _ σ _ _ I1 (q _ _ free n0)) fun ws s2 hws => ?_
    obtain ⟨ps, H2, I2, rel, b, kk, va, ep, e0, kb, q2⟩ := hws
    subst ep
    cases rel with
    | @cons _ w0 _ _ r t =>
      cases t
      obtain ⟨w1, w2⟩ := w0
      obtain ⟨r1, r2⟩ := r
      have e1 : w1 = Value.ref b := r1
      have e2 : w2 = Value.ref va := r2
      subst e1 e2
      have dd0 := nob_dict I2.hok e0 n0 (fun _ h => by cases h)
      refine ⟨[(nkey kk, b, .ref va)], ⟨rfl, rfl, key_nk I2.hok kb, trivial⟩, dd0, fun h' tk' dd' sb => wpAny_pure ?_⟩
      obtain ⟨ob', g', n'⟩ := dict_nob (xs := [(kk, b, va)]) n0.2.1 (by simp) (show h'.DictOfH (nestedKind X.prog X.w) s.heap.objs.size (toH [(kk, b, va)]) from dd')
      exact ⟨V.ref s.heap.objs.size, _, d_write (t' := tk') I2 (by rw [e0]; exact True.intro) sb ⟨ob', g'⟩ (hobj_ok g'), rfl, q2 ob' n'⟩
end
end DL
/-! text DL15 -/
/-! DL15: dicts whose keys are pairs of tuples, in data; hidden containers by hand. -/
namespace DL
open PySem PySem.Spec L2
open PyProof.Rows hiding St
def keyD (k : NK) : D := .tup [.tup (k.1.map D.int), .tup (k.2.map D.int)]
theorem XOk.w' {C : Cfg} {X : Cx} (hX : XOk C X) : X.w = C.w := hX.w.symm
theorem key_dv {r : Option Addr} {G : Hp} {k : NK} {a : Addr} (h : KeyAt G k a) : DV r G (.ref a) (keyD k) := by
  obtain ⟨p, q, e1, e2, e3⟩ := h
  exact .tup e1 (.cons (.tup e2 (.of_ints _)) (.cons (.tup e3 (.of_ints _)) .nil))
theorem dv_key {r : Option Addr} {G : Hp} {k : NK} {v : V} (h : DV r G v (keyD k)) : ∃ a, v = .ref a ∧ KeyAt G k a := by
  cases h with
  | @tup a vs _ e t =>
    cases t with
    | cons h1 t =>
      cases t with
      | cons h2 t =>
        cases t
        cases h1 with
        | @tup p _ _ e1 t1 =>
          cases h2 with
          | @tup q _ _ e2 t2 => exact ⟨a, rfl, p, q, e, by rw [e1, t1.ints], by rw [e2, t2.ints]⟩
theorem KeyAt.mono {G G' : Hp} {k : NK} {a : Addr} (h : KeyAt G k a) (s : ∀ b vs, G b = some (.tup vs) → G' b = some (.tup vs)) : KeyAt G' k a := by
  obtain ⟨p, q, e1, e2, e3⟩ := h
  exact ⟨p, q, s _ _ e1, s _ _ e2, s _ _ e3⟩
theorem KeysAt.mono {G G' : Hp} {xs : List (NK × Addr × Addr)} (h : KeysAt G xs) (s : ∀ b vs, G b = some (.tup vs) → G' b = some (.tup vs)) : KeysAt G' xs := fun x hx => (h x hx).mono s
theorem hid_tup {H : Hp} {Y : Addr → Bool} {b : Addr} {vs : List V} (h : hid H Y b = some (.tup vs)) : H b = some (.tup vs) := (hid_some h).2
theorem look_dv {r : Option Addr} {G : Hp} (k : NK) : ∀ {xs : List (NK × Addr × Addr)} {ds : List (NK × D)}, xs.map (·.1) = ds.map (·.1) → DVs r G (xs.map fun x => V.ref x.2.2) (ds.map (·.2)) → ∀ d, valD ds k = some d → ∃ v, lookN xs k = some v ∧ DV r G (.ref v) d
  | [], [], _, _, d, h => by cases h
  | [], _ :: _, h, _, _, _ => by cases h
  | _ :: _, [], h, _, _, _ => by cases h
  | x :: xs, (b, d) :: ds, h, t, z, hz => by
    simp only [List.map_cons, List.cons.injEq] at  h
    obtain ⟨h1, h2⟩ := h
    cases t with
    | cons y t =>
      by_cases e : b = k
      · have e1 : valD ((b, d) :: ds) k = some d := by simp [valD, e]
        rw [e1] at hz; cases hz
        exact ⟨x.2.2, by simp [lookN, h1, e], y⟩
      · have e1 : valD ((b, d) :: ds) k = valD ds k := by simp [valD, List.find?_cons, e]
        have e2 : lookN (x :: xs) k = lookN xs k := by simp [lookN, List.find?_cons, h1, e]
        rw [e1] at hz
        rw [e2]
        exact look_dv k h2 t z hz
section
variable {C : Cfg} {ρ : DEnv} {P : Post} {tg e k v : Expr} {pos ap p mpos : Pos} {ds : List (NK × D)} {key : NK} {z : D}
theorem room10 {X : Cx} (hX : XOk C X) : X.A.units + 10 < cLine := by have := hX.room.units; omega
/-- d[k] -/
theorem ev_getN (he : EvD C e ρ (.dN C.w ds)) (hk : EvD C k ρ (keyD key)) (hz : valD ds key = some z) (hs : NoSl k := by intro _ _; rfl) : EvD C (.Subscript e k pos) ρ z := fun X hX B Z Y σ H R Q hQ => by
  refine WE.of (pe_getN (room10 hX) pe_we pe_we hs) (he X hX B Z Y σ H R _ fun v x H1 px x1 dv => ?_)
  subst px
  refine hk X hX B Z Y σ H1 (R.ext x1) _ fun u y H2 py x2 du => ?_
  subst py
  have dv' := dv.mono ((R.ext x1).sub x2)
  obtain ⟨b, rfl, kb⟩ := dv_key du
  cases dv' with
  | @dN _ a ob xs _ ea n ke ks t =>
    obtain ⟨va, hl, dz⟩ := look_dv key ke t z hz
    refine ⟨a, ob, xs, key, b, va, rfl, rfl, (hid_some ea).2, by rw [hX.w']; exact n, KeysAt.mono ks fun _ _ => hid_tup, kb.mono fun _ _ => hid_tup, hl, hQ _ z H2 rfl (x1.trans x2) dz⟩
/-- d.keys(), walked -/
theorem ei_keysN (he : EvD C e ρ (.dN C.w ds)) (m : KeysM e ap pos) : EvI C tg (.Call (.Attribute e "keys" ap) [] [] pos) ρ (ds.map fun p => keyD p.1) := fun X hX B Z Y σ H R RR hR => by
  refine WI.of (pi_keysN pe_we (m.base _) m.line) (he X hX B Z Y σ H R _ fun v d H1 hd x1 dv => ?_)
  subst hd
  cases dv with
  | @dN _ a ob xs _ ea n ke ks t =>
    have hl : xs.length = ds.length := by have := congrArg List.length ke; simpa using this
    refine ⟨a, ob, xs, rfl, (hid_some ea).2, by rw [hX.w']; exact n, hR _ H1 x1 ⟨fun i d Y' H' hi y hs => ?_, fun i Y' H' hi y hs => ⟨(hid_some (hs _ _ ea)).2, by rw [hl]; simpa using hi⟩⟩⟩
    have hil : i < ds.length := by simpa using (List.getElem?_eq_some_iff.mp hi).1
    rw [List.getElem?_map, List.getElem?_eq_getElem hil] at hi
    cases hi
    refine ⟨⟨(hid_some (hs _ _ ea)).2, by omega⟩, fun x H'' hy => ?_⟩
    obtain ⟨rfl, y', hy', rfl⟩ := hy
    refine ⟨Ext.refl C H'', ?_⟩
    have e1 := congrArg (fun l => l[i]?) ke
    simp only [List.getElem?_map, hy', List.getElem?_eq_getElem hil, Option.map_some, Option.some.injEq] at e1
    show DV C.r (hid H'' Y') (V.ref y'.2.1) (keyD (ds[i]).1)
    rw [← e1]
    exact key_dv ((ks y' (List.mem_of_getElem? hy')).mono fun b vs q => hs _ _ q)
theorem perm_back {α β : Type} [DecidableEq β] (f : α → β) : ∀ {vs : List β} {xs : List α}, vs.Perm (xs.map f) → ∃ ys : List α, ys.Perm xs ∧ vs = ys.map f
  | [], xs, h => by
    cases xs with
    | nil => exact ⟨[], .refl _, rfl⟩
    | cons _ _ => have := h.length_eq; simp at this
  | v :: vs, xs, h => by
    obtain ⟨x, hx, e⟩ := List.mem_map.mp (h.mem_iff.mp (List.mem_cons_self ..))
    obtain ⟨s, t, rfl⟩ := List.append_of_mem hx
    have h2 : (v :: vs).Perm (v :: (s ++ t).map f) := by
      refine h.trans ?_
      rw [List.map_append, List.map_cons, List.map_append, e]
      exact List.perm_middle
    obtain ⟨ys, hy, hv⟩ := perm_back f h2.cons_inv
    exact ⟨x :: ys, (hy.cons x).trans List.perm_middle.symm, by rw [List.map_cons, e, hv]⟩
/-- sorted(d.keys()) -/
theorem eo_sortedN (he : EvD C e ρ (.dN C.w ds)) (hm : C.mg "sorted" = none) (hg : GlC C "sorted" := by rfl) (ba : ∀ env, attributeBase e "keys" env (eval e env) = eval e env := by intro _; rfl) (li : (ap.endLine == mpos.line) = true := by decide +kernel)
    (st : ∀ env, starEach [Expr.Call (.Attribute e "keys" ap) [] [] mpos] env = [(false, eval (Expr.Call (.Attribute e "keys" ap) [] [] mpos) env)] := by intro _; rfl) : EvO C (.Call (.Name "sorted" p) [.Call (.Attribute e "keys" ap) [] [] mpos] [] pos) ρ (fun d => ∃ us : List NK, us.Perm (ds.map (·.1)) ∧ d = .lst (us.map keyD)) := fun X hX B Z Y σ H R Q hQ => by
  refine WE.of (pe_sortN hX.calm (room10 hX) (hX.gl hg) (by rw [← hX.mg]; exact hm) pe_we (ba _) li (st _)) (he X hX B Z Y σ H R _ fun v d H1 hd x1 dv => ?_)
  subst hd
  have R1 := R.ext x1
  cases dv with
  | @dN _ a ob xs _ ea n ke ks t =>
    refine ⟨a, ob, xs, rfl, (hid_some ea).2, by rw [hX.w']; exact n, KeysAt.mono ks fun _ _ => hid_tup, fun vs q pm hq => ?_⟩
    obtain ⟨ys, py, rfl⟩ := perm_back (fun x : NK × Addr × Addr => x.2.1) pm
    refine hQ q _ _ ⟨ys.map (·.1), by rw [← ke]; exact py.map _, rfl⟩ (x1.fresh hq (R1.freshR hq)) (x1.trans (Ext.new hq)) (R1.y.newLst hq ?_)
    have all : ∀ y ∈ ys, KeyAt (hid H1 Y) y.1 y.2.1 := fun y hy => ks y (py.mem_iff.mp hy)
    clear pm py
    induction ys with
    | nil => exact .nil
    | cons y ys ih => exact .cons (key_dv (all y (List.mem_cons_self ..))) (ih fun z hz => all z (List.mem_cons_of_mem _ hz))
/-- d.items(), d locked for good -/
theorem ei_itemsL {elts : List Expr} {kk : Nat} {tpos : Pos} {is : List (Int × D)} (he : EvD C e ρ (.dL is)) (hb : ∀ env, attributeBase e "items" env (eval e env) = eval e env := by intro _; rfl) (hl : (ap.endLine == pos.line) = true := by decide +kernel) : EvI C (.Tuple elts kk tpos) (.Call (.Attribute e "items" ap) [] [] pos) ρ (is.map fun p => D.tup [.int p.1, p.2]) := fun X hX B Z Y σ H R RR hR => by
  refine WI.of (pi_items pe_we (hb _) hl) (he X hX B Z Y σ H R _ fun v d H1 hd x1 dv => ?_)
  subst hd
  cases dv with
  | @dL a ob kvs _ ea hk t =>
    have hlen := keys_len hk
    refine ⟨a, ob, kvs, rfl, (hid_some ea).2, hR _ H1 x1 ⟨fun i d Y' H' hi y hs => ?_, fun i Y' H' hi y hs => ⟨(hid_some (hs _ _ ea)).2, by rw [hlen]; simpa using hi⟩⟩⟩
    have hil : i < is.length := by simpa using (List.getElem?_eq_some_iff.mp hi).1
    rw [List.getElem?_map, List.getElem?_eq_getElem hil] at hi
    cases hi
    refine ⟨⟨(hid_some (hs _ _ ea)).2, by omega⟩, fun x H'' hy => ?_⟩
    obtain ⟨T, k, w, hkw, rfl, nT, rfl⟩ := hy
    have e1 := congrArg (fun l => l[i]?) hk
    simp only [List.getElem?_map, hkw, List.getElem?_eq_getElem hil, Option.map_some, Option.some.injEq] at e1
    obtain ⟨w', h1, h2⟩ := (t.mono hs).get (i := i) (d := (is[i]).2) (by rw [List.getElem?_map, List.getElem?_eq_getElem hil]; rfl)
    rw [List.getElem?_map, hkw] at h1
    cases h1
    rw [e1]
    exact ⟨Ext.new nT, y.newTup nT (.cons (.int _) (.cons h2 .nil))⟩
/-- {k: v}, an int key, locked for good -/
theorem ev_dispL {n : Int} (hk : EvD C k ρ (.int n)) (hv : EvD C v ρ z) : EvD C (.Dict [some k] [v] pos) ρ (.dL [(n, z)]) := fun X hX B Z Y σ H R Q hQ => by
  refine WE.of (pe_lk (pe_disp (pps_cons pe_we pe_we pps_nil) rfl rfl (by simp) (by simp))) fun a ha => ?_
  obtain ⟨R1, hB, hZ⟩ := R.pend (Ext.new (o := .dK []) ha) ha upd_same rfl
  have na : some a ≠ C.r := R.notRow hZ
  refine hk X hX B _ _ σ _ R1 _ fun x d H1 hd x1 dx => ?_
  subst hd
  refine hv X hX B _ _ σ H1 (R1.ext x1) _ fun y d H2 hd x2 dy => ?_
  subst hd
  cases dx
  have ep : H2 a = some (.dK []) := (x1.trans x2).1 a _ na upd_same
  refine ⟨ep, [(Sum.inl n, y)], rfl, by simp, a, [(Sum.inl n, y)], rfl, upd_same, fun ob => ?_⟩
  rw [upd_upd]
  have hs : Sub (hid H2 (hidY Y a)) (hid (upd H2 a (.frz ob (.dK [(Sum.inl n, y)]))) Y) := fun b o e => by
    obtain ⟨e1, e2⟩ := hid_some e
    have nb : b ≠ a := fun q => by rw [q, hidY_iff.mpr (.inr rfl)] at e1; cases e1
    refine hid_of ?_ (by rw [upd_ne nb]; exact e2)
    cases q : Y b with
    | false => rfl
    | true => rw [hidY_iff.mpr (.inl q)] at e1; cases e1
  refine hQ _ _ _ rfl ⟨fun b o nb eb => ?_, fun hrow b hb => ?_⟩ (.dL (hid_of (R.freshY ha) upd_same) rfl (.cons (dy.mono hs) .nil))
  · have nba : b ≠ a := ne_of_none eb ha
    rw [upd_ne nba]
    exact (x1.trans x2).1 b o nb (by rw [upd_ne nba]; exact eb)
  · have R3 := R1.ext (x1.trans x2)
    have nba : b ≠ a := fun q => na (by rw [hb, q])
    refine (R3.row b hb).keep (upd_ne nba) ?_
    rcases R.rowS b hb with q | q
    · exact .inr fun o _ e => by rw [upd_ne (fun z => by rw [z, hZ] at q; cases q)]; exact e
    · exact .inl q
/-- {k: v}, k a pair of tuples, v a dict -/
theorem ev_dispN {is : List (Int × D)} (hk : EvD C k ρ (keyD key)) (hv : EvD C v ρ (.dL is)) : EvD C (.Dict [some k] [v] pos) ρ (.dN C.w [(key, .dL is)]) := fun X hX B Z Y σ H R Q hQ => by
  refine WE.of (pe_dispN (room10 hX) pe_we pe_we) fun a ob0 ha n0 => ?_
  obtain ⟨R1, hB, hZ⟩ := R.pend (Ext.new (o := HObj a ob0) ha) ha upd_same rfl
  have na : some a ≠ C.r := R.notRow hZ
  refine hk X hX B _ _ σ _ R1 _ fun x d H1 hd x1 dx => ?_
  subst hd
  refine hv X hX B _ _ σ H1 (R1.ext x1) _ fun y d H2 hd x2 dy => ?_
  subst hd
  obtain ⟨b, rfl, kb⟩ := dv_key (dx.mono ((R1.ext x1).sub x2))
  have ep : H2 a = some (HObj a ob0) := (x1.trans x2).1 a _ na upd_same
  have hs : ∀ ob, Sub (hid H2 (hidY Y a)) (hid (upd H2 a (HObj a ob)) Y) := fun ob c o e => by
    obtain ⟨e1, e2⟩ := hid_some e
    have nb : c ≠ a := fun q => by rw [q, hidY_iff.mpr (.inr rfl)] at e1; cases e1
    refine hid_of ?_ (by rw [upd_ne nb]; exact e2)
    cases q : Y c with
    | false => rfl
    | true => rw [hidY_iff.mpr (.inl q)] at e1; cases e1
  cases id dy with
  | @dL va obv kvs _ ev hkk t =>
    refine ⟨b, key, va, rfl, ep, kb.mono fun _ _ => hid_tup, fun ob' n' => ?_⟩
    refine hQ _ _ _ rfl ⟨fun c o nc ec => ?_, fun hrow c hc => ?_⟩ (.dN (xs := [(key, b, va)]) (hid_of (R.freshY ha) upd_same) (by rw [← hX.w'] ; exact n') rfl (fun x hx => ?_) (.cons (dy.mono (hs ob')) .nil))
    · have nca : c ≠ a := ne_of_none ec ha
      rw [upd_ne nca]
      exact (x1.trans x2).1 c o nc (by rw [upd_ne nca]; exact ec)
    · have R3 := R1.ext (x1.trans x2)
      have nca : c ≠ a := fun q => na (by rw [hc, q])
      refine (R3.row c hc).keep (upd_ne nca) ?_
      rcases R.rowS c hc with q | q
      · exact .inr fun o _ e => by rw [upd_ne (fun z => by rw [z, hZ] at q; cases q)]; exact e
      · exact .inl q
    · rw [List.mem_singleton.mp hx]
      exact kb.mono fun c vs q => hs ob' _ _ q
end
end DL
/-! text DL16 -/
/-! DL16: hidden containers by hand: what holds beside the data. -/
namespace DL
open PySem PySem.Spec L2
open PyProof.Rows hiding St
/-- Z0 is hidden for good, the rest of Z is new -/
structure RZ (C : Cfg) (B : Hp) (Z0 Z Y : Addr → Bool) (ρ : DEnv) (σ : St) (H : Hp) : Prop where
  R : Rl C B Z Y ρ σ H
  sub : ∀ a, Z0 a = true → Z a = true
  new : ∀ a, Z a = true → Z0 a = true ∨ B a = none
  row0 : ∀ a, C.r = some a → Z0 a = true
  rs0 : ∀ a, C.r = some a → Z0 C.rs = true ∨ KSq C
def unY (Z : Addr → Bool) (p : Addr) : Addr → Bool := fun a => Z a && !decide (a = p)
theorem unY_hid {Z : Addr → Bool} {p : Addr} (h : Z p = true) : hidY (unY Z p) p = Z := by
  funext a
  unfold hidY unY
  by_cases e : a = p
  · subst e; rw [h]; simp
  · simp [e]
theorem unY_self {Z : Addr → Bool} {p : Addr} : unY Z p p = false := by simp [unY]
theorem unY_ne {Z : Addr → Bool} {p a : Addr} (h : a ≠ p) : unY Z p a = Z a := by simp [unY, h]
theorem unY_le {Z : Addr → Bool} {p a : Addr} (h : unY Z p a = true) : Z a = true := by unfold unY at h; exact (Bool.and_eq_true _ _ ▸ h).1
/-- what was seen, and what was hidden, stays -/
def Keep (C : Cfg) (Y Z : Addr → Bool) (H H' : Hp) : Prop := ∀ a o, some a ≠ C.r → (Y a = false ∨ Z a = true) → H a = some o → H' a = some o
section
variable {C : Cfg} {B : Hp} {Z0 Z Y : Addr → Bool} {ρ : DEnv} {σ : St} {H H' : Hp}
theorem RZ.start (R : Rl C B Z Y ρ σ H) : RZ C B Z Z Y ρ σ H := ⟨R, fun _ h => h, fun _ h => .inl h, R.rowZ, R.rowS⟩
theorem RZ.ext (R : RZ C B Z0 Z Y ρ σ H) (x : Ext C H H') : RZ C B Z0 Z Y ρ σ H' := ⟨R.R.ext x, R.sub, R.new, R.row0, R.rs0⟩
theorem RZ.nr (R : RZ C B Z0 Z Y ρ σ H) {p : Addr} (h : Z0 p = false) : some p ≠ C.r := fun e => by rw [R.row0 p e.symm] at h; cases h
theorem RZ.yz (R : RZ C B Z0 Z Y ρ σ H) {p : Addr} (h : Z p = true) : Y p = true := (R.R.yI p).mpr (.inl h)
theorem RZ.pend {p : Addr} {o : HO} (R : RZ C B Z0 Z Y ρ σ H) (x : Ext C H H') (hp : H p = none) (hp' : H' p = some o) (ht : isTup o = false) : RZ C B Z0 (hidY Z p) (hidY Y p) ρ σ H' ∧ B p = none ∧ Z p = false ∧ Z0 p = false := by
  obtain ⟨R1, hB, hZ⟩ := R.R.pend x hp hp' ht
  refine ⟨⟨R1, fun a h => hidY_iff.mpr (.inl (R.sub a h)), fun a h => ?_, R.row0, R.rs0⟩, hB, hZ, ?_⟩
  · rcases hidY_iff.mp h with q | q
    · exact R.new a q
    · rw [q]; exact .inr hB
  · cases q : Z0 p with
    | false => rfl
    | true => rw [R.sub p q] at hZ; cases hZ
theorem RZ.setv {v : V} {d : D} (R : RZ C B Z0 Z Y ρ σ H) (i : Nat) (hv : DV C.r (hid H Y) v d) : ∃ Y', (∀ a, Y' a = true → Y a = true) ∧ RZ C B Z0 Z Y' (ρ.set i (some (.v d))) (σ.set i (some v)) H := by
  obtain ⟨Y', h, R'⟩ := R.R.setv i hv
  exact ⟨Y', h, R', R.sub, R.new, R.row0, R.rs0⟩
theorem RZ.seto {p : Addr} {d : D} (R : RZ C B Z0 Z Y ρ σ H) (i : Nat) (x : Ext C H H') (hp : H p = none) (ov : OV C.r (hid H' (hidY Y p)) H' p d) : ∃ Y', RZ C B Z0 Z Y' (ρ.set i (some (.o d))) (σ.set i (some (.ref p))) H' := by
  obtain ⟨Y', _, R'⟩ := R.R.seto i x hp ov
  exact ⟨Y', R', R.sub, R.new, R.row0, R.rs0⟩
theorem RZ.zmut {p : Addr} {o : HO} (R : RZ C B Z0 Z Y ρ σ H) (hz : Z p = true) (h0 : Z0 p = false) (ht : isTup o = false) : RZ C B Z0 Z Y ρ σ (upd H p o) := by
  have hB : B p = none := (R.new p hz).resolve_left fun q => by rw [h0] at q; cases q
  have yp := R.yz hz
  have hs : Sub (hid H Y) (hid (upd H p o) Y) := hid_sub (fun a u y e => by rw [upd_ne (fun z => by rw [z, yp] at y; cases y)]; exact e) fun _ _ _ h => h
  refine ⟨⟨fun a u n e => ?_, fun b hb => ?_, R.R.rowZ, R.R.rowS, fun a z => ?_, R.R.len, fun i d e => ?_, fun i d e => ?_, R.R.uq, R.R.yI⟩, R.sub, R.new, R.row0, R.rs0⟩
  · rw [upd_ne (fun z => by rw [z, hB] at e; cases e)]; exact R.R.base a u n e
  · refine (R.R.row b hb).keep (upd_ne (fun z => R.nr h0 (by rw [← z, hb]))) ?_
    rcases R.rs0 b hb with q | q
    · exact .inr fun u _ e => by rw [upd_ne (fun z => by rw [z, h0] at q; cases q)]; exact e
    · exact .inl q
  · by_cases ha : a = p
    · rw [ha]; exact ⟨o, upd_same, ht⟩
    · rw [upd_ne ha]; exact R.R.zOk a z
  · obtain ⟨u, e1, q⟩ := R.R.fz i d e
    exact ⟨u, e1, q.mono hs⟩
  · obtain ⟨a, e1, b, z, ov⟩ := R.R.ow i d e
    refine ⟨a, e1, b, z, ov.mono hs fun u q => ?_⟩
    rw [upd_ne (fun q' => by rw [q', hz] at z; cases z)]; exact q
theorem RZ.claim {p : Addr} {d : D} (R : RZ C B Z0 Z Y ρ σ H) (i : Nat) (hz : Z p = true) (h0 : Z0 p = false) (ov : OV C.r (hid H Y) H p d) : ∃ Y', (∀ a, Y' a = true → Y a = true) ∧ RZ C B Z0 (unY Z p) Y' (ρ.set i (some (.o d))) (σ.set i (some (.ref p))) H := by
  have hB : B p = none := (R.new p hz).resolve_left fun q => by rw [h0] at q; cases q
  have hr : ∀ a, C.r = some a → unY Z p a = true ∧ (unY Z p C.rs = true ∨ KSq C) := fun a ha => by
    have na : a ≠ p := fun e => R.nr h0 (by rw [← e, ha])
    refine ⟨by rw [unY_ne na]; exact R.sub a (R.row0 a ha), ?_⟩
    rcases R.rs0 a ha with q | q
    · left
      rw [unY_ne (fun e => by rw [e, h0] at q; cases q)]; exact R.sub _ q
    · exact .inr q
  have R' : Rl C B (hidY (unY Z p) p) Y ρ σ H := by rw [unY_hid hz]; exact R.R
  obtain ⟨Y', s, R2⟩ := R'.claim hr i hB unY_self ov
  refine ⟨Y', s, R2, fun a h => ?_, fun a h => R.new a (unY_le h), R.row0, R.rs0⟩
  rw [unY_ne (fun e => by rw [e, h0] at h; cases h)]; exact R.sub a h
/-- what slot i owns is hidden from now on -/
theorem RZ.give {d : D} {a : Addr} (R : RZ C B Z0 Z Y ρ σ H) (i : Nat) (hi : ρ[i]? = some (some (.o d))) (ha : σ[i]? = some (some (.ref a))) : RZ C B Z0 (hidY Z a) Y (ρ.set i none) σ H ∧ Z0 a = false ∧ Z a = false ∧ OV C.r (hid H Y) H a d := by
  obtain ⟨a0, e0, hB, hZ, ov⟩ := R.R.ow i d hi
  rw [ha] at e0; cases e0
  have h0 : Z0 a = false := by
    cases q : Z0 a with
    | false => rfl
    | true => rw [R.sub a q] at hZ; cases hZ
  refine ⟨⟨⟨R.R.base, R.R.row, fun b h => hidY_iff.mpr (.inl (R.R.rowZ b h)), fun b h => (R.R.rowS b h).imp (fun z => hidY_iff.mpr (.inl z)) id, fun b z => ?_, by simpa using R.R.len, fun j e h => ?_, fun j e h => ?_, fun j k e f b h1 h2 h3 h4 => ?_, fun b => ?_⟩, fun b h => hidY_iff.mpr (.inl (R.sub b h)), fun b h => ?_, R.row0, R.rs0⟩, h0, hZ, ov⟩
  · rcases hidY_iff.mp z with z | z
    · exact R.R.zOk b z
    · rw [z]; exact ov.some
  · rcases set_get h with ⟨_, z, _⟩ | ⟨_, h1⟩
    · cases z
    · exact R.R.fz j e h1
  · rcases set_get h with ⟨_, z, _⟩ | ⟨ne, h1⟩
    · cases z
    · obtain ⟨b, e1, b1, z1, ov1⟩ := R.R.ow j e h1
      refine ⟨b, e1, b1, ?_, ov1⟩
      cases q : hidY Z a b with
      | false => rfl
      | true =>
        rcases hidY_iff.mp q with q | q
        · rw [z1] at q; cases q
        · exact absurd (R.R.uq i j d e a hi h1 ha (q ▸ e1)) ne
  · rcases set_get h1 with ⟨_, z, _⟩ | ⟨_, h1⟩
    · cases z
    rcases set_get h2 with ⟨_, z, _⟩ | ⟨_, h2⟩
    · cases z
    exact R.R.uq j k e f b h1 h2 h3 h4
  · rw [hidY_iff, R.R.yI b]
    constructor
    · rintro (h | ⟨j, e, h1, h2⟩)
      · exact .inl (.inl h)
      · by_cases hj : i = j
        · subst hj
          rw [ha] at h2; cases h2
          exact .inl (.inr rfl)
        · exact .inr ⟨j, e, by rw [List.getElem?_set_ne hj]; exact h1, h2⟩
    · rintro ((h | h) | ⟨j, e, h1, h2⟩)
      · exact .inl h
      · rw [h]; exact .inr ⟨i, d, hi, ha⟩
      · rcases set_get h1 with ⟨_, z, _⟩ | ⟨_, h1⟩
        · cases z
        · exact .inr ⟨j, e, h1, h2⟩
  · rcases hidY_iff.mp h with q | q
    · exact R.new b q
    · rw [q]; exact .inr hB
/-- what is new and hidden is seen again -/
theorem RZ.unhide (R : RZ C B Z0 Z Y ρ σ H) : ∃ Y', (∀ a, Y' a = true → Y a = true) ∧ (∀ a, Z a = true → Z0 a = false → Y' a = false) ∧ Rl C B Z0 Y' ρ σ H := by
  obtain ⟨Y', hY⟩ := exY Z0 ρ σ
  have sub : ∀ a, Y' a = true → Y a = true := fun a h => (R.R.yI a).mpr (((hY a).mp h).imp (R.sub a) id)
  have hs : Sub (hid H Y) (hid H Y') := hid_sub (fun _ _ _ e => e) fun a _ _ h => sub a h
  refine ⟨Y', sub, fun a hz h0 => ?_, R.R.base, R.R.row, R.row0, R.rs0, fun a h => R.R.zOk a (R.sub a h), R.R.len, fun i d e => ?_, fun i d e => ?_, R.R.uq, hY⟩
  · cases q : Y' a with
    | false => rfl
    | true =>
      rcases (hY a).mp q with z | ⟨i, d, h1, h2⟩
      · rw [h0] at z; cases z
      · obtain ⟨b, e1, _, z, _⟩ := R.R.ow i d h1
        rw [h2] at e1; cases e1
        rw [hz] at z; cases z
  · obtain ⟨v, e1, x⟩ := R.R.fz i d e
    exact ⟨v, e1, x.mono hs⟩
  · obtain ⟨a, e1, b, z, ov⟩ := R.R.ow i d e
    refine ⟨a, e1, b, ?_, ov.mono hs fun _ q => q⟩
    cases q : Z0 a with
    | false => rfl
    | true => rw [R.sub a q] at z; cases z
variable {X : Cx}
/-- a statement over data, in passing -/
theorem raw_ws {st : Stmt} {N : DEnv → Prop} {Dn : Ends} (hX : XOk C X) (R : RZ C B Z0 Z Y ρ σ H) (hW : WS C st ρ { nx := N }) (hn : ∀ Y' ρ' σ' H', N ρ' → RZ C B Z0 Z Y' ρ' σ' H' → Keep C Y Z H H' → Dn.nx σ' H') : WSt X st Dn σ H := by
  have R1 : Rl C (fun a => if Y a = true ∧ Z a = false then B a else H a) Z Y ρ σ H := by
    refine ⟨fun a o n e => ?_, R.R.row, R.R.rowZ, R.R.rowS, R.R.zOk, R.R.len, R.R.fz, fun i d e => ?_, R.R.uq, R.R.yI⟩
    · by_cases h : Y a = true ∧ Z a = false
      · simp only [h, and_self, if_true] at e; exact R.R.base a o n e
      · simp only [h, if_false] at e; exact e
    · obtain ⟨a, e1, b, z, ov⟩ := R.R.ow i d e
      exact ⟨a, e1, by rw [if_pos ⟨(R.R.yI a).mpr (.inr ⟨i, d, e, e1⟩), z⟩]; exact b, z, ov⟩
  refine hW X hX _ Z Y σ H R1 Dn ⟨fun Y' ρ' σ' H' p R' => ?_, fun _ _ _ _ _ _ p => p.elim, fun _ _ _ _ p => p.elim, fun _ _ _ _ p => p.elim⟩
  refine hn Y' ρ' σ' H' p ⟨R'.weak fun a o n e => ?_, R.sub, R.new, R.row0, R.rs0⟩ fun a o n h e => ?_
  · by_cases h : Y a = true ∧ Z a = false
    · rw [if_pos h]; exact e
    · rw [if_neg h]; exact R.R.base a o n e
  · refine R'.base a o n ?_
    rw [if_neg (fun q => by rcases h with h | h; · rw [q.1] at h; cases h
                            · rw [q.2] at h; cases h)]
    exact e
/-- a loop by hand -/
theorem for_raw {tg it : Expr} {body : List Stmt} {I : List D → Prop} {sl : List Nat} {g : D → DEnv → Option DEnv} {Dn : Ends} (Iv : List D → Nat → DEnv → (Addr → Bool) → Hp → Prop) (hX : XOk C X) (R : RZ C B Z0 Z Y ρ σ H)
    (hWI : ∀ RR : It → Hp → Prop, (∀ J H1 items, I items → Ext C H H1 → Feeds C J items (hid H1 Y) → RR J H1) → WI X tg it σ H RR) (hg : StG C tg sl g)
    (hx : ∀ items i ρ' B' Z' Y' σ' H' H'', RZ C B' Z0 Z' Y' ρ' σ' H' → Ext C H' H'' → Iv items i ρ' Z' H' → Iv items i ρ' Z' H'') (h0 : ∀ items H1, I items → Ext C H H1 → Iv items 0 ρ Z H1)
    (hs : ∀ items i d ρ' B' Z' Y' σ' H', I items → items[i]? = some d → Iv items i ρ' Z' H' → RZ C B' Z0 Z' Y' ρ' σ' H' → ∃ ρ'', g d ρ' = some ρ'' ∧ ∀ Y'' σ'', RZ C B' Z0 Z' Y'' ρ'' σ'' H' →
      WSts X body { nx := fun σ3 H3 => ∃ ρ3 Z3 Y3, Iv items (i + 1) ρ3 Z3 H3 ∧ RZ C B' Z0 Z3 Y3 ρ3 σ3 H3, ct := fun σ3 H3 => ∃ ρ3 Z3 Y3, Iv items (i + 1) ρ3 Z3 H3 ∧ RZ C B' Z0 Z3 Y3 ρ3 σ3 H3, bk := Dn.nx, rt := Dn.rt } σ'' H')
    (hd : ∀ items ρ' Z' Y' σ' H', I items → Iv items items.length ρ' Z' H' → RZ C B Z0 Z' Y' ρ' σ' H' → Dn.nx σ' H') : tFor (WI X tg it) (WG X tg) (WSts X body) Dn σ H := by
  refine hWI _ fun J H1 items hI x1 fd => ?_
  have R0 := R.ext x1
  have R1 : RZ C (fun a => if Y a = true then B a else H1 a) Z0 Z Y ρ σ H1 := ⟨R0.R.rebase, R0.sub, fun a h => (R0.new a h).imp id fun q => by
    show (if Y a = true then B a else H1 a) = none
    rw [if_pos (R0.yz h)]; exact q, R0.row0, R0.rs0⟩
  have wk : ∀ {Z' Y' ρ' σ' H'}, RZ C (fun a => if Y a = true then B a else H1 a) Z0 Z' Y' ρ' σ' H' → RZ C B Z0 Z' Y' ρ' σ' H' := fun {Z' Y' ρ' σ' H'} R' => by
    have w : ∀ a o, some a ≠ C.r → B a = some o → (fun a => if Y a = true then B a else H1 a) a = some o := fun a o n e => by
      show (if Y a = true then B a else H1 a) = some o
      by_cases y : Y a = true
      · rw [if_pos y]; exact e
      · rw [if_neg y]; exact R0.R.base a o n e
    refine ⟨R'.R.weak w, R'.sub, fun a h => ?_, R'.row0, R'.rs0⟩
    rcases R'.new a h with q | q
    · exact .inl q
    · by_cases hr : some a = C.r
      · exact .inl (R'.row0 a hr.symm)
      · right
        cases hB : B a with
        | none => rfl
        | some o =>
          have e := w a o hr hB
          have q' : (fun a => if Y a = true then B a else H1 a) a = none := q
          rw [e] at q'; cases q'
  refine ⟨fun i m σ' H' => m = items.length - i ∧ i ≤ items.length ∧ ∃ ρ' Z' Y', Iv items i ρ' Z' H' ∧ RZ C (fun a => if Y a = true then B a else H1 a) Z0 Z' Y' ρ' σ' H', ⟨items.length, by simp, Nat.zero_le _, ρ, Z, Y, h0 items H1 hI x1, R1⟩, ?_⟩
  rintro i m σ' H' ⟨rfl, hi, ρ', Z', Y', iv, R'⟩
  have sub : Sub (hid H1 Y) (hid H' Y') := fun a o e => by
    obtain ⟨e1, e2⟩ := hid_some e
    have hB : (fun a => if Y a = true then B a else H1 a) a = some o := by
      show (if Y a = true then B a else H1 a) = some o
      rw [if_neg (by rw [e1]; exact Bool.false_ne_true)]; exact e2
    refine hid_of ?_ (R'.R.base a o (R.R.notRowY e1) hB)
    cases q : Y' a with
    | false => rfl
    | true =>
      rcases (R'.R.yI a).mp q with z | ⟨j, d, h1, h2⟩
      · rcases R'.new a z with z | z
        · rw [R.yz (R.sub a z)] at e1; cases e1
        · have z' : (fun a => if Y a = true then B a else H1 a) a = none := z
          rw [hB] at z'; cases z'
      · obtain ⟨b, h3, h4, _⟩ := R'.R.ow j d h1
        rw [h2] at h3; cases h3
        have z' : (fun a => if Y a = true then B a else H1 a) a = none := h4
        rw [hB] at z'; cases z'
  by_cases hlt : i < items.length
  · refine .inr ?_
    have hit : items[i]? = some items[i] := List.getElem?_eq_getElem hlt
    obtain ⟨go, yld⟩ := fd.go i _ Y' H' hit R'.R.y sub
    refine ⟨go, fun σ'' H'' => ∃ ρ'' Z'' Y'', Iv items (i + 1) ρ'' Z'' H'' ∧ RZ C (fun a => if Y a = true then B a else H1 a) Z0 Z'' Y'' ρ'' σ'' H'', fun σ'' H'' h => ⟨items.length - (i + 1), by omega, rfl, hlt, h⟩, fun x H'' hy => ?_⟩
    obtain ⟨x2, dx⟩ := yld x H'' hy
    have R2 := R'.ext x2
    obtain ⟨ρ'', e1, hb⟩ := hs items i _ ρ' _ Z' Y' σ' H'' hI hit (hx _ _ _ _ _ _ _ _ _ R' x2 iv) R2
    exact hg.run X hX _ Z' Y' σ' H'' ρ' x _ ρ'' _ R2.R dx e1 fun Y3 σ3 s3 o3 R3 => hb Y3 σ3 ⟨R3, R2.sub, R2.new, R2.row0, R2.rs0⟩
  · have e : i = items.length := by omega
    subst e
    exact .inl ⟨fd.stop _ Y' H' (Nat.le_refl _) R'.R.y sub, hd items ρ' Z' Y' σ' H' hI iv (wk R')⟩
theorem ps_forR {tg it : Expr} {body : List Stmt} {pos : Pos} {Dn : Ends} (hX : XOk C X) (h : tFor (WI X tg it) (WG X tg) (WSts X body) Dn σ H) (hfs : ∀ env x, foldedSetIterable it env x = pure x := by intro _ _; rfl) : WSt X (.For tg it body [] pos) Dn σ H :=
  WSt.of (ps_for (by rw [hX.xe]; exact PassesOwn.never) hX.calm pi_wi pg_wg pss_wsts (hfs _)) h
/-- a hidden dict is locked, unseen -/
theorem zs_lock {sts : List Stmt} {Dn : Ends} {d : Addr} {u : HO} (h : H d = some u) (mu : Mut (some u)) (k : ∀ ob, WSts X sts Dn σ (upd H d (.frz ob u))) : WSts X sts Dn σ H := fun pins s I => by
  obtain ⟨ob, I'⟩ := I.lock h mu
  exact k ob pins s I'
/-- there = more.get(key, {}) -/
theorem raw_get {e k : Expr} {x : Str} {i : Nat} {pos pos' apos cpos pd : Pos} {Dn : Ends} {key : NK} {am : Addr} {ob : Obj} {xs : List (NK × Addr × Addr)} (hX : XOk C X) (R : RZ C B Z0 Z Y ρ σ H) (hnd : C.N.Nodup) (he : EvD C e ρ (.adr am)) (hk : EvD C k ρ (keyD key)) (nam : some am ≠ C.r) (ea : H am = some (HObj am ob)) (n : NOb C.w am ob xs) (ks : KeysAt H xs)
    (h1 : ∀ va H', lookN xs key = some va → Ext C H H' → Dn.nx (σ.set i (some (.ref va))) H') (h2 : ∀ p H', lookN xs key = none → H p = none → Ext C H H' → H' p = some (.dK []) → Dn.nx (σ.set i (some (.ref p))) H')
    (hb : ∀ env, attributeBase e "get" env (eval e env) = eval e env := by intro _; rfl) (hf : ∀ env, ((backTo cpos (starEach [k, .Dict [] [] pd] env)).all (fun x => !x.1) && (backToKw cpos (keywordEach [] env)).all (fun x => x.1.isSome) && decide (([k, .Dict [] [] pd] : List Expr).length + ([] : List Keyword).length + (if ([] : List Keyword).isEmpty then 0 else 1) < 30)) = true := by intro _; rfl)
    (hl : (apos.endLine == cpos.line) = true := by decide +kernel) (ht : ∀ env, backTo cpos (starEach [k, .Dict [] [] pd] env) = [(false, eval k env), (false, eval (.Dict [] [] pd) env)] := by intro _; rfl)
    (hN : C.N[i]? = some x := by rfl) (hlc : LocC C x := by first | exact Or.inl rfl | exact Or.inr ⟨rfl, rfl⟩) (hs : ∀ (pos pos' : Pos) (env : Env), swapsWith (.Call (.Attribute e "get" apos) [k, .Dict [] [] pd] [] cpos) (some (.Name x pos')) pos.line env = pure false := by intro _ _ _; rfl) :
    WSt X (.Assign [.Name x pos'] (.Call (.Attribute e "get" apos) [k, .Dict [] [] pd] [] cpos) pos) Dn σ H := by
  obtain ⟨l1, l2⟩ := hX.loc hlc
  refine WSt.of (ps_set (by rw [← hX.N]; exact hnd) (by rw [← hX.N]; exact hN) l1 (pe_get2N (room10 hX) pe_we pe_we pe_dnewK ⟨hb _, hf _, hl, ht _⟩) (hs _ _ _) l2) (he X hX B Z Y σ H R.R _ fun v d H1 hd x1 dv => ?_)
  subst hd
  cases dv
  have e1 := x1.1 am _ nam ea
  refine ⟨am, ob, rfl, e1, n.1, hk X hX B Z Y σ H1 (R.R.ext x1) _ fun u d H2 hd x2 du => ?_⟩
  subst hd
  obtain ⟨b, rfl, kb⟩ := dv_key du
  intro p hp
  have x12 := x1.trans x2
  have x3 := x12.trans (Ext.new (C := C) (o := .dK []) hp)
  have keep : ∀ c vs, H c = some (.tup vs) → upd H2 p (.dK []) c = some (.tup vs) := fun c vs q => by
    by_cases hr : some c = C.r
    · obtain ⟨_, _, _, q', _⟩ := R.R.row c hr.symm
      rw [q'] at q; cases q
    · exact x3.1 c _ hr q
  have kp : KeyAt (upd H2 p (.dK [])) key b := kb.mono fun c vs q => by
    have := hid_tup q
    rw [upd_ne (ne_of_none this hp)]; exact this
  refine ⟨ob, xs, key, b, rfl, x3.1 am _ nam ea, by rw [hX.w']; exact n, ks.mono keep, kp, ?_⟩
  cases q : lookN xs key with
  | some va => exact h1 va _ q x3
  | none => exact h2 p _ q (x12.fresh hp ((R.R.ext x12).freshR hp)) x3 upd_same
/-- more[key] = there -/
theorem raw_put {o k e : Expr} {pos ppos : Pos} {Dn : Ends} {key : NK} {am va : Addr} {ob : Obj} {xs : List (NK × Addr × Addr)} (hX : XOk C X) (R : RZ C B Z0 Z Y ρ σ H) (ho : EvD C o ρ (.adr am)) (hk : EvD C k ρ (keyD key)) (hv : ∀ Q : VK, Q (.ref va) H → WE X e σ H Q) (nam : some am ≠ C.r) (ea : H am = some (HObj am ob)) (n : NOb C.w am ob xs) (ks : KeysAt H xs) (hl : xs.length < 100000)
    (h : ∀ b ob' H', Ext C H H' → KeyAt H' key b → NOb C.w am ob' (storeN xs key b va) → Dn.nx σ (upd H' am (HObj am ob')))
    (ha : ∀ env v, assign (.Subscript o k ppos) env v = (do
      let ov ← holding [v] (eval o  env)
      let iv ← holding [v, ov] (eval k env)
      standAt ppos
      holding [v, ov, iv] (setItem ov iv  v)
      release [v, ov, iv] []) := by intro _ _; rfl)
    (hs : ∀ (pos : Pos) (env : Env), swapsWithSole [.Subscript o k ppos] e pos.line env = pure false := by intro _ _; rfl) (hw : ∀ env : Env, swappedStores [.Subscript o k ppos] e env = pure none := by intro _; rfl)
    (h1 : ∀ env, (assignEach [.Subscript o k ppos] env).map (·.2) = [assign (.Subscript o k ppos) env] := by intro _; rfl) :
    WSt X (.Assign [.Subscript o k ppos] e pos) Dn σ H := by
  refine WSt.of (ps_asg pe_we (pg_sub pe_we pe_we (set_N (room10 hX)) (ha _)) (hs _ _) (hw _) (h1 _)) (hv _ (ho X hX B Z Y σ H R.R _ fun v d H1 hd x1 dv => ?_))
  subst hd
  cases dv
  refine hk X hX B Z Y σ H1 (R.R.ext x1) _ fun u d H2 hd x2 du => ?_
  subst hd
  obtain ⟨b, rfl, kb⟩ := dv_key du
  have x12 := x1.trans x2
  have keep : ∀ c vs, H c = some (.tup vs) → H2 c = some (.tup vs) := fun c vs q => by
    by_cases hr : some c = C.r
    · obtain ⟨_, _, _, q', _⟩ := R.R.row c hr.symm
      rw [q'] at q; cases q
    · exact x12.1 c _ hr q
  have kb' : KeyAt H2 key b := kb.mono fun _ _ => hid_tup
  exact ⟨am, ob, xs, key, b, va, rfl, rfl, rfl, x12.1 am _ nam ea, by rw [hX.w']; exact n, ks.mono keep, kb', hl, fun ob' n' => h b ob' H2 x12 kb' (by rw [← hX.w']; exact n')⟩
end
end DL
/-! text DL18 -/
/-! DL18: two lists in order; x, y = a new container, a value. -/
namespace DL
open PySem PySem.Spec L2
open PyProof.Rows hiding St
section
variable {C : Cfg} {ρ : DEnv} {P : Post} {a b : Expr} {pos : Pos}
theorem listLt_lex : ∀ ns ms : List Int, PySem.W.listLt ns ms = HT.lexLt ns ms
  | [], [] => rfl
  | [], _ :: _ => rfl
  | _ :: _, [] => rfl
  | n :: ns, m :: ms => by
    rw [HT.lexLt_cons, PySem.W.listLt, listLt_lex ns ms]
    rfl
theorem op_ltL {X : Cx} (hu : X.A.units + 8 < cLine) : OpR X (compareOp .Lt) (fun x y H Q => ∃ ns ms : List Int, Dp X.K H x (.list (ns.map PyData.int)) ∧ Dp X.K H y (.list (ms.map PyData.int)) ∧ Q (.bl (HT.lexLt ns ms)) H) := fun pins s σ H x y v u Q I rx ry h => by
  obtain ⟨ns, ms, hx, hy, q⟩ := h
  have r1 : PySem.W.Holds s.heap v ns := Dp.reads I (.list (ns.map PyData.int)) x v hx rx
  have r2 : PySem.W.Holds s.heap u ms := Dp.reads I (.list (ms.map PyData.int)) y u hy ry
  refine PySem.W.lt_datum r1 r2 (Nat.lt_of_le_of_lt (Nat.add_le_add_left (by decide) _) hu) ⟨.bl _, H, I, rfl, ?_⟩
  rw [show PySem.W.DatumOrd.lt ns ms = HT.lexLt ns ms from listLt_lex ns ms]
  exact q
theorem od_ltL {ns ms : List Int} : OpD C (compareOp .Lt) (.lst (ns.map D.int)) (.lst (ms.map D.int)) (· = .bl (HT.lexLt ns ms)) := fun X hX Y H u v Q y du dv hQ =>
  ⟨_, op_ltL (by have := hX.room.units; omega), ns, ms, PyD.dp (hid_le H Y) (.lst (.ints ns)) du, PyD.dp (hid_le H Y) (.lst (.ints ms)) dv, hQ _ _ H rfl (Ext.refl C H) (.bl _)⟩
/-- x, y = e1, e2, the first one a new container -/
theorem ws_parOV (i j : Nat) {x y : Str} {p1 p2 : D → Prop} {px py pt : Pos} {kt k2 pt2} (hnd : C.N.Nodup) (ha : EvO C a ρ p1) (hb : EvP C b ρ p2) (hp : ∀ d1 d2, p1 d1 → p2 d2 → P.nx ((ρ.set i (some (.o d1))).set j (some (.v d2)))) (hij : i ≠ j := by decide) (hN : C.N[i]? = some x := by rfl) (hN2 : C.N[j]? = some y := by rfl)
    (hl : C.sc.names.lookup x = some .local := by rfl) (hl2 : C.sc.names.lookup y = some .local := by rfl) (hw : ∀ env : Env, env.scope = C.sc → swappedStores [.Tuple [.Name x px, .Name y py] kt pt] (.Tuple [a, b] k2 pt2) env = pure (some [x, y]) := by rintro ⟨⟩ rfl; rfl)
    (hs : ∀ (pos : Pos) (env : Env), swapsWithSole [.Tuple [.Name x px, .Name y py] kt pt] (.Tuple [a, b] k2 pt2) pos.line env = pure false := by intro _ _; rfl) (hst : ∀ env, starEach [a, b] env = (false, eval a env) :: starEach [b] env := by intro _; rfl) (hst2 : ∀ env, starEach [b] env = (false, eval b env) :: starEach [] env := by intro _; rfl) :
    WS C (.Assign [.Tuple [.Name x px, .Name y py] kt pt] (.Tuple [a, b] k2 pt2) pos) ρ P := fun X hX B Z Y σ H R Dn L => by
  refine WSt.of (ps_par hX.calm (by rw [← hX.N]; exact hnd) (by rw [← hX.N]; exact hN) (by rw [← hX.N]; exact hN2) hij (by rw [← hX.sc]; exact hl) (by rw [← hX.sc]; exact hl2) (pa_cons pe_we (pa_cons pe_we pa_nil (hst2 _)) (hst _)) (hw _ hX.sc.symm) (hs _ _)) ?_
  refine ha X hX B Z Y σ H R _ fun u d1 H1 q1 hu x1 ov1 => ?_
  obtain ⟨o1, eo1, to1⟩ := ov1.some
  obtain ⟨R1, hB1, hZ1⟩ := R.pend x1 hu eo1 to1
  refine hb X hX B _ _ σ H1 R1 _ fun v d2 H2 q2 x2 dv2 => ?_
  refine ⟨.ref u, v, rfl, ?_⟩
  have rowu : some u ≠ C.r := R.notRow hZ1
  obtain ⟨Y3, s3, R3⟩ := (R1.ext x2).claim R.rr i hB1 hZ1 (ov1.mono (R1.sub x2) fun o e => x2.1 u o rowu e)
  have s3' : Sub (hid H2 (hidY Y u)) (hid H2 Y3) := hid_sub (fun _ _ _ e => e) fun a _ _ h => s3 a h
  obtain ⟨Y4, s4, R4⟩ := R3.setv j (dv2.mono s3')
  exact L.nx Y4 _ _ H2 (hp d1 d2 q1 q2) R4
/-- x, y = e1, e2 stored one by one, the first one a new container -/
theorem ws_t2OV (i1 i2 : Nat) {x1 x2 : Str} {q1 q2 tp vp : Pos} {kt kv : Nat} {d1 d2 : D} (hnd : C.N.Nodup) (ha : EvO C a ρ (· = d1)) (hb : EvD C b ρ d2) (hp : P.nx ((ρ.set i1 (some (.o d1))).set i2 (some (.v d2)))) (hN1 : C.N[i1]? = some x1 := by rfl) (hN2 : C.N[i2]? = some x2 := by rfl) (hl1 : LocC C x1 := by first | exact Or.inl rfl | exact Or.inr ⟨rfl, rfl⟩) (hl2 : LocC C x2 := by first | exact Or.inl rfl | exact Or.inr ⟨rfl, rfl⟩)
    (hs : ∀ (pos : Pos) (env : Env), swapsWithSole [.Tuple [.Name x1 q1, .Name x2 q2] kt tp] (.Tuple [a, b] kv vp) pos.line env = pure false := by intro _ _; rfl) (hw : ∀ env : Env, env.scope = C.sc → swappedStores [.Tuple [.Name x1 q1, .Name x2 q2] kt tp] (.Tuple [a, b] kv vp) env = pure none := by rintro ⟨⟩ rfl; rfl)
    (hst : ∀ env, starEach [a, b] env = (false, eval a env) :: starEach [b] env := by intro _; rfl) (hst2 : ∀ env, starEach [b] env = (false, eval b env) :: starEach [] env := by intro _; rfl) :
    WS C (.Assign [.Tuple [.Name x1 q1, .Name x2 q2] kt tp] (.Tuple [a, b] kv vp) pos) ρ P := fun X hX B Z Y σ H R Dn L => by
  have nd : X.N.Nodup := by rw [← hX.N]; exact hnd
  obtain ⟨c1, g1⟩ := hX.loc hl1
  obtain ⟨c2, g2⟩ := hX.loc hl2
  refine WSt.of (ps_asg (pe_tup (pa_cons pe_we (pa_cons pe_we pa_nil (hst2 _)) (hst _))) (pg_tup hX.calm (pgs_cons (pg_name nd (by rw [← hX.N]; exact hN1) c1 g1) (pgs_cons (pg_name nd (by rw [← hX.N]; exact hN2) c2 g2) pgs_nil))) (hs _ _) (hw _ hX.sc.symm)) ?_
  refine ha X hX B Z Y σ H R _ fun p d H1 hd hn y1 ov => ?_
  subst hd
  obtain ⟨o, eo, to⟩ := ov.some
  obtain ⟨R1, hB, hZ⟩ := R.pend y1 hn eo to
  refine hb X hX B _ _ σ H1 R1 _ fun v d H2 hd y2 dv => ?_
  subst hd
  have R2 := R1.ext y2
  have rowp : some p ≠ C.r := R.notRow hZ
  refine ⟨by show 2 ≤ sizeLine; decide, fun T hT => ?_⟩
  have R3 := R2.ext (Ext.new (o := .tup [.ref p, v]) hT)
  have s12 : Sub (hid H1 (hidY Y p)) (hid H2 (hidY Y p)) := R1.sub y2
  have s23 : Sub (hid H2 (hidY Y p)) (hid (upd H2 T (.tup [.ref p, v])) (hidY Y p)) := R2.sub (Ext.new hT)
  have ov3 := ov.mono (s12.trans s23) (H' := upd H2 T (.tup [.ref p, v])) fun o q => by
    have q2 := y2.1 p o rowp q
    rw [upd_ne (ne_of_none q2 hT)]
    exact q2
  refine ⟨T, _, rfl, .inl (.inl upd_same), rfl, _, _, rfl, _, _, rfl, rfl, ?_⟩
  obtain ⟨Y1, s1, Q1⟩ := R3.claim R.rr i1 hB hZ ov3
  have t1 : Sub (hid (upd H2 T (.tup [.ref p, v])) (hidY Y p)) (hid (upd H2 T (.tup [.ref p, v])) Y1) := hid_sub (fun _ _ _ e => e) fun a _ _ h => s1 a h
  obtain ⟨Y2, s2, Q2⟩ := Q1.setv i2 ((dv.mono s23).mono t1)
  exact L.nx Y2 _ _ _ hp Q2
end
end DL
/-! text P18 -/
/-! P18: Lots.colours. -/
namespace FT
open PySem PySem.Spec L2 DL
open PyProof.Rows hiding St
theorem sortU : ∀ {a b : List Int}, a.Perm b → a.Pairwise (· ≤ ·) → b.Pairwise (· ≤ ·) → a = b
  | [], b, p, _, _ => by have := p.length_eq; cases b with
    | nil => rfl
    | cons _ _ => cases this
  | x :: xs, [], p, _, _ => by have := p.length_eq; cases this
  | x :: xs, y :: ys, p, ha, hb => by
    have h1 : x ∈ y :: ys := p.mem_iff.mp (List.mem_cons_self ..)
    have h2 : y ∈ x :: xs := p.mem_iff.mpr (List.mem_cons_self ..)
    have l1 : y ≤ x := by
      rcases List.mem_cons.mp h1 with e |  e
      · omega
      · exact (List.pairwise_cons.mp hb).1 x e
    have l2 : x ≤ y := by
      rcases List.mem_cons.mp h2 with e | e
      · omega
      · exact (List.pairwise_cons.mp ha).1 y e
    have e : x = y := Int.le_antisymm l2 l1
    subst e
    rw [sortU (List.perm_cons x |>.mp p) (List.pairwise_cons.mp ha).2 (List.pairwise_cons.mp hb).2]
/-- rising -/
def srt (ks : List Nat) : List Nat := ks.mergeSort fun a b => decide (a ≤ b)
theorem srt_perm (ks : List Nat) : (srt ks).Perm ks := List.mergeSort_perm ..
theorem srt_rise (ks : List Nat) : (srt ks).Pairwise (· ≤ ·) := by
  have := List.pairwise_mergeSort (le := fun a b : Nat => decide (a ≤ b)) (fun a b c h1 h2 => decide_eq_true (Nat.le_trans (of_decide_eq_true h1) (of_decide_eq_true h2))) (fun a b => by rcases Nat.le_total a b with h | h <;> simp [h]) ks
  exact this.imp fun h => of_decide_eq_true h
theorem srt_cast {ks : List Nat} {ms : List Int} (p : ms.Perm (castL ks)) (r : ms.Pairwise (· ≤ ·)) : ms = castL (srt ks) :=
  sortU (p.trans ((srt_perm ks).map _).symm) r (List.Pairwise.map _ (fun _ _ h => Int.ofNat_le.mpr h) (srt_rise ks))
theorem srt_mem {ks : List Nat} {k : Nat} : k ∈ srt ks ↔ k ∈ ks := (srt_perm ks).mem_iff
theorem srt_len (ks : List Nat) : (srt ks).length = ks.length := (srt_perm ks).length_eq
/-- the mark of a cell -/
def markOf : List Nat → List Int → Nat → Int
  | k :: ks, m :: ms, j => if k = j then m else markOf ks ms j
  | _, _, _ => 0
theorem mark_val : ∀ {ks : List Nat} {row : List Int} {j : Nat}, row.length = ks.length → j ∈ ks → valD ((castL ks).zip (row.map D.int)) (j : Int) = some (.int (markOf ks row j))
  | k :: ks, m :: ms, j, hl, hj => by
    unfold valD castL
    rw [List.map_cons, List.map_cons, List.zip_cons_cons, List.find?_cons]
    by_cases e : k = j
    · subst e; simp [markOf]
    · have ne : ¬ ((k : Int) = (j : Int)) := by omega
      rw [show decide (((k : Int), D.int m).1 = (j : Int)) = false from decide_eq_false ne]
      have := mark_val (ks := ks) (row := ms) (j := j) (by simpa using hl) (by rcases List.mem_cons.mp hj with q | q; exact absurd q.symm e; exact q)
      rw [show markOf (k :: ks) (m :: ms) j = markOf ks ms j by rw [markOf, if_neg e]]
      exact this
  | [], _, _, _, hj => by cases hj
  | _ :: _, [], _, hl, _ => by cases hl
def colR (l : Ln) (ks : List Nat) (row : List Int) (k : Nat) : Int := if markOf ks row k = 1 then pre l k else own l k
/-- a path's colours by rising cells -/
def colsR (l : Ln) (ks : List Nat) (row : List Int) : List Int := (srt ks).map (colR l ks row)
section
variable {C : Cfg} {K : Addr}
def SColours (K : Addr) : List D → (D → Prop) → Prop := fun ds k => ∃ l w p m ps ring ks row, ds = [.obj K (lotsF l w p m ps ring), lN ks, tI row] ∧ (∀ k ∈ ks, k < l.n) ∧ ks.Nodup ∧ row.length = ks.length ∧ ks.length ≤ 12 ∧ k (.lst ((colsR l ks row).map D.int))
theorem m_colours (N : Bare C) (hz : C.mg "zip" = none) (hd : C.mg "dict" = none) (T : LotsC C K) {f : Addr} {fd : FuncData} (F : Fun C.K "colours" "Lots.colours" sColours f fd) (hm : Meth C.K K "colours" f) (hb : Binds C.K fd ["self", "some", "one"] []) : MthD C 1 K "colours" (SColours K) := by
  refine mthD F hm hb scColours (by rintro ds k ⟨l, w, p, m, ps, ring, ks, row, rfl, _⟩; rfl) ?_
  rintro ds kk ⟨l, w, p, m, ps, ring, ks, row, rfl, hlt, hnd, hlen, h12, hk⟩
  have e1 : lN ks = .lst ((castL ks).map D.int) := congrArg D.lst (castL_D ks).symm
  have nd : (castL ks).Nodup := List.Pairwise.map _ (fun a b h q => h (by omega)) hnd
  refine wss_seq (ws_setO 3 scColours.nd (eo_dictZip (ks := castL ks) (ns := row) (EvD.is (ev_var 1) e1) (ev_var 2) (by unfold castL; rw [List.length_map, hlen]) nd hz hd) (by rintro _ rfl; rfl)) ?_
  refine wss_frz 3 ?_
  refine wss_one (ws_ret (p := (· = .lst ((colsR l ks row).map D.int))) (ev_o (EvO.is (eo_map (srt ks) (fun k : Nat => D.int k) (fun k => .int (colR l ks row k)) [("k", 4)] (ei_list (EvP.imp (ev_o (eo_callB (ea_cons (EvD.is (ev_var 1) e1) ea_nil) co_sortedI N.sorted)) ?_)) scColours.nd (sg_name 4 scColours.nd) (fun k hk => ?_) (by rw [srt_len]; omega)) ?_)) (by rintro _ rfl; exact hk))
  · rintro _ ⟨ms, rfl, pm, pw⟩
    rw [srt_cast pm pw, castL_D]
  · have hks := srt_mem.mp hk
    have hkl := hlt k hks
    refine ⟨_, rfl, EvD.is (ev_if (et_cmp (ev_dgetI (ev_var 3) (ev_var 4) (mark_val hlen hks)) ev_int od_eqI) (fun _ => ev_ix (ev_ix (ev_fld (ev_var 0) rfl T.cl T.n1) ev_int (ixd_tup (d := .tup (l.cells.map D.int)) rfl)) (ev_bin (ev_var 4) ev_int od_sub) (ixd_tup (d := .int (pre l k)) (atI_int (by have : k < l.cells.length := hkl; omega) (by have : k < l.cells.length := hkl; omega)))) (fun _ => ev_ix (ev_ix (ev_fld (ev_var 0) rfl T.cl T.n1) ev_int (ixd_tup (d := .tup (l.cells.map D.int)) rfl)) (ev_var 4) (ixd_tup (d := .int (own l k)) (atI_int (by have : k < l.cells.length := hkl; omega) (by have : k < l.cells.length := hkl; omega))))) ?_⟩
    unfold colR
    by_cases q : markOf ks row k = 1
    · rw [if_pos (decide_eq_true q), if_pos q]
    · rw [if_neg (by rw [decide_eq_false q]; exact Bool.false_ne_true), if_neg q]
  · unfold colsR
    rw [List.map_map]
    rfl
end
end FT
/-! text M2 -/
/-! M2: rows of marks, told by what they say of the cells. -/
namespace FT
open PySem PySem.Spec L2 DL
open PyProof.Rows hiding St
def bit (b : Bool) : Int := if b = true then 1 else 0
/-- the marks of some cells -/
def ind (S : Nat → Bool) (ks : List Nat) : List Int := ks.map fun k => bit (S k)
theorem ind_len (S : Nat → Bool) (ks : List Nat) : (ind S ks).length = ks.length := List.length_map ..
theorem ind_app (S : Nat → Bool) (a b : List Nat) : ind S (a ++ b) = ind S a ++ ind S b := List.map_append ..
theorem bit_is {m : Int} (h : m = 0 ∨ m = 1) : m = bit (decide (m = 1)) := by
  rcases h with rfl | rfl <;> rfl
theorem bit_inj {a b : Bool} (h : bit a = bit b) : a = b := by
  cases a <;> cases b <;> first | rfl | cases h
theorem lastN_app (a b : List Int) {k : Nat} (h : b.length = k) : lastN (a ++ b) k = b := by
  unfold lastN
  rw [List.length_append, h, Nat.add_sub_cancel, List.drop_left]
theorem lastN2 (a : List Int) (x y : Int) : lastN (a ++ [x, y]) 2 = [x, y] := lastN_app a [x, y] rfl
theorem lastN2' (a : List Int) (x y z : Int) : lastN (a ++ [x, y, z]) 2 = [y, z] := by
  rw [show a ++ [x, y, z] = (a ++ [x]) ++ [y, z] by simp]; exact lastN2 _ y z
theorem lastN3 (a : List Int) (x y z : Int) : lastN (a ++ [x, y, z]) 3 = [x, y, z] := lastN_app a [x, y, z] rfl
theorem rowsF_bits (s0 s1 : Nat → Bool) (ring fill : Bool) : ∀ (n : Nat) (ks : List Nat), ks.length = n → ∀ row ∈ rowsF s0 s1 ring fill ks, ∀ m ∈ row, m = 0 ∨ m = 1
  | 0, ks, h, row, hr, m, hm => by
    cases ks with
    | nil =>
      have : row = [] := by simpa [rowsF] using hr
      rw [this] at hm; cases hm
    | cons _ _ => cases h
  | n + 1, ks, h, row, hr, m, hm => by
    have hne : ks ≠ [] := fun e => by rw [e] at h; cases h
    obtain ⟨k, hk⟩ : ∃ k, ks = ks.dropLast ++ [k] := ⟨_, (List.dropLast_concat_getLast hne).symm⟩
    have hl : ks.dropLast.length = n := by rw [List.length_dropLast, h]; rfl
    rw [hk, rowsF_snoc] at hr
    unfold stepRows at hr
    obtain ⟨r, hr2, ho⟩ := List.mem_flatMap.mp hr
    unfold ext1 at ho
    obtain ⟨y, hy, rfl⟩ := List.mem_map.mp ho
    rcases List.mem_append.mp hm with q |  q
    · exact rowsF_bits s0 s1 ring fill n _ hl r hr2 m q
    · rw [List.mem_singleton.mp q]
      have := (List.mem_filter.mp hy).1
      simpa using this
theorem mem_step {s0 s1 : Nat → Bool} {ring fill : Bool} {place k : Nat} {rows : List (List Int)} {one : List Int} {m : Int} : one ++ [m] ∈ stepRows s0 s1 ring fill place k rows ↔ one ∈ rows ∧ (m = 0 ∨ m = 1) ∧ smB s0 s1 k m = true ∧ goingB (one ++ [m]) place ring fill = true := by
  unfold stepRows ext1
  rw [List.mem_flatMap]
  constructor
  · rintro ⟨r, hr, ho⟩
    obtain ⟨y, hy, e⟩ := List.mem_map.mp ho
    obtain ⟨e1, e2⟩ := List.append_inj' e rfl
    cases e2
    subst e1
    obtain ⟨h1, h2⟩ := List.mem_filter.mp hy
    unfold extB at h2
    rw [Bool.and_eq_true] at h2
    exact ⟨hr, by simpa using h1, h2⟩
  · rintro ⟨hr, hm, h2⟩
    refine ⟨one, hr, List.mem_map.mpr ⟨m, List.mem_filter.mpr ⟨by simpa using hm, ?_⟩, rfl⟩⟩
    unfold extB
    rw [Bool.and_eq_true]
    exact h2
/-- what a mark must look back upon -/
def gB (ring fill : Bool) (f : Nat → Bool) : Nat → Bool
  | 0 => true
  | 1 => !(f 0 && f 1) && (!fill || (ring || (f 0 || f 1)))
  | j + 2 => !(f (j + 1) && f (j + 2)) && (!fill || (f j || (f (j + 1) || f (j + 2))))
theorem going_gB (ring fill : Bool) (f : Nat → Bool) (i : Nat) : goingB ((List.range (i + 1)).map fun d => bit (f d)) i ring fill = gB ring fill f i := by
  match i with
  | 0 =>
    show goingB [bit (f 0)] 0 ring fill = true
    cases f 0 <;> cases ring <;> cases fill <;> decide
  | 1 =>
    show goingB [bit (f 0), bit (f 1)] 1 ring fill = (!(f 0 && f 1) && (!fill || (ring || (f 0 || f 1))))
    cases f 0 <;> cases f 1 <;> cases ring <;> cases fill <;> decide
  | j + 2 =>
    have e : (List.range (j + 2 + 1)).map (fun d => bit (f d)) = (List.range j).map (fun d => bit (f d)) ++ [bit (f j), bit (f (j + 1)), bit (f (j + 2))] := by
      rw [List.range_succ, List.range_succ, List.range_succ]; simp
    rw [e]
    show _ = (!(f (j + 1) && f (j + 2)) && (!fill || (f j || (f (j + 1) || f (j + 2)))))
    unfold goingB
    rw [lastN2', lastN3]
    have hp : decide (((j + 2 : Nat) : Int) = 1) = false := decide_eq_false (by omega)
    rw [hp]
    cases f j <;> cases f (j + 1) <;> cases f (j + 2) <;> cases ring <;> cases fill <;> rfl
theorem ind_rows {s0 s1 : Nat → Bool} {ring fill : Bool} {S : Nat → Bool} {c : Nat → Nat} : ∀ L : Nat, ind S ((List.range L).map c) ∈ rowsF s0 s1 ring fill ((List.range L).map c) ↔ ∀ i, i < L → smB s0 s1 (c i) (bit (S (c i))) = true ∧ gB ring fill (fun d => S (c d)) i = true
  | 0 => by simp [ind, rowsF]
  | L + 1 => by
    have e : (List.range (L + 1)).map c = (List.range L).map c ++ [c L] := by rw [List.range_succ, List.map_append]; rfl
    have ei : ind S ((List.range L).map c ++ [c L]) = ind S ((List.range L).map c) ++ [bit (S (c L))] := ind_app ..
    have eg : ind S ((List.range L).map c) ++ [bit (S (c L))] = (List.range (L + 1)).map fun d => bit (S (c d)) := by
      rw [← ei, ← e]; unfold ind; rw [List.map_map]; rfl
    rw [e, rowsF_snoc, ei, mem_step, ind_rows L, List.length_map, List.length_range, eg, going_gB ring fill (fun d => S (c d)) L]
    constructor
    · rintro ⟨h, _, h1, h2⟩ i hi
      rcases Nat.lt_succ_iff_lt_or_eq.mp hi with q | q
      · exact h i q
      · rw [q]; exact ⟨h1, h2⟩
    · intro h
      exact ⟨fun i hi => h i (by omega), by cases S (c L) <;> simp [bit], h L (by omega)⟩
/-- how a path that is no ring may end -/
def cR (fill : Bool) (f : Nat → Bool) : Nat → Bool
  | 0 => true
  | 1 => !fill || f 0
  | j + 2 => !fill || (f j || f (j + 1))
theorem closed_run (fill : Bool) (f : Nat → Bool) (L : Nat) : closedB (((List.range L).map fun d => bit (f d)).take 2) (lastN ((List.range L).map fun d => bit (f d)) 2) false fill = cR fill f L := by
  match L with
  | 0 => cases fill <;> rfl
  | 1 =>
    show closedB [bit (f 0)] [bit (f 0)] false fill = (!fill || f 0)
    cases f 0 <;> cases fill <;> rfl
  | j + 2 =>
    have e : (List.range (j + 2)).map (fun d => bit (f d)) = (List.range j).map (fun d => bit (f d)) ++ [bit (f j), bit (f (j + 1))] := by
      rw [List.range_succ, List.range_succ]; simp
    show _ = (!fill || (f j || f (j + 1)))
    unfold closedB
    rw [if_neg Bool.false_ne_true, e, lastN2]
    cases f j <;> cases f (j + 1) <;> cases fill <;> rfl
theorem closed_ring (fill : Bool) (f : Nat → Bool) (j : Nat) : closedB (((List.range (j + 3)).map fun d => bit (f d)).take 2) (lastN ((List.range (j + 3)).map fun d => bit (f d)) 2) true fill = (!(f (j + 2) && f 0) && (!fill || ((f (j + 1) || (f (j + 2) || f 0)) && (f (j + 2) || (f 0 || f 1))))) := by
  have e : (List.range (j + 3)).map (fun d => bit (f d)) = (List.range (j + 1)).map (fun d => bit (f d)) ++ [bit (f (j + 1)), bit (f (j + 2))] := by
    rw [List.range_succ, List.range_succ]; simp
  have t : ((List.range (j + 3)).map fun d => bit (f d)).take 2 = [bit (f 0), bit (f 1)] := by
    rw [List.range_succ_eq_map, List.range_succ_eq_map]; simp
  rw [t, e, lastN2]
  unfold closedB
  cases f (j + 1) <;> cases f (j + 2) <;> cases f 0 <;> cases f 1 <;> cases fill <;> rfl
theorem ind_sets {s0 s1 : Nat → Bool} {ring fill : Bool} {S : Nat → Bool} {c : Nat → Nat} {L : Nat} : ind S ((List.range L).map c) ∈ setsF s0 s1 ring fill ((List.range L).map c) ↔ (∀ i, i < L → smB s0 s1 (c i) (bit (S (c i))) = true ∧ gB ring fill (fun d => S (c d)) i = true) ∧ closedB (((List.range L).map fun d => bit (S (c d))).take 2) (lastN ((List.range L).map fun d => bit (S (c d))) 2) ring fill = true := by
  unfold setsF
  rw [List.mem_filter, ind_rows]
  have e : ind S ((List.range L).map c) = (List.range L).map fun d => bit (S (c d)) := by unfold ind; rw [List.map_map]; rfl
  rw [e]
/-- a path that is no ring: no two side by side; where none can be added, each has one beside it -/
theorem sets_run {s0 s1 : Nat → Bool} {fill : Bool} {S : Nat → Bool} {c : Nat → Nat} {L : Nat} : ind S ((List.range L).map c) ∈ setsF s0 s1 false fill ((List.range L).map c) ↔ (∀ i, i < L → smB s0 s1 (c i) (bit (S (c i))) = true) ∧ (∀ i, i + 1 < L → S (c i) = true → S (c (i + 1)) = false) ∧ (fill = true → ∀ i, i < L → S (c i) = true ∨ (∃ j, j + 1 = i ∧ S (c j) = true) ∨ (i + 1 < L ∧ S (c (i + 1)) = true)) := by
  rw [ind_sets, closed_run fill (fun d => S (c d)) L]
  generalize hf : (fun d => S (c d)) = f
  have hS : ∀ i, S (c i) = f i := fun i => by rw [← hf]
  simp only [hS]
  constructor
  · rintro ⟨h, hc⟩
    refine ⟨fun i hi => (h i hi).1, fun i hi q => ?_, fun hfl i hi => ?_⟩
    · match i with
      | 0 =>
        have g : (!(f 0 && f 1) && (!fill || (false || (f 0 || f 1)))) = true := (h 1 hi).2
        cases q1 : f 1 with
        | false => rfl
        | true => rw [q, q1] at g; simp at g
      | j + 1 =>
        have g : (!(f (j + 1) && f (j + 2)) && (!fill || (f j || (f (j + 1) || f (j + 2))))) = true := (h (j + 2) hi).2
        cases q1 : f (j + 2) with
        | false => rfl
        | true => rw [q, q1] at g; simp at g
    · subst hfl
      cases q0 : f i with
      | true => exact .inl rfl
      | false =>
        right
        by_cases hl : i + 1 < L
        · match i with
          | 0 =>
            have g : (!(f 0 && f 1) && (!true || (false || (f 0 || f 1)))) = true := (h 1 hl).2
            rw [q0] at g
            exact .inr ⟨hl, by simpa using g⟩
          | j + 1 =>
            have g : (!(f (j + 1) && f (j + 2)) && (!true || (f j || (f (j + 1) || f (j + 2))))) = true := (h (j + 2) hl).2
            rw [q0] at g
            cases qj : f j with
            | true => exact .inl ⟨j, rfl, qj⟩
            | false => rw [qj] at g; exact .inr ⟨hl, by simpa using g⟩
        · have eL : L = i + 1 := by omega
          subst eL
          match i with
          | 0 =>
            have hc' : (!true || f 0) = true := hc
            rw [q0] at hc'; simp at hc'
          | j + 1 =>
            have hc' : (!true || (f j || f (j + 1))) = true := hc
            rw [q0] at hc'; exact .inl ⟨j, rfl, by simpa using hc'⟩
  · rintro ⟨h1, h2, h3⟩
    refine ⟨fun i hi => ⟨h1 i hi, ?_⟩, ?_⟩
    · match i with
      | 0 => rfl
      | 1 =>
        show (!(f 0 && f 1) && (!fill || (false || (f 0 || f 1)))) = true
        have a := h2 0 hi
        cases q0 : f 0 <;> cases q1 : f 1 <;> cases fill <;> first | rfl | skip
        · rcases h3 rfl 0 (by omega) with q | ⟨j, e, _⟩ | ⟨_, q⟩
          · rw [q0] at q; cases q
          · omega
          · rw [show 0 + 1 = 1 from rfl, q1] at q; cases q
        · have := a q0; rw [show 0 + 1 = 1 from rfl, q1] at this; cases this
        · have := a q0; rw [show 0 + 1 = 1 from rfl, q1] at this; cases this
      | j + 2 =>
        show (!(f (j + 1) && f (j + 2)) && (!fill || (f j || (f (j + 1) || f (j + 2))))) = true
        have a := h2 (j + 1) hi
        cases qj : f j <;> cases q0 : f (j + 1) <;> cases q1 : f (j + 2) <;> cases fill <;> first | rfl | skip
        all_goals
          first
            | (have := a q0; rw [q1] at this; cases this; done)
            | (rcases h3 rfl (j + 1) (by omega) with q | ⟨j', e, q⟩ | ⟨_, q⟩
               · rw [q0] at q; cases q
               · have : j' = j := by omega
                 subst this; rw [qj] at q; cases q
               · rw [q1] at q; cases q)
    · cases fill with
      | false =>
        match L with
        | 0 => rfl
        | 1 => rfl
        | j + 2 => rfl
      | true =>
        match L with
        | 0 => rfl
        | 1 =>
          show (!true || f 0) = true
          rcases h3 rfl 0 (by omega) with q | ⟨j, e, _⟩ | ⟨q, _⟩
          · simp [q]
          · omega
          · omega
        | j + 2 =>
          show (!true || (f j || f (j + 1))) = true
          rcases h3 rfl (j + 1) (by omega) with q | ⟨j', e, q⟩ | ⟨q, _⟩
          · simp [q]
          · have : j' = j := by omega
            subst this; simp [q]
          · omega
/-- a ring: the same, around -/
theorem sets_ring {s0 s1 : Nat → Bool} {fill : Bool} {S : Nat → Bool} {c : Nat → Nat} {L : Nat} (h3 : 3 ≤ L) : ind S ((List.range L).map c) ∈ setsF s0 s1 true fill ((List.range L).map c) ↔ (∀ i, i < L → smB s0 s1 (c i) (bit (S (c i))) = true) ∧ (∀ i, i < L → S (c i) = true → S (c ((i + 1) % L)) = false) ∧ (fill = true → ∀ i, i < L → S (c i) = true ∨ S (c ((i + L - 1) % L)) = true ∨ S (c ((i + 1) % L)) = true) := by
  obtain ⟨j, rfl⟩ : ∃ j, L = j + 3 := ⟨L - 3, by omega⟩
  rw [ind_sets, closed_ring fill (fun d => S (c d)) j]
  generalize hf : (fun d => S (c d)) = f
  have hS : ∀ i, S (c i) = f i := fun i => by rw [← hf]
  simp only [hS]
  have m1 : ∀ i, i + 1 < j + 3 → (i + 1) % (j + 3) = i + 1 := fun i h => Nat.mod_eq_of_lt h
  have m2 : (j + 2 + 1) % (j + 3) = 0 := Nat.mod_self _
  have p1 : ∀ i, i + 1 < j + 3 → (i + 1 + (j + 3) - 1) % (j + 3) = i := fun i h => by
    rw [show i + 1 + (j + 3) - 1 = i + (j + 3) by omega, Nat.add_mod_right, Nat.mod_eq_of_lt (by omega)]
  have p0 : (0 + (j + 3) - 1) % (j + 3) = j + 2 := by rw [show 0 + (j + 3) - 1 = j + 2 by omega]; exact Nat.mod_eq_of_lt (by omega)
  have gp : ∀ i, gB true fill f (i + 1) = (!(f i && f (i + 1)) && (!fill || match i with
    | 0 => true
    | k + 1 => f k || (f (k + 1) || f (k + 2)))) := fun i => by
    match i with
    | 0 =>
      show (!(f 0 && f 1) && (!fill || (true || (f 0 || f 1)))) = (!(f 0 && f 1) && (!fill || true))
      simp
    | k + 1 => rfl
  constructor
  · rintro ⟨h, hc⟩
    rw [Bool.and_eq_true] at hc
    obtain ⟨hc1, hc2⟩ := hc
    refine ⟨fun i hi => (h i hi).1, fun i hi q => ?_, fun hfl i hi => ?_⟩
    · by_cases hl : i + 1 < j + 3
      · rw [m1 i hl]
        have g := (h (i + 1) hl).2
        rw [gp, q] at g
        cases q1 : f (i + 1) with
        | false => rfl
        | true => rw [q1] at g; simp at g
      · have e : i = j + 2 := by omega
        subst e
        rw [m2]
        cases q1 : f 0 with
        | false => rfl
        | true => rw [q, q1] at hc1; simp at hc1
    · subst hfl
      rw [show (!true) = false from rfl, Bool.false_or, Bool.and_eq_true] at hc2
      match i with
      | 0 =>
        rw [p0, m1 0 (by omega)]
        have := hc2.2
        rcases Bool.or_eq_true _ _ |>.mp this with q | q
        · exact .inr (.inl q)
        · rcases Bool.or_eq_true _ _ |>.mp q with q | q
          · exact .inl q
          · exact .inr (.inr q)
      | i + 1 =>
        rw [p1 i hi]
        by_cases hl : i + 1 + 1 < j + 3
        · rw [m1 (i + 1) hl]
          have g := (h (i + 2) hl).2
          rw [gp, Bool.and_eq_true] at g
          have g2 := g.2
          rw [show (!true) = false from rfl, Bool.false_or] at g2
          rcases Bool.or_eq_true _ _ |>.mp g2 with q | q
          · exact .inr (.inl q)
          · rcases Bool.or_eq_true _ _ |>.mp q with q | q
            · exact .inl q
            · exact .inr (.inr q)
        · have e : i = j + 1 := by omega
          subst e
          rw [show j + 1 + 1 + 1 = j + 2 + 1 from rfl, m2]
          rcases Bool.or_eq_true _ _ |>.mp hc2.1 with q | q
          · exact .inr (.inl q)
          · rcases Bool.or_eq_true _ _ |>.mp q with q | q
            · exact .inl q
            · exact .inr (.inr q)
  · rintro ⟨h1, h2, h3⟩
    refine ⟨fun i hi => ⟨h1 i hi, ?_⟩, ?_⟩
    · match i with
      | 0 => rfl
      | i + 1 =>
        rw [gp, Bool.and_eq_true]
        constructor
        · have a := h2 i (by omega)
          rw [m1 i hi] at a
          cases q0 : f i with
          | false => rfl
          | true => rw [a q0]; rfl
        · cases fill with
          | false => rfl
          | true =>
            match i with
            | 0 => rfl
            | k + 1 =>
              have b := h3 rfl (k + 1) (by omega)
              rw [p1 k (by omega), m1 (k + 1) hi] at b
              show (f k || (f (k + 1) || f (k + 2))) = true
              rcases b with q | q | q
              · rw [q]; simp
              · rw [q]; simp
              · rw [q]; simp
    · rw [Bool.and_eq_true]
      constructor
      · have a := h2 (j + 2) (by omega)
        rw [m2] at a
        cases q0 : f (j + 2) with
        | false => rfl
        | true => rw [a q0]; rfl
      · cases fill with
        | false => rfl
        | true =>
          have b1 := h3 rfl (j + 2) (by omega)
          have b2 := h3 rfl 0 (by omega)
          rw [p1 (j + 1) (by omega), m2] at b1
          rw [p0, m1 0 (by omega)] at b2
          rw [show (!true) = false from rfl, Bool.false_or, Bool.and_eq_true]
          constructor
          · rcases b1 with q | q | q
            · rw [q]; simp
            · rw [q]; simp
            · rw [q]; simp
          · rcases b2 with q | q | q
            · rw [q]; simp
            · rw [q]; simp
            · rw [q]; simp
end FT
/-! text M3 -/
/-! M3: the paths of a line. -/
namespace FT
open PySem PySem.Spec L2 DL
open PyProof.Rows hiding St
theorem mod_nxt (n k d : Nat) : nxt n ((k + d) % n) = (k + (d + 1)) % n := by
  unfold nxt
  rw [Nat.mod_add_mod]
  rfl
section
variable {l : Ln}
theorem start_is {k : Nat} : k ∈ starts l ↔ k ∈ l.ready ∧ prevN l.n k ∉ l.ready := by
  unfold starts
  rw [List.mem_filter]
  simp
theorem runLen_pos {k : Nat} (h : k ∈ l.ready) : 0 < runLen l k := by
  have hk := (mem_ready.mp h).1
  apply Classical.byContradiction
  intro q
  have e : runLen l k = 0 := by omega
  have := run_end (l := l) (k := k) (by omega)
  rw [e, Nat.add_zero, Nat.mod_eq_of_lt hk] at this
  exact this h
theorem in_run (ok : l.Ok) (h : l.swings = false) : ∀ k ∈ l.ready, ∃ s ∈ starts l, k ∈ run l s := by
  obtain ⟨z, hz, hnz⟩ := not_all ok h
  suffices H : ∀ e k, k ∈ l.ready → (if z ≤ k then k - z else k + l.n - z) = e → ∃ s ∈ starts l, k ∈ run l s from fun k hk => H _ k hk rfl
  intro e
  induction e with
  | zero =>
    intro k hk he
    have hkn := (mem_ready.mp hk).1
    have : k = z := by
      split at he
      · omega
      · omega
    exact absurd (this ▸ hk) hnz
  | succ e ih =>
    intro k hk he
    have hkn := (mem_ready.mp hk).1
    by_cases hp : prevN l.n k ∈ l.ready
    · have hkz : k ≠ z := fun q => hnz (q ▸ hk)
      obtain ⟨s, hs, hin⟩ := ih (prevN l.n k) hp (by
        rw [prevN_eq hkn]
        by_cases q : k = 0
        · rw [if_pos q]
          split at he
          · omega
          · rw [if_pos (by omega)]; omega
        · rw [if_neg q]
          split at he
          · rw [if_pos (by omega)]; omega
          · rw [if_neg (by omega)]; omega)
      refine ⟨s, hs, ?_⟩
      unfold run at hin ⊢
      obtain ⟨d, hd, ed⟩ := List.mem_map.mp hin
      have hd' := List.mem_range.mp hd
      have e2 : k = (s + (d + 1)) % l.n := by rw [← mod_nxt, ed, nxt_prev hkn]
      by_cases q : d + 1 < runLen l s
      · exact List.mem_map.mpr ⟨d + 1, List.mem_range.mpr q, e2.symm⟩
      · have e3 : d + 1 = runLen l s := by omega
        have := run_end (runLen_lt ok h (mem_ready.mp (start_is.mp hs).1).1)
        rw [← e3, ← e2] at this
        exact absurd hk this
    · exact ⟨k, start_is.mpr ⟨hk, hp⟩, List.mem_map.mpr ⟨0, List.mem_range.mpr (runLen_pos hk), by rw [Nat.add_zero, Nat.mod_eq_of_lt hkn]⟩⟩
theorem run_apart : ∀ (d : Nat) {d' k k' : Nat}, d ≤ d' → k ∈ starts l → k' ∈ starts l → d' < runLen l k' → (k + d) % l.n = (k' + d') % l.n → k = k' ∧ d = d'
  | 0, d', k, k', _, hk, hk', hd', e => by
    have hkn := (mem_ready.mp (start_is.mp hk).1).1
    have hkn' := (mem_ready.mp (start_is.mp hk').1).1
    rw [Nat.add_zero, Nat.mod_eq_of_lt hkn] at e
    match d' with
    | 0 =>
      rw [Nat.add_zero, Nat.mod_eq_of_lt hkn'] at e
      exact ⟨e, rfl⟩
    | j + 1 =>
      have hj : (k' + j) % l.n < l.n := Nat.mod_lt _ (by omega)
      have e2 : prevN l.n k = (k' + j) % l.n := by rw [e, ← mod_nxt, prev_nxt hj]
      have := run_in (l := l) (k := k') (d := j) (by omega)
      rw [← e2] at this
      exact absurd this (start_is.mp hk).2
  | d + 1, d', k, k', hle, hk, hk', hd', e => by
    have hkn := (mem_ready.mp (start_is.mp hk).1).1
    obtain ⟨j, rfl⟩ : ∃ j, d' = j + 1 := ⟨d' - 1, by omega⟩
    have h1 : (k + d) % l.n < l.n := Nat.mod_lt _ (by omega)
    have h2 : (k' + j) % l.n < l.n := Nat.mod_lt _ (by omega)
    have e2 : (k + d) % l.n = (k' + j) % l.n := by
      rw [← prev_nxt h1, ← prev_nxt h2, mod_nxt, mod_nxt, e]
    obtain ⟨a, b⟩ := run_apart d (by omega) hk hk' (by omega) e2
    exact ⟨a, by rw [b]⟩
theorem run_apart' {d d' k k' : Nat} (hk : k ∈ starts l) (hk' : k' ∈ starts l) (hd : d < runLen l k) (hd' : d' < runLen l k') (e : (k + d) % l.n = (k' + d') % l.n) : k = k' ∧ d = d' := by
  rcases Nat.le_total d d' with q | q
  · exact run_apart d q hk hk' hd' e
  · obtain ⟨a, b⟩ := run_apart d' q hk' hk hd e.symm
    exact ⟨a.symm, b.symm⟩
theorem ready_nd (l : Ln) : l.ready.Nodup := List.Pairwise.sublist (List.filter_sublist ..) List.nodup_range
theorem ready_len (l : Ln) : l.ready.length ≤ l.n := by
  have := List.length_filter_le (fun k : Nat => l.isReady k) (List.range l.n)
  rw [List.length_range] at this
  exact this
theorem runs_nd : (runs l).flatten.Nodup := by
  unfold runs
  rw [List.Nodup, List.pairwise_flatten]
  constructor
  · intro ks hks
    obtain ⟨s, hs, rfl⟩ := List.mem_map.mp hks
    unfold run
    rw [List.pairwise_map]
    refine List.Pairwise.imp_of_mem ?_ (List.nodup_range (n := runLen l s))
    intro a b ha hb hab e
    exact hab (run_apart' hs hs (List.mem_range.mp ha) (List.mem_range.mp hb) e).2
  · rw [List.pairwise_map]
    have nd : (starts l).Nodup := List.Pairwise.sublist (List.filter_sublist ..) (ready_nd l)
    refine List.Pairwise.imp_of_mem ?_ nd
    intro a b ha hb hab x hx y hy e
    unfold run at hx hy
    obtain ⟨d, hd, rfl⟩ := List.mem_map.mp hx
    obtain ⟨d', hd', rfl⟩ := List.mem_map.mp hy
    exact hab (run_apart' ha hb (List.mem_range.mp hd) (List.mem_range.mp hd') e).1
/-- what is known of the paths -/
structure PF (l : Ln) (ps : List (List Nat)) (ring : Bool) : Prop where
  nd : ps.flatten.Nodup
  mem : ∀ k, k ∈ ps.flatten ↔ k ∈ l.ready
  rows : ∀ (w : List (Option Int)) (fill : Bool) (S : Nat → Bool), (∀ k, k < l.n → S k = true → k ∈ l.ready) → ((∀ ks ∈ ps, ind S ks ∈ rowsOf l w ring fill ks) ↔ (∀ k ∈ l.ready, smB (suit0 l w) (suit1 l w) k (bit (S k)) = true) ∧ (∀ k ∈ l.ready, S k = true → S (nxt l.n k) = false) ∧ (fill = true → Full l S))
  ok : l.n ≤ 11 → PsOk l ps
theorem pf_ring (ok : l.Ok) (h : l.swings = true) : PF l [l.ready] true := by
  unfold Ln.swings at h
  rw [Bool.and_eq_true] at h
  have h3 := ok.ring3 h.1
  have hlen : l.ready.length = l.n := of_decide_eq_true h.2
  have hall : l.ready = List.range l.n := by
    unfold Ln.ready
    rw [List.filter_eq_self]
    intro k hk
    have := List.length_filter_eq_length_iff.mp (show ((List.range l.n).filter fun k : Nat => l.isReady k).length = (List.range l.n).length by rw [List.length_range]; exact hlen)
    exact this k hk
  refine ⟨by simpa using ready_nd l, fun k => by simp, fun w fill S hS => ?_, fun h11 => ⟨?_, ?_, by simp⟩⟩
  · have e : l.ready = (List.range l.n).map id := by rw [hall, List.map_id]
    have key := sets_ring (s0 := suit0 l w) (s1 := suit1 l w) (fill := fill) (S := S) (c := id) (L := l.n) h3
    rw [← e] at key
    have m : ∀ k, k ∈ l.ready ↔ k < l.n := fun k => by rw [hall, List.mem_range]
    constructor
    · intro hr
      obtain ⟨k1, k2, k3⟩ := key.mp (hr _ (List.mem_cons_self ..))
      exact ⟨fun k hk => k1 k ((m k).mp hk), fun k hk => k2 k ((m k).mp hk), fun hf k hk => k3 hf k ((m k).mp hk)⟩
    · rintro ⟨k1, k2, k3⟩ ks hks
      rw [List.mem_singleton.mp hks]
      exact key.mpr ⟨fun k hk => k1 k ((m k).mpr hk), fun k hk => k2 k ((m k).mpr hk), fun hf k hk => k3 hf k ((m k).mpr hk)⟩
  · intro ks hks k hk
    rw [List.mem_singleton.mp hks] at hk
    exact (mem_ready.mp hk).1
  · intro ks hks
    rw [List.mem_singleton.mp hks]
    have := ready_len l
    omega
theorem pf_runs (ok : l.Ok) (h : l.swings = false) {ps : List (List Nat)} (hp : ps.Perm (runs l)) : PF l ps false := by
  have mR : ∀ ks, ks ∈ ps ↔ ∃ s ∈ starts l, ks = run l s := fun ks => by
    rw [hp.mem_iff]
    unfold runs
    rw [List.mem_map]
    exact ⟨fun ⟨s, a, b⟩ => ⟨s, a, b.symm⟩, fun ⟨s, a, b⟩ => ⟨s, a, b.symm⟩⟩
  have sl : ∀ s ∈ starts l, s < l.n ∧ runLen l s < l.n := fun s hs => by
    have := (mem_ready.mp (start_is.mp hs).1).1
    exact ⟨this, runLen_lt ok h this⟩
  refine ⟨(hp.flatten).nodup_iff.mpr runs_nd, fun k => ?_, fun w fill S hS => ?_, fun h11 => ⟨?_, ?_, ?_⟩⟩
  · rw [List.mem_flatten]
    constructor
    · rintro ⟨ks, hks, hk⟩
      obtain ⟨s, hs, rfl⟩ := (mR ks).mp hks
      unfold run at hk
      obtain ⟨d, hd, rfl⟩ := List.mem_map.mp hk
      exact run_in (List.mem_range.mp hd)
    · intro hk
      obtain ⟨s, hs, hin⟩ := in_run ok h k hk
      exact ⟨run l s, (mR _).mpr ⟨s, hs, rfl⟩, hin⟩
  · have out : ∀ k, k < l.n → k ∉ l.ready → S k = false := fun k hk hn => by
      cases q : S k with
      | false => rfl
      | true => exact absurd (hS k hk q) hn
    have key : ∀ s ∈ starts l, ind S (run l s) ∈ rowsOf l w false fill (run l s) ↔ _ := fun s hs => sets_run (s0 := suit0 l w) (s1 := suit1 l w) (fill := fill) (S := S) (c := fun d => (s + d) % l.n) (L := runLen l s)
    have modl : ∀ s d, 0 < l.n → (s + d) % l.n < l.n := fun s d hp => Nat.mod_lt _ hp
    constructor
    · intro hr
      have hr' : ∀ s ∈ starts l, _ := fun s hs => (key s hs).mp (hr _ ((mR _).mpr ⟨s, hs, rfl⟩))
      have get : ∀ k ∈ l.ready, ∃ s ∈ starts l, ∃ d, d < runLen l s ∧ k = (s + d) % l.n := fun k hk => by
        obtain ⟨s, hs, hin⟩ := in_run ok h k hk
        unfold run at hin
        obtain ⟨d, hd, e⟩ := List.mem_map.mp hin
        exact ⟨s, hs, d, List.mem_range.mp hd, e.symm⟩
      refine ⟨fun k hk => ?_, fun k hk hs => ?_, fun hf k hk => ?_⟩
      · obtain ⟨s, hs, d, hd, rfl⟩ := get k hk
        exact (hr' s hs).1 d hd
      · obtain ⟨s, hst, d, hd, rfl⟩ := get k hk
        rw [mod_nxt]
        by_cases q : d + 1 < runLen l s
        · exact (hr' s hst).2.1 d q hs
        · have e : d + 1 = runLen l s := by omega
          rw [e]
          exact out _ (modl _ _ (by have := (sl s hst).1; omega)) (run_end (sl s hst).2)
      · obtain ⟨s, hst, d, hd, rfl⟩ := get k hk
        have hn0 : 0 < l.n := by have := (sl s hst).1; omega
        rcases (hr' s hst).2.2 hf d hd with q | ⟨j, rfl, q⟩ | ⟨_, q⟩
        · exact .inl q
        · refine .inr (.inl ?_)
          rw [← mod_nxt, prev_nxt (modl s j hn0)]
          exact q
        · refine .inr (.inr ?_)
          rw [mod_nxt]
          exact q
    · rintro ⟨k1, k2, k3⟩ ks hks
      obtain ⟨s, hst, rfl⟩ := (mR ks).mp hks
      have hn0 : 0 < l.n := by have := (sl s hst).1; omega
      refine (key s hst).mpr ⟨fun i hi => k1 _ (run_in hi), fun i hi q => ?_, fun hf i hi => ?_⟩
      · have := k2 _ (run_in (l := l) (k := s) (d := i) (by omega)) q
        rw [mod_nxt] at this
        exact this
      · rcases k3 hf _ (run_in (l := l) (k := s) (d := i) hi) with q | q | q
        · exact .inl q
        · match i with
          | 0 =>
            rw [Nat.add_zero, Nat.mod_eq_of_lt (sl s hst).1] at q
            have := out _ (prevN_lt (sl s hst).1) (start_is.mp hst).2
            rw [this] at q; cases q
          | j + 1 =>
            rw [← mod_nxt, prev_nxt (modl s j hn0)] at q
            exact .inr (.inl ⟨j, rfl, q⟩)
        · rw [mod_nxt] at q
          by_cases hl : i + 1 < runLen l s
          · exact .inr (.inr ⟨hl, q⟩)
          · have e : i + 1 = runLen l s := by omega
            rw [e, out _ (modl _ _ hn0) (run_end (sl s hst).2)] at q
            cases q
  · intro ks hks k hk
    obtain ⟨s, hs, rfl⟩ := (mR ks).mp hks
    unfold run at hk
    obtain ⟨d, hd, rfl⟩ := List.mem_map.mp hk
    exact (mem_ready.mp (run_in (List.mem_range.mp hd))).1
  · intro ks hks
    obtain ⟨s, hs, rfl⟩ := (mR ks).mp hks
    have := (sl s hs).2
    unfold run
    rw [List.length_map,  List.length_range]
    omega
  · rw [hp.length_eq]
    unfold runs starts
    rw [List.length_map]
    have h1 := List.length_filter_le (fun k => !decide (prevN l.n k ∈ l.ready)) l.ready
    have := ready_len l
    omega
theorem pf_of (ok : l.Ok) {ps : List (List Nat)} {ring : Bool} (h : PathsOk l ps ring) : PF l ps ring := by
  rcases h with ⟨h1, rfl, rfl⟩ | ⟨h1, h2, rfl⟩
  · exact pf_ring ok h1
  · exact pf_runs ok h1 h2
end
end FT
/-! text P19 -/
/-! P19: Lots.best (the least end), all prices nought. -/
namespace FT
open PySem PySem.Spec L2 DL
open PyProof.Rows hiding St
theorem scBest : FnScope ["self", "is_most", "marks", "whole", "some", "rows", "told", "cost", "best", "one", "price", "here", "cell", "mark", "k"] ["self", "is_most"] (defScope sBest) := ⟨rfl, rfl, rfl, by decide +kernel, rfl, by decide +kernel, by decide +kernel⟩
/-- the first of the least rows -/
def bestR (l : Ln) (ks : List Nat) (rows : List (List Int)) : Option (List Int) := rows.foldl (fun b one => match b with
  | none => some one
  | some r => if HT.lexLt (colsR l ks one) (colsR l ks r) = true then some one else some r) none
def bestD (l : Ln) (ks : List Nat) : Option (List Int) → D
  | none => .non
  | some r => .tup [.lst ((colsR l ks r).map D.int), tI r]
theorem bestR_snoc (l : Ln) (ks : List Nat) (rows : List (List Int)) (one : List Int) : bestR l ks (rows ++ [one]) = match bestR l ks rows with
  | none => some one
  | some r => if HT.lexLt (colsR l ks one) (colsR l ks r) = true then some one else some r := by
  unfold bestR
  rw [List.foldl_append, List.foldl_cons, List.foldl_nil]
theorem bestR_mem (l : Ln) (ks : List Nat) : ∀ (n : Nat) (rows : List (List Int)), rows.length = n → ∀ r, bestR l ks rows = some r → r ∈ rows
  | 0, rows, h, r, e => by
    rw [List.length_eq_zero_iff.mp h] at e; cases e
  | n + 1, rows, h, r, e => by
    rcases List.eq_nil_or_concat rows with q | ⟨rs, one, q⟩
    · rw [q] at h; cases h
    · rw [List.concat_eq_append] at q
      subst q
      rw [bestR_snoc] at e
      cases hb : bestR l ks rs with
      | none => rw [hb] at e; cases e; simp
      | some r' =>
        rw [hb] at e
        dsimp only at e
        split at e
        · cases e; simp
        · cases e
          exact List.mem_append_left _ (bestR_mem l ks n rs (by simpa using h) _ hb)
theorem bestR_some (l : Ln) (ks : List Nat) {rows : List (List Int)} (h : rows ≠ []) : ∃ r, bestR l ks rows = some r := by
  rcases List.eq_nil_or_concat rows with q | ⟨rs, one, q⟩
  · exact absurd q h
  · rw [List.concat_eq_append] at q
    subst q
    rw [bestR_snoc]
    cases bestR l ks rs with
    | none => exact ⟨_, rfl⟩
    | some r' =>
      dsimp only
      split
      · exact ⟨_, rfl⟩
      · exact ⟨_, rfl⟩
def bestOf (l : Ln) (w : List (Option Int)) (ring m : Bool) (ks : List Nat) : List Int := (bestR l ks (rowsOf l w ring m ks)).getD []
def pairsZ (ks : List Nat) (row : List Int) : List (Int × Int) := (ks.zip row).map fun q => ((q.1 : Int), q.2)
def marksZ (l : Ln) (w : List (Option Int)) (ring m : Bool) (ps : List (List Nat)) : List (Int × Int) := ps.flatMap fun ks => pairsZ ks (bestOf l w ring m ks)
theorem pairsZ_keys {ks : List Nat} {row : List Int} (h : row.length = ks.length) : (pairsZ ks row).map (·.1) = castL ks := by
  unfold pairsZ castL
  rw [List.map_map]
  have e := List.map_fst_zip (l₁ := ks) (l₂ := row) (by omega)
  have f : (ks.zip row).map ((fun x : Int × Int => x.1) ∘ fun q : Nat × Int => ((q.1 : Int), q.2)) = ((ks.zip row).map Prod.fst).map fun k : Nat => (k : Int) := by rw [List.map_map]; rfl
  rw [f, e]
theorem zipD_row : ∀ (ks : List Nat) (row : List Int), zipD (ks.map fun k : Nat => D.int k) (row.map D.int) = (ks.zip row).map fun q => D.tup [.int (q.1 : Int), .int q.2]
  | [], _ => rfl
  | _ :: _, [] => rfl
  | k :: ks, m :: ms => by
    rw [List.map_cons, List.map_cons, zipD, zipD_row ks ms]
    rfl
theorem zipD_told : ∀ rows : List (List Int), zipD (rows.map tI) ((rows.map fun _ => (0 : Int)).map D.int) = rows.map fun r => D.tup [tI r, .int 0]
  | [] => rfl
  | r :: rows => by
    rw [List.map_cons, List.map_cons, List.map_cons, zipD, zipD_told rows]
    rfl
theorem sets_len {s0 s1 : Nat → Bool} {r f : Bool} {ks : List Nat} {row : List Int} (h : row ∈ setsF s0 s1 r f ks) : row.length = ks.length :=
  rowsF_each s0 s1 r f ks.length ks rfl row (List.mem_filter.mp h).1
theorem sum_noughts : ∀ n : Nat, (List.replicate n (0 : Int)).sum = 0
  | 0 => rfl
  | n + 1 => by rw [List.replicate_succ, List.sum_cons, sum_noughts n]; rfl
theorem putD_new {kvs : List (Int × Int)} {k v : Int} (h : k ∉ kvs.map (·.1)) : putD (iZ kvs) k (.int v) = iZ (kvs ++ [(k, v)]) := by
  unfold putD
  rw [if_neg]
  · unfold iZ; rw [List.map_append]; rfl
  · intro q
    obtain ⟨x, hx, e⟩ := List.any_eq_true.mp q
    unfold iZ at hx
    obtain ⟨y, hy, rfl⟩ := List.mem_map.mp  hx
    exact h (List.mem_map.mpr ⟨y, hy, of_decide_eq_true e⟩)
section
variable {C : Cfg} {K : Addr} {ρ : DEnv} {a b : Expr} {pos p1 p2 : Pos}
theorem prices_at {n k : Nat} (h : k < n) : atI ((List.replicate n (0 : Int)).map D.int) (k : Int) = some (.int 0) := by
  rw [atI_map, atI_nat (show (List.replicate n (0 : Int))[k]? = some 0 by rw [List.getElem?_replicate, if_pos h])]
  rfl
end
end FT
/-! text P20 -/
/-! P20: Lots.best, its walk. -/
namespace FT
open PySem PySem.Spec L2 DL
open PyProof.Rows hiding St
/-- the value kept for a cell -/
def keptZ (d : List (Int × Int)) (k : Nat) : Int := ((d.find? fun p => decide (p.1 = (k : Int))).map (·.2)).getD 0
theorem kept_val : ∀ {d : List (Int × Int)} {k : Nat}, (k : Int) ∈ d.map (·.1) → valD (iZ d) (k : Int) = some (.int (keptZ d k))
  | [], _, h => by cases h
  | (j, v) :: d, k, h => by
    unfold valD keptZ iZ
    rw [List.map_cons, List.find?_cons, List.find?_cons]
    by_cases e : j = (k : Int)
    · rw [show decide (((j, D.int v) : Int × D).1 = (k : Int)) = true from decide_eq_true e]
      rfl
    · rw [show decide (((j, D.int v) : Int × D).1 = (k : Int)) = false from decide_eq_false e]
      refine kept_val (d := d) (k := k) ?_
      rw [List.map_cons] at h
      rcases List.mem_cons.mp h with q |  q
      · exact absurd q.symm e
      · exact q
def endKs (l : Ln) (w : List (Option Int)) (ring m : Bool) (ps : List (List Nat)) : List Nat := (srt ps.flatten).filter fun k => decide (keptZ (marksZ l w ring m ps) k = 1)
theorem marks_keys {l : Ln} {w : List (Option Int)} {ring m : Bool} : ∀ {ps : List (List Nat)}, (∀ ks ∈ ps, rowsOf l w ring m ks ≠ []) → (marksZ l w ring m ps).map (·.1) = castL ps.flatten
  | [], _ => rfl
  | ks :: ps, h => by
    obtain ⟨r, hr⟩ := bestR_some l ks (h ks (List.mem_cons_self ..))
    have hm : bestOf l w ring m ks ∈ rowsOf l w ring m ks := by
      unfold bestOf
      rw [hr]
      exact bestR_mem l ks _ _ rfl r hr
    unfold marksZ
    rw [List.flatMap_cons, List.map_append, List.flatten_cons, pairsZ_keys (sets_len hm)]
    have ih := marks_keys (ps := ps) fun ks' h' => h ks' (List.mem_cons_of_mem _ h')
    unfold marksZ at ih
    rw [ih]
    unfold castL
    rw [List.map_append]
theorem marksZ_snoc (l : Ln) (w : List (Option Int)) (ring m : Bool) (ps : List (List Nat)) (ks : List Nat) : marksZ l w ring m (ps ++ [ks]) = marksZ l w ring m ps ++ pairsZ ks (bestOf l w ring m ks) := by
  unfold marksZ
  rw [List.flatMap_append, List.flatMap_cons, List.flatMap_nil, List.append_nil]
section
variable {C : Cfg} {K : Addr}
def SBest (K : Addr) : List D → (D → Prop) → Prop := fun ds k => ∃ l w m ps ring, ds = [.obj K (lotsF l w 0 m ps ring), .bl false] ∧ l.n ≤ 40 ∧ PsOk l ps ∧ ps.flatten.Nodup ∧ (∀ ks ∈ ps, rowsOf l w ring m ks ≠ []) ∧ k (.tup [.int 0, tI (turnedL l.cells (endKs l w ring m ps))])
abbrev lotsE (K : Addr) (l : Ln) (w : List (Option Int)) (m : Bool) (ps : List (List Nat)) (ring : Bool) : Option Ent := some (.v (.obj K (lotsF l w 0 m ps ring)))
theorem pairs_new {l : Ln} {w : List (Option Int)} {ring m : Bool} {ps : List (List Nat)} (h : ∀ ks ∈ ps, rowsOf l w ring m ks ≠ []) (hnd : ps.flatten.Nodup) {i : Nat} {ks : List Nat} (hi : ps[i]? = some ks) {row : List Int} (hl : row.length = ks.length) {j : Nat} {q : Nat × Int} (hj : (ks.zip row)[j]? = some q) :
    (q.1 : Int) ∉ ((marksZ l w ring m (ps.take i) ++ ((ks.zip row).take j).map fun q => ((q.1 : Int), q.2)).map (·.1)) := by
  have e : ps = ps.take i ++ ks :: ps.drop (i + 1) := by
    obtain ⟨hlt, e⟩ := List.getElem?_eq_some_iff.mp hi
    rw [← e, List.getElem_cons_drop, List.take_append_drop]
  have nd : ((ps.take i).flatten ++ (ks ++ (ps.drop (i + 1)).flatten)).Nodup := by
    rw [e, List.flatten_append, List.flatten_cons] at hnd
    exact hnd
  have hk : ks[j]? = some q.1 := by
    have := congrArg (Option.map Prod.fst) hj
    rw [← List.getElem?_map, List.map_fst_zip (by omega)] at this
    exact this
  have hm : q.1 ∈ ks := List.mem_of_getElem? hk
  rw [List.map_append, List.mem_append, marks_keys fun ks' h' => h ks' (List.mem_of_mem_take h')]
  rintro (c | c)
  · obtain ⟨x, hx, ex⟩ := List.mem_map.mp c
    have : x = q.1 := by omega
    subst this
    exact (List.nodup_append.mp nd).2.2 _ hx _ (List.mem_append_left _ hm) rfl
  · rw [List.map_map] at c
    obtain ⟨x, hx, ex⟩ := List.mem_map.mp c
    have ex' : x.1 = q.1 := by have : (x.1 : Int) = (q.1 : Int) := ex; omega
    have hks := (List.nodup_append.mp (List.nodup_append.mp nd).2.1).1
    obtain ⟨i', hi'⟩ := List.mem_iff_getElem?.mp hx
    have hlt : i' < j := by
      have := (List.getElem?_eq_some_iff.mp hi').1
      rw [List.length_take] at this
      omega
    rw [List.getElem?_take_of_lt hlt] at hi'
    have hk' : ks[i']? = some x.1 := by
      have := congrArg (Option.map Prod.fst) hi'
      rw [← List.getElem?_map, List.map_fst_zip (by omega)] at this
      exact this
    rw [ex'] at hk'
    obtain ⟨a1, b1⟩ := List.getElem?_eq_some_iff.mp hk
    obtain ⟨a2, b2⟩ := List.getElem?_eq_some_iff.mp hk'
    have := (List.pairwise_iff_getElem.mp hks) i' j a2 a1 hlt
    exact this (b2.trans b1.symm)
theorem flat_len : ∀ {ps : List (List Nat)} {n : Nat}, (∀ ks ∈ ps, ks.length ≤ n) → ps.flatten.length ≤ n * ps.length
  | [], n, _ => by simp
  | ks :: ps, n, h => by
    have ih := flat_len (ps := ps) fun x hx => h x (List.mem_cons_of_mem _ hx)
    have h0 := h ks (List.mem_cons_self ..)
    rw [List.flatten_cons, List.length_append, List.length_cons, Nat.mul_succ]
    omega
theorem flat480 {l : Ln} {ps : List (List Nat)} (pok : PsOk l ps) : ps.flatten.length ≤ 480 := by
  have h1 := flat_len pok.le
  have h2 := pok.few
  omega
theorem marks_len {l : Ln} {w : List (Option Int)} {ring m : Bool} {ps : List (List Nat)} (pok : PsOk l ps) (hne : ∀ ks ∈ ps, rowsOf l w ring m ks ≠ []) : (marksZ l w ring m ps).length ≤ 480 := by
  have h := congrArg List.length (marks_keys hne)
  unfold castL at h
  rw [List.length_map, List.length_map] at h
  rw [h]
  exact flat480 pok
theorem PsOk.take {l : Ln} {ps : List (List Nat)} (pok : PsOk l ps) (i : Nat) : PsOk l (ps.take i) := ⟨fun ks h => pok.lt ks (List.mem_of_mem_take h), fun ks h => pok.le ks (List.mem_of_mem_take h), by rw [List.length_take]; have := pok.few; omega⟩
set_option maxHeartbeats 4000000  in
theorem m_best (N : Bare C) (T : LotsC C K) (G1 : FnD C 2 "sets_of" SSets) (G2 : MthD C 1 K "colours" (SColours K)) (G3 : FnD C 1 "with_turned" STurned) {f : Addr} {fd : FuncData} (F : Fun C.K "best" "Lots.best" sBest f fd) (hm : Meth C.K K "best" f) (hb : Binds C.K fd ["self", "is_most"] []) : MthD C 3 K "best" (SBest K) := by
  have nd := scBest.nd
  refine mthD F hm hb scBest (by rintro ds k ⟨l, w, m, ps, ring, rfl, _⟩; rfl) ?_
  rintro ds kk ⟨l, w, m, ps, ring, rfl, hn, pok, hnd, hne, hk⟩
  have hpl : pricesD l.n 0 = tI (List.replicate l.n 0) := rfl
  refine wss_seq (ws_t2OV 2 3 nd eo_dictI ev_int rfl) ?_
  refine wss_cons (ws_forG ps lN (fun xs ρ' => ∃ e4 e5 e6 e7 e8 e9 e10 e11 e12 e13 e14 : Option Ent, ρ' = [lotsE K l w m ps ring, some (.v (.bl false)), some (.o (.dI (iZ (marksZ l w ring m xs)))), some (.v (.int 0)), e4, e5, e6, e7, e8, e9, e10, e11, e12, e13, e14]) (ei_list (ev_fld (ev_var 0) rfl T.cl T.n5)) (sg_name 4 nd) ⟨_, _, _, _, _, _, _, _, _, _, _, rfl⟩ ?_ (fun ρ' h => h)) ?_
  · rintro i ks ρ' hi ⟨e4, e5, e6, e7, e8, e9, e10, e11, e12, e13, e14, rfl⟩
    have hmem := List.mem_of_getElem? hi
    have hlt := pok.lt ks hmem
    have h12 := pok.le ks hmem
    have hndk : ks.Nodup := List.Pairwise.sublist (List.sublist_flatten_of_mem hmem) hnd
    generalize hR : rowsOf l w ring m ks = R
    have hRl : R.length ≤ 4096 := by rw [← hR]; exact setsF_few h12
    have hRe : ∀ r ∈ R, r.length = ks.length := fun r hr => sets_len (by rw [← hR] at hr; exact hr)
    refine ⟨_, rfl, ?_⟩
    refine wss_seq (ws_set 5 nd (ev_call G1.to (ea_cons (ev_var 4) (ea_cons (ev_fld (ev_var 0) rfl T.cl T.n6) (ea_cons (ev_fld (ev_var 0) rfl T.cl T.n2) (ea_cons (ev_fld (ev_var 0) rfl T.cl T.n4) ea_nil)))) ⟨l.n, ks, ring, m, suit0 l w, suit1 l w, rfl, hlt, h12, (show lT (setsF (suit0 l w) (suit1 l w) ring m ks) = lT R from congrArg lT hR)⟩) (by rintro _ rfl; rfl)) ?_
    refine wss_seq (ws_setLcP 6 (own := [("one", 9)]) (items := R.map tI) (Iv := fun i acc => acc = (R.take i).map fun _ => D.int 0) (p := (· = D.lst ((R.map fun _ => (0 : Int)).map D.int))) (ei_list (ev_var 5)) nd ⟨[9], _, sg_name 9 nd, by decide, fun i d acc hd ha => ?_⟩ rfl (by rw [List.length_map]; omega) ?_ (by rintro _ rfl; rfl)) ?_
    · rw [List.getElem?_map] at hd
      cases q : R[i]? with
      | none => rw [q] at hd; cases hd
      | some r =>
        rw [q] at hd; cases hd
        have hrl := hRe r (List.mem_of_getElem? q)
        refine ⟨_, (· = true), rfl, ets_nil, fun _ => EvP.imp (p := (· = D.int 0)) ?_ ?_, fun h => by cases h⟩
        · refine EvD.is (ev_callB (ea_cons (EvD.is (ev_o (eo_compM (ks.zip r) (fun q : Nat × Int => D.tup [.int q.1, .int q.2]) (fun q => decide (q.2 = 1)) (fun _ => .int 0) [("cell", 12), ("mark", 13)] (zipD_row ks r ▸ ei_zipLT (ev_var 4) (ev_var 9) N.zip) nd (sg_2 12 13 nd) (fun q hq => ?_) (by rw [List.length_zip]; omega))) (show _ = D.lst ((List.replicate ((ks.zip r).filter fun q => decide (q.2 = 1)).length (0 : Int)).map D.int) by rw [List.map_replicate, List.map_const'])) ea_nil) cd_sum N.sum) (congrArg D.int (sum_noughts _))
          have hql : q.1 < l.n := hlt q.1 (List.of_mem_zip hq).1
          refine ⟨_, rfl, ets_one (et_cmp (ev_var 13) ev_int od_eqI), fun _ => ev_ix (ev_fld (ev_var 0) rfl T.cl T.n3) (ev_var 12) (ixd_tup (prices_at hql))⟩
        · rintro _ rfl
          rw [ha, List.take_add_one, q, List.map_append]
          rfl
    · rintro _ rfl
      rw [List.length_map, List.take_length, List.map_map]
      rfl
    refine wss_frz 6 ?_
    have hR0 : R ≠ [] := by rw [← hR]; exact hne ks hmem
    have hR1 : 0 < R.length := List.length_pos_iff.mpr hR0
    refine wss_seq (ws_set 7 nd (p := (· = D.int 0)) (EvP.imp (ev_ifP (p := fun d => ∃ m0, d = .int m0 ∧ m0 ∈ R.map (fun _ => (0 : Int)) ∧ ∀ y ∈ R.map (fun _ => (0 : Int)), m0 ≤ y) (et_val (ev_var 1)) (fun h => by cases h) fun _ => ev_callBP (ea_cons (ev_var 6) ea_nil) (by rintro _ rfl; exact cd_min (by rw [List.length_map]; exact hR1)) N.min) ?_) (by rintro _ rfl; rfl)) ?_
    · rintro _ ⟨m0, rfl, hm0, _⟩
      obtain ⟨_, _, rfl⟩ := List.mem_map.mp hm0
      rfl
    refine wss_seq (ws_augAddP 3 (I := (· = 0)) nd (EvP.imp (ev_var 7) (by rintro _ rfl; exact ⟨0, rfl, rfl⟩)) (by rintro _ rfl; rfl)) ?_
    refine wss_seq (ws_set 8 nd ev_non (by rintro _ rfl; rfl)) ?_
    refine wss_cons (ws_forG R (fun r => D.tup [tI r, .int 0]) (fun xs ρ' => ∃ e9 e10 e11 : Option Ent, ρ' = [lotsE K l w m ps ring, some (.v (.bl false)), some (.o (.dI (iZ (marksZ l w ring m (ps.take i))))), some (.v (.int 0)), some (.v (lN ks)), some (.v (lT R)), some (.v (.lst ((R.map fun _ => (0 : Int)).map D.int))), some (.v (.int 0)), some (.v (bestD l ks (bestR l ks xs))), e9, e10, e11, e12, e13, e14]) (zipD_told R ▸ ei_zipLL (ev_var 5) (ev_var 6) N.zip) (sg_2 9 10 nd) ⟨_, _, _, rfl⟩ ?_ (fun ρ' h => h)) ?_
    · rintro j r ρ' hj ⟨e9, e10, e11, rfl⟩
      have hrl := hRe r (List.mem_of_getElem? hj)
      have hstep := bestR_snoc l ks (R.take j) r
      generalize bestR l ks (R.take j) = Bst at hstep
      refine ⟨_, rfl, ?_⟩
      refine wss_seq (ws_set 11 nd (ev_methP G2.to T.cl (ev_var 0) rfl (ea_cons (ev_var 4) (ea_cons (ev_var 9) ea_nil)) (by rintro _ rfl; exact ⟨l, w, 0, m, ps, ring, ks, r, rfl, hlt, hndk, hrl, h12, rfl⟩)) (by rintro _ rfl; rfl)) ?_
      cases Bst with
      | none =>
        refine wss_one (ws_if (p := (· = true)) (EvT.imp (et_w (ew_and (k := decide ((0 : Int) = 0)) (k' := true) (et_cmp (ev_var 10) (ev_var 7) od_eqI) fun _ => ew_and1 (EvT.imp (et_w (ew_or (k := true) (k' := true) (et_cmp (ev_var 8) ev_non od_isN) fun h => by cases h)) (by rintro _ rfl; rfl)))) (by rintro _ rfl; rfl)) (fun _ => ?_) fun h => by cases h)
        refine wss_one (ws_set 8 nd (ev_tup (ea_cons (ev_var 11) (ea_cons (ev_var 9) ea_nil))) ?_)
        rintro _ rfl
        rw [hstep]
        exact ⟨_, _, _, rfl⟩
      | some r' =>
        refine wss_one (ws_if (p := (· = HT.lexLt (colsR l ks r) (colsR l ks r'))) (EvT.imp (et_w (ew_and (k := decide ((0 : Int) = 0)) (k' := HT.lexLt (colsR l ks r) (colsR l ks r')) (et_cmp (ev_var 10) (ev_var 7) od_eqI) fun _ => ew_and1 (EvT.imp (et_w (ew_or (k := false) (k' := HT.lexLt (colsR l ks r) (colsR l ks r')) (et_cmp (ev_var 8) ev_non od_isN) fun _ => ew_or1 (et_cmp (ev_var 11) (ev_ix (ev_var 8) ev_int (ixd_tup (d := .lst ((colsR l ks r').map D.int)) rfl)) od_ltL))) (by rintro _ rfl; rfl)))) (by rintro _ rfl; rfl)) (fun h => ?_) fun h => wss_nil ?_)
        · refine wss_one (ws_set 8 nd (ev_tup (ea_cons (ev_var 11) (ea_cons (ev_var 9) ea_nil))) ?_)
          rintro _ rfl
          rw [hstep]
          dsimp only
          rw [if_pos h.symm]
          exact ⟨_, _, _, rfl⟩
        · rw [hstep]
          dsimp only
          rw [if_neg (by rw [← h]; exact Bool.false_ne_true)]
          exact ⟨_, _, _, rfl⟩
    rintro _ ⟨e9, e10, e11, rfl⟩
    obtain ⟨rb, hrb⟩ := bestR_some l ks hR0
    have hof : bestOf l w ring m ks = rb := by unfold bestOf; rw [hR, hrb]; rfl
    have hrbl : rb.length = ks.length := hRe rb (bestR_mem l ks _ R rfl rb hrb)
    rw [hrb]
    refine wss_one (ws_forG (ks.zip rb) (fun q : Nat × Int => D.tup [.int q.1, .int q.2]) (fun xs ρ' => ∃ e12 e13 : Option Ent, ρ' = [lotsE K l w m ps ring, some (.v (.bl false)), some (.o (.dI (iZ (marksZ l w ring m (ps.take i) ++ xs.map fun q => ((q.1 : Int), q.2))))), some (.v (.int 0)), some (.v (lN ks)), some (.v (lT R)), some (.v (.lst ((R.map fun _ => (0 : Int)).map D.int))), some (.v (.int 0)), some (.v (bestD l ks (some rb))), e9, e10, e11, e12, e13, e14]) (zipD_row ks rb ▸ ei_zipLT (ev_var 4) (ev_ix (ev_var 8) ev_int (ixd_tup (d := tI rb) rfl)) N.zip) (sg_2 12 13 nd) ⟨_, _, by rw [List.map_nil, List.append_nil]⟩ ?_ ?_)
    · rintro j q ρ' hj ⟨e12, e13, rfl⟩
      have hnew := pairs_new hne hnd hi hrbl hj
      refine ⟨_, rfl, wss_one (ws_putI 2 (ev_var 13) (ev_var 12) ?_ ?_)⟩
      · rintro _ rfl
        rw [putD_new hnew]
        refine ⟨some (.v (.int q.1)), some (.v (.int q.2)), ?_⟩
        rw [List.map_append, ← List.append_assoc]
        rfl
      · have h1 := marks_len (pok.take i) fun ks' h' => hne ks' (List.mem_of_mem_take h')
        unfold iZ
        rw [List.length_map, List.length_append, List.length_map, List.length_take, List.length_zip]
        omega
    · rintro _ ⟨e12', e13', rfl⟩
      rw [marksZ_snoc, hof]
      exact ⟨_, _, _, _, _, _, _, _, _, _, _, rfl⟩
  · rintro _ ⟨e4, e5, e6, e7, e8, e9, e10, e11, e12, e13, e14, rfl⟩
    refine wss_frz 2 ?_
    have hkeys := marks_keys hne
    have hmk : ∀ k ∈ srt ps.flatten, valD (iZ (marksZ l w ring m ps)) (k : Int) = some (.int (keptZ (marksZ l w ring m ps) k)) := fun k hkk => kept_val (by rw [hkeys]; exact List.mem_map.mpr ⟨k, srt_mem.mp hkk, rfl⟩)
    refine wss_one (ws_ret (ev_tup (ea_cons (ev_var 3) (ea_cons (ev_call G3.to (ea_cons (ev_ix (ev_fld (ev_var 0) rfl T.cl T.n1) ev_int (ixd_tup (d := .tup (l.cells.map D.int)) rfl)) (ea_cons (ev_o (eo_compM (srt ps.flatten) (fun k : Nat => D.int k) (fun k => decide (keptZ (marksZ l w ring m ps) k = 1)) (fun k => .int k) [("k", 14)] (ei_list (EvP.imp (ev_o (eo_sortedKeys (I := (· = marksZ l w ring m ps)) (EvP.imp (ev_var 2) (by rintro _ rfl; exact ⟨_, rfl, rfl⟩)) (by rintro _ rfl; have := marks_len pok hne; omega) N.sorted)) ?_)) nd (sg_name 14 nd) (fun k hkk => ⟨_, rfl, ets_one (et_cmp (ev_dgetI (ev_var 2) (ev_var 14) (hmk k hkk)) ev_int od_eqI), fun _ => ev_var 14⟩) (by rw [srt_len]; have := flat480 pok; omega))) ea_nil)) ⟨l.cells, endKs l w ring m ps, rfl, ?_, by have : l.cells.length = l.n := rfl; omega, rfl⟩) ea_nil))) (by rintro _ rfl; exact hk))
    · rintro _ ⟨_, ms, rfl, rfl, pm, pw⟩
      rw [hkeys] at pm
      rw [srt_cast pm pw, castL_D]
    · intro k hkk
      have hf := srt_mem.mp (List.mem_filter.mp hkk).1
      obtain ⟨ks, h1, h2⟩ := List.mem_flatten.mp hf
      exact pok.lt ks h1 k h2
end
end FT
/-! text M4 -/
/-! M4: all choices of rows, path by path. -/
namespace FT
open PySem PySem.Spec L2 DL
open PyProof.Rows hiding St
def comb (f : List Nat → List (List Int)) : List (List Nat) → List (List Int)
  | [] => [[]]
  | ks :: ps => (f ks).flatMap fun r => (comb f ps).map fun t => r ++ t
theorem pairs_len (C : List (List Int)) : ∀ rows : List (List Int), (rows.flatMap fun r => C.map fun t => r ++ t).length = rows.length * C.length
  | [] => by simp
  | r :: rows => by rw [List.flatMap_cons, List.length_append, pairs_len C rows, List.length_map, List.length_cons, Nat.succ_mul]; omega
theorem comb_len (f : List Nat → List (List Int)) : ∀ (ps : List (List Nat)) (a : Int), ps.foldl (fun (a : Int) ks => a * (f ks).length) a = a * (comb f ps).length
  | [], a => by simp [comb]
  | ks :: ps, a => by
    rw [List.foldl_cons, comb_len f ps, comb, pairs_len, Int.natCast_mul, Int.mul_assoc]
theorem mem_comb {f : List Nat → List (List Int)} {S : Nat → Bool} (hl : ∀ ks r, r ∈ f ks → r.length = ks.length) : ∀ {ps : List (List Nat)}, ind S ps.flatten ∈ comb f ps ↔ ∀ ks ∈ ps, ind S ks ∈ f ks
  | [] => by simp [comb, ind]
  | ks :: ps => by
    rw [List.flatten_cons, ind_app, comb, List.mem_flatMap]
    constructor
    · rintro ⟨r, hr, hu⟩
      obtain ⟨t, ht, e⟩ := List.mem_map.mp hu
      obtain ⟨e1, e2⟩ := List.append_inj e (by rw [hl ks r hr, ind_len])
      subst e1
      rw [e2] at ht
      have ih := (mem_comb hl).mp ht
      intro k hk
      rcases List.mem_cons.mp hk with q | q
      · rw [q]; exact hr
      · exact ih k q
    · intro h
      exact ⟨_, h ks (List.mem_cons_self ..), List.mem_map.mpr ⟨_, (mem_comb hl).mpr fun k hk => h k (List.mem_cons_of_mem _ hk), rfl⟩⟩
theorem comb_each {f : List Nat → List (List Int)} (hl : ∀ ks r, r ∈ f ks → r.length = ks.length) (hb : ∀ ks r, r ∈ f ks → ∀ m ∈ r, m = 0 ∨ m = 1) : ∀ {ps : List (List Nat)} {t : List Int}, t ∈ comb f ps → t.length = ps.flatten.length ∧ ∀ m ∈ t, m = 0 ∨ m = 1
  | [], t, h => by
    have : t = [] := by simpa [comb] using h
    subst this
    exact ⟨rfl, fun m hm => by cases hm⟩
  | ks :: ps, t, h => by
    rw [comb, List.mem_flatMap] at h
    obtain ⟨r, hr, h⟩ := h
    obtain ⟨u, hu, rfl⟩ := List.mem_map.mp h
    obtain ⟨i1, i2⟩ := comb_each hl hb hu
    refine ⟨by rw [List.length_append, hl ks r hr, i1, List.flatten_cons, List.length_append], fun m hm => ?_⟩
    rcases List.mem_append.mp hm with q |  q
    · exact hb ks r hr m q
    · exact i2 m q
theorem comb_nd {f : List Nat → List (List Int)} (hl : ∀ ks r, r ∈ f ks → r.length = ks.length) (hn : ∀ ks, (f ks).Nodup) : ∀ ps : List (List Nat), (comb f ps).Nodup
  | [] => by simp [comb]
  | ks :: ps => by
    rw [comb, List.Nodup, List.pairwise_flatMap]
    constructor
    · intro r hr
      rw [List.pairwise_map]
      exact (comb_nd hl hn ps).imp fun hne e => hne (List.append_cancel_left e)
    · refine List.Pairwise.imp_of_mem ?_ (hn ks)
      intro a b ha hb hab x hx y hy e
      obtain ⟨t, _, rfl⟩ := List.mem_map.mp  hx
      obtain ⟨u, _, rfl⟩ := List.mem_map.mp hy
      exact hab (List.append_inj e (by rw [hl ks a ha, hl ks b hb])).1
theorem step_nd {s0 s1 : Nat → Bool} {ring fill : Bool} {place k : Nat} {rows : List (List Int)} (h : rows.Nodup) : (stepRows s0 s1 ring fill place k rows).Nodup := by
  unfold stepRows
  rw [List.Nodup, List.pairwise_flatMap]
  constructor
  · intro one _
    unfold ext1
    rw [List.pairwise_map]
    refine List.Pairwise.imp ?_ (List.Pairwise.sublist (List.filter_sublist ..) (show ([0, 1] : List Int).Nodup by decide))
    intro a b hab e
    have := List.append_cancel_left e
    exact hab (by simpa using this)
  · refine List.Pairwise.imp ?_ h
    intro a b hab x hx y hy e
    unfold ext1 at hx hy
    obtain ⟨m, _, rfl⟩ := List.mem_map.mp hx
    obtain ⟨m', _, rfl⟩ := List.mem_map.mp hy
    exact hab (List.append_inj' e rfl).1
theorem rowsF_nd (s0 s1 : Nat → Bool) (ring fill : Bool) : ∀ (n : Nat) (ks : List Nat), ks.length = n → (rowsF s0 s1 ring fill ks).Nodup
  | 0, ks, h => by
    cases ks with
    | nil => simp [rowsF]
    | cons _ _ => cases h
  | n + 1, ks, h => by
    have hne : ks ≠ [] := fun e => by rw [e] at h; cases h
    obtain ⟨k, hk⟩ : ∃ k, ks = ks.dropLast ++ [k] := ⟨_, (List.dropLast_concat_getLast hne).symm⟩
    rw [hk, rowsF_snoc]
    exact step_nd (rowsF_nd s0 s1 ring fill n _ (by rw [List.length_dropLast, h]; rfl))
section
variable (l : Ln) (w : List (Option Int)) (ring fill : Bool)
theorem rowsOf_len (ks : List Nat) (r : List Int) (h : r ∈ rowsOf l w ring fill ks) : r.length = ks.length := sets_len h
theorem rowsOf_bits (ks : List Nat) (r : List Int) (h : r ∈ rowsOf l w ring fill ks) : ∀ m ∈ r, m = 0 ∨ m = 1 := rowsF_bits _ _ _ _ ks.length ks rfl r (List.mem_filter.mp h).1
theorem rowsOf_nd (ks : List Nat) : (rowsOf l w ring fill ks).Nodup := List.Pairwise.sublist (List.filter_sublist ..) (rowsF_nd _ _ _ _ ks.length ks rfl)
end
theorem markOf_out : ∀ {ks : List Nat} {row : List Int} {j : Nat}, j ∉ ks → markOf ks row j = 0
  | [], _, _, _ => rfl
  | _ :: _, [], _, _ => rfl
  | k :: ks, m :: ms, j, h => by
    rw [markOf, if_neg (fun e => h (by rw [e]; exact List.mem_cons_self ..))]
    exact markOf_out fun q => h (List.mem_cons_of_mem _ q)
theorem markOf_map : ∀ {ks : List Nat} {row : List Int}, ks.Nodup → row.length = ks.length → ks.map (markOf ks row) = row
  | [], [], _, _ => rfl
  | [], _ :: _, _, h => by cases h
  | _ :: _, [], _, h => by cases  h
  | k :: ks, m :: ms, hn, h => by
    have hn' := List.nodup_cons.mp  hn
    rw [List.map_cons]
    have e1 : markOf (k :: ks) (m :: ms) k = m := by rw [markOf, if_pos rfl]
    have e2 : ks.map (markOf (k :: ks) (m :: ms)) = ks.map (markOf ks ms) := List.map_congr_left fun j hj => by
      rw [markOf, if_neg (fun e => hn'.1 (by rw [e]; exact hj))]
    rw [e1, e2, markOf_map hn'.2 (by simpa using h)]
theorem markOf_ind {S : Nat → Bool} : ∀ {ks : List Nat} {j : Nat}, j ∈ ks → markOf ks (ind S ks) j = bit (S j)
  | k :: ks, j, h => by
    show (if k = j then bit (S k) else markOf ks (ind S ks) j) = _
    by_cases e : k = j
    · rw [if_pos e, e]
    · rw [if_neg e]
      rcases List.mem_cons.mp h with q |  q
      · exact absurd q.symm e
      · exact markOf_ind q
  | [], _, h => by cases h
/-- the cells that some marks turn -/
def tS (fl : List Nat) (t : List Int) : Nat → Bool := fun k => decide (markOf fl t k = 1)
theorem bit_one (b : Bool) : decide (bit b = 1) = b := by cases b <;> rfl
theorem tS_out {fl : List Nat} {t : List Int} {k : Nat} (h : k ∉ fl) : tS fl t k = false := by
  unfold tS; rw [markOf_out h]; rfl
theorem tS_ind {fl : List Nat} {S : Nat → Bool} {k : Nat} (h : k ∈ fl) : tS fl (ind S fl) k = S k := by
  unfold tS; rw [markOf_ind h, bit_one]
theorem ind_tS {fl : List Nat} {t : List Int} (hn : fl.Nodup) (hl : t.length = fl.length) (hb : ∀ m ∈ t, m = 0 ∨ m = 1) : ind (tS fl t) fl = t := by
  have e := markOf_map hn hl
  conv => rhs; rw [← e]
  refine List.map_congr_left fun k hk => ?_
  have : markOf fl t k ∈ t := by
    rw [← e] ; rw [e]
    have h2 : markOf fl t k ∈ fl.map (markOf fl t) := List.mem_map.mpr ⟨k, hk, rfl⟩
    rw [e] at h2; exact h2
  exact (bit_is (hb _ this)).symm
theorem ind_congr {S T : Nat → Bool} {ks : List Nat} (h : ∀ k ∈ ks, S k = T k) : ind S ks = ind T ks := List.map_congr_left fun k hk => by rw [h k hk]
/-- good sets of turned cells -/
def GoodS (l : Ln) (w : List (Option Int)) (fill : Bool) (S : Nat → Bool) : Prop := Ind l S ∧ FitS l w S ∧ (fill = true → Full l S)
theorem still_iff {l : Ln} {w : List (Option Int)} : stillB l w = true ↔ ∀ k, k < l.n → k ∉ l.ready → suit0 l w k = true := by
  unfold stillB
  rw [List.isEmpty_iff, List.filter_eq_nil_iff]
  constructor
  · intro h k hk hr
    have := h k (List.mem_range.mpr hk)
    cases q : suit0 l w k with
    | true => rfl
    | false => rw [q] at this; simp [hr] at this
  · intro h k hk
    by_cases hr : k ∈ l.ready
    · simp [hr]
    · rw [h k (List.mem_range.mp hk) hr]; simp
theorem smB_bit (s0 s1 : Nat → Bool) (k : Nat) (b : Bool) : smB s0 s1 k (bit b) = if b = true then s1 k else s0 k := by
  cases b <;> rfl
section
variable {l : Ln} {w : List (Option Int)} {ring fill : Bool} {ps : List (List Nat)}
theorem good_iff (pf : PF l ps ring) {S : Nat → Bool} (hS : ∀ k, k < l.n → S k = true → k ∈ l.ready) : (stillB l w = true ∧ ∀ ks ∈ ps, ind S ks ∈ rowsOf l w ring fill ks) ↔ GoodS l w fill S := by
  rw [pf.rows w fill S hS]
  constructor
  · rintro ⟨hst, h1, h2, h3⟩
    refine ⟨⟨hS, fun k hk hs => h2 k (hS k hk hs) hs⟩, fun k hk => ?_, h3⟩
    by_cases hr : k ∈ l.ready
    · have := h1 k hr
      rw [smB_bit] at this
      exact this
    · have q : S k = false := by
        cases q : S k with
        | false => rfl
        | true => exact absurd (hS k hk q) hr
      rw [q, if_neg Bool.false_ne_true]
      exact still_iff.mp hst k hk hr
  · rintro ⟨I, F, h3⟩
    refine ⟨still_iff.mpr fun k hk hr => ?_, fun k hk => ?_, fun k hk hs => I.apart k (mem_ready.mp hk).1 hs, h3⟩
    · have := F k hk
      have q : S k = false := by
        cases q : S k with
        | false => rfl
        | true => exact absurd (hS k hk q) hr
      rw [q, if_neg Bool.false_ne_true] at this
      exact this
    · rw [smB_bit]
      exact F k (mem_ready.mp hk).1
theorem tS_sub (pf : PF l ps ring) (t : List Int) : ∀ k, k < l.n → tS ps.flatten t k = true → k ∈ l.ready := fun k _ h => by
  apply Classical.byContradiction
  intro hr
  rw [tS_out (fun q => hr ((pf.mem k).mp q))] at h
  cases h
theorem comb_good (pf : PF l ps ring) (hst : stillB l w = true) {t : List Int} (ht : t ∈ comb (rowsOf l w ring fill) ps) : ind (tS ps.flatten t) ps.flatten = t ∧ GoodS l w fill (tS ps.flatten t) := by
  obtain ⟨h1, h2⟩ := comb_each (rowsOf_len l w ring fill) (rowsOf_bits l w ring fill) ht
  have e := ind_tS pf.nd h1 h2
  refine ⟨e, (good_iff pf (tS_sub pf t)).mp ⟨hst, (mem_comb (rowsOf_len l w ring fill)).mp ?_⟩⟩
  rw [e]; exact ht
theorem good_comb (pf : PF l ps ring) {S : Nat → Bool} (g : GoodS l w fill S) : stillB l w = true ∧ ind S ps.flatten ∈ comb (rowsOf l w ring fill) ps ∧ ∀ ks ∈ ps, ind S ks ∈ rowsOf l w ring fill ks := by
  obtain ⟨a, b⟩ := (good_iff pf g.1.rdy).mpr g
  exact ⟨a, (mem_comb (rowsOf_len l w ring fill)).mpr b, b⟩
theorem col_inj {S T : Nat → Bool} (h : colS l S = colS l T) : ∀ k ∈ l.ready, S k = T k := fun k hk => by
  have hkn := (mem_ready.mp hk).1
  have hr := (isReady_iff hkn).mp (mem_ready.mp hk).2
  have hne : pre l k ≠ own l k := by rw [pre_eq hkn, hr.2.1]; exact hr.2.2
  have e := congrArg (fun c => c[k]?) h
  unfold colS at e
  simp only [List.getElem?_map, List.getElem?_range hkn, Option.map_some, Option.some.injEq] at e
  cases a : S k <;> cases b : T k
  · rfl
  · rw [a, b] at e; simp at e; exact absurd e.symm hne
  · rw [a, b] at e; simp at e; exact absurd e hne
  · rfl
theorem tS_col (pf : PF l ps ring) {S : Nat → Bool} (hS : ∀ k, k < l.n → S k = true → k ∈ l.ready) : colS l (tS ps.flatten (ind S ps.flatten)) = colS l S := colS_congr fun k hk => by
  by_cases hr : k ∈ l.ready
  · exact tS_ind ((pf.mem k).mpr hr)
  · rw [tS_out fun q => hr ((pf.mem k).mp q)]
    cases q : S k with
    | false => rfl
    | true => exact absurd (hS k hk q) hr
/-- how many ends there are with the wished colours -/
theorem count_is (pf : PF l ps ring) {m : Nat} (hm : Lv l m) (hw : w.length = l.n) {B : List (List Int)} (hB : B = ((endsF l [] (levKs l m)).map (·.1)).filter (fitsB · w)) : countF l w ring true ps = B.length := by
  have mB : ∀ c, c ∈ B ↔ ∃ S, GoodS l w true S ∧ c = colS l S := fun c => by
    rw [hB, mem_lasts hm hw]
    exact ⟨fun ⟨S, a, b, d, e⟩ => ⟨S, ⟨a, d, fun _ => b⟩, e⟩, fun ⟨S, ⟨a, d, b⟩, e⟩ => ⟨S, a, b rfl, d, e⟩⟩
  have nB : B.Nodup := by rw [hB]; exact List.Pairwise.sublist (List.filter_sublist ..) (((endsF_keys l (levKs l m) []) List.nodup_nil).1)
  unfold countF
  rw [comb_len]
  cases hst : stillB l w with
  | false =>
    rw [if_neg Bool.false_ne_true, Int.zero_mul]
    cases q : B with
    | nil => rfl
    | cons c cs =>
      obtain ⟨S, g, _⟩ := (mB c).mp (by rw [q]; exact List.mem_cons_self ..)
      rw [(good_comb pf g).1] at hst; cases hst
  | true =>
    rw [if_pos rfl, Int.one_mul]
    have nA : ((comb (rowsOf l w ring true) ps).map fun t => colS l (tS ps.flatten t)).Nodup := by
      rw [List.Nodup, List.pairwise_map]
      refine List.Pairwise.imp_of_mem ?_ (comb_nd (rowsOf_len l w ring true) (rowsOf_nd l w ring true) ps)
      intro a b ha hb hab e
      apply hab
      rw [← (comb_good pf hst ha).1, ← (comb_good pf hst hb).1]
      exact ind_congr fun k hk => col_inj e k ((pf.mem k).mp hk)
    have s1 := nodup_le nA (ys := B) fun c hc => by
      obtain ⟨t, ht, rfl⟩ := List.mem_map.mp hc
      exact (mB _).mpr ⟨_, (comb_good pf hst ht).2, rfl⟩
    have s2 := nodup_le nB (ys := (comb (rowsOf l w ring true) ps).map fun t => colS l (tS ps.flatten t)) fun c hc => by
      obtain ⟨S, g, rfl⟩ := (mB c).mp hc
      exact List.mem_map.mpr ⟨_, (good_comb pf g).2.1, tS_col pf g.1.rdy⟩
    rw [List.length_map] at s1 s2
    rw [Nat.le_antisymm s1 s2]
end
end FT
/-! text M5 -/
/-! M5: the least end. -/
namespace FT
open PySem PySem.Spec L2 DL
open PyProof.Rows hiding St
theorem lex_irr : ∀ a : List Int, HT.lexLt a a = false
  | [] => rfl
  | x :: xs => by rw [HT.lexLt_cons, if_pos rfl]; exact lex_irr xs
theorem lex_trans : ∀ {a b c : List Int}, HT.lexLt a b = true → HT.lexLt b c = true → HT.lexLt a c = true
  | [], [], _, h, _ => by cases h
  | [], _ :: _, [], _, h => by cases h
  | [], _ :: _, _ :: _, _, _ =>  rfl
  | _ :: _, [], _, h, _ => by cases  h
  | _ :: _, _ :: _, [], _, h => by cases h
  | x :: xs, y :: ys, z :: zs, h1, h2 =>  by
    rw [HT.lexLt_cons] at h1 h2 ⊢
    by_cases e1 : x = y
    · subst e1
      rw [if_pos rfl] at h1
      by_cases e2 : x = z
      · rw [if_pos e2] at h2 ⊢
        exact lex_trans h1 h2
      · rw [if_neg e2] at h2 ⊢
        exact h2
    · rw [if_neg e1] at h1
      have l1 := of_decide_eq_true h1
      by_cases e2 : y = z
      · subst e2
        rw [if_neg e1]
        exact h1
      · rw [if_neg e2] at h2
        have l2 := of_decide_eq_true h2
        rw [if_neg (by omega)]
        exact decide_eq_true (by  omega)
theorem lex_anti : ∀ {a b : List Int}, HT.lexLt a b = false → HT.lexLt b a = false → a = b
  | [], [], _, _ => rfl
  | [], _ :: _, h, _ => by cases  h
  | _ :: _, [], _, h => by cases  h
  | x :: xs, y :: ys, h1, h2 => by
    rw [HT.lexLt_cons] at h1 h2
    by_cases e : x = y
    · subst e
      rw [if_pos rfl] at h1 h2
      rw [lex_anti h1 h2]
    · rw [if_neg e] at h1
      rw [if_neg (fun q => e q.symm)] at h2
      have l1 := of_decide_eq_false h1
      have l2 := of_decide_eq_false h2
      exact absurd (show x = y by omega) e
/-- where the first difference lies -/
theorem lex_split {α : Type} (f g : α → Int) : ∀ xs : List α, HT.lexLt (xs.map f) (xs.map g) = true ↔ ∃ a j b, xs = a ++ j :: b ∧ (∀ i ∈ a, f i = g i) ∧ f j < g j
  | [] => by
    constructor
    · intro h; cases h
    · rintro ⟨a, j, b, e, _⟩
      cases a <;> cases e
  | x :: xs => by
    rw [List.map_cons, List.map_cons, HT.lexLt_cons]
    constructor
    · intro h
      by_cases e : f x = g x
      · rw [if_pos e] at h
        obtain ⟨a, j, b, rfl, h1, h2⟩ := (lex_split f g xs).mp h
        refine ⟨x :: a, j, b, rfl, fun i hi => ?_, h2⟩
        rcases List.mem_cons.mp hi with q | q
        · rw [q]; exact e
        · exact h1 i q
      · rw [if_neg e] at h
        exact ⟨[], x, xs, rfl, (fun _ h => nomatch h), of_decide_eq_true h⟩
    · rintro ⟨a, j, b, e, h1, h2⟩
      cases a with
      | nil =>
        cases e
        rw [if_neg (by omega)]
        exact decide_eq_true h2
      | cons y a =>
        cases e
        rw [if_pos (h1 x (List.mem_cons_self ..))]
        exact (lex_split f g _).mpr ⟨a, j, b, rfl, fun i hi => h1 i (List.mem_cons_of_mem _ hi), h2⟩
theorem best_least (l : Ln) (ks : List Nat) : ∀ (n : Nat) (rows : List (List Int)), rows.length = n → ∀ b, bestR l ks rows = some b → ∀ r ∈ rows, HT.lexLt (colsR l ks r) (colsR l ks b) = false
  | 0, rows, h, b, e, r, hr => by rw [List.length_eq_zero_iff.mp h] at hr; cases hr
  | n + 1, rows, h, b, e, r, hr => by
    rcases List.eq_nil_or_concat rows with q | ⟨rs, one, q⟩
    · rw [q] at h; cases h
    · rw [List.concat_eq_append] at q
      subst q
      rw [bestR_snoc] at e
      have hrs : rs.length = n := by simpa using h
      cases hb : bestR l ks rs with
      | none =>
        rw [hb] at e
        rw [← Option.some.inj e]
        have : rs = [] := by
          apply Classical.byContradiction
          intro hne
          obtain ⟨r', h'⟩ := bestR_some l ks hne
          rw [hb] at h'; cases h'
        subst this
        rw [List.mem_singleton.mp (show r ∈ [one] from hr)]
        exact lex_irr _
      | some b' =>
        rw [hb] at e
        dsimp only at e
        have ih := best_least l ks n rs hrs b' hb
        by_cases c : HT.lexLt (colsR l ks one) (colsR l ks b') = true
        · rw [if_pos c] at e
          rw [← Option.some.inj e]
          rcases List.mem_append.mp hr with q | q
          · cases z : HT.lexLt (colsR l ks r) (colsR l ks one) with
            | false => rfl
            | true =>
              have := lex_trans z c
              rw [ih r q] at this; cases this
          · rw [List.mem_singleton.mp q]; exact lex_irr _
        · rw [if_neg c] at e
          rw [← Option.some.inj e]
          rcases List.mem_append.mp hr with q | q
          · exact ih r q
          · rw [List.mem_singleton.mp q]
            cases z : HT.lexLt (colsR l ks one) (colsR l ks b') with
            | false => rfl
            | true => exact absurd z c
theorem kept_mark : ∀ {fl : List Nat} {t : List Int} {k : Nat}, t.length = fl.length → keptZ (pairsZ fl t) k = markOf fl t k
  | [], [], _, _ => rfl
  | [], _ :: _, _, h => by cases h
  | _ :: _, [], _, h => by cases  h
  | j :: fl, m :: t, k, h => by
    show ((List.find? (fun p => decide (p.1 = (k : Int))) (((j : Int), m) :: pairsZ fl t)).map (·.2)).getD 0 = if j = k then m else markOf fl t k
    rw [List.find?_cons]
    by_cases e : j = k
    · subst e
      rw [if_pos rfl, show decide (((j : Int), m).1 = (j : Int)) = true from decide_eq_true rfl]
      rfl
    · rw [if_neg e, show decide (((j : Int), m).1 = (k : Int)) = false from decide_eq_false (by show ¬ (j : Int) = (k : Int); omega)]
      exact kept_mark (by simpa using h)
theorem pairsZ_app : ∀ {a : List Nat} {r : List Int} (b : List Nat) (t : List Int), r.length = a.length → pairsZ (a ++ b) (r ++ t) = pairsZ a r ++ pairsZ b t := fun {a r} b t h => by
  unfold pairsZ
  rw [List.zip_append h.symm, List.map_append]
theorem flat_inj {f g : List Nat → List Int} : ∀ {ps : List (List Nat)}, (∀ ks ∈ ps, (f ks).length = (g ks).length) → ps.flatMap f = ps.flatMap g → ∀ ks ∈ ps, f ks = g ks
  | [], _, _, _, h => by cases  h
  | x :: ps, hl, e, ks, h => by
    rw [List.flatMap_cons, List.flatMap_cons] at e
    obtain ⟨e1, e2⟩ := List.append_inj e (hl x (List.mem_cons_self ..))
    rcases List.mem_cons.mp h with q |  q
    · rw [q]; exact e1
    · exact flat_inj (fun k hk => hl k (List.mem_cons_of_mem _ hk)) e2 ks q
theorem ind_flat (S : Nat → Bool) : ∀ ps : List (List Nat), ind S ps.flatten = ps.flatMap (ind S)
  | [] => rfl
  | ks :: ps => by rw [List.flatten_cons, ind_app, ind_flat S ps, List.flatMap_cons]
theorem flat_comb {f : List Nat → List (List Int)} {b : List Nat → List Int} : ∀ {ps : List (List Nat)}, (∀ ks ∈ ps, b ks ∈ f ks) → ps.flatMap b ∈ comb f ps
  | [], _ => by simp [comb]
  | ks :: ps, h => by
    rw [List.flatMap_cons, comb]
    exact List.mem_flatMap.mpr ⟨_, h ks (List.mem_cons_self ..), List.mem_map.mpr ⟨_, flat_comb fun k hk => h k (List.mem_cons_of_mem _ hk), rfl⟩⟩
/-- turning cells one by one -/
theorem turned_col (l : Ln) : ∀ (n : Nat) (KS : List Nat), KS.length = n → (∀ k ∈ KS, k < l.n) → turnedL l.cells KS = colS l fun k => decide (k ∈ KS)
  | 0, KS, h, _ => by
    rw [List.length_eq_zero_iff.mp h]
    rw [colS_none l fun k _ => by simp]
    rfl
  | n + 1, KS, h, hk => by
    rcases List.eq_nil_or_concat KS with q | ⟨rs, k, q⟩
    · rw [q] at h; cases h
    · rw [List.concat_eq_append] at q
      subst q
      rw [turnedL_snoc, turned_col l n rs (by simpa using h) fun x hx => hk x (List.mem_append_left _ hx)]
      have hkn := hk k (by simp)
      apply List.ext_getElem?
      intro i
      rw [List.getElem?_set]
      unfold colS
      rw [List.length_map, List.length_range, List.getElem?_map, List.getElem?_map]
      by_cases e : k = i
      · subst e
        rw [if_pos rfl, if_pos hkn, List.getElem?_range hkn]
        simp [pre]
      · rw [if_neg e]
        by_cases hi : i < l.n
        · rw [List.getElem?_range hi]
          have e2 : (i = k) = False := by simp; exact fun q => e q.symm
          simp [e2]
        · rw [List.getElem?_eq_none (by rw [List.length_range]; omega)]
          rfl
theorem marks_pairs {l : Ln} {w : List (Option Int)} {ring m : Bool} : ∀ {ps : List (List Nat)}, (∀ ks ∈ ps, (bestOf l w ring m ks).length = ks.length) → marksZ l w ring m ps = pairsZ ps.flatten (ps.flatMap (bestOf l w ring m))
  | [], _ => rfl
  | ks :: ps, h => by
    rw [List.flatten_cons, List.flatMap_cons, pairsZ_app _ _ (h ks (List.mem_cons_self ..)), ← marks_pairs fun k hk => h k (List.mem_cons_of_mem _ hk)]
    unfold marksZ
    rw [List.flatMap_cons]
section
variable {l : Ln} {w : List (Option Int)} {ring : Bool} {ps : List (List Nat)}
/-- the colour of a cell -/
def colA (l : Ln) (S : Nat → Bool) (k : Nat) : Int := if S k = true then pre l k else own l k
theorem colsR_ind {S : Nat → Bool} {ks : List Nat} : colsR l ks (ind S ks) = (srt ks).map (colA l S) := by
  unfold colsR
  refine List.map_congr_left fun k hk => ?_
  unfold colR colA
  rw [markOf_ind (srt_mem.mp hk)]
  cases S k <;> rfl
theorem least_end (pf : PF l ps ring) {S T : Nat → Bool} (gS : GoodS l w true S) (gT : GoodS l w true T) (hT : ∀ ks ∈ ps, ind T ks = bestOf l w ring true ks) : HT.lexLt (colS l S) (colS l T) = false := by
  cases q : HT.lexLt (colS l S) (colS l T) with
  | false => rfl
  | true =>
    obtain ⟨a, j, b, e, h1, h2⟩ := (lex_split (colA l S) (colA l T) (List.range l.n)).mp q
    have hj : j < l.n := List.mem_range.mp (by rw [e]; simp)
    have hlt : ∀ i, i < j → colA l S i = colA l T i := fun i hi => by
      have hi' : i ∈ a ++ j :: b := by rw [← e]; exact List.mem_range.mpr (by omega)
      have pw := List.pairwise_lt_range (n := l.n)
      rw [e] at pw
      rcases List.mem_append.mp hi' with m | m
      · exact h1 i m
      · rcases List.mem_cons.mp m with m | m
        · omega
        · have := (List.pairwise_cons.mp (List.pairwise_append.mp pw).2.1).1 i m
          omega
    have hr : j ∈ l.ready := by
      have hne : S j ≠ T j := fun z => by unfold colA at h2; rw [z] at h2; omega
      cases s : S j with
      | true => exact gS.1.rdy j hj s
      | false =>
        cases t : T j with
        | true => exact gT.1.rdy j hj t
        | false => rw [s, t] at hne; exact absurd rfl hne
    obtain ⟨ks, hks, hjk⟩ := List.mem_flatten.mp ((pf.mem j).mpr hr)
    obtain ⟨_, _, hS⟩ := good_comb pf gS
    have hne : rowsOf l w ring true ks ≠ [] := fun z => by
      have := hS ks hks
      rw [z] at this; cases this
    obtain ⟨bb, hb⟩ := bestR_some l ks hne
    have hbo : bestOf l w ring true ks = bb := by unfold bestOf; rw [hb]; rfl
    have bl := best_least l ks _ _ rfl bb hb _ (hS ks hks)
    rw [← hbo, ← hT ks hks, colsR_ind, colsR_ind] at bl
    have nd : (srt ks).Nodup := (srt_perm ks).nodup_iff.mpr (List.Pairwise.sublist (List.sublist_flatten_of_mem hks) pf.nd)
    obtain ⟨a', b', e'⟩ := List.append_of_mem (srt_mem.mpr hjk)
    have : HT.lexLt ((srt ks).map (colA l S)) ((srt ks).map (colA l T)) = true := (lex_split (colA l S) (colA l T) (srt ks)).mpr ⟨a', j, b', e', fun i hi => by
      refine hlt i ?_
      have rise := srt_rise ks
      rw [e'] at rise nd
      have h3 := (List.pairwise_append.mp rise).2.2 i hi j (List.mem_cons_self ..)
      have h4 := (List.nodup_append.mp nd).2.2 i hi j (List.mem_cons_self ..)
      omega, h2⟩
    rw [this] at bl; cases bl
theorem first_is (pf : PF l ps ring) {m : Nat} (hm : Lv l m) (hw : w.length = l.n) {B : List (List Int)} (hB : B = ((endsF l [] (levKs l m)).map (·.1)).filter (fitsB · w)) {u : List Int} {us : List (List Int)} (pm : (u :: us).Perm B) (pw : (u :: us).Pairwise (fun a b => HT.lexLt b a = false)) : turnedL l.cells (endKs l w ring true ps) = u := by
  have mB : ∀ c, c ∈ B ↔ ∃ S, GoodS l w true S ∧ c = colS l S := fun c => by
    rw [hB, mem_lasts hm hw]
    exact ⟨fun ⟨S, a, b, d, e⟩ => ⟨S, ⟨a, d, fun _ => b⟩, e⟩, fun ⟨S, ⟨a, d, b⟩, e⟩ => ⟨S, a, b rfl, d, e⟩⟩
  obtain ⟨U, gU, eU⟩ := (mB u).mp (pm.mem_iff.mp (List.mem_cons_self ..))
  obtain ⟨hst, _, hU⟩ := good_comb pf gU
  have hne : ∀ ks ∈ ps, rowsOf l w ring true ks ≠ [] := fun ks hks z => by
    have := hU ks hks
    rw [z] at this; cases this
  have hbest : ∀ ks ∈ ps, bestOf l w ring true ks ∈ rowsOf l w ring true ks := fun ks hks => by
    obtain ⟨b, hb⟩ := bestR_some l ks (hne ks hks)
    unfold bestOf
    rw [hb]
    exact bestR_mem l ks _ _ rfl b hb
  have ht := flat_comb hbest
  obtain ⟨eT, gT⟩ := comb_good pf hst ht
  have hlen := (comb_each (rowsOf_len l w ring true) (rowsOf_bits l w ring true) ht).1
  generalize hTd : tS ps.flatten (ps.flatMap (bestOf l w ring true)) = T at eT gT
  have hT : ∀ ks ∈ ps, ind T ks = bestOf l w ring true ks := by
    rw [ind_flat] at eT
    exact flat_inj (fun ks hks => by rw [ind_len, rowsOf_len l w ring true ks _ (hbest ks hks)]) eT
  have hmz := marks_pairs (m := true) fun ks hks => rowsOf_len l w ring true ks _ (hbest ks hks)
  have hend : ∀ k, k ∈ endKs l w ring true ps ↔ k ∈ ps.flatten ∧ T k = true := fun k => by
    unfold endKs
    rw [List.mem_filter, srt_mem, hmz, kept_mark hlen, ← hTd]
    exact Iff.rfl
  have hcol : turnedL l.cells (endKs l w ring true ps) = colS l T := by
    rw [turned_col l _ _ rfl fun k hk => (mem_ready.mp ((pf.mem k).mp ((hend k).mp hk).1)).1]
    refine colS_congr fun k hk => ?_
    by_cases hr : k ∈ l.ready
    · cases q : T k with
      | true => exact decide_eq_true ((hend k).mpr ⟨(pf.mem k).mpr hr, q⟩)
      | false => exact decide_eq_false fun z => by rw [((hend k).mp z).2] at q; cases q
    · have q : T k = false := by
        cases q : T k with
        | false => rfl
        | true => exact absurd (gT.1.rdy k hk q) hr
      rw [q]
      exact decide_eq_false fun z => hr ((pf.mem k).mp ((hend k).mp z).1)
  rw [hcol]
  have l1 : HT.lexLt u (colS l T) = false := by rw [eU]; exact least_end pf gU gT hT
  have l2 : HT.lexLt (colS l T) u = false := by
    have hin := pm.mem_iff.mpr ((mB _).mpr ⟨T, gT, rfl⟩)
    rcases List.mem_cons.mp hin with q | q
    · rw [← q]; exact lex_irr _
    · exact (List.pairwise_cons.mp pw).1 _ q
  exact lex_anti l2 l1
end
end FT
/-! text P21 -/
/-! P21: wished_end. -/
namespace FT
open PySem PySem.Spec L2 DL
open PyProof.Rows hiding St
theorem scWEnd : FnScope ["line", "wish", "lots"] ["line", "wish"] (defScope sWEnd) := ⟨rfl, rfl, rfl, by decide +kernel, rfl, by decide +kernel, by decide +kernel⟩
theorem fold_zero {α : Type} (f : α → Int) : ∀ xs : List α, xs.foldl (fun (a : Int) x => a * f x) 0 = 0
  | [] => rfl
  | x :: xs => by rw [List.foldl_cons, Int.zero_mul]; exact fold_zero f xs
theorem fold_has {α : Type} (f : α → Int) : ∀ (xs : List α) (a : Int), (∃ x ∈ xs, f x = 0) → xs.foldl (fun (a : Int) x => a * f x) a = 0
  | [], _, ⟨_, h, _⟩ => by cases h
  | x :: xs, a, ⟨y, h, e⟩ => by
    rw [List.foldl_cons]
    rcases List.mem_cons.mp h with q |  q
    · subst q; rw [e, Int.mul_zero]; exact fold_zero f xs
    · exact fold_has f xs _ ⟨y, q, e⟩
theorem count_pos {l : Ln} {w : List (Option Int)} {ring m : Bool} {ps : List (List Nat)} (h : 0 < countF l w ring m ps) : stillB l w = true ∧ ∀ ks ∈ ps, rowsOf l w ring m ks ≠ [] := by
  unfold countF at h
  constructor
  · cases q : stillB l w with
    | true => rfl
    | false =>
      rw [q, if_neg Bool.false_ne_true, fold_zero (fun ks => ((rowsOf l w ring m ks).length : Int))] at h
      exact absurd h (Int.lt_irrefl _)
  · intro ks hk e
    rw [fold_has (fun ks => ((rowsOf l w ring m ks).length : Int)) ps _ ⟨ks, hk, by rw [e]; rfl⟩] at h
    exact absurd h (Int.lt_irrefl _)
section
variable {C : Cfg} {K : Addr}
def SWEnd : List D → (D → Prop) → Prop := fun ds k => ∃ (l : Ln) (w : List (Option Int)), ds = [l.D, wishD w] ∧ l.Ok ∧ WishOk l w ∧ GoodL l ∧ (∀ ps ring, PathsOk l ps ring → ps.flatten.Nodup) ∧ ∀ ps ring, PathsOk l ps ring → (0 < countF l w ring true ps → k (tI (turnedL l.cells (endKs l w ring true ps)))) ∧ (¬ 0 < countF l w ring true ps → k .non)
theorem fn_wished_end (N : Bare C) (T : LotsC C K) (G1 : FnD C 4 "need_wish" SNeedWish) (M : MkD C 7 "Lots" K (SInit K)) (G2 : MthD C 5 K "count" (SCount K)) (G3 : MthD C 3 K "best" (SBest K)) {f : Addr} {fd : FuncData} (F : Fun C.K "wished_end" "wished_end" sWEnd f fd) (hm : C.mg "wished_end" = some (.ref f)) (hb : Binds C.K fd ["line", "wish"] []) : FnD C 9 "wished_end" SWEnd := by
  refine fnD F hm hb scWEnd (by rintro ds k ⟨l, w, rfl, _⟩; rfl) ?_
  rintro ds kk ⟨l, w, rfl, ok, wok, good, hnd, hk⟩
  have h1 : 1 ≤ l.n := ok.pos
  have h2 : l.n ≤ 40 := ok.most
  refine wss_seq (ws_expr (ev_call G1.to (ea_cons (ev_var 0) (ea_cons (ev_var 1) ea_nil)) ⟨l, w, rfl, ok, wok, rfl⟩) rfl) ?_
  refine wss_cons (M := fun ρ' => ∃ ps ring, PathsOk l ps ring ∧ ρ' = [some (.v l.D), some (.v (wishD w)), some (.o (.obj K (lotsF l w 0 true ps ring)))]) (ws_setO 2 (p := fun d => ∃ fs, (∃ ps ring, PathsOk l ps ring ∧ fs = lotsF l w 0 true ps ring) ∧ d = .obj K fs) scWEnd.nd (eo_make M.to (ea_cons (ev_var 0) (ea_cons (ev_var 1) (ea_cons (ev_bin (ev_tup (ea_cons ev_int ea_nil)) (EvD.is (ev_callB (ea_cons (ev_ix (ev_var 0) ev_int (ixd_tup (d := .tup (l.cells.map D.int)) rfl)) ea_nil) cd_lenT N.len) (show _ = D.int (l.n : Int) by rw [List.length_map]; rfl)) (od_rep h1 (by omega))) (ea_cons ev_bl ea_nil))))
    ⟨l, w, 0, true, rfl, ok, wok, fun ps ring h => ⟨_, ⟨ps, ring, h, rfl⟩, rfl⟩⟩) ?_) ?_
  · rintro _ ⟨_, ⟨ps, ring, h, rfl⟩, rfl⟩
    exact ⟨ps, ring, h, rfl⟩
  · rintro _ ⟨ps, ring, hps, rfl⟩
    refine wss_frz 2 ?_
    have pok := good ps ring hps
    refine wss_one (ws_ret (p := kk) (ev_ifP (pk := (· = decide (0 < countF l w ring true ps))) (et_cmp (ev_methP0 G2.to T.cl (ev_var 2) rfl ⟨l, w, 0, true, ps, ring, rfl, ok, wok, pok, .inl rfl, rfl⟩) ev_int od_gt) (fun h => ?_) fun h => EvP.imp ev_non ?_) fun _ h => h)
    · have hp : 0 < countF l w ring true ps := of_decide_eq_true h.symm
      refine EvP.imp (ev_ix (ev_methP G3.to T.cl (ev_var 2) rfl (ea_cons ev_bl ea_nil) (by rintro _ rfl; exact ⟨l, w, true, ps, ring, rfl, h2, pok, hnd ps ring hps, (count_pos hp).2, rfl⟩)) ev_int (ixd_tup (d := tI (turnedL l.cells (endKs l w ring true ps))) rfl)) ?_
      rintro _ rfl
      exact (hk ps ring hps).1 hp
    · rintro _ rfl
      exact (hk ps ring hps).2 (of_decide_eq_false h.symm)
end
end FT
/-! text LK14 -/
/-! LK14: sorted(d.keys()), the keys tuples of ints. -/
namespace DL
open PySem PySem.Spec L2 PySem.W PySem.Calls
open PyProof.Rows hiding St
abbrev TK := List Int × Addr
def encT (b : TK) : PyData := .tuple (b.1.map .int)
theorem encT_depth (b : TK) : (encT b).depth = 1 := by
  unfold encT
  simp only [PyData.depth, PySem.W.depth_ints]
theorem encT_alike (b c : TK) : alike (encT b) (encT c) = true := by
  unfold encT
  simp only [alike, PySem.W.alike_ints]
theorem eachT_refs {vs : List Value} {bs : List TK} (h : EachIs (fun v b => v = Value.ref b.2) vs bs) : vs = bs.map fun b => Value.ref b.2 := by
  induction h with
  | nil => rfl
  | cons r _ ih => rw [List.map_cons, r, ih]
theorem eachT_of {R : Value → TK → Prop} : ∀ {bs : List TK}, (∀ b ∈ bs, R (.ref b.2) b) → EachIs R (bs.map fun b => Value.ref b.2) bs
  | [], _ => .nil
  | b :: bs, h => .cons (h b (List.mem_cons_self ..)) (eachT_of fun c hc => h c (List.mem_cons_of_mem _ hc))
theorem readsT {P : Program} {w : World} {H : Hp} {h : Heap} {a : Addr} {k : List Int} (ok : HOk P w H h) (x : H a = some (.tup (k.map V.int))) : Reads h (.ref a) (encT (k, a)) [] := by
  obtain ⟨i1, o1, n1, r1, g1, c1, d1⟩ := tup_at ok x
  exact .tuple g1 c1 d1 (by simpa using reads_ints r1)
/-- the keys with the addresses that they stand at -/
theorem keysT_at {H : Hp} : ∀ {kvs : List (List Key × V)} {xs : List (List Key × Addr × Value)} {us : List (List Int)}, KT H kvs xs → kvs.map (·.1) = us.map (fun u => u.map fun i : Int => (Sum.inl i : Key)) → ∃ bs : List TK, bs.map (·.1) = us ∧ bs.map (·.2) = xs.map (·.2.1) ∧ ∀ b ∈ bs, H b.2 = some (.tup (b.1.map V.int))
  | _, _, [], .nil, _ => ⟨[], rfl, rfl, fun _ h => nomatch h⟩
  | _, _, u :: us, .cons (a := p) (b := q) h t, e => by
    rw [List.map_cons, List.map_cons] at  e
    injection e with e1 e2
    obtain ⟨bs, b1, b2, b3⟩ := keysT_at t e2
    refine ⟨(u, q.2.1) :: bs, by rw [List.map_cons, b1], by rw [List.map_cons, List.map_cons, b2], fun b hb => ?_⟩
    rcases List.mem_cons.mp hb with rfl |  hb
    · have := h.2.1
      rw [e1, List.map_map] at this
      exact this
    · exact b3 b hb
  | _, _, _ :: _, .nil, e => nomatch e
  | _, _, [], .cons _ _, e => nomatch e
section
variable {X : Cx} {o : Expr} {td : TE} {p pos apos mpos : Pos}
def tSortT (td : TE) : TE := fun σ H Q => td σ H fun x H1 => ∃ a kvs us, x = V.ref a ∧ Rd H1 a (.dT kvs) ∧ kvs.map (·.1) = us.map (fun u : List Int => u.map fun i : Int => (Sum.inl i : Key)) ∧ (∀ u ∈ us, u ≠ []) ∧ ∀ (bs : List TK) (p : Addr), (bs.map (·.1)).Perm us → (∀ b ∈ bs, H1 b.2 = some (.tup (b.1.map V.int))) → H1 p = none → Q (.ref p) (upd H1 p (.lst (bs.map fun b => V.ref b.2)))
theorem pe_sortT (hc : X.calm = true) (hu : X.A.units + 10 < cLine) (hg : Gl X "sorted") (hm : X.mg "sorted" = none) (hd : PE X o td) (ba : attributeBase o "keys" X.env (eval o X.env) = eval o X.env) (li : (apos.endLine == mpos.line) = true)
    (st : starEach [Expr.Call (.Attribute o "keys" apos) [] [] mpos] X.env = [(false, eval (Expr.Call (.Attribute o "keys" apos) [] [] mpos) X.env)]) : PE X (.Call (.Name "sorted" p) [.Call (.Attribute o "keys" apos) [] [] mpos] [] pos) (tSortT td) where
  run pins s0 σ H Q inv0 h := by
    refine wpAny_Call_Name_kw (ld_blt inv0 hg hm (u := .builtin "sorted") (by decide +kernel) ?_ (by decide) (by decide)); have part := hd.run pins s0 σ H _ inv0 h
    rw [st]; refine PySem.callWith_builtin1 (wpAny_Call_method0_late ba li (wpAny_mono part (fun u s hu => ?_) fun _ _ e => e))
    obtain ⟨x, H1, inv, rx, a, kvs, us, ex, ea, hus, hne, q⟩ := hu
    rw [ex] at rx; have eu : u = Value.ref a := rx
    rw [eu]
    obtain ⟨sz, nsys, xs, kt, ob, es, ep, hget, hex, hdat, he, _⟩ := (show ObjOk X.prog X.w H1 s.heap a (.dT kvs) from rd_of inv.hok ea)
    have raw : s.heap.DictRaw a es ep := ⟨ob, hget, hex, hdat⟩
    have hlen : es.size = xs.length := by have := congrArg List.length he; simpa using this
    have lxs : kvs.length = xs.length := Paired.length kt
    obtain ⟨bs, b1, b2, b3⟩ := keysT_at kt hus
    have lbs : bs.length = xs.length := by have := congrArg List.length b2; simpa using this
    refine ⟨"dict", "dict.keys", F.plainAttrs_dict, F.slot_dict_keys, F.type_dict_keys, raw.typeIs, fun b eb => by cases eb; exact ⟨ob, hget, hex.2.1⟩, Calls.callWith_builtin rfl (PySem.evalArgs_none ?_)⟩
    refine call_meetsIn F.slot_dict_keys raw.typeIs F.entry_dict_keys (F.args_dict_keys_1 _) (PySem.meets_dict_keys_raw a nsys) ⟨⟨es, ep, raw⟩, ?_⟩
    have push : ∀ b u, s.heap.get? b = some u → (s.heap.push { cls := .type "dict_keys", data := .fields #[.ref a] }).get? b = some u := fun _ _ e => Heap.get?_push_of_some _ e
    have zv : es.size ≤ sizeLine := by rw [hlen, ← lxs]; exact sz
    have view : KdlKeysView (s.heap.push { cls := .type "dict_keys", data := .fields #[.ref a] }) s.heap.objs.size a := ⟨_, Heap.get?_push_size _ rfl, rfl, rfl⟩
    refine call_function_entry kind_sorted plain_sorted entry_sorted (args_sorted1 _) (?_ : wpAny _ _ (Builtin.«sorted» _) _ _ _); unfold Builtin.«sorted»
    refine wpAny_bind (m := checkCount "sorted" 1 1 _) (wpAny_pure (wpAny_bind (kdu_collect (KdlSrc.rawKeys (prog := X.prog) (w := X.w) (r := s.heap.objs.size) (d := a) (es := es) (ep := ep)) (inv.ok.hd hc) ⟨view, raw.at fun o q => push _ _ q⟩ zv fun h' tk acc keep items => ?_)))
    have old : ∀ b u, s.heap.get? b = some u → h'.get? b = some u := fun b u e => keep b u (push b u e)
    have top : s.heap.objs.size < h'.objs.size := by
      obtain ⟨ov, hov, _⟩ := view
      exact Heap.lt_size (keep _ _ hov)
    have eb : acc.toList = bs.map fun b => Value.ref b.2 := by
      apply List.ext_getElem?
      intro j
      have la : acc.toList.length = xs.length := by have := items.1; simp at this ⊢; omega
      have e2 : (bs.map fun b => Value.ref b.2)[j]? = (xs.map fun x => Value.ref x.2.1)[j]? := by
        rw [show (bs.map fun b => Value.ref b.2) = (bs.map (·.2)).map Value.ref by rw [List.map_map]; rfl, b2, List.map_map]
        rfl
      rw [e2, List.getElem?_map]
      by_cases hj : j < xs.length
      · have hja : j < acc.toList.length := by  omega
        rw [List.getElem?_eq_getElem hja, List.getElem?_eq_getElem hj]
        obtain ⟨hi, ev⟩ := items.2 j _ (by rw [← Array.getElem?_toList]; exact List.getElem?_eq_getElem hja)
        have hen := congrArg (fun l => l[j]?) he
        rw [Array.getElem?_toList, Array.getElem?_eq_getElem hi, List.getElem?_map, List.getElem?_eq_getElem hj] at hen
        rw [ev, Option.some.inj hen]
        rfl
      · rw [List.getElem?_eq_none (by omega), List.getElem?_eq_none (by omega)]; rfl
    have lz : acc.toList.length ≤ sizeLine := by rw [eb, List.length_map, lbs, ← lxs]; exact sz
    refine wpAny_bind (wpAny_newList (wpAny_bind (wpAny_holding ?_)) lz)
    have new : (h'.push { cls := .type "list", data := .seq acc.toList.toArray }).get? h'.objs.size = some { cls := .type "list", data := .seq acc.toList.toArray } := Heap.get?_push_size _ rfl
    have hbs : ∀ b ∈ bs, Reads (h'.push { cls := .type "list", data := .seq acc.toList.toArray }) (.ref b.2) (encT b) [] := fun b hb => PyProof.Rows.Reads.keeps (fun b u e => Heap.get?_push_of_some _ (old b u e)) (readsT inv.hok (b3 b hb))
    rw [eb] at new hbs ⊢
    have lb : bs.length ≤ sizeLine := by rw [lbs, ← lxs]; exact sz
    refine list_sort_data (n := 0) (enc := encT) (bs := bs) (R := fun v b => v = Value.ref b.2) new (eachT_of fun b _ => rfl) (eachT_of fun b hb => ⟨[], hbs b hb, by simp⟩) (AllAlike.of encT_alike) (.inl fun d hd => ?_) lb (fun b _ => ?_) fun out ol oe => ?_
    · obtain ⟨b, hb, rfl⟩ := List.mem_map.mp hd
      have ne := hne b.1 (by rw [← b1]; exact List.mem_map.mpr ⟨b, hb, rfl⟩)
      unfold encT
      cases q : b.1 with
      | nil => exact absurd q ne
      | cons x r => exact ⟨_, _, rfl⟩
    · rw [encT_depth]; simp only [Around.in1_units]; omega
    · refine wpAny_pure ⟨_, rfl, ?_⟩
      have eo := eachT_refs oe
      obtain ⟨ep', there⟩ := PyProof.Rows.sortedHeap_at (out := out.toArray) new
      have pm := List.mergeSort_perm bs (dataLe false encT)
      have vo : Vals ((bs.mergeSort (dataLe false encT)).map fun b => V.ref b.2) out := by
        have := vals_refs ((bs.mergeSort (dataLe false encT)).map (·.2))
        rw [List.map_map, List.map_map] at this
        rw [eo]
        exact this
      have lo : ((bs.mergeSort (dataLe false encT)).map fun b => V.ref b.2).length ≤ sizeLine := by rw [List.length_map, pm.length_eq]; exact lb
      refine ⟨.ref h'.objs.size, upd H1 h'.objs.size (.lst _), inv.laid (t' := tk) (fun b u hu => ?_) (Nat.le_of_lt top) ⟨lo, out, ep', vo, there⟩, rfl, q _ _ (by rw [← b1]; exact pm.map _) (fun b hb => b3 b (pm.mem_iff.mp hb)) (inv.hok.fresh (Nat.le_of_lt top))⟩
      have lt := Heap.lt_size (old b u hu)
      rw [PyProof.Rows.sortedHeap_old (Nat.ne_of_lt lt) (Nat.lt_of_lt_of_le lt (by rw [Heap.size_push]; exact Nat.le_succ _))]
      exact Heap.get?_push_of_some _ (old b u hu)
end
end DL
/-! text DL19 -/
/-! DL19: sorted(e.keys()), the keys tuples of ints. -/
namespace DL
open PySem PySem.Spec L2
open PyProof.Rows hiding St
section
variable {C : Cfg} {ρ : DEnv} {e : Expr} {p ap pos mpos : Pos}
theorem eo_sortedKT {I : List (List Int × D) → Prop} (he : EvP C e ρ (fun d => ∃ ds, I ds ∧ d = .dT ds)) (hne : ∀ ds, I ds → ∀ u ∈ ds.map (·.1), u ≠ []) (hm : C.mg "sorted" = none) (hg : GlC C "sorted" := by rfl) (ba : ∀ env, attributeBase e "keys" env (eval e env) = eval e env := by intro _; rfl) (li : (ap.endLine == mpos.line) = true := by decide +kernel)
    (st : ∀ env, starEach [Expr.Call (.Attribute e "keys" ap) [] [] mpos] env = [(false, eval (Expr.Call (.Attribute e "keys" ap) [] [] mpos) env)] := by intro _; rfl) : EvO C (.Call (.Name "sorted" p) [.Call (.Attribute e "keys" ap) [] [] mpos] [] pos) ρ (fun d => ∃ (ds : List (List Int × D)) (us : List (List Int)), I ds ∧ us.Perm (ds.map (·.1)) ∧ d = .lst (us.map fun u => D.tup (u.map D.int))) := fun X hX B Z Y σ H R Q hQ => by
  refine WE.of (pe_sortT hX.calm (room10 hX) (hX.gl hg) (by rw [← hX.mg]; exact hm) pe_we (ba _) li (st _)) (he X hX B Z Y σ H R _ fun v d H1 hd x1 dv => ?_)
  obtain ⟨ds, hI, rfl⟩ := hd
  have R1 := R.ext x1
  cases dv with
  | @dT a kvs _ rd hk t =>
    refine ⟨a, kvs, ds.map (·.1), rfl, (hid_le H1 Y).rd rd, by rw [hk, List.map_map]; rfl, hne ds hI, fun bs q pm hb hq => ?_⟩
    refine hQ q _ _ ⟨ds, bs.map (·.1), hI, pm, rfl⟩ (x1.fresh hq (R1.freshR hq)) (x1.trans (Ext.new hq)) (R1.y.newLst hq ?_)
    clear pm
    induction bs with
    | nil => exact .nil
    | cons b bs ih =>
      refine .cons ?_ (ih fun c hc => hb c (List.mem_cons_of_mem _ hc))
      have hb0 := hb b (List.mem_cons_self ..)
      refine .tup (hid_of ?_ hb0) (.of_ints b.1)
      cases q : Y b.2 with
      | false => rfl
      | true =>
        obtain ⟨o, eo, to⟩ := R1.yOk q
        rw [hb0] at eo
        cases eo
        cases to
end
end DL
/-! text P22 -/
/-! P22: the law, its walk. -/
namespace FT
open PySem PySem.Spec L2 DL
open PyProof.Rows hiding St
abbrev sLaw : Stmt := topS 48
abbrev nLaw : List Str := ["_law_script", "_law_row", "_law_line_here", "_law_wish_here", "_law_rows", "_law_base", "_law_lasts", "_law_some", "_law_one", "_law_cells", "_law_k"]
theorem scLaw : FnScope nLaw ["_law_script"] (defScope sLaw) := ⟨rfl, rfl, rfl, by decide +kernel, rfl, by decide +kernel, by decide +kernel⟩
structure LawFns (C : Cfg) : Prop where
  taken : FnD C 1 "_law_taken" STaken
  pick : FnD C 2 "_law_pick" SPick
  line : FnD C 3 "_law_line" SLine
  wish : FnD C 3 "_law_wish" SLWish
  sing : FnD C 3 "_law_singles" SSing1
  ends : FnO C 4 "_law_ends" SEnds
  fits : FnD C 1 "_law_fits_wish" SLFits
  alike0 : FnD C 1 "_law_alike" SAlike0
  alikeT : FnD C 2 "_law_alike" SAlikeT
  wends : FnD C 9 "wished_ends" SWEnds
  wend : FnD C 9 "wished_end" SWEnd
  few : FnD C 9 "fewest_to" (STo false)
  most : FnD C 9 "most_to" (STo true)
def lastsF (l : Ln) (w : List (Option Int)) (m : Nat) : List (List Int) := ((endsF l [] (levKs l m)).map (·.1)).filter (fitsB · w)
def fitT (l : Ln) (w : List (Option Int)) (t : Nat) : List (List Int) := ((lev l t).map (·.1)).filter (fitsB · w)
def someF (l : Ln) (w : List (Option Int)) (m : Nat) : List Nat := (List.range m).filter fun t => !(fitT l w t).isEmpty
def outD (most : Bool) (ks : List Nat) : D := if ks = [] then .non else .int (at0 (castL ks) (if most = true then -1 else 0))
/-- what the plain laws must tell of a line and a wish -/
structure LawOk (l : Ln) (w : List (Option Int)) (m : Nat) : Prop where
  good : GoodL l
  nd : ∀ ps ring, PathsOk l ps ring → ps.flatten.Nodup
  cnt : ∀ ps ring, PathsOk l ps ring → countF l w ring true ps = (lastsF l w m).length
  first : ∀ ps ring, PathsOk l ps ring → ∀ u us, (u :: us).Perm (lastsF l w m) → (u :: us).Pairwise (fun a b => HT.lexLt b a = false) → turnedL l.cells (endKs l w ring true ps) = u
  outer : ∀ most ps ring, PathsOk l ps ring → OuterIs l w false most ps ring (· = outD most (someF l w m))
theorem lev_col {l : Ln} (ok : l.Ok) {t : Nat} {c : List Int} (h : c ∈ (lev l t).map (·.1)) : c.length = l.n ∧ ∀ x ∈ c, 0 ≤ x ∧ x ≤ 9 := by
  obtain ⟨S, _, _, rfl⟩ := (lev_iff l t c).mp h
  refine ⟨colS_len l S, fun x hx => ?_⟩
  unfold colS at hx
  obtain ⟨k, hk, rfl⟩ := List.mem_map.mp hx
  have hk' : k < l.cells.length := List.mem_range.mp hk
  have at_mem : ∀ z : Int, -(l.cells.length : Int) ≤ z → z < l.cells.length → at0 l.cells z ∈ l.cells := fun z h1 h2 => atI_mem (atI_at0 h1 h2)
  split
  · exact ok.col _ (at_mem _ (by omega) (by omega))
  · exact ok.col _ (at_mem _ (by omega) (by omega))
theorem dZ_keys {κ : Type} (d : List (κ × Int)) : (dZ d).map (·.1) = d.map (·.1) := by
  unfold dZ
  rw [List.map_map]
  rfl
theorem tups_depth : ∀ ts : List (List Int), PyData.depthAll (ts.map fun t => PyData.tuple (t.map PyData.int)) ≤ 1
  | [] => by simp  [PyData.depthAll]
  | t :: ts => by
    have := tups_depth ts
    simp only [List.map_cons, PyData.depthAll, PyData.depth, depth_ints]
    omega
theorem shaped_tups (ts : List (List Int)) : SeqAt.shaped (.list (ts.map fun t => PyData.tuple (t.map PyData.int))) = true := by
  unfold SeqAt.shaped
  have := tups_depth ts
  simp only [PyData.canLay0, tups_lay, PyData.depth, Bool.true_and]
  exact decide_eq_true (by  omega)
theorem ws_setLcM {C : Cfg} {ρ ρ1 : DEnv} {P : Post} {tg it elt : Expr} {ifs : List Expr} {scope : Scope} {pos spos py : Pos} {α : Type} (i : Nat) {y : Str} (xs : List α) (g0 : α → D) (c : α → Bool) (f : α → D) {sl : List Nat} {g : D → DEnv → Option DEnv} (own : List (Str × Nat)) (hi : EvI C tg it ρ (xs.map g0)) (hnd : C.N.Nodup) (hg : StG (blkCfg C scope) tg sl g)
    (hs : ∀ x ∈ xs, ∃ ρ', g (g0 x) (wipeD (dropO ρ) (own.map (·.2))) = some ρ' ∧ EvTs (blkCfg C scope) ifs ρ' (· = c x) ∧ (c x = true → EvD (blkCfg C scope) elt ρ' (f x))) (hlen : xs.length ≤ 100000) (hp : ρ.set i (some (.o (.lst ((xs.filter c).map f)))) = ρ1) (hN : C.N[i]? = some y := by rfl) (hl : C.sc.names.lookup y = some .local := by rfl) (hk : C.sc.kind = .function := by rfl) (hln : (py.line == pos.line) = true := by rfl)
    (ha : (scope.names.any fun (n, k) => n == y && (k == .local || k == .cell)) = false := by decide +kernel) (hsl : ∀ i ∈ sl, i ∈ own.map (·.2) := by decide) (ok : blkC C.N C.sc scope own = true := by first | decide +kernel | kernel_rfl) (hfs : ∀ env x, foldedSetIterable it env x = pure x := by intro _ _; rfl) : WS C (.Assign [.Name y py] (.ListComp elt [⟨tg, it, ifs, 0⟩] scope pos) spos) ρ { P with nx := (· = ρ1) } := by
  refine ws_setLcP i (p := (· = D.lst ((xs.filter c).map f))) (Iv := fun i acc => acc = ((xs.take i).filter c).map f) hi hnd ⟨sl, g, hg, hsl, fun i d acc hd ha => ?_⟩ (by simp) (by simpa using hlen) (fun acc ha => by rw [ha, List.length_map, List.take_length]) (by rintro _ rfl; exact hp) hN hl hk hln ha ok hfs
  rw [List.getElem?_map] at hd
  cases q : xs[i]? with
  | none => rw [q] at hd; cases hd
  | some x =>
    rw [q] at hd; cases hd
    obtain ⟨ρ', h1, h2, h3⟩ := hs x (List.mem_of_getElem? q)
    refine ⟨ρ', _, h1, h2, fun ht => (h3 ht.symm).imp fun y hy => ?_, fun hf => ?_⟩
    · rw [filter_takeM q, if_pos ht.symm, ha, hy]
    · rw [filter_takeM q, if_neg (by rw [← hf]; exact Bool.false_ne_true), ha, List.append_nil]
section
variable {C : Cfg}
def LawHyp : Prop := ∀ (l : Ln) (w : List (Option Int)) (m : Nat), l.Ok → l.n ≤ 11 → WishOk l w → Lv l m → LawOk l w m
theorem law_walk (N : Bare C) (G : LawFns C) (HY : LawHyp) : WSs (bodyCfg C nLaw (defScope sLaw) 10) ((defBody sLaw).drop 1) [none, some (.v .row), none, none, none, none, none, none, none, none, none] { nx := fun _ => False, rt := (· = .bl true) } := by
  have nd := scLaw.nd
  refine wss_cons (M := fun ρ' => ∃ l : Ln, (l.Ok ∧ l.n ≤ 11) ∧ ρ' = [none, some (.v .row), some (.v l.D), none, none, none, none, none, none, none, none]) (ws_set 2 nd (p := fun d => ∃ l : Ln, l.Ok ∧ l.n ≤ 11 ∧ d = l.D) (ev_callP G.line.to (ps := fun ds => ∃ c : Int, ds = [.row, .int 11, .int c] ∧ 2 ≤ c ∧ c ≤ 3) (ea_consP (pa := (· = .row)) (ps := fun ds => ∃ c : Int, ds = [.int 11, .int c] ∧ 2 ≤ c ∧ c ≤ 3) (ev_var 1) (ea_consP (pa := (· = .int 11)) (ps := fun ds => ∃ c : Int, ds = [.int c] ∧ 2 ≤ c ∧ c ≤ 3) ev_int (ea_consP (pa := fun d => ∃ c : Int, d = .int c ∧ 2 ≤ c ∧ c ≤ 3) (ps := (· = [])) (ev_binP (pa := (· = .int 2)) ev_int (ev_taken G.taken.to (ev_var 1) ev_int (by omega) (by omega)) ?_) ea_nil ?_) ?_) ?_) ?_) ?_) ?_
  · rintro _ _ rfl ⟨r, rfl, r0, r1⟩
    exact fun X hX Y H u v Q y du dv hQ => od_add X hX Y H u v Q y du dv fun z d H' hd => hQ z d H' ⟨2 + r, hd, by omega, by omega⟩
  · rintro _ _ ⟨c, rfl, h⟩ rfl; exact ⟨c, rfl, h⟩
  · rintro _ _ rfl ⟨c, rfl, h⟩; exact ⟨c, rfl, h⟩
  · rintro _ _ rfl ⟨c, rfl, h⟩; exact ⟨c, rfl, h⟩
  · rintro _ ⟨c, rfl, c2, c3⟩
    exact ⟨c, rfl, c2, c3, fun l ok hn _ => ⟨l, ok, hn, rfl⟩⟩
  · rintro _ ⟨l, ok, hn, rfl⟩; exact ⟨l, ⟨ok, hn⟩, rfl⟩
  rintro _ ⟨l, ⟨ok, hn⟩, rfl⟩
  have h1 : 1 ≤ l.n := ok.pos
  obtain ⟨m, hm⟩ := @exists_lv l
  have few := few_of hn
  have hm12 : m ≤ 12 := by have := hm.most; omega
  refine wss_cons (M := fun ρ' => ∃ w, WishOk l w ∧ ρ' = [none, some (.v .row), some (.v l.D), some (.v (wishD w)), none, none, none, none, none, none, none]) (ws_set 3 nd (p := fun d => ∃ w, WishOk l w ∧ d = wishD w) (ev_callP G.wish.to (ea_cons (ev_var 1) (ea_cons (EvD.is (ev_callB (ea_cons (ev_ix (ev_var 2) ev_int (ixd_tup (d := .tup (l.cells.map D.int)) rfl)) ea_nil) cd_lenT N.len) (show _ = D.int (l.n : Int) by rw [List.length_map]; rfl)) (ea_cons ev_int ea_nil))) ?_) ?_) ?_
  · rintro _ rfl
    exact ⟨l.n, rfl, by omega, fun w hw hin => ⟨w, ⟨hw, fun x hx => by have := hin x hx; omega⟩, rfl⟩⟩
  · rintro _ ⟨w, wok, rfl⟩; exact ⟨w, wok, rfl⟩
  rintro _ ⟨w0, wok0, rfl⟩
  refine wss_seq (ws_set 4 nd (ev_call G.sing.to (ea_cons (ev_var 2) ea_nil) ⟨l, m, rfl, ok.ok0, few, hm, rfl⟩) (by rintro _ rfl; rfl)) ?_
  refine wss_cons (M := fun ρ' => ∃ w e5, WishOk l w ∧ ρ' = [none, some (.v .row), some (.v l.D), some (.v (wishD w)), some (.v (.lst ((List.range m).map (dLev l)))), e5, none, none, none, none, none]) (ws_if (p := fun _ => True) (et_cmpP (pb := (· = .int 0)) (ev_taken G.taken.to (ev_var 1) ev_int (by omega) (by omega)) ev_int ?_) (fun _ => ?_) fun _ => wss_nil ⟨w0, none, wok0, rfl⟩) ?_
  · rintro _ _ ⟨r, rfl, _, _⟩ rfl
    exact fun X hX Y H u v Q y du dv hQ => od_gt X hX Y H u v Q y du dv fun z d H' hd => hQ z d H' ⟨_, hd, trivial⟩
  · refine wss_cons (M := fun ρ' => ∃ u : List Int, (u.length = l.n ∧ ∀ x ∈ u, 0 ≤ x ∧ x ≤ 9) ∧ ρ' = [none, some (.v .row), some (.v l.D), some (.v (wishD w0)), some (.v (.lst ((List.range m).map (dLev l)))), some (.v (tI u)), none, none, none, none, none]) (ws_set 5 nd (p := fun d => ∃ u : List Int, (u.length = l.n ∧ ∀ x ∈ u, 0 ≤ x ∧ x ≤ 9) ∧ d = tI u) (ev_callP G.pick.to (ps := fun ds => ∃ (t : Nat) (us : List (List Int)), t < m ∧ us.Perm ((dZ (lev l t)).map (·.1)) ∧ ds = [.row, .lst (us.map fun u => D.tup (u.map D.int))]) (ea_consP (pa := (· = .row)) (ps := fun ds => ∃ (t : Nat) (us : List (List Int)), t < m ∧ us.Perm ((dZ (lev l t)).map (·.1)) ∧ ds = [.lst (us.map fun u => D.tup (u.map D.int))]) (ev_var 1)
      (ea_consP (ps := (· = [])) (ev_o (eo_sortedKT (I := fun ds => ∃ t, t < m ∧ ds = dZ (lev l t)) (ev_callP G.pick.to (ea_cons (ev_var 1) (ea_cons (ev_var 4) ea_nil)) ?_) ?_ N.sorted)) ea_nil ?_) ?_) ?_) ?_) ?_
    · rintro _ rfl
      refine ⟨_, rfl, ?_, ?_, fun x hx => ?_⟩
      · intro e
        have := congrArg List.length e
        rw [List.length_map, List.length_range, List.length_nil] at this
        have := hm.pos
        omega
      · rw [List.length_map, List.length_range]; omega
      · obtain ⟨t, ht, rfl⟩ := List.mem_map.mp hx
        exact ⟨_, ⟨t, List.mem_range.mp ht, rfl⟩, rfl⟩
    · rintro _ ⟨t, ht, rfl⟩ u hu
      rw [dZ_keys] at hu
      have := (lev_col ok hu).1
      intro e
      rw [e] at this
      exact absurd this (by rw [List.length_nil]; omega)
    · rintro _ _ ⟨_, us, ⟨t, ht, rfl⟩, pm, rfl⟩ rfl
      exact ⟨t, us, ht, pm, rfl⟩
    · rintro _ _ rfl ⟨t, us, ht, pm, rfl⟩
      exact ⟨t, us, ht, pm, rfl⟩
    · rintro _ ⟨t, us, ht, pm, rfl⟩
      rw [dZ_keys] at pm
      have hl : us.length = (lev l t).length := by rw [pm.length_eq, List.length_map]
      refine ⟨_, rfl, ?_, ?_, fun x hx => ?_⟩
      · intro e
        have h0 := congrArg List.length  e
        rw [List.length_map, List.length_nil, hl] at h0
        exact hm.ne t ht (List.length_eq_zero_iff.mp h0)
      · rw [List.length_map, hl]
        have h2 := lev_few l t
        have h3 : 2 ^ l.n ≤ 2 ^ 11 := Nat.pow_le_pow_right (by decide) hn
        omega
      · obtain ⟨u, hu, rfl⟩ := List.mem_map.mp hx
        exact ⟨u, lev_col ok (pm.mem_iff.mp hu), rfl⟩
    · rintro _ ⟨u, hu, rfl⟩
      exact ⟨u, hu, rfl⟩
    rintro _ ⟨u, ⟨hul, huc⟩, rfl⟩
    refine wss_one (ws_set 3 nd (p := fun d => ∃ w, WishOk l w ∧ d = wishD w) (ev_callTP (T := "tuple") (ps := fun ds => ∃ w : List (Option Int), ds = [.lst (w.map optD)] ∧ WishOk l w) (ea_consP (ps := (· = [])) (ev_o (eo_compP (p := fun d => ∃ w : List (Option Int), d = .lst (w.map optD) ∧ WishOk l w) (items := u.map D.int) (Iv := fun i acc => ∃ w : List (Option Int), acc = w.map optD ∧ w.length = i ∧ ∀ x : Int, some x ∈ w → 0 ≤ x ∧ x ≤ 9) (ei_tup (ev_var 5)) nd (own := [("_law_one", 8)]) ⟨[8], _, sg_name 8 nd, by decide, fun i d acc hd ha => ?_⟩ ⟨[], rfl, rfl, fun x hx => by cases hx⟩ (by rw [List.length_map]; omega) ?_)) ea_nil ?_) ?_ N.tuple) ?_)
    · obtain ⟨w, rfl, hw, hin⟩ := ha
      rw [List.getElem?_map] at hd
      cases q : u[i]? with
      | none => rw [q] at hd; cases hd
      | some z =>
        rw [q] at hd; cases hd
        have hz := huc z (List.mem_of_getElem? q)
        refine ⟨_, (· = true), rfl, ets_nil, fun _ => ev_ifP (pk := fun _ => True) (et_cmpP (pb := (· = .int 0)) (ev_taken G.taken.to (ev_var 1) ev_int (by omega) (by omega)) ev_int ?_) (fun _ => EvP.imp (ev_var 8) ?_) (fun _ => EvP.imp ev_non ?_), fun h => by cases h⟩
        · rintro _ _ ⟨r, rfl, _, _⟩ rfl
          exact fun X hX Y H u v Q y du dv hQ => od_eqI X hX Y H u v Q y du dv fun z d H' hd => hQ z d H' ⟨_, hd, trivial⟩
        · rintro _ rfl
          refine ⟨w ++ [some z], by rw [List.map_append]; rfl, by simp [hw], fun x hx => ?_⟩
          rcases List.mem_append.mp hx with q |  q
          · exact hin x q
          · cases List.mem_singleton.mp q; exact hz
        · rintro _ rfl
          refine ⟨w ++ [none], by rw [List.map_append]; rfl, by simp [hw], fun x hx => ?_⟩
          rcases List.mem_append.mp hx with q |  q
          · exact hin x q
          · cases List.mem_singleton.mp q
    · rintro acc ⟨w, rfl, hw, hin⟩
      exact ⟨w, rfl, by rw [hw, List.length_map, hul], hin⟩
    · rintro _ _ ⟨w, rfl, h⟩ rfl
      exact ⟨w, rfl, h⟩
    · rintro _ ⟨w, rfl, h⟩
      exact fun X hX Y H us Q y du hQ => cd_tupL X hX Y H us Q y du fun z d H' hd => hQ z d H' ⟨w, h, hd⟩
    · rintro _ ⟨w, h, rfl⟩
      exact ⟨w, _, h, rfl⟩
  rintro _ ⟨w, e5, wok, rfl⟩
  have Y := HY l w m ok hn wok hm
  have hcl : ∀ c ∈ (endsF l [] (levKs l m)).map (·.1), c.length = l.n ∧ c ≠ [] := fun c hc => by
    have h2 := (((endsF_keys l (levKs l m) []) List.nodup_nil).2 c).mp hc
    rcases h2 with h2 | ⟨h2, _⟩
    · cases h2
    · obtain ⟨S, _, rfl⟩ := (levKs_iff hm).mp h2
      have := colS_len l S
      exact ⟨this, fun e => by rw [e, List.length_nil] at this; omega⟩
  have hfew : ((endsF l [] (levKs l m)).map (·.1)).length ≤ 100000 := by
    have h2 := nodup_le (((endsF_keys l (levKs l m) []) List.nodup_nil).1) (ys := levKs l m) fun c hc => by
      rcases (((endsF_keys l (levKs l m) []) List.nodup_nil).2 c).mp hc with h2 | ⟨h2, _⟩
      · cases h2
      · exact h2
    have := few.all m
    omega
  refine wss_cons (M := fun ρ' => ∃ us : List (List Int), (us.Perm (lastsF l w m) ∧ us.Pairwise (fun a b => HT.lexLt b a = false)) ∧ ρ' = [none, some (.v .row), some (.v l.D), some (.v (wishD w)), some (.v (.lst ((List.range m).map (dLev l)))), e5, some (.v (lT us)), none, none, none, none]) (ws_set 6 nd (p := fun d => ∃ us : List (List Int), d = .lst (us.map fun t => D.tup (t.map D.int)) ∧ us.Perm (lastsF l w m) ∧ us.Pairwise (fun a b => HT.lexLt b a = false))
    (ev_o (eo_callB (ea_cons (ev_o (eo_compM ((endsF l [] (levKs l m)).map (·.1)) (fun u : List Int => D.tup (u.map D.int)) (fitsB · w) (fun u : List Int => D.tup (u.map D.int)) [("_law_cells", 9)] (by rw [List.map_map]; exact ei_keysTN (eo_call G.ends.to (ea_cons (ev_var 2) ea_nil) ⟨l, m, rfl, ok.ok0, few, hm, rfl⟩) ⟨by intro _; rfl, by decide +kernel⟩) nd (sg_name 9 nd) (fun c hc => ⟨_, rfl, ets_one (et_val (ev_call G.fits.to (ea_cons (ev_var 9) (ea_cons (ev_var 3) ea_nil)) ⟨c, w, rfl, by rw [wok.len, (hcl c hc).1], by rw [(hcl c hc).1]; omega, rfl⟩)), fun _ => ev_var 9⟩) hfew)) ea_nil) (co_sortedT fun t ht => (hcl t (List.mem_filter.mp ht).1).2) N.sorted)) ?_) ?_
  · rintro _ ⟨us, rfl, h⟩
    exact ⟨us, h, rfl⟩
  rintro _ ⟨us, ⟨pm, pw⟩, rfl⟩
  have lenU : us.length = (lastsF l w m).length := pm.length_eq
  -- how many ends
  refine wss_seq (ws_if (p := (· = false)) (et_not (k := true) (et_val (ev_call G.alike0.to (ea_cons (ev_call G.wends.to (d := .int us.length) (ea_cons (ev_var 2) (ea_cons (ev_var 3) ea_nil)) ⟨l, w, rfl, ok, wok, Y.good, fun ps ring h => by rw [lenU, Y.cnt ps ring h]⟩) (ea_cons (EvD.is (ev_callB (ea_cons (ev_var 6) ea_nil) cd_lenL N.len) (show _ = D.int (us.length : Int) by rw [List.length_map])) ea_nil)) ⟨.inl ⟨us.length, rfl⟩, rfl⟩))) (fun h => by cases h) fun _ => wss_nil rfl) ?_
  -- the least end
  have hnon : us = [] → ∀ ps ring, PathsOk l ps ring → ¬ 0 < countF l w ring true ps := fun e ps ring h q => by
    rw [Y.cnt ps ring h, ← lenU, e] at q
    exact absurd q (by decide)
  have hpos : us ≠ [] → ∀ ps ring, PathsOk l ps ring → 0 < countF l w ring true ps := fun e ps ring h => by
    rw [Y.cnt ps ring h, ← lenU]
    have := List.length_pos_iff.mpr e
    omega
  have hU : ∀ u ∈ us, u.length = l.n := fun u hu => (hcl u (List.mem_filter.mp (pm.mem_iff.mp hu)).1).1
  refine wss_seq (ws_if (p := (· = false)) ?_ (fun h => by cases h) fun _ => wss_nil rfl) ?_
  · cases us with
    | nil =>
      refine et_not (k := true) (et_val (ev_call G.alike0.to (ea_cons (ev_call G.wend.to (d := .non) (ea_cons (ev_var 2) (ea_cons (ev_var 3) ea_nil)) ⟨l, w, rfl, ok, wok, Y.good, Y.nd, fun ps ring h => ⟨fun q => absurd q (hnon rfl ps ring h), fun _ => rfl⟩⟩) (ea_cons (EvD.is (ev_if (k := false) (x := .non) (et_cmp (ev_var 6) (ev_o (eo_lst ea_nil)) (od_neNil (tups_py []) (shaped_tups []))) (fun h => by cases h) fun _ => ev_non) rfl) ea_nil)) ⟨.inr rfl, rfl⟩))
    | cons u us =>
      have ul : u.length ≤ 1000 := by have := hU u (List.mem_cons_self ..); omega
      refine et_not (k := true) (et_val (ev_call G.alikeT.to (ea_cons (ev_call G.wend.to (d := tI u) (ea_cons (ev_var 2) (ea_cons (ev_var 3) ea_nil)) ⟨l, w, rfl, ok, wok, Y.good, Y.nd, fun ps ring h => ⟨fun _ => by rw [Y.first ps ring h u us pm pw], fun q => absurd (hpos (by simp) ps ring h) q⟩⟩) (ea_cons (EvD.is (ev_if (k := true) (y := .non) (et_cmp (ev_var 6) (ev_o (eo_lst ea_nil)) (od_neNil (tups_py (u :: us)) (shaped_tups (u :: us)))) (fun _ => ev_ix (ev_var 6) ev_int (ixd_lst (d := tI u) (show atI ((u :: us).map tI) ((0 : Nat) : Int) = _ from atI_nat rfl))) fun h => by cases h) rfl) ea_nil)) ⟨u, ul, rfl, rfl⟩))
  -- the numbers of turns behind which there are such colours
  have hat : ∀ t, t ∈ List.range m → atI ((List.range m).map (dLev l)) (t : Int) = some (.dT (dZ (lev l t))) := fun t ht => by
    rw [atI_map, atI_nat (List.getElem?_range (List.mem_range.mp ht))]
    rfl
  refine wss_seq (ws_setLcM 7 (List.range m) (fun k : Nat => D.int k) (fun t => !(fitT l w t).isEmpty) (fun t => .int t) [("_law_k", 10)] (ei_rangeN (n := m) (EvD.is (ev_callB (ea_cons (ev_var 4) ea_nil) cd_lenL N.len) (show _ = D.int (m : Int) by rw [List.length_map, List.length_range])) (by omega) N.range) nd (sg_name 10 nd) (fun t ht => ⟨_, rfl, ets_one (EvT.imp (et_cmp (ev_o (eo_compKT (p := (· = .lst ((fitT l w t).map fun u => D.tup (u.map D.int)))) (own := [("_law_cells", 9)]) (Iv := fun i acc => acc = ((((lev l t).map (·.1)).take i).filter (fitsB · w)).map fun u => D.tup (u.map D.int)) (ex_item 4 10 (hat t ht)) nd ⟨by intro _; rfl, by decide +kernel⟩ ⟨[9], _, sg_name 9 nd, by decide, fun i d acc hd ha => ?_⟩ rfl ?_ ?_)) (ev_o (eo_lst ea_nil)) (od_neNil (tups_py (fitT l w t)) (shaped_tups (fitT l w t)))) ?_), fun _ => ev_var 10⟩) (by rw [List.length_range]; omega) (ρ1 := [none, some (.v .row), some (.v l.D), some (.v (wishD w)), some (.v (.lst ((List.range m).map (dLev l)))), e5, some (.v (lT us)), some (.o (.lst ((castL (someF l w m)).map D.int))), none, none, none]) (by rw [castL_D]; rfl)) (wss_frz 7 ?_)
  · rw [List.getElem?_map] at hd
    cases q : (dZ (lev l t))[i]? with
    | none => rw [q] at hd; cases hd
    | some p =>
      rw [q] at hd; cases hd
      have q2 : ((lev l t).map (·.1))[i]? = some p.1 := by rw [← dZ_keys, List.getElem?_map, q]; rfl
      have hc := lev_col ok (List.mem_of_getElem? q2)
      refine ⟨_, (· = fitsB p.1 w), rfl, ets_one (et_val (ev_call G.fits.to (ea_cons (ev_var 9) (ea_cons (ev_var 3) ea_nil)) ⟨p.1, w, rfl, by rw [wok.len, hc.1], by rw [hc.1]; omega, rfl⟩)), fun ht => EvP.imp (ev_var 9) ?_, fun hf => ?_⟩
      · rintro _ rfl
        rw [filter_takeM q2, if_pos ht.symm, ha]
      · rw [filter_takeM q2, if_neg (by rw [← hf]; exact Bool.false_ne_true), ha, List.append_nil]
  · have := few.lv t
    unfold dZ
    rw [List.length_map]
    omega
  · rintro _ rfl
    rw [List.take_of_length_le (by rw [← dZ_keys, List.length_map]; exact Nat.le_refl _)]
    rfl
  · rintro _ rfl
    rw [show ∀ xs : List (List Int), (xs.map fun u => D.tup (u.map D.int)).isEmpty = xs.isEmpty from fun xs => by cases xs <;> rfl]
  have houtE : ∀ most : Bool, someF l w m = [] → outD most (someF l w m) = .non := fun most e => by unfold outD; rw [if_pos e]
  have houtI : ∀ most : Bool, someF l w m ≠ [] → outD most (someF l w m) = .int (at0 (castL (someF l w m)) (if most = true then -1 else 0)) := fun most e => by unfold outD; rw [if_neg e]
  have hO := Y.outer
  generalize someF l w m = S at houtE houtI hO
  have e7 : ∀ xs : List Int, (xs.map D.int).isEmpty = xs.isEmpty := fun xs => by cases xs <;> rfl
  have eC : ∀ xs : List Nat, (castL xs).isEmpty = xs.isEmpty := fun xs => by cases xs <;> rfl
  have hix : S ≠ [] → ∀ z : Int, z = 0 ∨ z = -1 → atI ((castL S).map D.int) z = some (.int (at0 (castL S) z)) := fun e z hz => by
    have hp := List.length_pos_iff.mpr e
    have hcl : (castL S).length = S.length := by unfold castL; rw [List.length_map]
    exact atI_int (by omega) (by omega)
  by_cases hS : S = []
  · have hx : (castL S).isEmpty = true := by rw [hS]; rfl
    refine wss_seq (ws_if (p := (· = false)) (et_not (k := true) (et_val (ev_call G.alike0.to (ea_cons (ev_call G.few.to (d := .non) (ea_cons (ev_var 2) (ea_cons (ev_var 3) ea_nil)) ⟨l, w, rfl, ok, wok, Y.good, fun ps ring h => by rw [← houtE false hS]; exact hO false ps ring h⟩) (ea_cons (EvD.is (ev_if (k := false) (x := .non) (EvT.imp (et_cmp (ev_var 7) (ev_o (eo_lst ea_nil)) od_neNilI) (by rintro _ rfl; rw [hx]; rfl)) (fun h => by cases h) fun _ => ev_non) rfl) ea_nil)) ⟨.inr rfl, rfl⟩))) (fun h => by cases h) fun _ => wss_nil rfl) ?_
    exact wss_one (ws_ret (ev_call G.alike0.to (ea_cons (ev_call G.most.to (d := .non) (ea_cons (ev_var 2) (ea_cons (ev_var 3) ea_nil)) ⟨l, w, rfl, ok, wok, Y.good, fun ps ring h => by rw [← houtE true hS]; exact hO true ps ring h⟩) (ea_cons (EvD.is (ev_if (k := false) (x := .non) (EvT.imp (et_cmp (ev_var 7) (ev_o (eo_lst ea_nil)) od_neNilI) (by rintro _ rfl; rw [hx]; rfl)) (fun h => by cases h) fun _ => ev_non) rfl) ea_nil)) ⟨.inr rfl, rfl⟩) fun _ h => h)
  · have hx : (castL S).isEmpty = false := by rw [eC]; cases S with
      | nil => exact absurd rfl hS
      | cons _ _ => rfl
    refine wss_seq (ws_if (p := (· = false)) (et_not (k := true) (et_val (ev_call G.alike0.to (ea_cons (ev_call G.few.to (d := .int (at0 (castL S) 0)) (ea_cons (ev_var 2) (ea_cons (ev_var 3) ea_nil)) ⟨l, w, rfl, ok, wok, Y.good, fun ps ring h => by have := hO false ps ring h; rw [houtI false hS] at this; exact this⟩) (ea_cons (EvD.is (ev_if (k := true) (y := .non) (EvT.imp (et_cmp (ev_var 7) (ev_o (eo_lst ea_nil)) od_neNilI) (by rintro _ rfl; rw [hx]; rfl)) (fun _ => ev_ix (ev_var 7) ev_int (ixd_lst (hix hS 0 (.inl rfl)))) fun h => by cases h) rfl) ea_nil)) ⟨.inl ⟨_, rfl⟩, rfl⟩))) (fun h => by cases h) fun _ => wss_nil rfl) ?_
    exact wss_one (ws_ret (ev_call G.alike0.to (ea_cons (ev_call G.most.to (d := .int (at0 (castL S) (-1))) (ea_cons (ev_var 2) (ea_cons (ev_var 3) ea_nil)) ⟨l, w, rfl, ok, wok, Y.good, fun ps ring h => by have := hO true ps ring h; rw [houtI true hS] at this; exact this⟩) (ea_cons (EvD.is (ev_if (k := true) (y := .non) (EvT.imp (et_cmp (ev_var 7) (ev_o (eo_lst ea_nil)) od_neNilI) (by rintro _ rfl; rw [hx]; rfl)) (fun _ => ev_ix (ev_var 7) (ev_neg ev_int) (ixd_lst (hix hS (-1) (.inr rfl)))) fun h => by cases h) rfl) ea_nil)) ⟨.inl ⟨_, rfl⟩, rfl⟩) fun _ h => h)
end
end FT
/-! text M6 -/
/-! M6: the outermost numbers of turns; the plain law. -/
namespace FT
open PySem PySem.Spec L2 DL
open PyProof.Rows hiding St
theorem bit_sum (S : Nat → Bool) : ∀ ks : List Nat, (ind S ks).sum = ((ks.filter S).length : Int)
  | [] => rfl
  | k :: ks => by
    show (bit (S k) :: ind S ks).sum = _
    rw [List.sum_cons, bit_sum S ks]
    cases q : S k with
    | true => rw [List.filter_cons_of_pos q, List.length_cons]; show 1 + _ = _; omega
    | false => rw [List.filter_cons_of_neg (by rw [q]; exact Bool.false_ne_true)]; show 0 + _ = _; omega
theorem fold_add (f : List Nat → Int) : ∀ (ps : List (List Nat)) (a : Int), ps.foldl (fun (a : Int) ks => a + f ks) a = a + ps.foldl (fun (a : Int) ks => a + f ks) 0
  | [], a => by simp
  | ks :: ps, a => by
    rw [List.foldl_cons, List.foldl_cons, fold_add f ps, fold_add f ps (0 + f ks)]
    omega
theorem sum_flat (S : Nat → Bool) : ∀ ps : List (List Nat), (ind S ps.flatten).sum = ps.foldl (fun (a : Int) ks => a + (ind S ks).sum) 0
  | [] => rfl
  | ks :: ps => by
    rw [List.flatten_cons, ind_app, List.sum_append, List.foldl_cons, fold_add (fun ks => (ind S ks).sum) ps, sum_flat S ps]
    omega
theorem fold_le {f g : List Nat → Int} : ∀ {ps : List (List Nat)}, (∀ ks ∈ ps, f ks ≤ g ks) → ps.foldl (fun (a : Int) ks => a + f ks) 0 ≤ ps.foldl (fun (a : Int) ks => a + g ks) 0
  | [], _ => Int.le_refl _
  | ks :: ps, h => by
    rw [List.foldl_cons, List.foldl_cons, fold_add f ps, fold_add g ps]
    have h1 := h ks (List.mem_cons_self ..)
    have h2 := fold_le (ps := ps) fun k hk => h k (List.mem_cons_of_mem _ hk)
    omega
theorem fold_eq {f g : List Nat → Int} {ps : List (List Nat)} (h : ∀ ks ∈ ps, f ks = g ks) : ps.foldl (fun (a : Int) ks => a + f ks) 0 = ps.foldl (fun (a : Int) ks => a + g ks) 0 :=
  Int.le_antisymm (fold_le fun ks hk => by rw [h ks hk]; exact Int.le_refl _) (fold_le fun ks hk => by rw [h ks hk]; exact Int.le_refl _)
section
variable {l : Ln} {w : List (Option Int)} {ring : Bool} {ps : List (List Nat)}
theorem cnt_sum (pf : PF l ps ring) {S : Nat → Bool} (hS : ∀ k, k < l.n → S k = true → k ∈ l.ready) : (cnt l S : Int) = ps.foldl (fun (a : Int) ks => a + (ind S ks).sum) 0 := by
  rw [← sum_flat, bit_sum]
  unfold cnt
  rw [List.countP_eq_length_filter]
  have n1 : ((List.range l.n).filter S).Nodup := List.Pairwise.sublist (List.filter_sublist ..) List.nodup_range
  have n2 : (ps.flatten.filter S).Nodup := List.Pairwise.sublist (List.filter_sublist ..) pf.nd
  have m1 := nodup_le n1 (ys := ps.flatten.filter S) fun k hk => by
    obtain ⟨a, b⟩ := List.mem_filter.mp hk
    exact List.mem_filter.mpr ⟨(pf.mem k).mpr (hS k (List.mem_range.mp a) b), b⟩
  have m2 := nodup_le n2 (ys := (List.range l.n).filter S) fun k hk => by
    obtain ⟨a, b⟩ := List.mem_filter.mp hk
    exact List.mem_filter.mpr ⟨List.mem_range.mpr (mem_ready.mp ((pf.mem k).mp a)).1, b⟩
  omega
theorem some_mem {m : Nat} (hm : Lv l m) (hw : w.length = l.n) {t : Nat} : t ∈ someF l w m ↔ ∃ S, GoodS l w false S ∧ cnt l S = t := by
  unfold someF fitT
  rw [List.mem_filter, List.mem_range]
  have key : (!(((lev l t).map (·.1)).filter (fitsB · w)).isEmpty) = true ↔ ∃ S, GoodS l w false S ∧ cnt l S = t := by
    constructor
    · intro h
      cases q : ((lev l t).map (·.1)).filter (fitsB · w) with
      | nil => rw [q] at h; cases h
      | cons c cs =>
        have hc : c ∈ ((lev l t).map (·.1)).filter (fitsB · w) := by rw [q]; exact List.mem_cons_self ..
        obtain ⟨h1, h2⟩ := List.mem_filter.mp hc
        obtain ⟨S, I, e, rfl⟩ := (lev_iff l t c).mp h1
        exact ⟨S, ⟨I, (fits_iff hw S).mp h2, fun z => by cases z⟩, e⟩
    · rintro ⟨S, ⟨I, F, _⟩, e⟩
      have hc : colS l S ∈ ((lev l t).map (·.1)).filter (fitsB · w) := List.mem_filter.mpr ⟨(lev_iff l t _).mpr ⟨S, I, e, rfl⟩, (fits_iff hw S).mpr F⟩
      cases q : ((lev l t).map (·.1)).filter (fitsB · w) with
      | nil => rw [q] at hc; cases hc
      | cons c cs => rfl
  rw [key]
  constructor
  · exact fun h => h.2
  · rintro ⟨S, g, e⟩
    exact ⟨by rw [← e]; exact hm.in g.1, S, g, e⟩
theorem some_rise (l : Ln) (w : List (Option Int)) (m : Nat) : (someF l w m).Pairwise (· < ·) := List.Pairwise.sublist (List.filter_sublist ..) List.pairwise_lt_range
theorem ends_at {xs : List Nat} (hp : xs.Pairwise (· < ·)) {s : Nat} (hs : s ∈ xs) (most : Bool) (hb : ∀ t ∈ xs, if most = true then t ≤ s else s ≤ t) : outD most xs = .int (s : Int) := by
  have hne : xs ≠ [] := fun e => by rw [e] at hs; cases hs
  have hl : 0 < xs.length := List.length_pos_iff.mpr hne
  unfold outD
  rw [if_neg hne]
  congr 1
  obtain ⟨i, hi, e⟩ := List.mem_iff_getElem.mp hs
  have cl : (castL xs).length = xs.length := by unfold castL; rw [List.length_map]
  have cast_at : ∀ j (hj : j < xs.length), (castL xs)[j]? = some (xs[j] : Int) := fun j hj => by
    unfold castL
    rw [List.getElem?_map, List.getElem?_eq_getElem hj]
    rfl
  cases most with
  | true =>
    rw [if_pos rfl]
    have hlast : i = xs.length - 1 := by
      apply Classical.byContradiction
      intro hne2
      have h1 := List.pairwise_iff_getElem.mp hp i (xs.length - 1) hi (by omega) (by omega)
      have h2 := hb xs[xs.length - 1] (List.getElem_mem _)
      rw [if_pos rfl] at h2
      omega
    unfold at0 atI ixN
    rw [if_neg (by omega), if_pos (by omega)]
    have e3 : (-1 + ((castL xs).length : Int)).toNat = xs.length - 1 := by omega
    show (((castL xs)[(-1 + ((castL xs).length : Int)).toNat]?).getD 0) = (s : Int)
    rw [e3, cast_at _ (by omega)]
    subst hlast
    rw [← e]; rfl
  | false =>
    rw [if_neg  Bool.false_ne_true]
    have h0 : i = 0 := by
      apply Classical.byContradiction
      intro hne2
      have h1 := List.pairwise_iff_getElem.mp hp 0 i hl hi (by omega)
      have h2 := hb xs[0] (List.getElem_mem _)
      rw [if_neg Bool.false_ne_true] at h2
      omega
    unfold at0
    rw [show atI (castL xs) 0 = some (xs[0] : Int) from atI_nat (cast_at 0 hl)]
    subst h0
    rw [← e]; rfl
theorem outer_is (pf : PF l ps ring) {m : Nat} (hm : Lv l m) (hw : w.length = l.n) (most : Bool) : OuterIs l w false most ps ring (· = outD most (someF l w m)) := by
  constructor
  · intro h
    have e : someF l w m = [] := by
      cases q : someF l w m with
      | nil => rfl
      | cons t ts =>
        obtain ⟨S, g, _⟩ := (some_mem hm hw).mp (by rw [q]; exact List.mem_cons_self .. : t ∈ someF l w m)
        obtain ⟨a, _, b⟩ := good_comb pf g
        rcases h with h | ⟨ks, hks, h⟩
        · rw [a] at h; cases h
        · have := b ks hks
          rw [h] at this; cases this
    show D.non = outD most (someF l w m)
    unfold outD
    rw [if_pos e]
  · intro hst hne c hc
    show D.int _ = outD most (someF l w m)
    have pick : ∀ ks, ∃ r, ks ∈ ps → r ∈ rowsOf l w ring false ks ∧ r.sum = c ks := fun ks => by
      by_cases hk : ks ∈ ps
      · obtain ⟨⟨r, hr, e⟩, _⟩ := hc ks hk
        exact ⟨r, fun _ => ⟨hr, by rw [← e, Int.one_mul]⟩⟩
      · exact ⟨[], fun q => absurd q hk⟩
    obtain ⟨b, hb⟩ := Classical.axiomOfChoice pick
    have ht := flat_comb (f := rowsOf l w ring false) (b := b) (ps := ps) fun ks hk => (hb ks hk).1
    obtain ⟨eT, gT⟩ := comb_good pf hst ht
    generalize tS ps.flatten (ps.flatMap b) = T at eT gT
    have hT : ∀ ks ∈ ps, ind T ks = b ks := by
      rw [ind_flat] at eT
      exact flat_inj (fun ks hks => by rw [ind_len, rowsOf_len l w ring false ks _ (hb ks hks).1]) eT
    have e1 : (cnt l T : Int) = ps.foldl (fun (a : Int) ks => a + c ks) 0 := by
      rw [cnt_sum pf gT.1.rdy]
      exact fold_eq fun ks hk => by rw [hT ks hk, (hb ks hk).2]
    rw [← e1]
    refine (ends_at (some_rise l w m) ((some_mem hm hw).mpr ⟨T, gT, rfl⟩) most fun t ht => ?_).symm
    obtain ⟨S, g, rfl⟩ := (some_mem hm hw).mp ht
    have hS := (good_comb pf g).2.2
    have e2 := cnt_sum pf g.1.rdy
    cases most with
    | true =>
      rw [if_pos rfl]
      have := fold_le (f := fun ks => (ind S ks).sum) (g := c) (ps := ps) fun ks hk => by
        have := (hc ks hk).2 _ (hS ks hk)
        rw [if_pos rfl, Int.one_mul] at this
        exact this
      omega
    | false =>
      rw [if_neg  Bool.false_ne_true]
      have := fold_le (f := c) (g := fun ks => (ind S ks).sum) (ps := ps) fun ks hk => by
        have := (hc ks hk).2 _ (hS ks hk)
        rw [if_neg Bool.false_ne_true, Int.one_mul] at this
        exact this
      omega
end
/-- the plain law -/
theorem law_hyp : LawHyp := fun l w m ok hn wok hm => {
  good := fun ps ring h => (pf_of ok h).ok hn
  nd := fun ps ring h => (pf_of ok h).nd
  cnt := fun ps ring h => count_is (pf_of ok h) hm wok.len rfl
  first := fun ps ring h u us pm pw => first_is (pf_of ok h) hm wok.len rfl pm pw
  outer := fun most ps ring h => outer_is (pf_of ok h) hm wok.len most }
end FT
/-! text P23 -/
/-! P23: the law as a def. -/
namespace FT
open PySem PySem.Spec L2 DL
open PyProof.Rows hiding St
abbrev rowC (C : Cfg) (a rs : Addr) (ns : List Int) : Cfg := { C with r := some a, rs := rs, ns := ns }
theorem bareC {C : Cfg} (N : Bare C) (a rs : Addr) (ns : List Int) : Bare (rowC C a rs ns) := ⟨N.len, N.range, N.isinstance, N.int, N.bool, N.tuple, N.list, N.str, N.sorted, N.set, N.sum, N.min, N.max, N.zip, N.dict, N.enumerate⟩
def spLaw (K : PySem.W.Frag) : Sp := fun vs H Q _ => ∃ (a : Addr) (ns : List Int), vs = [.ref a] ∧ SqL K H a (ns.map V.int) ∧ ns.length ≤ 63 ∧ ∀ H', Q (.bl true)  H'
/-- how the data stand once the row is there -/
theorem row_rl {C : Cfg} {H : Hp} {a rs : Addr} {ns : List Int} {N : List Str} {sc : Scope} {k : Nat} (hS : SqL C.K H rs (ns.map V.int)) (ha : H a = none) (Z : Addr → Bool) (za : Z a = true) (zr : Z rs = true ∨ KSq (rowC C a rs ns)) (zo : ∀ x, Z x = true → x = a ∨ ∃ o, H x = some o ∧ isTup o = false) (nZ : ∀ x, Z x = true → x = a ∨ x = rs) :
    Rl (bodyCfg (rowC C a rs ns) N sc k) H Z Z [none, some (.v .row), none, none, none, none, none, none, none, none, none] [some (.ref rs), some (.ref a), none, none, none, none, none, none, none, none, none] (upd H a (.lst [.ref rs, .int 0, .int 8234, .int 0])) := by
  have hS' : SqL C.K (upd H a (.lst [.ref rs, .int 0, .int 8234, .int 0])) rs (ns.map V.int) := by
    rcases hS with rd | kq
    · refine .inl ?_
      rcases rd with e | ⟨ob, e⟩
      · exact .inl (by rw [upd_ne (ne_of_none e ha)]; exact e)
      · exact .inr ⟨ob, by rw [upd_ne (ne_of_none e ha)]; exact e⟩
    · exact .inr kq
  refine ⟨fun b o n e => ?_, fun b hb => ?_, fun b hb => ?_, fun b hb => zr, fun b zb => ?_, rfl, fun i d e => ?_, fun i d e => ?_, fun i j d e b h1 _ _ _ => ?_, fun b => ⟨.inl, fun q => q.elim id fun ⟨i, d, e, _⟩ => ?_⟩⟩
  · rw [upd_ne (fun q => n (by rw [q]; rfl))]
    exact e
  · cases hb
    exact ⟨0, 8234, 0, upd_same, hS', by decide, by decide, by decide, by decide⟩
  · cases hb; exact za
  · rcases zo b zb with q | ⟨o, e, t⟩
    · rw [q]; exact ⟨_, upd_same, rfl⟩
    · exact ⟨o, by rw [upd_ne (ne_of_none e ha)]; exact e, t⟩
  · match i, e with
    | 1, e => cases e; exact ⟨_, rfl, .row rfl⟩
    | 0, e => cases e
    | 2, e => cases e
    | 3, e => cases e
    | 4, e => cases e
    | 5, e => cases e
    | 6, e => cases e
    | 7, e => cases e
    | 8, e => cases e
    | 9, e => cases e
    | 10, e => cases e
    | n + 11, e => cases e
  all_goals
    first
      | (match i, e with
        | 1, e => cases e
        | 0, e => cases e
        | 2, e => cases e
        | 3, e => cases e
        | 4, e => cases e
        | 5, e => cases e
        | 6, e => cases e
        | 7, e => cases e
        | 8, e => cases e
        | 9, e => cases e
        | 10, e => cases e
        | n + 11, e => cases e)
      | (match i, h1 with
        | 1, e => cases e
        | 0, e => cases e
        | 2, e => cases e
        | 3, e => cases e
        | 4, e => cases e
        | 5, e => cases e
        | 6, e => cases e
        | 7, e => cases e
        | 8, e => cases e
        | 9, e => cases e
        | 10, e => cases e
        | n + 11, e => cases e)
section
variable {C : Cfg}
theorem law_rest (N : Bare C) (HY : LawHyp) (hG : ∀ a rs ns, LawFns (rowC C a rs ns)) {X : Cx} {H : Hp} {a rs : Addr} {ns : List Int} {Dn : Ends} (hX : XOk (bodyCfg (rowC C a rs ns) nLaw (defScope sLaw) 10) X) (hS : SqL C.K H rs (ns.map V.int)) (ha : H a = none) (hD : ∀ H', Dn.rt (.bl true) H') :
    WSts X ((defBody sLaw).drop 1) Dn [some (.ref rs), some (.ref a), none, none, none, none, none, none, none, none, none] (upd H a (.lst [.ref rs, .int 0, .int 8234, .int 0])) := by
  have go : ∀ Z, Rl (bodyCfg (rowC C a rs ns) nLaw (defScope sLaw) 10) H Z Z [none, some (.v .row), none, none, none, none, none, none, none, none, none] [some (.ref rs), some (.ref a), none, none, none, none, none, none, none, none, none] (upd H a (.lst [.ref rs, .int 0, .int 8234, .int 0])) → WSts X ((defBody sLaw).drop 1) Dn [some (.ref rs), some (.ref a), none, none, none, none, none, none, none, none, none] (upd H a (.lst [.ref rs, .int 0, .int 8234, .int 0])) := fun Z R =>
    law_walk (bareC N a rs ns) (hG a rs ns) HY X hX H Z Z _ _ R Dn ⟨fun _ _ _ _ p => p.elim, fun Y ρ σ v d H' p R' dv => by cases p; cases dv; exact hD H', fun _ _ _ _ p => p.elim, fun _ _ _ _ p => p.elim⟩
  rcases id hS with rd | kq
  · have ho : ∃ o, H rs = some o ∧ isTup o = false := by
      rcases rd with e | ⟨ob, e⟩
      · exact ⟨_, e, rfl⟩
      · exact ⟨_, e, rfl⟩
    refine go (fun x => decide (x = a) || decide (x = rs)) (row_rl hS ha _ (by simp) (.inl (by simp)) (fun x zx => ?_) fun x zx => by simpa using zx)
    rcases (by simpa using zx : x = a ∨ x = rs) with q | q
    · exact .inl q
    · exact .inr (by rw [q]; exact ho)
  · exact go (fun x => decide (x = a)) (row_rl hS ha _ (by simp) (.inr kq) (fun x zx => .inl (by simpa using zx)) fun x zx => .inl (by simpa using zx))
theorem ok_law (N : Bare C) (HY : LawHyp) (hG : ∀ a rs ns, LawFns (rowC C a rs ns)) {f : Addr} {fd : FuncData} (F : Fun C.K "law" "law" sLaw f fd) : FnOk C.P C.w C.K C.mg C.base CX0 11 f fd ["_law_script"] (spLaw C.K) := by
  refine F.ok scLaw (fun vs H Q E ⟨a, ns, e, _⟩ => by rw [e]; rfl) fun cdv A outer s H vs Q E hr ⟨rs, ns, e, hS, hl, hQ⟩ => ?_
  subst e
  refine ⟨_, pss_wsts, ?_⟩
  have hX : ∀ a, XOk (bodyCfg (rowC C a rs ns) nLaw (defScope sLaw) 10) (cxOf CX0 C.P C.w C.K C.mg C.base nLaw "law" (defScope sLaw) f cdv A outer s H E).nox := fun a => ⟨rfl, rfl, rfl, rfl, rfl, rfl, rfl, rfl, hr, fun _ _ => rfl, rfl⟩
  refine WSts.of (pss_cons (ps_set (i := 1) scLaw.nd rfl (.inr rfl) (pe_lst (pa_cons (pe_var (i := 0) rfl (.inl rfl)) (pa_cons pe_int (pa_cons pe_int (pa_cons pe_int pa_nil)))))) pss_wsts) ?_
  exact ⟨.ref rs, rfl, by show 4 ≤ sizeLine; decide, fun a ha => law_rest N HY hG (hX a) hS ha hQ⟩
end
end FT
/-! text P14 -/
/-! P14: plain: keys of rows, their costs. -/
namespace FT
open PySem PySem.Spec L2 DL
open PyProof.Rows hiding St
def keyOf (row : List Int) : NK := (row.take 2, lastN row 2)
theorem take2_snoc (row : List Int) (m : Int) : (row.take 2 ++ [m]).take 2 = (row ++ [m]).take 2 := by
  match row with
  | [] => rfl
  | [_] => rfl
  | _ :: _ :: _ => rfl
theorem lastN_snoc (row : List Int) (m : Int) (j : Nat) (hj : 0 < j) : lastN (row ++ [m]) j = lastN row (j - 1) ++ [m] := by
  unfold lastN
  rw [List.length_append, List.length_singleton, List.drop_append_of_le_length (by omega)]
  congr 2; omega
theorem lastN_lastN (row : List Int) {i j : Nat} (h : i ≤ j) : lastN (lastN row j) i = lastN row i := by
  unfold lastN
  rw [List.length_drop, List.drop_drop]
  congr 1; omega
theorem keyOf_snoc (row : List Int) (m : Int) : keyOf (row ++ [m]) = (((keyOf row).1 ++ [m]).take 2, lastN ((keyOf row).2 ++ [m]) 2) := by
  unfold keyOf
  rw [take2_snoc, lastN_snoc _ _ _ (by decide), lastN_snoc _ _ _ (by decide), lastN_lastN _ (by decide)]
theorem going_key (row : List Int) (m : Int) (place : Nat) (ring fill : Bool) : goingB ((keyOf row).2 ++ [m]) place ring fill = goingB (row ++ [m]) place ring fill := by
  have h2 : lastN ((keyOf row).2 ++ [m]) 2 = lastN (row ++ [m]) 2 := by
    unfold keyOf
    rw [lastN_snoc _ _ _ (by decide), lastN_snoc _ _ _ (by decide), lastN_lastN _ (by decide)]
  have h3 : lastN ((keyOf row).2 ++ [m]) 3 = lastN (row ++ [m]) 3 := by
    unfold keyOf
    rw [lastN_snoc _ _ _ (by decide), lastN_snoc _ _ _ (by decide), lastN_lastN _ (by decide)]
  unfold goingB
  rw [h2, h3]
/-- whether a mark can stand behind rows with a key -/
def okB (s0 s1 : Nat → Bool) (ring fill : Bool) (place k : Nat) (key : NK) (m : Int) : Bool := smB s0 s1 k m && goingB (key.2 ++ [m]) place ring fill
theorem okB_ext (s0 s1 : Nat → Bool) (ring fill : Bool) (place k : Nat) (row : List Int) (m : Int) : okB s0 s1 ring fill place k (keyOf row) m = extB s0 s1 ring fill place k row m := by
  unfold okB extB
  rw [going_key]
def rowsK (R : List (List Int)) (key : NK) : List (List Int) := R.filter fun row => decide (keyOf row = key)
def newK (s0 s1 : Nat → Bool) (ring fill : Bool) (place k : Nat) (R : List (List Int)) (key : NK) (ms : List Int) : List (List Int) := ms.flatMap fun m => if okB s0 s1 ring fill place k key m = true then (rowsK R key).map (· ++ [m]) else []
/-! ### rearranged -/
theorem flat_app {α β : Type} (a b : α → List β) : ∀ xs : List α, (xs.flatMap fun x => a x ++ b x).Perm (xs.flatMap a ++ xs.flatMap b)
  | [] => .refl _
  | x :: xs => by
    rw [List.flatMap_cons, List.flatMap_cons, List.flatMap_cons]
    have ih := flat_app a b xs
    refine ((List.Perm.refl (a x ++ b x)).append ih).trans ?_
    rw [List.append_assoc,  List.append_assoc]
    refine (List.Perm.refl _).append ?_
    rw [← List.append_assoc, ←  List.append_assoc]
    exact List.perm_append_comm.append (.refl _)
theorem flat_congr {α β : Type} {f g : α → List β} : ∀ {xs : List α}, (∀ x ∈ xs, (f x).Perm (g x)) → (xs.flatMap f).Perm (xs.flatMap g)
  | [], _ => .refl _
  | x :: xs, h => by
    rw [List.flatMap_cons, List.flatMap_cons]
    exact (h x (List.mem_cons_self ..)).append (flat_congr fun y hy => h y (List.mem_cons_of_mem _ hy))
theorem flat_perm {α β : Type} (f : α → List β) {xs ys : List α} (h : xs.Perm ys) : (xs.flatMap f).Perm (ys.flatMap f) := by
  induction h with
  | nil => exact .refl _
  | cons x _ ih => rw [List.flatMap_cons, List.flatMap_cons]; exact (List.Perm.refl _).append ih
  | swap x y l =>
    simp only [List.flatMap_cons]
    rw [← List.append_assoc, ←  List.append_assoc]
    exact List.perm_append_comm.append (.refl _)
  | trans _ _ i j => exact i.trans j
theorem part_perm : ∀ (us : List NK) (R : List (List Int)), us.Nodup → (∀ row ∈ R, keyOf row ∈ us) → R.Perm (us.flatMap (rowsK R))
  | [], R, _, h => by
    cases R with
    | nil => exact .refl _
    | cons r _ => have := h r (List.mem_cons_self ..); cases this
  | u :: us, R, hn, h => by
    obtain ⟨h1, h2⟩ := List.nodup_cons.mp  hn
    have p1 : R.Perm (rowsK R u ++ R.filter fun row => !decide (keyOf row = u)) := (List.filter_append_perm _ R).symm
    have ih := part_perm us (R.filter fun row => !decide (keyOf row = u)) h2 fun row hr => by
      obtain ⟨a, b⟩ := List.mem_filter.mp hr
      rcases List.mem_cons.mp (h row a) with q | q
      · rw [q] at b; simp at b
      · exact q
    have e : us.flatMap (rowsK (R.filter fun row => !decide (keyOf row = u))) = us.flatMap (rowsK R) := by
      have : ∀ vs : List NK, (∀ v ∈ vs, v ≠ u) → vs.flatMap (rowsK (R.filter fun row => !decide (keyOf row = u))) = vs.flatMap (rowsK R) := by
        intro vs
        induction vs with
        | nil => intro _; rfl
        | cons v vs ih =>
          intro hv
          rw [List.flatMap_cons, List.flatMap_cons, ih fun w hw => hv w (List.mem_cons_of_mem _ hw)]
          congr 1
          unfold rowsK
          rw [List.filter_filter]
          refine List.filter_congr fun row _ => ?_
          have nv := hv v (List.mem_cons_self ..)
          by_cases q : keyOf row = v
          · rw [q]; simp [nv]
          · simp [q]
      exact this us fun v hv e => h1 (e ▸ hv)
    rw [e] at ih
    rw [List.flatMap_cons]
    exact p1.trans ((List.Perm.refl _).append ih)
theorem flat_if {α β : Type} (c : Bool) (f : α → β) : ∀ xs : List α, (xs.flatMap fun x => if c = true then [f x] else []) = if c = true then xs.map f else []
  | [] => by cases c <;> rfl
  | x :: xs => by
    rw [List.flatMap_cons, flat_if c f xs]
    cases c <;> simp
theorem step_perm (s0 s1 : Nat → Bool) (ring fill : Bool) (place k : Nat) {us : List NK} {R : List (List Int)} (hn : us.Nodup) (h : ∀ row ∈ R, keyOf row ∈ us) : (us.flatMap fun key => newK s0 s1 ring fill place k R key [0, 1]).Perm (stepRows s0 s1 ring fill place k R) := by
  have p1 := flat_perm (fun one => ext1 s0 s1 ring fill place k one [0, 1]) (part_perm us R hn h)
  refine List.Perm.trans ?_ p1.symm
  rw [List.flatMap_assoc]
  refine flat_congr fun key _ => ?_
  have e : (rowsK R key).flatMap (fun one => ext1 s0 s1 ring fill place k one [0, 1]) = (rowsK R key).flatMap fun one => (if okB s0 s1 ring fill place k key 0 = true then [one ++ [0]] else []) ++ (if okB s0 s1 ring fill place k key 1 = true then [one ++ [1]] else []) := by
    have : ∀ xs : List (List Int), (∀ x ∈ xs, keyOf x = key) → xs.flatMap (fun one => ext1 s0 s1 ring fill place k one [0, 1]) = xs.flatMap fun one => (if okB s0 s1 ring fill place k key 0 = true then [one ++ [0]] else []) ++ (if okB s0 s1 ring fill place k key 1 = true then [one ++ [1]] else []) := by
      intro xs
      induction xs with
      | nil => intro _; rfl
      | cons x xs ih =>
        intro hx
        rw [List.flatMap_cons, List.flatMap_cons, ih fun y hy => hx y (List.mem_cons_of_mem _ hy)]
        congr 1
        rw [← hx x (List.mem_cons_self ..), okB_ext, okB_ext]
        unfold ext1
        cases h0 : extB s0 s1 ring fill place k x 0 <;> cases h1 : extB s0 s1 ring fill place k x 1 <;> simp [List.filter_cons, h0, h1]
    exact this _ fun x hx => of_decide_eq_true (List.mem_filter.mp hx).2
  rw [e]
  refine List.Perm.trans ?_ (flat_app _ _ _).symm
  rw [flat_if, flat_if]
  unfold newK
  simp only [List.flatMap_cons, List.flatMap_nil, List.append_nil]
  exact .refl _
/-! ### costs -/
section
variable {κ : Type} [DecidableEq  κ]
theorem getZ_none {d : List (κ × Int)} {k : κ} (h : k ∉ d.map (·.1)) : getZ d k = 0 := by
  unfold getZ
  have : d.find? (fun p => decide (p.1 = k)) = none := List.find?_eq_none.mpr fun p hp => by
    have : p.1 ≠ k := fun e => h (List.mem_map.mpr ⟨p, hp, e⟩)
    simp [this]
  rw [this]; rfl
theorem bump_sum {d : List (κ × Int)} {k : κ} {v : Int} (hn : (d.map (·.1)).Nodup) : ((bumpZ d k v).map (·.2)).sum = (d.map (·.2)).sum + v := by
  unfold bumpZ putZ
  by_cases h : (d.any fun p => decide (p.1 = k)) = true
  · rw [if_pos h]
    have key : ∀ (e : List (κ × Int)), (e.map (·.1)).Nodup → k ∈ e.map (·.1) → ∀ w : Int, ((e.map fun p => if p.1 = k then (p.1, w) else p).map (·.2)).sum = (e.map (·.2)).sum - getZ e k + w := by
      intro e
      induction e with
      | nil => intro _ hk; cases hk
      | cons q e ih =>
        intro hn hk w
        obtain ⟨n1, n2⟩ := List.nodup_cons.mp hn
        by_cases hq : q.1 = k
        · have hout : k ∉ e.map (·.1) := by rw [← hq]; exact n1
          have es : (e.map fun p => if p.1 = k then (p.1, w) else p) = e := by
            conv => rhs; rw [← List.map_id e]
            refine List.map_congr_left fun p hp =>  ?_
            have : p.1 ≠ k := fun z => hout (List.mem_map.mpr ⟨p, hp, z⟩)
            simp [this]
          have hg : getZ (q :: e) k = q.2 := by simp [getZ, List.find?_cons, hq]
          rw [hg]
          simp only [List.map_cons, if_pos hq, List.sum_cons]
          rw [es]; omega
        · have hk' : k ∈ e.map (·.1) := by
            rcases List.mem_cons.mp hk with z | z
            · exact absurd z.symm hq
            · exact z
          have hg : getZ (q :: e) k = getZ e k := by simp [getZ, List.find?_cons, hq]
          rw [hg]
          simp only [List.map_cons, if_neg hq, List.sum_cons]
          rw [ih n2 hk' w]; omega
    have hm : k ∈ d.map (·.1) := by
      obtain ⟨p, hp, e⟩ := List.any_eq_true.mp h
      exact List.mem_map.mpr ⟨p, hp, of_decide_eq_true  e⟩
    rw [key d hn hm]; omega
  · rw [if_neg h]
    have hm : k ∉ d.map (·.1) := fun hm => h (by
      obtain ⟨p, hp, e⟩ := List.mem_map.mp  hm
      exact List.any_eq_true.mpr ⟨p, hp, decide_eq_true e⟩)
    rw [List.map_append, List.sum_append, getZ_none hm]
    simp
end
def addH (d0 d : List (Int × Int)) (s : Int) : List (Int × Int) := d.foldl (fun acc q => bumpZ acc (q.1 + s) q.2) d0
theorem addH_snoc (d0 d : List (Int × Int)) (s : Int) (q : Int × Int) : addH d0 (d ++ [q]) s = bumpZ (addH d0 d s) (q.1 + s) q.2 := by unfold addH; rw [List.foldl_append]; rfl
theorem addH_spec (s : Int) : ∀ (d d0 : List (Int × Int)), (d0.map (·.1)).Nodup → ((addH d0 d s).map (·.1)).Nodup ∧ (∀ z, z ∈ (addH d0 d s).map (·.1) ↔ z ∈ d0.map (·.1) ∨ ∃ c ∈ d.map (·.1), c + s = z) ∧ ((addH d0 d s).map (·.2)).sum = (d0.map (·.2)).sum + (d.map (·.2)).sum
  | [], d0, hn => ⟨hn, fun z => by simp [addH], by simp [addH]⟩
  | q :: d, d0, hn => by
    obtain ⟨i1, i2, i3⟩ := addH_spec s d (bumpZ d0 (q.1 + s) q.2) (putZ_nd hn)
    refine ⟨i1, fun z => ?_, ?_⟩
    · show z ∈ (addH (bumpZ d0 (q.1 + s) q.2) d s).map (·.1) ↔ _
      rw [i2]
      unfold bumpZ
      rw [putZ_mem]
      constructor
      · rintro ((h | h) | ⟨c, hc, e⟩)
        · exact .inl h
        · exact .inr ⟨q.1, by simp, h.symm⟩
        · exact .inr ⟨c, by simp only [List.map_cons, List.mem_cons]; exact .inr hc, e⟩
      · rintro (h | ⟨c, hc, e⟩)
        · exact .inl (.inl h)
        · simp only [List.map_cons, List.mem_cons] at hc
          rcases hc with rfl | hc
          · exact .inl (.inr e.symm)
          · exact .inr ⟨c, hc, e⟩
    · show ((addH (bumpZ d0 (q.1 + s) q.2) d s).map (·.2)).sum = _
      rw [i3, bump_sum hn, List.map_cons, List.sum_cons]; omega
theorem addH_len (s : Int) : ∀ (d d0 : List (Int × Int)), (addH d0 d s).length ≤ d0.length + d.length
  | [], d0 => Nat.le_refl _
  | q :: d, d0 => by
    have h := addH_len s d (bumpZ d0 (q.1 + s) q.2)
    have h2 : (bumpZ d0 (q.1 + s) q.2).length ≤ d0.length + 1 := by
      unfold bumpZ putZ
      split
      · simp
      · simp
    show (addH (bumpZ d0 (q.1 + s) q.2) d s).length ≤ _
    rw [List.length_cons]; omega
theorem sum_snoc (row : List Int) (m : Int) : (row ++ [m]).sum = row.sum + m := by rw [List.sum_append]; simp
theorem hist_add {d0 d : List (Int × Int)} {A Rk : List (List Int)} {p m : Int} (h0 : HistOf d0 A p) (h : HistOf d Rk p) : HistOf (addH d0 d (m * p)) (A ++ Rk.map (· ++ [m])) p := by
  obtain ⟨i1, i2, i3⟩ := addH_spec (m * p) d d0 h0.nd
  refine ⟨i1, fun z => ?_, ?_⟩
  · rw [i2, h0.key]
    constructor
    · rintro (⟨row, hr, e⟩ | ⟨c, hc, e⟩)
      · exact ⟨row, List.mem_append_left _ hr, e⟩
      · obtain ⟨row, hr, e'⟩ := (h.key c).mp hc
        refine ⟨row ++ [m], List.mem_append_right _ (List.mem_map.mpr ⟨row, hr, rfl⟩), ?_⟩
        rw [sum_snoc, Int.mul_add, e', Int.mul_comm p m, e]
    · rintro ⟨row, hr, e⟩
      rcases List.mem_append.mp hr with q | q
      · exact .inl ⟨row, q, e⟩
      · obtain ⟨r, hr', rfl⟩ := List.mem_map.mp q
        refine .inr ⟨p * r.sum, (h.key _).mpr ⟨r, hr', rfl⟩, ?_⟩
        rw [← e, sum_snoc, Int.mul_add, Int.mul_comm p m]
  · rw [i3, h0.tot, h.tot, List.length_append, List.length_map]; omega
theorem hist_same {d0 d : List (Int × Int)} {A Rk : List (List Int)} {p : Int} (h0 : HistOf d0 A p) (h : HistOf d Rk p) : HistOf (addH d0 d 0) (A ++ Rk) p := by
  obtain ⟨i1, i2, i3⟩ := addH_spec 0 d d0 h0.nd
  refine ⟨i1, fun z => ?_, ?_⟩
  · rw [i2, h0.key]
    constructor
    · rintro (⟨row, hr, e⟩ | ⟨c, hc, e⟩)
      · exact ⟨row, List.mem_append_left _ hr, e⟩
      · obtain ⟨row, hr, e'⟩ := (h.key c).mp hc
        exact ⟨row, List.mem_append_right _ hr, by omega⟩
    · rintro ⟨row, hr, e⟩
      rcases List.mem_append.mp hr with q | q
      · exact .inl ⟨row, q, e⟩
      · exact .inr ⟨p * row.sum, (h.key _).mpr ⟨row, q, rfl⟩, by omega⟩
  · rw [i3, h0.tot, h.tot, List.length_append]; omega
theorem HistOf.perm {d : List (Int × Int)} {A A' : List (List Int)} {p : Int} (h : HistOf d A p) (q : A.Perm A') : HistOf d A' p :=
  ⟨h.nd, fun z => (h.key z).trans ⟨fun ⟨r, hr, e⟩ => ⟨r, q.mem_iff.mp hr, e⟩, fun ⟨r, hr, e⟩ => ⟨r, q.mem_iff.mpr hr, e⟩⟩, by rw [h.tot, q.length_eq]⟩
theorem hist_nil (p : Int) : HistOf [] [] p := ⟨List.nodup_nil, fun z => by simp, rfl⟩
/-! ### rows by keys -/
structure RowsInv (es : List (NK × List (Int × Int))) (P : List (List Int)) (p : Int) : Prop where
  nd : (es.map (·.1)).Nodup
  hist : ∀ k h, (k, h) ∈ es → HistOf h (rowsK P k) p
  cov : ∀ row ∈ P, keyOf row ∈ es.map (·.1)
  ne : ∀ k ∈ es.map (·.1), ∃ row ∈ P, keyOf row = k
theorem RowsInv.few {es : List (NK × List (Int × Int))} {P : List (List Int)} {p : Int} (r : RowsInv es P p) : es.length ≤ P.length := by
  have := nodup_le (ys := P.map keyOf) r.nd fun k hk => by
    obtain ⟨row, hr, e⟩ := r.ne k hk
    exact List.mem_map.mpr ⟨row, hr, e⟩
  simpa using this
def putL (es : List (NK × List (Int × Int))) (k : NK) (h : List (Int × Int)) : List (NK × List (Int × Int)) := if k ∈ es.map (·.1) then es.map (fun e => if e.1 = k then (e.1, h) else e) else es ++ [(k, h)]
theorem putL_keys (es : List (NK × List (Int × Int))) (k : NK) (h : List (Int × Int)) : (putL es k h).map (·.1) = if k ∈ es.map (·.1) then es.map (·.1) else es.map (·.1) ++ [k] := by
  unfold putL
  by_cases q : k ∈ es.map (·.1)
  · rw [if_pos q, if_pos q, List.map_map]
    refine List.map_congr_left fun e _ => ?_
    show (if e.1 = k then (e.1, h) else e).1 = e.1
    by_cases z : e.1 = k
    · rw [if_pos z]
    · rw [if_neg z]
  · rw [if_neg q, if_neg q, List.map_append]; rfl
theorem RowsInv.put {es : List (NK × List (Int × Int))} {P new : List (List Int)} {p : Int} {k : NK} {h : List (Int × Int)} (r : RowsInv es P p) (hne : new ≠ []) (hk : ∀ row ∈ new, keyOf row = k) (hh : HistOf h (rowsK P k ++ new) p) : RowsInv (putL es k h) (P ++ new) p := by
  have f1 : rowsK (P ++ new) k = rowsK P k ++ new := by
    unfold rowsK
    rw [List.filter_append]
    congr 1
    exact List.filter_eq_self.mpr fun row hr => decide_eq_true (hk row hr)
  have f2 : ∀ j, j ≠ k → rowsK (P ++ new) j = rowsK P j := fun j hj => by
    unfold rowsK
    rw [List.filter_append]
    have : new.filter (fun row => decide (keyOf row = j)) = [] := List.filter_eq_nil_iff.mpr fun row hr => by
      rw [hk row hr]; simp; exact fun e => hj e.symm
    rw [this, List.append_nil]
  refine ⟨?_, fun j g hg => ?_, fun row hr => ?_, fun j hj => ?_⟩
  · rw [putL_keys]
    by_cases q : k ∈ es.map (·.1)
    · rw [if_pos q]; exact r.nd
    · rw [if_neg q]
      refine List.nodup_append.mpr ⟨r.nd, by simp, fun a ha b hb e => ?_⟩
      rw [List.mem_singleton.mp hb] at e
      exact q (e ▸ ha)
  · unfold putL at hg
    by_cases q : k ∈ es.map (·.1)
    · rw [if_pos q] at hg
      obtain ⟨e, he, ee⟩ := List.mem_map.mp hg
      by_cases z : e.1 = k
      · rw [if_pos z] at ee
        cases ee
        rw [z, f1]; exact hh
      · rw [if_neg z] at ee
        subst ee
        rw [f2 _ z]; exact r.hist _ _ he
    · rw [if_neg q] at hg
      rcases List.mem_append.mp hg with z | z
      · have : j ≠ k := fun e => q (e ▸ List.mem_map.mpr ⟨_, z, rfl⟩)
        rw [f2 _ this]; exact r.hist _ _ z
      · cases List.mem_singleton.mp z
        rw [f1]; exact hh
  · rw [putL_keys]
    rcases List.mem_append.mp hr with z | z
    · have := r.cov row z
      by_cases q : k ∈ es.map (·.1)
      · rw [if_pos q]; exact this
      · rw [if_neg q]; exact List.mem_append_left _ this
    · rw [hk row z]
      by_cases q : k ∈ es.map (·.1)
      · rw [if_pos q]; exact q
      · rw [if_neg q]; simp
  · have hj' : j ∈ es.map (·.1) ∨ j = k := by
      rw [putL_keys] at hj
      by_cases q : k ∈ es.map (·.1)
      · rw [if_pos q] at hj; exact .inl hj
      · rw [if_neg q] at hj
        rcases List.mem_append.mp hj with z | z
        · exact .inl z
        · exact .inr (List.mem_singleton.mp z)
    rcases hj' with z | z
    · obtain ⟨row, h1, h2⟩ := r.ne j z
      exact ⟨row, List.mem_append_left _ h1, h2⟩
    · cases new with
      | nil => exact absurd rfl hne
      | cons row rest => exact ⟨row, List.mem_append_right _ (List.mem_cons_self ..), by rw [z]; exact hk row (List.mem_cons_self ..)⟩
theorem RowsInv.perm {es : List (NK × List (Int × Int))} {P P' : List (List Int)} {p : Int} (r : RowsInv es P p) (q : P.Perm P') : RowsInv es P' p :=
  ⟨r.nd, fun k h hh => (r.hist k h hh).perm (q.filter _), fun row hr => r.cov row (q.mem_iff.mpr hr), fun k hk => let ⟨row, h1, h2⟩ := r.ne k hk; ⟨row, q.mem_iff.mp h1, h2⟩⟩
theorem rowsInv_nil (p : Int) : RowsInv [] [] p := ⟨List.nodup_nil, fun _ _ h => (by cases h), fun _ h => (by cases h), fun _ h => (by cases h)⟩
theorem rowsInv_one (p : Int) : RowsInv [(([], []), [(0, 1)])] [[]] p := by
  refine ⟨by simp, fun k h hh => ?_, fun row hr => ?_, fun k hk => ⟨[], by simp, ?_⟩⟩
  · cases List.mem_singleton.mp hh
    have e : rowsK [[]] ([], []) = [[]] := by decide
    rw [e]
    refine ⟨by simp, fun z => ?_, rfl⟩
    constructor
    · intro hz
      refine ⟨[], List.mem_singleton.mpr rfl, ?_⟩
      rw [List.mem_singleton.mp hz]
      show p * 0 = 0
      omega
    · rintro ⟨row, hr, e⟩
      rw [List.mem_singleton.mp hr] at e
      rw [← e]
      show p * 0 ∈ [(0 : Int)]
      rw [Int.mul_zero]; exact List.mem_singleton.mpr rfl
  · rw [List.mem_singleton.mp hr]; decide
  · rw [List.mem_singleton.mp hk]; rfl
theorem newK_key {s0 s1 : Nat → Bool} {ring fill : Bool} {R : List (List Int)} {key : NK} {m : Int} : ∀ row ∈ (rowsK R key).map (· ++ [m]), keyOf row = ((key.1 ++ [m]).take 2, lastN (key.2 ++ [m]) 2) := fun row hr => by
  obtain ⟨r, h, rfl⟩ := List.mem_map.mp hr
  have e : keyOf r = key := of_decide_eq_true (List.mem_filter.mp h).2
  rw [keyOf_snoc, e]
end FT
/-! text DL17 -/
/-! DL17: a hidden dict of hidden dicts. -/
namespace DL
open PySem PySem.Spec L2
open PyProof.Rows hiding St
/-- an entry: the key, its tuple's place, the dict's place, what the dict has -/
structure Mo where
  k : NK
  ka : Addr
  va : Addr
  h : List (Int × Int)
def Mo.x (y : Mo) : NK × Addr × Addr := (y.k, y.ka, y.va)
def Mo.e (y : Mo) : NK × List (Int × Int) := (y.k, y.h)
def hK (h : List (Int × Int)) : List (Key × V) := h.map fun q => (Sum.inl q.1, V.int q.2)
structure MoreAt (w : World) (Z0 Z : Addr → Bool) (H : Hp) (am : Addr) (ys : List Mo) : Prop where
  z : Z am = true
  z0 : Z0 am = false
  ob : ∃ ob, H am = some (HObj am ob) ∧ NOb w am ob (ys.map Mo.x)
  keys : KeysAt H (ys.map Mo.x)
  nd : (ys.map Mo.va).Nodup
  ent : ∀ y ∈ ys, Z y.va = true ∧ Z0 y.va = false ∧ y.va ≠ am ∧ H y.va = some (.dK (hK y.h))
theorem MoreAt.move {w : World} {Z0 Z : Addr → Bool} {H H' : Hp} {am : Addr} {ys : List Mo} (m : MoreAt w Z0 Z H am ys) (hz : ∀ a o, Z a = true → Z0 a = false → H a = some o → H' a = some o) (ht : ∀ b vs, H b = some (.tup vs) → H' b = some (.tup vs)) : MoreAt w Z0 Z H' am ys := by
  obtain ⟨ob, e, n⟩ := m.ob
  exact ⟨m.z, m.z0, ⟨ob, hz _ _ m.z m.z0 e, n⟩, m.keys.mono ht, m.nd, fun y hy => let ⟨a, b, c, d⟩ := m.ent y hy; ⟨a, b, c, hz _ _ a b d⟩⟩
theorem nodup_inj {α β : Type} {f : α → β} : ∀ {xs : List α}, (xs.map f).Nodup → ∀ {x y}, x ∈ xs → y ∈ xs → f x = f y → x = y
  | [], _, _, _, h, _, _ => by cases h
  | z :: zs, hn, x, y, hx, hy, e => by
    obtain ⟨h1, h2⟩ := List.nodup_cons.mp  hn
    rcases List.mem_cons.mp hx with ex | hx'
    · rcases List.mem_cons.mp hy with ey | hy'
      · rw [ex, ey]
      · rw [ex] at e; exact absurd (List.mem_map.mpr ⟨y, hy', e.symm⟩) h1
    · rcases List.mem_cons.mp hy with ey | hy'
      · rw [ey] at e; exact absurd (List.mem_map.mpr ⟨x, hx', e⟩) h1
      · exact nodup_inj h2 hx' hy' e
/-- one entry stored -/
def putY (ys : List Mo) (k : NK) (b v : Addr) (h : List (Int × Int)) : List Mo := if k ∈ ys.map Mo.k then ys.map (fun y => if y.k = k then ⟨y.k, y.ka, v, h⟩ else y) else ys ++ [⟨k, b, v, h⟩]
theorem look_some {ys : List Mo} {k : NK} {v : Addr} (h : lookN (ys.map Mo.x) k = some v) : ∃ y ∈ ys, y.k = k ∧ y.va = v := by
  unfold lookN at h
  obtain ⟨x, hx, e⟩ := Option.map_eq_some_iff.mp h
  have hm := List.mem_of_find?_eq_some hx
  have hp := List.find?_some hx
  obtain ⟨y, hy, rfl⟩ := List.mem_map.mp hm
  exact ⟨y, hy, of_decide_eq_true hp, e⟩
theorem look_none {ys : List Mo} {k : NK} (h : lookN (ys.map Mo.x) k = none) : k ∉ ys.map Mo.k := fun hk => by
  unfold lookN at h
  have hf := Option.map_eq_none_iff.mp h
  obtain ⟨y, hy, e⟩ := List.mem_map.mp hk
  have := List.find?_eq_none.mp hf y.x (List.mem_map.mpr ⟨y, hy, rfl⟩)
  exact this (decide_eq_true e)
theorem look_is {ys : List Mo} {k : NK} : (lookN (ys.map Mo.x) k).isSome = true ↔ k ∈ ys.map Mo.k := by
  constructor
  · intro h
    obtain ⟨v, hv⟩ := Option.isSome_iff_exists.mp h
    obtain ⟨y, hy, e, _⟩ := look_some hv
    exact List.mem_map.mpr ⟨y, hy, e⟩
  · intro h
    cases q : lookN (ys.map Mo.x) k with
    | none => exact absurd h (look_none q)
    | some v => rfl
theorem putY_x (ys : List Mo) (k : NK) (b v : Addr) (h : List (Int × Int)) : storeN (ys.map Mo.x) k b v = (putY ys k b v h).map Mo.x := by
  unfold storeN putY
  by_cases q : k ∈ ys.map Mo.k
  · rw [if_pos (look_is.mpr q), if_pos q, List.map_map, List.map_map]
    refine List.map_congr_left fun y _ => ?_
    show (if y.k = k then (y.k, y.ka, v) else y.x) = (if y.k = k then (⟨y.k, y.ka, v, h⟩ : Mo) else y).x
    by_cases z : y.k = k
    · rw [if_pos z, if_pos z]; rfl
    · rw [if_neg z, if_neg z]
  · rw [if_neg (fun z => q (look_is.mp z)), if_neg q, List.map_append]; rfl
section
variable {C : Cfg} {B : Hp} {Z0 Z Y : Addr → Bool} {ρ : DEnv} {σ : St} {H H' : Hp} {am : Addr} {ys : List Mo}
theorem RZ.tupX (R : RZ C B Z0 Z Y ρ σ H) (x : Ext C H H') : ∀ b vs, H b = some (.tup vs) → H' b = some (.tup vs) := fun c vs q => by
  by_cases hr : some c = C.r
  · obtain ⟨_, _, _, q', _⟩ := R.R.row c hr.symm
    rw [q'] at q; cases q
  · exact x.1 c _ hr q
theorem MoreAt.ext {w : World} (m : MoreAt w Z0 Z H am ys) (R : RZ C B Z0 Z Y ρ σ H) (x : Ext C H H') : MoreAt w Z0 Z H' am ys :=
  m.move (fun a o _ h0 e => x.1 a o (R.nr h0) e) (R.tupX x)
theorem MoreAt.kept {w : World} (m : MoreAt w Z0 Z H am ys) (R : RZ C B Z0 Z Y ρ σ H) (k : Keep C Y Z H H') : MoreAt w Z0 Z H' am ys :=
  m.move (fun a o hz h0 e => k a o (R.nr h0) (.inr hz) e) fun b vs e => by
    by_cases hr : some b = C.r
    · obtain ⟨_, _, _, q', _⟩ := R.R.row b hr.symm
      rw [q'] at e; cases e
    · refine k b _ hr (.inl ?_) e
      cases q : Y b with
      | false => rfl
      | true => obtain ⟨o, e', t⟩ := R.R.yOk q; rw [e] at e'; cases e'; cases t
/-- one dict taken out: what stays -/
structure MoreX (w : World) (Z0 Z : Addr → Bool) (H : Hp) (am : Addr) (ys : List Mo) (key : NK) : Prop where
  z : Z am = true
  z0 : Z0 am = false
  ob : ∃ ob, H am = some (HObj am ob) ∧ NOb w am ob (ys.map Mo.x)
  keys : KeysAt H (ys.map Mo.x)
  nd : (ys.map Mo.va).Nodup
  ent : ∀ y ∈ ys, y.k ≠ key → Z y.va = true ∧ Z0 y.va = false ∧ y.va ≠ am ∧ H y.va = some (.dK (hK y.h))
theorem MoreX.move {w : World} {key : NK} (m : MoreX w Z0 Z H am ys key) (hz : ∀ a o, Z a = true → Z0 a = false → H a = some o → H' a = some o) (ht : ∀ b vs, H b = some (.tup vs) → H' b = some (.tup vs)) : MoreX w Z0 Z H' am ys key := by
  obtain ⟨ob, e, n⟩ := m.ob
  exact ⟨m.z, m.z0, ⟨ob, hz _ _ m.z m.z0 e, n⟩, m.keys.mono ht, m.nd, fun y hy hk => let ⟨a, b, c, d⟩ := m.ent y hy hk; ⟨a, b, c, hz _ _ a b d⟩⟩
theorem MoreX.ext {w : World} {key : NK} (m : MoreX w Z0 Z H am ys key) (R : RZ C B Z0 Z Y ρ σ H) (x : Ext C H H') : MoreX w Z0 Z H' am ys key :=
  m.move (fun a o _ h0 e => x.1 a o (R.nr h0) e) (R.tupX x)
theorem MoreX.kept {w : World} {key : NK} (m : MoreX w Z0 Z H am ys key) (R : RZ C B Z0 Z Y ρ σ H) (k : Keep C Y Z H H') : MoreX w Z0 Z H' am ys key :=
  m.move (fun a o hz h0 e => k a o (R.nr h0) (.inr hz) e) fun b vs e => by
    by_cases hr : some b = C.r
    · obtain ⟨_, _, _, q', _⟩ := R.R.row b hr.symm
      rw [q'] at e; cases e
    · refine k b _ hr (.inl ?_) e
      cases q : Y b with
      | false => rfl
      | true => obtain ⟨o, e', t⟩ := R.R.yOk q; rw [e] at e'; cases e'; cases t
theorem MoreAt.out {w : World} {key : NK} {y0 : Mo} (m : MoreAt w Z0 Z H am ys) (hk : (ys.map Mo.k).Nodup) (h0 : y0 ∈ ys) (hy : y0.k = key) : MoreX w Z0 (unY Z y0.va) H am ys key := by
  obtain ⟨a0, b0, c0, d0⟩ := m.ent y0 h0
  refine ⟨by rw [unY_ne (fun e => c0 e.symm)]; exact m.z, m.z0, m.ob, m.keys, m.nd, fun y hm hne => ?_⟩
  obtain ⟨a, b, c, d⟩ := m.ent y hm
  exact ⟨by rw [unY_ne (fun e => hne (by rw [nodup_inj m.nd hm h0 e]; exact hy))]; exact a, b, c, d⟩
theorem MoreAt.outN {w : World} {key : NK} (m : MoreAt w Z0 Z H am ys) : MoreX w Z0 Z H am ys key := ⟨m.z, m.z0, m.ob, m.keys, m.nd, fun y hy _ => m.ent y hy⟩
/-- stored back -/
theorem MoreX.put {w : World} {key : NK} {b a0 : Addr} {ob' : Obj} {h : List (Int × Int)} (m : MoreX w Z0 Z H am ys key) (za : Z a0 = false) (z0a : Z0 a0 = false) (na : a0 ≠ am) (ha : H a0 = some (.dK (hK h))) (kb : KeyAt H key b) (n : NOb w am ob' (storeN (ys.map Mo.x) key b a0)) : MoreAt w Z0 (hidY Z a0) (upd H am (HObj am ob')) am (putY ys key b a0 h) := by
  obtain ⟨ob, eo, no⟩ := m.ob
  have ht : ∀ c vs, H c = some (.tup vs) → upd H am (HObj am ob') c = some (.tup vs) := fun c vs e => by
    rw [upd_ne (fun z => by rw [z, eo] at e; cases e)]; exact e
  have other : ∀ y ∈ ys, y.k ≠ key → y.va ≠ a0 := fun y hy hk e => by
    have := (m.ent y hy hk).1
    rw [e, za] at this; cases this
  have mem : ∀ y ∈ putY ys key b a0 h, (y ∈ ys ∧ y.k ≠ key) ∨ (y.va = a0 ∧ y.h = h ∧ KeyAt H y.k y.ka) := fun y hy => by
    unfold putY at hy
    by_cases q : key ∈ ys.map Mo.k
    · rw [if_pos q] at hy
      obtain ⟨y', hy', e⟩ := List.mem_map.mp hy
      by_cases z : y'.k = key
      · rw [if_pos z] at e
        subst e
        exact .inr ⟨rfl, rfl, m.keys y'.x (List.mem_map.mpr ⟨y', hy', rfl⟩)⟩
      · rw [if_neg z] at e
        subst e
        exact .inl ⟨hy', z⟩
    · rw [if_neg q] at hy
      rcases List.mem_append.mp hy with z | z
      · exact .inl ⟨z, fun e => q (List.mem_map.mpr ⟨y, z, e⟩)⟩
      · rw [List.mem_singleton.mp  z]
        exact .inr ⟨rfl, rfl, kb⟩
  refine ⟨hidY_iff.mpr (.inl m.z), m.z0, ⟨ob', upd_same, by rw [← putY_x]; exact n⟩, fun x hx => ?_, ?_, fun y hy => ?_⟩
  · obtain ⟨y, hy, rfl⟩ := List.mem_map.mp hx
    rcases mem y hy with ⟨q, _⟩ | ⟨_, _, q⟩
    · exact (m.keys y.x (List.mem_map.mpr ⟨y, q, rfl⟩)).mono ht
    · exact q.mono ht
  · have hn := no.2.2.2.1
    rw [List.map_map] at hn
    have hn' : (ys.map Mo.k).Nodup := hn
    unfold putY
    by_cases q : key ∈ ys.map Mo.k
    · rw [if_pos q, List.map_map]
      have key2 : ∀ zs : List Mo, (∀ y ∈ zs, y ∈ ys) → (zs.map Mo.k).Nodup → (zs.map Mo.va).Nodup → (zs.map (Mo.va ∘ fun y => if y.k = key then (⟨y.k, y.ka, a0, h⟩ : Mo) else y)).Nodup := by
        intro zs
        induction zs with
        | nil => intro _ _ _; exact List.nodup_nil
        | cons y zs ih =>
          intro hs h1 h2
          obtain ⟨a1, a2⟩ := List.nodup_cons.mp h1
          obtain ⟨b1, b2⟩ := List.nodup_cons.mp h2
          rw [List.map_cons]
          refine List.nodup_cons.mpr ⟨fun hm => ?_, ih (fun u hu => hs u (List.mem_cons_of_mem _ hu)) a2 b2⟩
          obtain ⟨u, hu, e⟩ := List.mem_map.mp hm
          have hus := hs u (List.mem_cons_of_mem _ hu)
          have hys := hs y (List.mem_cons_self ..)
          simp only [Function.comp] at e
          by_cases z1 : u.k = key
          · by_cases z2 : y.k = key
            · exact a1 (List.mem_map.mpr ⟨u, hu, by rw [z1, z2]⟩)
            · rw [if_pos z1, if_neg z2] at e
              exact other y hys z2 e.symm
          · rw [if_neg z1] at e
            by_cases z2 : y.k = key
            · rw [if_pos z2] at e
              exact other u hus z1 e
            · rw [if_neg z2] at e
              exact b1 (List.mem_map.mpr ⟨u, hu, e⟩)
      exact key2 ys (fun _ h => h) hn' m.nd
    · rw [if_neg q, List.map_append]
      refine List.nodup_append.mpr ⟨m.nd, by simp, fun c hc d hd e => ?_⟩
      obtain ⟨y, hy, e2⟩ := List.mem_map.mp hc
      rw [List.mem_singleton.mp hd] at e
      exact other y hy (fun z => q (List.mem_map.mpr ⟨y, hy, z⟩)) (e2.trans e)
  · rcases mem y hy with ⟨q, hne⟩ | ⟨q1, q2, _⟩
    · obtain ⟨a, b', c, d⟩ := m.ent y q hne
      exact ⟨hidY_iff.mpr (.inl a), b', c, by rw [upd_ne c]; exact d⟩
    · rw [q1, q2]
      exact ⟨hidY_iff.mpr (.inr rfl), z0a, na, by rw [upd_ne na]; exact ha⟩
variable {X : Cx}
/-- all dicts in it are locked for good -/
theorem lock_all {sts : List Stmt} {Dn : Ends} : ∀ (zs : List Mo) {H : Hp}, RZ C B Z0 Z Y ρ σ H → (zs.map Mo.va).Nodup → (∀ y ∈ zs, Z y.va = true ∧ Z0 y.va = false ∧ H y.va = some (.dK (hK y.h))) →
    (∀ H', RZ C B Z0 Z Y ρ σ H' → (∀ a, a ∉ zs.map Mo.va → H' a = H a) → (∀ y ∈ zs, ∃ ob, H' y.va = some (.frz ob (.dK (hK y.h)))) → WSts X sts Dn σ H') → WSts X sts Dn σ H
  | [], H, R, _, _, k => k H R (fun _ _ => rfl) fun _ h => by cases h
  | y :: zs, H, R, hn, he, k => by
    obtain ⟨h1, h2⟩ := List.nodup_cons.mp  hn
    obtain ⟨a, b, c⟩ := he y (List.mem_cons_self ..)
    refine zs_lock c trivial fun ob => ?_
    have R' : RZ C B Z0 Z Y ρ σ (upd H y.va (.frz ob (.dK (hK y.h)))) := R.zmut a b rfl
    refine lock_all zs R' h2 (fun u hu => ?_) fun H' RH hh hl => k H' RH (fun c hc => ?_) fun u hu => ?_
    · obtain ⟨a', b', c'⟩ := he u (List.mem_cons_of_mem _ hu)
      exact ⟨a', b', by rw [upd_ne (fun e => h1 (by rw [← e]; exact List.mem_map.mpr ⟨u, hu, rfl⟩))]; exact c'⟩
    · simp only [List.map_cons, List.mem_cons, not_or] at hc
      rw [hh c hc.2, upd_ne hc.1]
    · rcases List.mem_cons.mp hu with rfl |  hu
      · exact ⟨ob, by rw [hh _ h1]; exact upd_same⟩
      · exact hl u hu
/-- seen again as data -/
theorem MoreAt.data {w : World} {Y' : Addr → Bool} (m : MoreAt w Z0 Z H am ys) (hH : ∀ a, a ∉ ys.map Mo.va → H' a = H a) (hl : ∀ y ∈ ys, ∃ ob, H' y.va = some (.frz ob (.dK (hK y.h)))) (hY : ∀ a, Z a = true → Z0 a = false → Y' a = false) (ht : ∀ b vs, H' b = some (.tup vs) → Y' b = false) (r : Option Addr) :
    DV r (hid H' Y') (.ref am) (.dN w (ys.map fun y => (y.k, D.dL (y.h.map fun q => (q.1, D.int q.2))))) := by
  obtain ⟨ob, eo, no⟩ := m.ob
  have nam : am ∉ ys.map Mo.va := fun h => by
    obtain ⟨y, hy, e⟩ := List.mem_map.mp h
    exact (m.ent y hy).2.2.1 e
  have tp : ∀ b vs, H b = some (.tup vs) → hid H' Y' b = some (.tup vs) := fun b vs e => by
    have nb : b ∉ ys.map Mo.va := fun h => by
      obtain ⟨y, hy, e2⟩ := List.mem_map.mp h
      have := (m.ent y hy).2.2.2
      rw [e2, e] at this; cases this
    have e' : H' b = some (.tup vs) := by rw [hH b nb]; exact e
    exact hid_of (ht b vs e') e'
  refine .dN (xs := ys.map Mo.x) (hid_of (hY am m.z m.z0) (by rw [hH am nam]; exact eo)) no (by rw [List.map_map, List.map_map]; rfl) (m.keys.mono tp) ?_
  rw [List.map_map,  List.map_map]
  have all : ∀ zs : List Mo, (∀ y ∈ zs, y ∈ ys) → DVs r (hid H' Y') (zs.map ((fun x : NK × Addr × Addr => V.ref x.2.2) ∘ Mo.x)) (zs.map ((fun p : NK × D => p.2) ∘ fun y : Mo => (y.k, D.dL (y.h.map fun q => (q.1, D.int q.2))))) := by
    intro zs
    induction zs with
    | nil => intro _; exact .nil
    | cons y zs ih =>
      intro hs
      have hy := hs y (List.mem_cons_self ..)
      obtain ⟨obv, ev⟩ := hl y hy
      obtain ⟨a, b, _, _⟩ := m.ent y hy
      refine .cons (.dL (hid_of (hY _ a b) ev) (by unfold hK; rw [List.map_map, List.map_map]; rfl) ?_) (ih fun u hu => hs u (List.mem_cons_of_mem _ hu))
      have e1 : (hK y.h).map (·.2) = (y.h.map (·.2)).map V.int := by unfold hK; rw [List.map_map, List.map_map]; rfl
      have e2 : (y.h.map fun q => (q.1, D.int q.2)).map (·.2) = (y.h.map (·.2)).map D.int := by rw [List.map_map, List.map_map]; rfl
      rw [e1, e2]
      exact .of_ints _
  exact all ys fun _ h => h
theorem raw_if {c : Expr} {A A' : List Stmt} {pos : Pos} {p : Bool → Prop} {Dn : Ends} (hX : XOk C X) (R : RZ C B Z0 Z Y ρ σ H) (hc : EvT C c ρ p) (h1 : ∀ H1, p true → Ext C H H1 → WSts X A Dn σ H1) (h2 : ∀ H1, p false → Ext C H H1 → WSts X A' Dn σ H1) : WSt X (.If c A A' pos) Dn σ H :=
  WSt.of (ps_if pt_wt pss_wsts pss_wsts) (hc X hX B Z Y σ H R.R _ fun b H1 pb x1 => by
    cases b with
    | true => exact iteT (h1 H1 pb x1)
    | false => exact iteF (h2 H1 pb x1))
theorem rs_cons {st : Stmt} {sts : List Stmt} {Dn : Ends} (h : WSt X st { Dn with nx := fun σ' H' => WSts X sts Dn σ' H' } σ H) : WSts X (st :: sts) Dn σ H := WSts.of (pss_cons ps_wst pss_wsts) h
theorem rs_one {st : Stmt} {Dn : Ends} (h : WSt X st Dn σ H) : WSts X [st] Dn σ H := WSts.of (pss_one ps_wst) h
theorem rs_nil {Dn : Ends} (h : Dn.nx σ H) : WSts X [] Dn σ H := WSts.of pss_nil h
end
end DL
/-! text P15 -/
/-! P15: costs_of. -/
namespace FT
open PySem PySem.Spec L2 DL
open PyProof.Rows hiding St
abbrev sCostsOf : Stmt := topS 30
abbrev nCosts : List Str := ["some", "is_ring", "suits", "prices", "must_fill", "rows", "place", "cell", "more", "first", "last", "mark", "key", "there", "cost", "count", "fresh", "found"]
theorem scCostsOf : FnScope nCosts ["some", "is_ring", "suits", "prices", "must_fill"] (defScope sCostsOf) := ⟨rfl, rfl, rfl, by decide +kernel, rfl, by decide +kernel, by decide +kernel⟩
def rowsD (w : World) (es : List (NK × List (Int × Int))) : D := .dN w (es.map fun e => (e.1, D.dL (iZ e.2)))
theorem valD_rows {es : List (NK × List (Int × Int))} (hn : (es.map (·.1)).Nodup) {k : NK} {h : List (Int × Int)} (hm : (k, h) ∈ es) : valD (es.map fun e => (e.1, D.dL (iZ e.2))) k = some (.dL (iZ h)) := by
  induction es with
  | nil => cases hm
  | cons e es ih =>
    obtain ⟨h1, h2⟩ := List.nodup_cons.mp  hn
    rw [List.map_cons]
    rcases List.mem_cons.mp hm with q |  q
    · subst q; simp [valD]
    · have : ¬ e.1 = k := fun z => h1 (List.mem_map.mpr ⟨_, q, z.symm⟩)
      have e1 : valD ((e.1, D.dL (iZ e.2)) :: es.map fun e => (e.1, D.dL (iZ e.2))) k = valD (es.map fun e => (e.1, D.dL (iZ e.2))) k := by simp [valD, List.find?_cons, this]
      rw [e1]; exact ih h2 q
theorem putY_e (ys : List Mo) (k : NK) (b v : Addr) (h : List (Int × Int)) : (putY ys k b v h).map Mo.e = putL (ys.map Mo.e) k h := by
  unfold putY putL
  have e : (ys.map Mo.e).map (·.1) = ys.map Mo.k := by rw [List.map_map]; rfl
  rw [e]
  by_cases q : k ∈ ys.map Mo.k
  · rw [if_pos q, if_pos q, List.map_map, List.map_map]
    refine List.map_congr_left fun y _ => ?_
    show (if y.k = k then (⟨y.k, y.ka, v, h⟩ : Mo) else y).e = (if y.e.1 = k then (y.e.1, h) else y.e)
    by_cases z : y.k = k
    · rw [if_pos z, if_pos (show y.e.1 = k from z)]; rfl
    · rw [if_neg z, if_neg (show ¬ y.e.1 = k from z)]
  · rw [if_neg q, if_neg q, List.map_append]; rfl
theorem at_price {n : Nat} {p : Int} {k : Nat} (h : k < n) : atI ((List.replicate n p).map D.int) (k : Int) = some (.int p) := by
  rw [atI_map, atI_nat (v := p) (by rw [List.getElem?_replicate, if_pos h])]; rfl
theorem ov_hist {r : Option Addr} {G H : Hp} {a : Addr} {h : List (Int × Int)} (e : H a = some (.dK (hK h))) : OV r G H a (.dI (iZ h)) := by
  refine ⟨hK h, e, by unfold hK iZ; rw [List.map_map, List.map_map]; rfl, ?_⟩
  have e1 : (hK h).map (·.2) = (h.map (·.2)).map V.int := by unfold hK; rw [List.map_map, List.map_map]; rfl
  have e2 : (iZ h).map (·.2) = (h.map (·.2)).map D.int := by unfold iZ; rw [List.map_map, List.map_map]; rfl
  rw [e1, e2]
  exact .of_ints _
theorem hist_ov {r : Option Addr} {G H : Hp} {a : Addr} {h : List (Int × Int)} (ov : OV r G H a (.dI (iZ h))) : H a = some (.dK (hK h)) := by
  obtain ⟨kvs, e, hk, t⟩ := ov
  have e2 : (iZ h).map (·.2) = (h.map (·.2)).map D.int := by unfold iZ; rw [List.map_map, List.map_map]; rfl
  rw [e2] at t
  have t' := t.ints
  have : kvs = hK h := by
    have k1 : kvs.map (·.1) = (hK h).map (·.1) := by rw [hk]; unfold iZ hK; rw [List.map_map, List.map_map]; rfl
    have k2 : kvs.map (·.2) = (hK h).map (·.2) := by rw [t']; unfold hK; rw [List.map_map, List.map_map]; rfl
    clear e hk t t' e2
    revert k1 k2
    generalize hK h = m
    intro k1 k2
    induction kvs generalizing m with
    | nil => cases m with
      | nil => rfl
      | cons _ _ => cases k1
    | cons x xs ih => cases m with
      | nil => cases k1
      | cons y ys =>
        simp only [List.map_cons, List.cons.injEq] at k1 k2
        rw [ih ys k1.2 k2.2, Prod.ext k1.1 k2.1]
  rw [← this]; exact e
theorem rl_tup {C : Cfg} {B : Hp} {Z Y : Addr → Bool} {ρ : DEnv} {σ : L2.St} {H : Hp} (R : Rl C B Z Y ρ σ H) : ∀ b vs, H b = some (.tup vs) → Y b = false := fun b vs e => by
  cases q : Y b with
  | false => rfl
  | true => obtain ⟨o, e', t⟩ := R.yOk q; rw [e] at e'; cases e'; cases t
def forB : Stmt → List Stmt
  | .For _ _ b _ _ => b
  | _ => []
def ifB : Stmt → List Stmt
  | .If _ a _ _ => a
  | _ => []
def nth (b : List Stmt) (i : Nat) : Stmt := b.getD i (.Pass ⟨0, 0, 0, 0⟩)
abbrev bL1 : List Stmt := forB (nth (defBody sCostsOf) 1)
abbrev bL2 : List Stmt := forB (nth bL1 1)
abbrev bL3 : List Stmt := forB (nth bL2 0)
abbrev cfgC (C : Cfg) : Cfg := bodyCfg C nCosts (defScope sCostsOf) 1
section
variable {C : Cfg} {X : Cx} {B : Hp} {Z0 Z Y : Addr → Bool} {σ : L2.St} {H : Hp} {ks : List Nat} {n : Nat} {r fl : Bool} {s0 s1 : Nat → Bool} {p : Int} {es : List (NK × List (Int × Int))} {pl cell : Nat} {am : Addr} {k0 : NK} {m : Int} {ys : List Mo} {P R : List (List Int)} {h0 : List (Int × Int)} {e12 e13 e14 e15 e16 e17 : Option Ent}
theorem cat_d {xs : List Int} {m : Int} : D.tup (xs.map D.int ++ [D.int m]) = tI (xs ++ [m]) := by rw [tI, List.map_append]; rfl
set_option maxHeartbeats 4000000  in
theorem mark_step (G : FnD C 1 "is_going" SGoing) (hX : XOk (cfgC C) X)
    (R1 : RZ (cfgC C) B Z0 Z Y [some (.v (lN ks)), some (.v (.bl r)), some (.v (suitsD n s0 s1)), some (.v (pricesD n p)), some (.v (.bl fl)), some (.v (rowsD C.w es)), some (.v (.int pl)), some (.v (.int cell)), some (.v (.adr am)), some (.v (tI k0.1)), some (.v (tI k0.2)), some (.v (.int m)), e12, e13, e14, e15, e16, e17] σ H)
    (hcell : cell < n) (hm : m = 0 ∨ m = 1) (hp : p = 0 ∨ p = 1) (M : MoreAt C.w Z0 Z H am ys) (I : RowsInv (ys.map Mo.e) P p) (hes : RowsInv es R p) (hk0 : (k0, h0) ∈ es) (l1 : k0.1.length ≤ 2) (l2 : k0.2.length ≤ 2) (lP : P.length + R.length ≤ 90000) {Dn : Ends}
    (hn : ∀ (ys' : List Mo) (e12 e13 e14 e15 e16 : Option Ent) Z' Y' σ' H', MoreAt C.w Z0 Z' H' am ys' → RowsInv (ys'.map Mo.e) (P ++ if okB s0 s1 r fl pl cell k0 m = true then (rowsK R k0).map (· ++ [m]) else []) p →
      RZ (cfgC C) B Z0 Z' Y' [some (.v (lN ks)), some (.v (.bl r)), some (.v (suitsD n s0 s1)), some (.v (pricesD n p)), some (.v (.bl fl)), some (.v (rowsD C.w es)), some (.v (.int pl)), some (.v (.int cell)), some (.v (.adr am)), some (.v (tI k0.1)), some (.v (tI k0.2)), some (.v (.int m)), e12, e13, e14, e15, e16, e17] σ' H' → Dn.nx σ' H') : WSts X bL3 Dn σ H := by
  have nd := scCostsOf.nd
  have hist0 := hes.hist k0 h0 hk0
  have lh0 : h0.length ≤ R.length := Nat.le_trans (hist_few hist0) (List.length_filter_le _ _)
  refine rs_one (raw_if (p := (· = okB s0 s1 r fl pl cell k0 m)) hX R1 (et_w (ew_and (k := smB s0 s1 cell m) (k' := goingB (k0.2 ++ [m]) pl r fl) (et_val (ev_ix (ev_ix (ev_var 2) (ev_var 7) (ixd_lst (suits_at hcell s0 s1))) (ev_var 11) (ixd_lst ?_))) fun _ => ew_and1 (et_val (ev_call G.to (ea_cons (EvD.is (ev_bin (ev_var 10) (ev_tup (ea_cons (ev_var 11) ea_nil)) (od_catT ?_)) cat_d) (ea_cons (ev_var 6) (ea_cons (ev_var 1) (ea_cons (ev_var 4) ea_nil)))) ⟨_, _, _, _, rfl, rfl⟩)))) (fun H1 hb x1 => ?_) fun H1 hb x1 => ?_)
  · rcases hm with rfl | rfl <;> rfl
  · rw [List.length_map]; simp; omega
  · have R2 := R1.ext x1
    have M2 := M.ext R1 x1
    rw [if_pos hb.symm] at hn
    refine rs_cons (raw_ws hX R2 (ws_set 12 nd (ev_tup (ea_cons (ev_firstI 2 (EvD.is (ev_bin (ev_var 9) (ev_tup (ea_cons (ev_var 11) ea_nil)) (od_catT ?_)) cat_d)) (ea_cons (ev_lastI 2 (EvD.is (ev_bin (ev_var 10) (ev_tup (ea_cons (ev_var 11) ea_nil)) (od_catT ?_)) cat_d)) ea_nil))) (by rintro _ rfl; rfl)) ?_)
    · rw [List.length_map]; simp; omega
    · rw [List.length_map]; simp; omega
    rintro Y3 _ σ3 H3 rfl R3 kp3
    have M3 := M2.kept R2 kp3
    have hkk : ((k0.1 ++ [m]).take 2, lastN (k0.2 ++ [m]) 2) = ((k0.1 ++ [m]).take 2, lastN (k0.2 ++ [m]) 2) := rfl
    generalize hkey : (((k0.1 ++ [m]).take 2, lastN (k0.2 ++ [m]) 2) : NK) = key at hkk
    have hkeyD : D.tup [tI ((k0.1 ++ [m]).take 2), tI (lastN (k0.2 ++ [m]) 2)] = keyD key := by rw [← hkey]; rfl
    rw [hkeyD] at R3
    obtain ⟨ob, eo, no⟩ := M3.ob
    have kn : (ys.map Mo.k).Nodup := by
      have := I.nd
      rw [List.map_map] at this; exact this
    have hnew : (rowsK R k0).map (· ++ [m]) ≠ [] := by
      obtain ⟨row, hr, e⟩ := hes.ne k0 (List.mem_map.mpr ⟨_, hk0, rfl⟩)
      intro z
      have hm' : row ++ [m] ∈ (rowsK R k0).map (· ++ [m]) := List.mem_map.mpr ⟨row, List.mem_filter.mpr ⟨hr, decide_eq_true e⟩, rfl⟩
      rw [z] at hm'; cases hm'
    have tail : ∀ (h' : List (Int × Int)) Z5 Y5 σ5 H5, RZ (cfgC C) B Z0 Z5 Y5 [some (.v (lN ks)), some (.v (.bl r)), some (.v (suitsD n s0 s1)), some (.v (pricesD n p)), some (.v (.bl fl)), some (.v (rowsD C.w es)), some (.v (.int pl)), some (.v (.int cell)), some (.v (.adr am)), some (.v (tI k0.1)), some (.v (tI k0.2)), some (.v (.int m)), some (.v (keyD key)), some (.o (.dI (iZ h'))), e14, e15, e16, e17] σ5 H5 →
        MoreX C.w Z0 Z5 H5 am ys key → HistOf h' (rowsK P key) p → WSts X ((ifB (nth bL3 0)).drop 2) Dn σ5 H5 := by
      intro h' Z5 Y5 σ5 H5 R5 M5 hh
      have lh' : h'.length ≤ P.length := Nat.le_trans (hist_few hh) (List.length_filter_le _ _)
      refine rs_cons (raw_ws hX R5 (ws_forG h0 (fun q : Int × Int => D.tup [.int q.1, .int q.2]) (fun xs ρ' => ∃ e14 e15 e16, ρ' = [some (.v (lN ks)), some (.v (.bl r)), some (.v (suitsD n s0 s1)), some (.v (pricesD n p)), some (.v (.bl fl)), some (.v (rowsD C.w es)), some (.v (.int pl)), some (.v (.int cell)), some (.v (.adr am)), some (.v (tI k0.1)), some (.v (tI k0.2)), some (.v (.int m)), some (.v (keyD key)), some (.o (.dI (iZ (addH h' xs (m * p))))), e14, e15, e16, e17]) ?_ (sg_2 14 15 nd) ⟨e14, e15, e16, rfl⟩ ?_ (fun ρ' h => h)) ?_)
      · have e : (iZ h0).map (fun p => D.tup [.int p.1, p.2]) = h0.map fun q : Int × Int => D.tup [.int q.1, .int q.2] := by unfold iZ; rw [List.map_map]; rfl
        rw [← e]
        exact ei_itemsL (is := iZ h0) (ev_getN (C := cfgC C) (ds := es.map fun e => (e.1, D.dL (iZ e.2))) (key := k0) (ev_var 5) (ev_tup (ea_cons (ev_var 9) (ea_cons (ev_var 10) ea_nil))) (valD_rows hes.nd hk0))
      · rintro i q ρ' hi ⟨e14, e15, e16, rfl⟩
        have hil : i < h0.length := (List.getElem?_eq_some_iff.mp hi).1
        refine ⟨_, rfl, ?_⟩
        refine wss_seq (ws_set 16 nd (ev_bin (ev_var 14) (ev_bin (ev_var 11) (ev_ix (ev_var 3) (ev_var 7) (ixd_tup (at_price hcell))) (od_mul (.inl (by omega)))) od_add) (by rintro _ rfl; rfl)) ?_
        refine wss_one (ws_putI 13 (ev_bin (EvD.is (ev_getOI 13 (ev_var 16) ev_int ⟨by intro _; rfl, by intro _; rfl, by decide +kernel, by intro _; rfl⟩) (valD_dZ0 (addH h' (h0.take i) (m * p)) (q.1 + m * p))) (ev_var 15) od_add) (ev_var 16) ?_ ?_)
        · rintro _ rfl
          refine ⟨some (.v (.int q.1)), some (.v (.int q.2)), some (.v (.int (q.1 + m * p))), ?_⟩
          rw [addH_snoc]
          have e := putD_dZ (addH h' (h0.take i) (m * p)) (q.1 + m * p) (getZ (addH h' (h0.take i) (m * p)) (q.1 + m * p) + q.2)
          show _ = [_, _, _, _, _, _, _, _, _, _, _, _, _, some (Ent.o (D.dI (dZ (bumpZ (addH h' (h0.take i) (m * p)) (q.1 + m * p) q.2)))), _, _, _, _]
          unfold bumpZ
          rw [← e]
          rfl
        · have h1 := addH_len (m * p) (h0.take i) h'
          rw [List.length_take] at h1
          unfold iZ
          rw [List.length_map]; omega
      · rintro Y6 _ σ6 H6 ⟨e14', e15', e16', rfl⟩ R6 kp6
        have M6 := M5.kept R5 kp6
        obtain ⟨a0, ea, hB0, hZ0, ov0⟩ := R6.R.ow 13 _ rfl
        have z0a : Z0 a0 = false := by
          cases q : Z0 a0 with
          | false => rfl
          | true => rw [R6.sub a0 q] at hZ0; cases hZ0
        have na : a0 ≠ am := fun e => by rw [e, M6.z] at hZ0; cases hZ0
        obtain ⟨ob, eo, no⟩ := M6.ob
        refine rs_one (raw_put (key := key) (va := a0) hX R6 (ev_var 8) (ev_var 12) (zv_var hX 13 ea) (R6.nr M6.z0) eo no M6.keys ?_ (fun b ob' H7 x7 kb n' => ?_))
        · have := I.few
          rw [List.length_map] at this ⊢; omega
        · have R7 := R6.ext x7
          have M7 := M6.ext R6 x7
          have R8 := R7.zmut (o := HObj am ob') M7.z M7.z0 rfl
          obtain ⟨R9, _, _, _⟩ := R8.give 13 rfl ea
          have ha : H7 a0 = some (.dK (hK (addH h' h0 (m * p)))) := x7.1 a0 _ (R6.nr z0a) (hist_ov ov0)
          refine hn _ _ _ _ _ _ _ _ _ _ (M7.put hZ0 z0a na ha kb n') ?_ R9
          rw [putY_e]
          exact I.put hnew (fun row hr => by rw [← hkey]; exact newK_key (s0 := s0) (s1 := s1) (ring := r) (fill := fl) row hr) (hist_add hh hist0)
    refine rs_cons (raw_get (key := key) (i := 13) hX R3 nd (ev_var 8) (ev_var 12) (R3.nr M3.z0) eo no M3.keys (fun va H4 hlk x4 => ?_) (fun q H4 hlk hq x4 eq4 => ?_))
    · obtain ⟨y0, hy0, ek, ev⟩ := look_some hlk
      subst ev
      have M4 := M3.ext R3 x4
      obtain ⟨a, b, c, d⟩ := M4.ent y0 hy0
      obtain ⟨Y5, _, R5⟩ := (R3.ext x4).claim 13 a b (ov_hist d)
      exact tail y0.h _ Y5 _ H4 R5 (M4.out kn hy0 ek) (by rw [← ek]; exact I.hist y0.k y0.h (List.mem_map.mpr ⟨y0, hy0, rfl⟩))
    · obtain ⟨Y5, R5⟩ := R3.seto (d := .dI (iZ [])) 13 x4 hq (ov_hist (h := []) eq4)
      refine tail [] _ Y5 _ H4 R5 (M3.ext R3 x4).outN ?_
      have : rowsK P key = [] := List.filter_eq_nil_iff.mpr fun row hr => by
        have h1 := I.cov row hr
        rw [List.map_map] at h1
        intro z
        exact look_none hlk (by rw [← of_decide_eq_true z]; exact h1)
      rw [this]
      exact hist_nil p
  · rw [if_neg (by rw [← hb]; exact Bool.false_ne_true), List.append_nil] at hn
    exact rs_nil (hn ys e12 e13 e14 e15 e16 Z Y σ H1 (M.ext R1 x1) I (R1.ext x1))
end
end FT
/-! text P16 -/
/-! P16: costs_of, whole. -/
namespace FT
open PySem PySem.Spec L2 DL
open PyProof.Rows hiding St
theorem newK_snoc (s0 s1 : Nat → Bool) (ring fill : Bool) (place k : Nat) (R : List (List Int)) (key : NK) (ms : List Int) (m : Int) : newK s0 s1 ring fill place k R key (ms ++ [m]) = newK s0 s1 ring fill place k R key ms ++ if okB s0 s1 ring fill place k key m = true then (rowsK R key).map (· ++ [m]) else [] := by
  unfold newK
  rw [List.flatMap_append]; simp
theorem newK_len (s0 s1 : Nat → Bool) (ring fill : Bool) (place k : Nat) (R : List (List Int)) (key : NK) : ∀ ms : List Int, (newK s0 s1 ring fill place k R key ms).length ≤ ms.length * R.length
  | [] => by simp [newK]
  | m :: ms => by
    have ih := newK_len s0 s1 ring fill place k R key ms
    unfold newK at ih ⊢
    rw [List.flatMap_cons, List.length_append, List.length_cons, Nat.add_mul]
    have h1 : (rowsK R key).length ≤ R.length := List.length_filter_le _ _
    split
    · rw [List.length_map]; omega
    · rw [List.length_nil]; omega
section
variable {C : Cfg} {X : Cx} {B : Hp} {Z0 Z Y : Addr → Bool} {σ : L2.St} {H : Hp} {ks : List Nat} {n : Nat} {r fl : Bool} {s0 s1 : Nat → Bool} {p : Int} {es : List (NK × List (Int × Int))} {pl cell : Nat} {am : Addr} {k0 : NK} {ys : List Mo} {P R : List (List Int)} {h0 : List (Int × Int)} {e11 e12 e13 e14 e15 e16 e17 : Option Ent}
set_option maxHeartbeats 4000000  in
theorem key_step (G : FnD C 1 "is_going" SGoing) (hX : XOk (cfgC C) X)
    (R1 : RZ (cfgC C) B Z0 Z Y [some (.v (lN ks)), some (.v (.bl r)), some (.v (suitsD n s0 s1)), some (.v (pricesD n p)), some (.v (.bl fl)), some (.v (rowsD C.w es)), some (.v (.int pl)), some (.v (.int cell)), some (.v (.adr am)), some (.v (tI k0.1)), some (.v (tI k0.2)), e11, e12, e13, e14, e15, e16, e17] σ H)
    (hcell : cell < n) (hp : p = 0 ∨ p = 1) (M : MoreAt C.w Z0 Z H am ys) (I : RowsInv (ys.map Mo.e) P p) (hes : RowsInv es R p) (hk0 : (k0, h0) ∈ es) (l1 : k0.1.length ≤ 2) (l2 : k0.2.length ≤ 2) (lP : P.length + 3 * R.length ≤ 90000) {Dn : Ends}
    (hn : ∀ (ys' : List Mo) (e11 e12 e13 e14 e15 e16 : Option Ent) Z' Y' σ' H', MoreAt C.w Z0 Z' H' am ys' → RowsInv (ys'.map Mo.e) (P ++ newK s0 s1 r fl pl cell R k0 [0, 1]) p →
      RZ (cfgC C) B Z0 Z' Y' [some (.v (lN ks)), some (.v (.bl r)), some (.v (suitsD n s0 s1)), some (.v (pricesD n p)), some (.v (.bl fl)), some (.v (rowsD C.w es)), some (.v (.int pl)), some (.v (.int cell)), some (.v (.adr am)), some (.v (tI k0.1)), some (.v (tI k0.2)), e11, e12, e13, e14, e15, e16, e17] σ' H' → Dn.nx σ' H') : WSts X bL2 Dn σ H := by
  have nd := scCostsOf.nd
  refine rs_one (ps_forR hX (for_raw (I := (· = ([0, 1] : List Int).map D.int)) (fun items i ρ' Z' H' => items = ([0, 1] : List Int).map D.int ∧ ∃ (ys' : List Mo) (e11 e12 e13 e14 e15 e16 : Option Ent), MoreAt C.w Z0 Z' H' am ys' ∧ RowsInv (ys'.map Mo.e) (P ++ newK s0 s1 r fl pl cell R k0 (([0, 1] : List Int).take i)) p ∧
    ρ' = [some (.v (lN ks)), some (.v (.bl r)), some (.v (suitsD n s0 s1)), some (.v (pricesD n p)), some (.v (.bl fl)), some (.v (rowsD C.w es)), some (.v (.int pl)), some (.v (.int cell)), some (.v (.adr am)), some (.v (tI k0.1)), some (.v (tI k0.2)), e11, e12, e13, e14, e15, e16, e17]) hX R1
    (fun RR h => (ei_tup (ev_tup (ea_cons ev_int (ea_cons ev_int ea_nil)))) X hX B Z Y σ H R1.R RR fun J H1 x fd => h J H1 _ rfl x fd) (sg_name 11 nd) ?_ ?_ ?_ ?_))
  · rintro items i ρ' B' Z' Y' σ' H' H'' Rz x ⟨e, ys', e11, e12, e13, e14, e15, e16, a, b, c⟩
    exact ⟨e, ys', e11, e12, e13, e14, e15, e16, a.ext Rz x, b, c⟩
  · rintro items H1 rfl x
    exact ⟨rfl, ys, e11, e12, e13, e14, e15, e16, M.ext R1 x, by simpa [newK] using I, rfl⟩
  · rintro items i d ρ' B' Z' Y' σ' H' rfl hd ⟨_, ys', e11, e12, e13, e14, e15, e16, M', I', rfl⟩ R'
    rw [List.getElem?_map] at hd
    obtain ⟨m, hm, rfl⟩ : ∃ m, ([0, 1] : List Int)[i]? = some m ∧ D.int m = d := by
      cases q : ([0, 1] : List Int)[i]? with
      | none => rw [q] at hd; cases hd
      | some m => rw [q] at hd; cases hd; exact ⟨m, rfl, rfl⟩
    have hm01 : m = 0 ∨ m = 1 := by
      have := List.mem_of_getElem? hm
      simpa using this
    have etk : ([0, 1] : List Int).take (i + 1) = ([0, 1] : List Int).take i ++ [m] := by rw [List.take_add_one, hm]; rfl
    have hlen := newK_len s0 s1 r fl pl cell R k0 (([0, 1] : List Int).take i)
    have hlt : (([0, 1] : List Int).take i).length ≤ 2 := by rw [List.length_take]; exact Nat.min_le_right _ _
    have hmul : (([0, 1] : List Int).take i).length * R.length ≤ 2 * R.length := Nat.mul_le_mul_right _ hlt
    refine ⟨_, rfl, fun Y'' σ'' R'' => ?_⟩
    refine mark_step G hX R'' hcell hm01 hp M' I' hes hk0 l1 l2 (by rw [List.length_append]; omega) ?_
    intro ys2 f12 f13 f14 f15 f16 Z2 Y2 σ2 H2 M2 I2 R2
    refine ⟨_, Z2, Y2, ⟨rfl, ys2, some (.v (.int m)), f12, f13, f14, f15, f16, M2, ?_, rfl⟩, R2⟩
    rw [etk, newK_snoc, ← List.append_assoc]
    exact I2
  · rintro items ρ' Z' Y' σ' H' rfl ⟨_, ys', e11, e12, e13, e14, e15, e16, M', I', rfl⟩ R'
    exact hn ys' e11 e12 e13 e14 e15 e16 Z' Y' σ' H' M' I' R'
theorem keyOf_len (row : List Int) : (keyOf row).1.length ≤ 2 ∧ (keyOf row).2.length ≤ 2 := by
  unfold keyOf lastN
  rw [List.length_take,  List.length_drop]
  omega
set_option maxHeartbeats 4000000  in
theorem cell_step (N : Bare C) (G : FnD C 1 "is_going" SGoing) {e6 e7 e8 e9 e10 e11 e12 e13 e14 e15 e16 : Option Ent} (hcell : cell < n) (hp : p = 0 ∨ p = 1) (hes : RowsInv es R p) (lR : R.length ≤ 8192) :
    WSs (cfgC C) bL1 [some (.v (lN ks)), some (.v (.bl r)), some (.v (suitsD n s0 s1)), some (.v (pricesD n p)), some (.v (.bl fl)), some (.v (rowsD C.w es)), some (.v (.int pl)), some (.v (.int cell)), e8, e9, e10, e11, e12, e13, e14, e15, e16, none]
      { nx := fun ρ' => ∃ es', RowsInv es' (stepRows s0 s1 r fl pl cell R) p ∧ ∃ e6 e7 e8 e9 e10 e11 e12 e13 e14 e15 e16 : Option Ent, ρ' = [some (.v (lN ks)), some (.v (.bl r)), some (.v (suitsD n s0 s1)), some (.v (pricesD n p)), some (.v (.bl fl)), some (.v (rowsD C.w es')), e6, e7, e8, e9, e10, e11, e12, e13, e14, e15, e16, none] } := fun X hX B Z Y σ H R0 Dn L => by
  have nd := scCostsOf.nd
  have Z1 := RZ.start R0
  obtain ⟨l1, l2⟩ := hX.loc (x := "more") (Or.inl rfl)
  refine rs_cons (WSt.of (ps_set (i := 8) (by rw [← hX.N]; exact nd) (by rw [← hX.N]; rfl) l1 pe_dnewN rfl l2) fun am ob ha n0 => ?_)
  obtain ⟨R1, hB, hZ, hZ0⟩ := Z1.pend (Ext.new (o := HObj am ob) ha) ha upd_same rfl
  obtain ⟨Y2, _, R2⟩ := R1.setv 8 (DV.adr am)
  have M0 : MoreAt C.w Z (hidY Z am) (upd H am (HObj am ob)) am [] := ⟨hidY_iff.mpr (.inr rfl), hZ0, ⟨ob, upd_same, by rw [hX.w'] at n0; exact n0⟩, (fun _ h => by cases h), List.nodup_nil, (fun _ h => by cases h)⟩
  have tot : ∀ us : List NK, us.Perm (es.map (·.1)) → (us.flatMap fun k => newK s0 s1 r fl pl cell R k [0, 1]).Perm (stepRows s0 s1 r fl pl cell R) := fun us pu => step_perm s0 s1 r fl pl cell (pu.symm.nodup_iff.mp hes.nd) fun row hr => pu.mem_iff.mpr (hes.cov row hr)
  have totl : ∀ us : List NK, us.Perm (es.map (·.1)) → ∀ i, ((us.take i).flatMap fun k => newK s0 s1 r fl pl cell R k [0, 1]).length ≤ 2 * R.length := fun us pu i => by
    have h1 := (tot us pu).length_eq
    have h2 := stepRows_len s0 s1 r fl pl cell R
    have h3 : us.flatMap (fun k => newK s0 s1 r fl pl cell R k [0, 1]) = (us.take i).flatMap (fun k => newK s0 s1 r fl pl cell R k [0, 1]) ++ (us.drop i).flatMap (fun k => newK s0 s1 r fl pl cell R k [0, 1]) := by
      rw [← List.flatMap_append, List.take_append_drop]
    rw [h3, List.length_append] at h1
    omega
  refine rs_cons (ps_forR hX (for_raw (I := fun items => ∃ us : List NK, us.Perm (es.map (·.1)) ∧ items = us.map keyD) (fun items i ρ' Z' H' => ∃ us : List NK, us.Perm (es.map (·.1)) ∧ items = us.map keyD ∧ ∃ (ys : List Mo) (e9 e10 e11 e12 e13 e14 e15 e16 : Option Ent), MoreAt C.w Z Z' H' am ys ∧ RowsInv (ys.map Mo.e) ((us.take i).flatMap fun k => newK s0 s1 r fl pl cell R k [0, 1]) p ∧
    ρ' = [some (.v (lN ks)), some (.v (.bl r)), some (.v (suitsD n s0 s1)), some (.v (pricesD n p)), some (.v (.bl fl)), some (.v (rowsD C.w es)), some (.v (.int pl)), some (.v (.int cell)), some (.v (.adr am)), e9, e10, e11, e12, e13, e14, e15, e16, none]) hX R2
    (fun RR h => (ei_listP (EvP.imp (ev_o (eo_sortedN (C := cfgC C) (ds := es.map fun e => (e.1, D.dL (iZ e.2))) (ev_var 5) N.sorted)) ?_)) X hX B _ Y2 _ _ R2.R RR h) (sg_2 9 10 nd) ?_ ?_ ?_ ?_))
  · rintro _ ⟨us, pu, rfl⟩
    rw [List.map_map] at pu
    exact ⟨us.map keyD, ⟨us, pu, rfl⟩, rfl⟩
  · rintro items i ρ' B' Z' Y' σ' H' H'' Rz x ⟨us, pu, e, ys', e9, e10, e11, e12, e13, e14, e15, e16, a, b, c⟩
    exact ⟨us, pu, e, ys', e9, e10, e11, e12, e13, e14, e15, e16, a.ext Rz x, b, c⟩
  · rintro items H1 ⟨us, pu, rfl⟩ x
    exact ⟨us, pu, rfl, [], _, _, _, _, _, _, _, _, M0.ext R2 x, by simpa using rowsInv_nil p, rfl⟩
  · rintro items i d ρ' B' Z' Y' σ' H' _ hd ⟨us, pu, rfl, ys', e9, e10, e11, e12, e13, e14, e15, e16, M', I', rfl⟩ R'
    rw [List.getElem?_map] at hd
    obtain ⟨u, hu, rfl⟩ : ∃ u, us[i]? = some u ∧ keyD u = d := by
      cases q : us[i]? with
      | none => rw [q] at hd; cases hd
      | some u => rw [q] at hd; cases hd; exact ⟨u, rfl, rfl⟩
    have etk : us.take (i + 1) = us.take i ++ [u] := by rw [List.take_add_one, hu]; rfl
    obtain ⟨e, he, rfl⟩ := List.mem_map.mp (pu.mem_iff.mp (List.mem_of_getElem? hu))
    obtain ⟨row, hr, hrow⟩ := hes.ne e.1 (List.mem_map.mpr ⟨e, he, rfl⟩)
    have kl := keyOf_len row
    rw [hrow] at kl
    have hl := totl us pu i
    refine ⟨_, rfl, fun Y'' σ'' R'' => ?_⟩
    refine key_step (k0 := e.1) (h0 := e.2) G hX R'' hcell hp M' I' hes he kl.1 kl.2 (by omega) ?_
    intro ys2 f11 f12 f13 f14 f15 f16 Z2 Y2 σ2 H2 M2 I2 R2
    refine ⟨_, Z2, Y2, ⟨us, pu, rfl, ys2, _, _, f11, f12, f13, f14, f15, f16, M2, ?_, rfl⟩, R2⟩
    rw [etk, List.flatMap_append]
    simpa using I2
  · rintro items ρ' Z' Y' σ' H' _ ⟨us, pu, rfl, ys', e9, e10, e11, e12, e13, e14, e15, e16, M', I', rfl⟩ R'
    rw [List.length_map, List.take_length] at I'
    refine lock_all ys' R' M'.nd (fun y hy => let ⟨a, b, _, d⟩ := M'.ent y hy; ⟨a, b, d⟩) fun H2 RH hh hl => ?_
    obtain ⟨v8, e8', dv8⟩ := RH.R.fz 8 _ rfl
    cases dv8
    obtain ⟨m1, m2⟩ := hX.loc (x := "rows") (Or.inl rfl)
    refine rs_one (WSt.of (ps_set (i := 5) (by rw [← hX.N]; exact nd) (by rw [← hX.N]; rfl) m1 (pe_var (i := 8) (by rw [← hX.N]; rfl) (by rw [← hX.sc]; exact .inl rfl)) rfl m2) ⟨_, e8', ?_⟩)
    obtain ⟨Y3, _, hY3, R3⟩ := RH.unhide
    obtain ⟨Y4, _, R4⟩ := R3.setv 5 (M'.data (Y' := Y3) hh hl hY3 (rl_tup R3) (cfgC C).r)
    have e : (ys'.map Mo.e).map (fun e => (e.1, D.dL (iZ e.2))) = ys'.map fun y => (y.k, D.dL (y.h.map fun q => (q.1, D.int q.2))) := by rw [List.map_map]; rfl
    rw [← e] at R4
    exact L.nx Y4 _ _ H2 ⟨ys'.map Mo.e, I'.perm (tot us pu), some (.v (.int pl)), some (.v (.int cell)), some (.v (.adr am)), e9, e10, e11, e12, e13, e14, e15, e16, rfl⟩ R4
end
end FT
/-! text P17 -/
/-! P17: costs_of, its promise. -/
namespace FT
open PySem PySem.Spec L2 DL
open PyProof.Rows hiding St
theorem closed_perm {us : List NK} {R : List (List Int)} (r fl : Bool) (hn : us.Nodup) (h : ∀ row ∈ R, keyOf row ∈ us) : (us.flatMap fun k => if closedB k.1 k.2 r fl = true then rowsK R k else []).Perm (R.filter fun one => closedB (one.take 2) (lastN one 2) r fl) := by
  have h1 := (part_perm us R hn h).filter fun one => closedB (one.take 2) (lastN one 2) r fl
  refine List.Perm.trans ?_ h1.symm
  rw [List.filter_flatMap]
  have e : us.flatMap (fun k => if closedB k.1 k.2 r fl = true then rowsK R k else []) = us.flatMap fun k => (rowsK R k).filter fun one => closedB (one.take 2) (lastN one 2) r fl := by
    congr 1
    funext k
    have hk : ∀ one ∈ rowsK R k, closedB (one.take 2) (lastN one 2) r fl = closedB k.1 k.2 r fl := fun one ho => by
      have : keyOf one = k := of_decide_eq_true (List.mem_filter.mp ho).2
      rw [← this]; rfl
    by_cases q : closedB k.1 k.2 r fl = true
    · rw [if_pos q]
      exact (List.filter_eq_self.mpr fun one ho => by rw [hk one ho]; exact q).symm
    · rw [if_neg q]
      exact (List.filter_eq_nil_iff.mpr fun one ho => by rw [hk one ho]; exact q).symm
  rw [e]
def asE : Stmt → Expr
  | .Assign _ e _ => e
  | _ => .Constant .none 0 ⟨0, 0, 0, 0⟩
def dictK : Expr → Expr
  | .Dict (some k :: _) _ _ => k
  | e => e
def dictV : Expr → Expr
  | .Dict _ (v :: _) _ => v
  | e => e
def dictP : Expr → Pos
  | .Dict _ _ p => p
  | _ => ⟨0, 0, 0, 0⟩
abbrev eD : Expr := asE (nth (defBody sCostsOf) 0)
theorem eD_is : eD = .Dict [some (dictK eD)] [dictV eD] (dictP eD) := rfl
theorem rowsK0 {C : Cfg} {ρ : DEnv} : EvD (cfgC C) (dictK eD) ρ (.tup [.tup [], .tup []]) := ev_tup (ea_cons (ev_tup ea_nil) (ea_cons (ev_tup ea_nil) ea_nil))
theorem rowsV0 {C : Cfg} {ρ : DEnv} : EvD (cfgC C) (dictV eD) ρ (.dL [(0, .int 1)]) := ev_dispL ev_int ev_int
theorem rowsE0 {C : Cfg} {ρ : DEnv} {pos : Pos} {e v : Expr} (h1 : EvD (cfgC C) e ρ (keyD ([], []))) (h2 : EvD (cfgC C) v ρ (.dL [(0, .int 1)])) : EvD (cfgC C) (.Dict [some e] [v] pos) ρ (.dN (cfgC C).w [(([], []), .dL [(0, .int 1)])]) := ev_dispN h1 h2
theorem rowsK1 {C : Cfg} {ρ : DEnv} : EvD (cfgC C) (dictK eD) ρ (keyD ([], [])) := EvD.is rowsK0 rfl
theorem rowsE1 {C : Cfg} {ρ : DEnv} {pos : Pos} {E e v : Expr} (he : E = .Dict [some e] [v] pos) (h1 : EvD (cfgC C) e ρ (keyD ([], []))) (h2 : EvD (cfgC C) v ρ (.dL [(0, .int 1)])) : EvD (cfgC C) E ρ (rowsD C.w [(([], []), [(0, 1)])]) := by
  subst he
  exact rowsE0 h1 h2
theorem rows0 {C : Cfg} {ρ : DEnv} : EvD (cfgC C) eD ρ (rowsD C.w [(([], []), [(0, 1)])]) := @rowsE1 C ρ (dictP eD) eD (dictK eD) (dictV eD) eD_is rowsK1 rowsV0
set_option maxHeartbeats 4000000  in
theorem st0 {C : Cfg} {ρ : DEnv} : WS (cfgC C) (nth (defBody sCostsOf) 0) ρ { nx := (· = ρ.set 5 (some (.v (rowsD C.w [(([], []), [(0, 1)])])))) } :=
  @ws_set (cfgC C) ρ { nx := (· = ρ.set 5 (some (.v (rowsD C.w [(([], []), [(0, 1)])])))) } eD _ 5 "rows" (· = rowsD C.w [(([], []), [(0, 1)])]) _ scCostsOf.nd (@rows0 C ρ) (fun d h => by rw [h]) rfl (Or.inl rfl) (fun _ _ _ => rfl)
theorem st0' {C : Cfg} {ρ : DEnv} {P : Post} (h : P.nx (ρ.set 5 (some (.v (rowsD C.w [(([], []), [(0, 1)])]))))) : WS (cfgC C) (nth (defBody sCostsOf) 0) ρ P :=
  @ws_set (cfgC C) ρ P eD _ 5 "rows" (· = rowsD C.w [(([], []), [(0, 1)])]) _ scCostsOf.nd (@rows0 C ρ) (fun d e => by rw [e]; exact h) rfl (Or.inl rfl) (fun _ _ _ => rfl)
section
variable {C : Cfg}
set_option maxHeartbeats 4000000  in
theorem fn_costs_of (N : Bare C) (G : FnD C 1 "is_going" SGoing) (G2 : FnD C 1 "is_closed" SClosed) {f : Addr} {fd : FuncData} (F : Fun C.K "costs_of" "costs_of" sCostsOf f fd) (hm : C.mg "costs_of" = some (.ref f)) (hb : Binds C.K fd ["some", "is_ring", "suits", "prices", "must_fill"] []) : FnD C 2 "costs_of" SCostsOf := by
  have nd := scCostsOf.nd
  refine fnD F hm hb scCostsOf (by rintro ds k ⟨n, ks, r, f, s0, s1, p, rfl, _⟩; rfl) ?_
  rintro ds kk ⟨n, ks, r, fl, s0, s1, p, rfl, hin, hlen, hp, hk⟩
  refine @wss_seq (cfgC C) _ _ (nth (defBody sCostsOf) 0) ((defBody sCostsOf).drop 1) ((startD nCosts [lN ks, .bl r, suitsD n s0 s1, pricesD n p, .bl fl]).set 5 (some (.v (rowsD C.w [(([], []), [(0, 1)])])))) (@st0' C _ _ rfl) ?_
  refine wss_cons (ws_forG ks.zipIdx (fun q : Nat × Nat => D.tup [.int q.2, .int q.1]) (fun xs ρ' => ∃ es, RowsInv es (rowsF s0 s1 r fl (xs.map (·.1))) p ∧ ∃ e6 e7 e8 e9 e10 e11 e12 e13 e14 e15 e16 : Option Ent, ρ' = [some (.v (lN ks)), some (.v (.bl r)), some (.v (suitsD n s0 s1)), some (.v (pricesD n p)), some (.v (.bl fl)), some (.v (rowsD C.w es)), e6, e7, e8, e9, e10, e11, e12, e13, e14, e15, e16, none])
    (ei_enumM (xs := ks) (f := fun k : Nat => D.int k) (ev_var 0) N.enumerate) (sg_2 6 7 nd) ⟨[(([], []), [(0, 1)])], rowsInv_one p, none, none, none, none, none, none, none, none, none, none, none, rfl⟩ ?_ (fun ρ' h => h)) ?_
  · rintro i ⟨k, pl⟩ ρ' hi ⟨es, I, e6, e7, e8, e9, e10, e11, e12, e13, e14, e15, e16, rfl⟩
    obtain ⟨rfl, hk1⟩ := zipIdx_at hi
    have hkn := hin k (List.mem_of_getElem? hk1)
    have hil : pl < ks.length := (List.getElem?_eq_some_iff.mp hk1).1
    rw [zipIdx_take] at I
    have e0 : (ks.zipIdx.take pl ++ [(k, pl)]).map (·.1) = ks.take pl ++ [k] := by rw [List.map_append, zipIdx_take]; rfl
    have hlen' : (ks.take pl).length = pl := by rw [List.length_take]; omega
    have lR : (rowsF s0 s1 r fl (ks.take pl)).length ≤ 8192 := by
      have h1 := rowsF_len s0 s1 r fl (ks.take pl)
      have h2 := pow12 (n := (ks.take pl).length) (by omega)
      omega
    have conv : ∀ ρ', (∃ es', RowsInv es' (stepRows s0 s1 r fl pl k (rowsF s0 s1 r fl (ks.take pl))) p ∧ ∃ e6 e7 e8 e9 e10 e11 e12 e13 e14 e15 e16 : Option Ent, ρ' = [some (.v (lN ks)), some (.v (.bl r)), some (.v (suitsD n s0 s1)), some (.v (pricesD n p)), some (.v (.bl fl)), some (.v (rowsD C.w es')), e6, e7, e8, e9, e10, e11, e12, e13, e14, e15, e16, none]) →
        ∃ es', RowsInv es' (rowsF s0 s1 r fl ((ks.zipIdx.take pl ++ [(k, pl)]).map (·.1))) p ∧ ∃ e6 e7 e8 e9 e10 e11 e12 e13 e14 e15 e16 : Option Ent, ρ' = [some (.v (lN ks)), some (.v (.bl r)), some (.v (suitsD n s0 s1)), some (.v (pricesD n p)), some (.v (.bl fl)), some (.v (rowsD C.w es')), e6, e7, e8, e9, e10, e11, e12, e13, e14, e15, e16, none] := fun ρ' h => by
      rw [e0, rowsF_snoc, hlen']; exact h
    exact ⟨_, rfl, wss_imp (cell_step (e6 := none) (e7 := none) N G hkn hp I lR) conv (fun _ h => h.elim) (fun _ h => h.elim) fun _ h => h.elim⟩
  rintro ρ' ⟨es, I, e6, e7, e8, e9, e10, e11, e12, e13, e14, e15, e16, rfl⟩
  rw [List.zipIdx_map_fst] at I
  have lR : (rowsF s0 s1 r fl ks).length ≤ 8192 := by
    have h1 := rowsF_len s0 s1 r fl ks
    have h2 := pow12 (n := ks.length) (by omega)
    omega
  have hfin : (es.flatMap fun e => if closedB e.1.1 e.1.2 r fl = true then rowsK (rowsF s0 s1 r fl ks) e.1 else []).Perm (setsF s0 s1 r fl ks) := by
    have h1 := closed_perm (R := rowsF s0 s1 r fl ks) r fl I.nd I.cov
    rw [List.flatMap_map] at h1
    exact h1
  refine wss_seq (ws_setO 17 nd eo_dictI (by rintro _ rfl; rfl)) ?_
  refine wss_cons (ws_forG es (fun e : NK × List (Int × Int) => keyD e.1) (fun xs ρ' => ∃ h, HistOf h (xs.flatMap fun e => if closedB e.1.1 e.1.2 r fl = true then rowsK (rowsF s0 s1 r fl ks) e.1 else []) p ∧ ∃ e9 e10 e14 e15 : Option Ent, ρ' = [some (.v (lN ks)), some (.v (.bl r)), some (.v (suitsD n s0 s1)), some (.v (pricesD n p)), some (.v (.bl fl)), some (.v (rowsD C.w es)), e6, e7, e8, e9, e10, e11, e12, e13, e14, e15, e16, some (.o (.dI (iZ h)))])
    ?_ (sg_2 9 10 nd) ⟨[], hist_nil p, e9, e10, e14, e15, rfl⟩ ?_ (fun ρ' h => h)) ?_
  · have e : (es.map fun e => (e.1, D.dL (iZ e.2))).map (fun q => keyD q.1) = es.map fun e : NK × List (Int × Int) => keyD e.1 := by rw [List.map_map]; rfl
    rw [← e]
    refine ei_keysN (C := cfgC C) (ds := es.map fun e => (e.1, D.dL (iZ e.2))) ?_ ⟨?_, ?_⟩
    · exact ev_var 5
    · intro _; rfl
    · rfl
  · rintro i e ρ' hi ⟨h, hh, f9, f10, f14, f15, rfl⟩
    have he := List.mem_of_getElem? hi
    obtain ⟨row, hr, hrow⟩ := I.ne e.1 (List.mem_map.mpr ⟨e, he, rfl⟩)
    have kl := keyOf_len row
    rw [hrow] at kl
    have hist0 := I.hist e.1 e.2 he
    have lh0 : e.2.length ≤ 8192 := Nat.le_trans (hist_few hist0) (Nat.le_trans (List.length_filter_le _ _) lR)
    have lh : h.length ≤ 8192 := by
      refine Nat.le_trans (hist_few hh) ?_
      have h1 := hfin.length_eq
      have h2 : es.flatMap (fun e => if closedB e.1.1 e.1.2 r fl = true then rowsK (rowsF s0 s1 r fl ks) e.1 else []) = (es.take i).flatMap (fun e => if closedB e.1.1 e.1.2 r fl = true then rowsK (rowsF s0 s1 r fl ks) e.1 else []) ++ (es.drop i).flatMap (fun e => if closedB e.1.1 e.1.2 r fl = true then rowsK (rowsF s0 s1 r fl ks) e.1 else []) := by
        rw [← List.flatMap_append, List.take_append_drop]
      rw [h2, List.length_append] at h1
      have h3 : (setsF s0 s1 r fl ks).length ≤ (rowsF s0 s1 r fl ks).length := List.length_filter_le _ _
      omega
    refine ⟨_, rfl, wss_one (ws_if (p := (· = closedB e.1.1 e.1.2 r fl)) (et_val (ev_call G2.to (ea_cons (ev_var 9) (ea_cons (ev_var 10) (ea_cons (ev_var 1) (ea_cons (ev_var 4) ea_nil)))) ⟨e.1.1, e.1.2, r, fl, rfl, by omega, rfl⟩)) (fun hc => ?_) fun hc => ?_)⟩
    · refine wss_one (ws_forG e.2 (fun q : Int × Int => D.tup [.int q.1, .int q.2]) (fun xs ρ' => ∃ e14 e15 : Option Ent, ρ' = [some (.v (lN ks)), some (.v (.bl r)), some (.v (suitsD n s0 s1)), some (.v (pricesD n p)), some (.v (.bl fl)), some (.v (rowsD C.w es)), e6, e7, e8, some (.v (tI e.1.1)), some (.v (tI e.1.2)), e11, e12, e13, e14, e15, e16, some (.o (.dI (iZ (addH h xs 0))))]) ?_ (sg_2 14 15 nd) ⟨f14, f15, rfl⟩ ?_ ?_)
      · have eq : (iZ e.2).map (fun p => D.tup [.int p.1, p.2]) = e.2.map fun q : Int × Int => D.tup [.int q.1, .int q.2] := by unfold iZ; rw [List.map_map]; rfl
        rw [← eq]
        exact ei_itemsL (is := iZ e.2) (ev_getN (C := cfgC C) (ds := es.map fun e => (e.1, D.dL (iZ e.2))) (key := e.1) (ev_var 5) (ev_tup (ea_cons (ev_var 9) (ea_cons (ev_var 10) ea_nil))) (valD_rows I.nd he))
      · rintro j q ρ' hj ⟨g14, g15, rfl⟩
        have hjl : j < e.2.length := (List.getElem?_eq_some_iff.mp hj).1
        refine ⟨_, rfl, ?_⟩
        refine wss_one (ws_putI 17 (ev_bin (EvD.is (ev_getOI 17 (ev_var 14) ev_int ⟨by intro _; rfl, by intro _; rfl, by decide +kernel, by intro _; rfl⟩) (valD_dZ0 (addH h (e.2.take j) 0) q.1)) (ev_var 15) od_add) (ev_var 14) ?_ ?_)
        · rintro _ rfl
          refine ⟨some (.v (.int q.1)), some (.v (.int q.2)), ?_⟩
          rw [addH_snoc, Int.add_zero]
          have eq := putD_dZ (addH h (e.2.take j) 0) q.1 (getZ (addH h (e.2.take j) 0) q.1 + q.2)
          unfold bumpZ
          show _ = [_, _, _, _, _, _, _, _, _, _, _, _, _, _, _, _, _, some (Ent.o (D.dI (dZ (putZ (addH h (e.2.take j) 0) q.1 (getZ (addH h (e.2.take j) 0) q.1 + q.2)))))]
          rw [← eq]
          rfl
        · have h1 := addH_len 0 (e.2.take j) h
          rw [List.length_take] at h1
          unfold iZ
          rw [List.length_map]; omega
      · rintro ρ' ⟨g14, g15, rfl⟩
        refine ⟨addH h e.2 0, ?_, some (.v (tI e.1.1)), some (.v (tI e.1.2)), g14, g15, rfl⟩
        rw [List.flatMap_append]
        have := hist_same hh hist0
        simpa [← hc] using this
    · refine wss_nil ⟨h, ?_, some (.v (tI e.1.1)), some (.v (tI e.1.2)), f14, f15, rfl⟩
      rw [List.flatMap_append]
      simpa [← hc] using hh
  · rintro ρ' ⟨h, hh, f9, f10, f14, f15, rfl⟩
    exact wss_frz 17 (wss_one (ws_ret (ev_var 17) (by rintro _ rfl; exact hk h (hh.perm hfin))))
end
end FT
/-! text P24 -/
/-! P24: what the top has written, and the law from it. (Printed by gen24.py.) -/
namespace FT
open PySem PySem.Spec L2 DL
open PyProof.Rows hiding St
/-- a def of the top -/
def DefAt (K : PySem.W.Frag) (mg : Str → Option Value) (x : Str) (st : Stmt) (ps : List Str) : Prop := ∃ f fd, Fun K x x st f fd ∧ mg x = some (.ref f) ∧ Binds K fd ps []
/-- a method of the class at A -/
def MethAt (K : PySem.W.Frag) (A : Addr) (x qual : Str) (st : Stmt) (ps : List Str) : Prop := ∃ f fd, Fun K x qual st f fd ∧ Meth K A x f ∧ Binds K fd ps []
theorem def_mk {K : PySem.W.Frag} {h : Heap} {mg : Str → Option Value} (X : K.In h) (G : h.Ns mainGlobals mg) {x : Str} {st : Stmt} {ps : List Str} {f : Addr} {od an : Option Addr} {sl : Array (Option Value)} {oc kV dc pm cd ct : Value} (a : PySem.W.nsIn K mainGlobals x = some (some (.ref f)))
    (lk : K.lookup f = some ⟨oc, od, .func (PySem.W.fnOf x x (defArgs st) (defBody st) (defScope st) .none kV dc pm an cd ct), sl⟩) (co : PySem.W.codeIn K cd x = true) (kp : PySem.W.keepIn K (.ref f) = true)
    (b : ∀ (kV doc pm : Value) (an : Option Addr) (cdv ct : Value) (us : List Value), us.length = ps.length → bindArgs (PySem.W.fnOf x x (defArgs st) (defBody st) (defScope st) .none kV doc pm an cdv ct) ⟨us, []⟩ = pure (ps.zip us)) : DefAt K mg x st ps :=
  ⟨f, _, fun_mk (st := st) lk co kp, PySem.W.mg_of X G a, (fun_mk (st := st) lk co kp).binds b⟩
theorem meth_mk {K : PySem.W.Frag} {A : Addr} {x qual : Str} {st : Stmt} {ps : List Str} {f : Addr} {od an : Option Addr} {sl : Array (Option Value)} {oc kV dc pm cd ct : Value} (a : PySem.W.findIn K (.ref A) x = some (some (.ref f))) (i : PySem.W.isFn K (.ref f) = true)
    (lk : K.lookup f = some ⟨oc, od, .func (PySem.W.fnOf x qual (defArgs st) (defBody st) (defScope st) .none kV dc pm an cd ct), sl⟩) (co : PySem.W.codeIn K cd qual = true) (kp : PySem.W.keepIn K (.ref f) = true)
    (b : ∀ (kV doc pm : Value) (an : Option Addr) (cdv ct : Value) (us : List Value), us.length = ps.length → bindArgs (PySem.W.fnOf x qual (defArgs st) (defBody st) (defScope st) .none kV doc pm an cdv ct) ⟨us, []⟩ = pure (ps.zip us)) : MethAt K A x qual st ps :=
  ⟨f, _, fun_mk (st := st) lk co kp, ⟨a, i, kp⟩, (fun_mk (st := st) lk co kp).binds b⟩
/-- the class -/
structure LotsAt (K : PySem.W.Frag) (mg : Str → Option Value) (A : Addr) : Prop where
  cl : Cls K A
  n1 : NoAttr K A "base"
  n2 : NoAttr K A "suits"
  n3 : NoAttr K A "prices"
  n4 : NoAttr K A "must_fill"
  n5 : NoAttr K A "paths"
  n6 : NoAttr K A "is_ring"
  nm : mg "Lots" = some (.ref A)
  ini : ∃ f fd, Fun K "__init__" "Lots.__init__" sInit f fd ∧ Mk K A f ∧ Binds K fd ["self", "line", "wish", "prices", "must_fill"] []
  m_still : MethAt K A "still" "Lots.still" sStill ["self"]
  m_costs : MethAt K A "costs" "Lots.costs" sCosts ["self", "some"]
  m_count : MethAt K A "count" "Lots.count" sCount ["self"]
  m_outer : MethAt K A "outer" "Lots.outer" sOuter ["self", "is_most"]
  m_best : MethAt K A "best" "Lots.best" sBest ["self", "is_most"]
  m_colours : MethAt K A "colours" "Lots.colours" sColours ["self", "some", "one"]
theorem init_mk {K : PySem.W.Frag} {A : Addr} {f : Addr} {od an : Option Addr} {sl : Array (Option Value)} {oc kV dc pm cd ct : Value} (mk : PySem.W.makesIn K A = true) (kc : PySem.W.keepIn K (.ref A) = true) (a : PySem.W.findIn K (.ref A) "__init__" = some (some (.ref f))) (i : PySem.W.isFn K (.ref f) = true)
    (lk : K.lookup f = some ⟨oc, od, .func (PySem.W.fnOf "__init__" "Lots.__init__" (defArgs sInit) (defBody sInit) (defScope sInit) .none kV dc pm an cd ct), sl⟩) (co : PySem.W.codeIn K cd "Lots.__init__" = true) (kp : PySem.W.keepIn K (.ref f) = true) :
    ∃ f fd, Fun K "__init__" "Lots.__init__" sInit f fd ∧ Mk K A f ∧ Binds K fd ["self", "line", "wish", "prices", "must_fill"] [] :=
  ⟨f, _, fun_mk (st := sInit) lk co kp, ⟨mk, a, i, kc⟩, (fun_mk (st := sInit) lk co kp).binds fun _ _ _ _ _ _ us hl => match us, hl with | [_, _, _, _, _], _ => rfl⟩
/-- all that the law leans on -/
structure TopAt (K : PySem.W.Frag) (mg : Str → Option Value) : Prop where
  d_is_in : DefAt K mg "is_in" sIsIn ["value", "least", "most"]
  d_flanks : DefAt K mg "flanks" sFlanks ["many", "cell"]
  d_is_flanked : DefAt K mg "is_flanked" sFlanked ["cells", "cell"]
  d_held_in : DefAt K mg "held_in" sHeld ["line"]
  d_ready_in : DefAt K mg "ready_in" sReady ["line"]
  d_with_turned : DefAt K mg "with_turned" sTurned ["cells", "some"]
  d_swings_in : DefAt K mg "swings_in" sSwings ["line"]
  d_is_cells : DefAt K mg "is_cells" sIsCells ["many", "value"]
  d_need_line : DefAt K mg "need_line" sNeedLine ["line"]
  d_is_wish : DefAt K mg "is_wish" sIsWish ["many", "value"]
  d_need_wish : DefAt K mg "need_wish" sNeedWish ["line", "wish"]
  d_choices : DefAt K mg "choices" sChoices ["line", "wish", "cell"]
  d_is_going : DefAt K mg "is_going" sGoing ["marks", "place", "is_ring", "must_fill"]
  d_is_closed : DefAt K mg "is_closed" sClosed ["first", "last", "is_ring", "must_fill"]
  d_sets_of : DefAt K mg "sets_of" sSets ["some", "is_ring", "suits", "must_fill"]
  d_costs_of : DefAt K mg "costs_of" sCostsOf ["some", "is_ring", "suits", "prices", "must_fill"]
  d_stretches_in : DefAt K mg "stretches_in" sStretches ["line"]
  d_insides : DefAt K mg "insides" sInsides ["line"]
  d_paths_in : DefAt K mg "paths_in" sPaths ["line"]
  d_wished_ends : DefAt K mg "wished_ends" sWEnds ["line", "wish"]
  d_wished_end : DefAt K mg "wished_end" sWEnd ["line", "wish"]
  d_fewest_to : DefAt K mg "fewest_to" sFewest ["line", "wish"]
  d_most_to : DefAt K mg "most_to" sMost ["line", "wish"]
  d__law_held : DefAt K mg "_law_held" sLHeld ["_law_line_here"]
  d__law_ready : DefAt K mg "_law_ready" sLReady ["_law_line_here"]
  d__law_still : DefAt K mg "_law_still" sLStill ["_law_line_here", "_law_cells"]
  d__law_fits_wish : DefAt K mg "_law_fits_wish" sLFits ["_law_cells", "_law_wish_here"]
  d__law_singles : DefAt K mg "_law_singles" sSingles ["_law_line_here"]
  d__law_ends : DefAt K mg "_law_ends" sEnds ["_law_line_here"]
  d__law_alike : DefAt K mg "_law_alike" sAlike ["_law_found", "_law_due"]
  d__law_taken : DefAt K mg "_law_taken" sTaken ["_law_row", "_law_many"]
  d__law_pick : DefAt K mg "_law_pick" sPick ["_law_row", "_law_things"]
  d__law_line : DefAt K mg "_law_line" sLine ["_law_row", "_law_most", "_law_colours"]
  d__law_wish : DefAt K mg "_law_wish" sLWish ["_law_row", "_law_many", "_law_colours"]
  lots : ∃ A, LotsAt K mg A
  c_MOST_CELLS : ∃ t, mg "MOST_CELLS" = some (.int 40 t)
  c_MOST_COLOUR : ∃ t, mg "MOST_COLOUR" = some (.int 9 t)
  c_LEAST_RING : ∃ t, mg "LEAST_RING" = some (.int 3 t)
  b_len : mg "len" = none
  b_range : mg "range" = none
  b_isinstance : mg "isinstance" = none
  b_int : mg "int" = none
  b_bool : mg "bool" = none
  b_tuple : mg "tuple" = none
  b_list : mg "list" = none
  b_str : mg "str" = none
  b_sorted : mg "sorted" = none
  b_set : mg "set" = none
  b_sum : mg "sum" = none
  b_min : mg "min" = none
  b_max : mg "max" = none
  b_zip : mg "zip" = none
  b_dict : mg "dict" = none
  b_enumerate : mg "enumerate" = none
section
variable {C : Cfg}
theorem TopAt.bare (T : TopAt C.K C.mg) : Bare C := ⟨T.b_len, T.b_range, T.b_isinstance, T.b_int, T.b_bool, T.b_tuple, T.b_list, T.b_str, T.b_sorted, T.b_set, T.b_sum, T.b_min, T.b_max, T.b_zip, T.b_dict, T.b_enumerate⟩
theorem lawFns_of (T : TopAt C.K C.mg) : LawFns C := by
  have N := T.bare
  have CO : Consts C := ⟨T.c_MOST_CELLS, T.c_MOST_COLOUR, T.c_LEAST_RING⟩
  obtain ⟨f_is_in, x_is_in, F_is_in, g_is_in, b_is_in⟩ := T.d_is_in
  obtain ⟨f_flanks, x_flanks, F_flanks, g_flanks, b_flanks⟩ := T.d_flanks
  obtain ⟨f_is_flanked, x_is_flanked, F_is_flanked, g_is_flanked, b_is_flanked⟩ := T.d_is_flanked
  obtain ⟨f_held_in, x_held_in, F_held_in, g_held_in, b_held_in⟩ := T.d_held_in
  obtain ⟨f_ready_in, x_ready_in, F_ready_in, g_ready_in, b_ready_in⟩ := T.d_ready_in
  obtain ⟨f_with_turned, x_with_turned, F_with_turned, g_with_turned, b_with_turned⟩ := T.d_with_turned
  obtain ⟨f_swings_in, x_swings_in, F_swings_in, g_swings_in, b_swings_in⟩ := T.d_swings_in
  obtain ⟨f_is_cells, x_is_cells, F_is_cells, g_is_cells, b_is_cells⟩ := T.d_is_cells
  obtain ⟨f_need_line, x_need_line, F_need_line, g_need_line, b_need_line⟩ := T.d_need_line
  obtain ⟨f_is_wish, x_is_wish, F_is_wish, g_is_wish, b_is_wish⟩ := T.d_is_wish
  obtain ⟨f_need_wish, x_need_wish, F_need_wish, g_need_wish, b_need_wish⟩ := T.d_need_wish
  obtain ⟨f_choices, x_choices, F_choices, g_choices, b_choices⟩ := T.d_choices
  obtain ⟨f_is_going, x_is_going, F_is_going, g_is_going, b_is_going⟩ := T.d_is_going
  obtain ⟨f_is_closed, x_is_closed, F_is_closed, g_is_closed, b_is_closed⟩ := T.d_is_closed
  obtain ⟨f_sets_of, x_sets_of, F_sets_of, g_sets_of, b_sets_of⟩ := T.d_sets_of
  obtain ⟨f_costs_of, x_costs_of, F_costs_of, g_costs_of, b_costs_of⟩ := T.d_costs_of
  obtain ⟨f_stretches_in, x_stretches_in, F_stretches_in, g_stretches_in, b_stretches_in⟩ := T.d_stretches_in
  obtain ⟨f_insides, x_insides, F_insides, g_insides, b_insides⟩ := T.d_insides
  obtain ⟨f_paths_in, x_paths_in, F_paths_in, g_paths_in, b_paths_in⟩ := T.d_paths_in
  obtain ⟨f_wished_ends, x_wished_ends, F_wished_ends, g_wished_ends, b_wished_ends⟩ := T.d_wished_ends
  obtain ⟨f_wished_end, x_wished_end, F_wished_end, g_wished_end, b_wished_end⟩ := T.d_wished_end
  obtain ⟨f_fewest_to, x_fewest_to, F_fewest_to, g_fewest_to, b_fewest_to⟩ := T.d_fewest_to
  obtain ⟨f_most_to, x_most_to, F_most_to, g_most_to, b_most_to⟩ := T.d_most_to
  obtain ⟨f__law_held, x__law_held, F__law_held, g__law_held, b__law_held⟩ := T.d__law_held
  obtain ⟨f__law_ready, x__law_ready, F__law_ready, g__law_ready, b__law_ready⟩ := T.d__law_ready
  obtain ⟨f__law_still, x__law_still, F__law_still, g__law_still, b__law_still⟩ := T.d__law_still
  obtain ⟨f__law_fits_wish, x__law_fits_wish, F__law_fits_wish, g__law_fits_wish, b__law_fits_wish⟩ := T.d__law_fits_wish
  obtain ⟨f__law_singles, x__law_singles, F__law_singles, g__law_singles, b__law_singles⟩ := T.d__law_singles
  obtain ⟨f__law_ends, x__law_ends, F__law_ends, g__law_ends, b__law_ends⟩ := T.d__law_ends
  obtain ⟨f__law_alike, x__law_alike, F__law_alike, g__law_alike, b__law_alike⟩ := T.d__law_alike
  obtain ⟨f__law_taken, x__law_taken, F__law_taken, g__law_taken, b__law_taken⟩ := T.d__law_taken
  obtain ⟨f__law_pick, x__law_pick, F__law_pick, g__law_pick, b__law_pick⟩ := T.d__law_pick
  obtain ⟨f__law_line, x__law_line, F__law_line, g__law_line, b__law_line⟩ := T.d__law_line
  obtain ⟨f__law_wish, x__law_wish, F__law_wish, g__law_wish, b__law_wish⟩ := T.d__law_wish
  obtain ⟨A, L⟩ := T.lots
  obtain ⟨f_i, x_i, F_i, g_i, b_i⟩ := L.ini
  obtain ⟨f_mstill, x_mstill, F_mstill, g_mstill, b_mstill⟩ := L.m_still
  obtain ⟨f_mcosts, x_mcosts, F_mcosts, g_mcosts, b_mcosts⟩ := L.m_costs
  obtain ⟨f_mcount, x_mcount, F_mcount, g_mcount, b_mcount⟩ := L.m_count
  obtain ⟨f_mouter, x_mouter, F_mouter, g_mouter, b_mouter⟩ := L.m_outer
  obtain ⟨f_mbest, x_mbest, F_mbest, g_mbest, b_mbest⟩ := L.m_best
  obtain ⟨f_mcolours, x_mcolours, F_mcolours, g_mcolours, b_mcolours⟩ := L.m_colours
  have Q : LotsC C A := ⟨L.cl, L.n1, L.n2, L.n3, L.n4, L.n5, L.n6⟩
  have G_is_in := fn_is_in N F_is_in g_is_in b_is_in
  have G_flanks := fn_flanks  F_flanks g_flanks b_flanks
  have G_is_flanked := fn_is_flanked N G_flanks F_is_flanked g_is_flanked b_is_flanked
  have G_held_in := fn_held_in N F_held_in g_held_in b_held_in
  have G_ready_in := fn_ready_in N G_held_in G_is_flanked F_ready_in g_ready_in b_ready_in
  have G_with_turned := fn_with_turned N F_with_turned g_with_turned b_with_turned
  have G_swings_in := fn_swings_in N G_ready_in F_swings_in g_swings_in b_swings_in
  have G_is_cells := fn_is_cells N G_is_in F_is_cells g_is_cells b_is_cells
  have G_need_line := fn_need_line N CO G_is_in G_is_cells F_need_line g_need_line b_need_line
  have G_is_wish := fn_is_wish N CO G_is_in F_is_wish g_is_wish b_is_wish
  have G_need_wish := fn_need_wish N G_need_line G_is_wish F_need_wish g_need_wish b_need_wish
  have G_choices := fn_choices  F_choices g_choices b_choices
  have G_is_going := fn_is_going  F_is_going g_is_going b_is_going
  have G_is_closed := fn_is_closed  F_is_closed g_is_closed b_is_closed
  have G_sets_of := fn_sets_of N G_is_going G_is_closed F_sets_of g_sets_of b_sets_of
  have G_costs_of := fn_costs_of N G_is_going G_is_closed F_costs_of g_costs_of b_costs_of
  have G_stretches_in := fn_stretches_in N G_ready_in F_stretches_in g_stretches_in b_stretches_in
  have G_insides := fn_insides N G_stretches_in F_insides g_insides b_insides
  have G_paths_in := fn_paths_in G_ready_in G_swings_in G_insides F_paths_in g_paths_in b_paths_in
  have M := mk_lots N Q G_choices G_paths_in F_i g_i b_i L.nm
  have G_mstill := m_still N Q G_ready_in F_mstill g_mstill b_mstill
  have G_mcosts := m_costs Q G_costs_of F_mcosts g_mcosts b_mcosts
  have G_mcount := m_count N Q G_mstill G_mcosts F_mcount g_mcount b_mcount
  have G_mouter := m_outer N Q G_mstill G_mcosts F_mouter g_mouter b_mouter
  have G_mcolours := m_colours N N.zip N.dict Q F_mcolours g_mcolours b_mcolours
  have G_mbest := m_best N Q G_sets_of G_mcolours G_with_turned F_mbest g_mbest b_mbest
  have G_wished_ends := fn_wished_ends N Q G_need_wish M G_mcount F_wished_ends g_wished_ends b_wished_ends
  have G_wished_end := fn_wished_end N Q G_need_wish M G_mcount G_mbest F_wished_end g_wished_end b_wished_end
  have G_fewest_to := fn_fewest N Q G_need_wish M G_mouter F_fewest_to g_fewest_to b_fewest_to
  have G_most_to := fn_most N Q G_need_wish M G_mouter F_most_to g_most_to b_most_to
  have G__law_held := fn_law_held N F__law_held g__law_held b__law_held
  have G__law_ready := fn_law_ready N G__law_held F__law_ready g__law_ready b__law_ready
  have G__law_still := fn_law_still G__law_ready F__law_still g__law_still b__law_still
  have G__law_fits_wish := fn_law_fits N F__law_fits_wish g__law_fits_wish b__law_fits_wish
  have G__law_singles := fn_law_singles N G__law_ready F__law_singles g__law_singles b__law_singles
  have G1 := fn_law_singles1 G__law_singles
  have G__law_ends := fn_law_ends N G1 G__law_still F__law_ends g__law_ends b__law_ends
  have G__law_taken := fn_taken N F__law_taken g__law_taken b__law_taken
  have G__law_pick := fn_pick N G__law_taken F__law_pick g__law_pick b__law_pick
  have G__law_line := fn_line N G__law_taken G__law_pick F__law_line g__law_line b__law_line
  have G__law_wish := fn_lwish N G__law_taken G__law_pick F__law_wish g__law_wish b__law_wish
  have A0 := fn_alike0 N F__law_alike g__law_alike b__law_alike
  have A1 := fn_alike N A0 F__law_alike g__law_alike b__law_alike
  exact ⟨G__law_taken, G__law_pick, G__law_line, G__law_wish, G1, G__law_ends, G__law_fits_wish, A0, A1, G_wished_ends, G_wished_end, G_fewest_to, G_most_to⟩
end
theorem law_all {P : Program} {w : World} {K : PySem.W.Frag} {mg : Str → Option Value} {base : Heap} (T : TopAt K mg) {f : Addr} {fd : FuncData} (F : Fun K "law" "law" sLaw f fd) : FnOk P w K mg base CX0 11 f fd ["_law_script"] (spLaw K) :=
  ok_law (C := { P := P, w := w, K := K, mg := mg, base := base, N := [], sc := defScope sLaw, lv := 0, dd := false, r := none, rs := 0, ns := [] }) T.bare law_hyp (fun a rs ns => lawFns_of (C := rowC { P := P, w := w, K := K, mg := mg, base := base, N := [], sc := defScope sLaw, lv := 0, dd := false, r := none, rs := 0, ns := [] } a rs ns) T) F
end FT
/-! text P25 -/
/-! P25: the law's own head takes these facts. (Printed by gen25.py.) -/
namespace FT
open PySem PySem.Spec L2 DL
open PyProof.Rows hiding St
set_option maxHeartbeats 8000000  in
theorem all_mk {l : PySem.W.OpenLaw} {w : World} {K : PySem.W.Frag} {h : Heap} {mg : Str → Option Value} {fa A : Addr} (X : K.In h) (G : h.Ns mainGlobals mg) (hfa : mg "law" = some (.ref fa))
    {f1 f2 f3 f4 f5 f6 f7 f8 f9 f10 f11 f12 f13 f14 f15 f16 f17 f18 f19 f20 f21 f22 f23 f24 f25 f26 f27 f28 f29 f30 f31 f32 f33 f34 f35 f36 f37 f38 f39 f40 f41 f42 : Addr} {od1 an1 od2 an2 od3 an3 od4 an4 od5 an5 od6 an6 od7 an7 od8 an8 od9 an9 od10 an10 od11 an11 od12 an12 od13 an13 od14 an14 od15 an15 od16 an16 od17 an17 od18 an18 od19 an19 od20 an20 od21 an21 od22 an22 od23 an23 od24 an24 od25 an25 od26 an26 od27 an27 od28 an28 od29 an29 od30 an30 od31 an31 od32 an32 od33 an33 od34 an34 od35 an35 od36 an36 od37 an37 od38 an38 od39 an39 od40 an40 od41 an41 od42 an42 : Option Addr} {sl1 sl2 sl3 sl4 sl5 sl6 sl7 sl8 sl9 sl10 sl11 sl12 sl13 sl14 sl15 sl16 sl17 sl18 sl19 sl20 sl21 sl22 sl23 sl24 sl25 sl26 sl27 sl28 sl29 sl30 sl31 sl32 sl33 sl34 sl35 sl36 sl37 sl38 sl39 sl40 sl41 sl42 : Array (Option Value)} {oc1 kV1 dc1 pm1 cd1 ct1 oc2 kV2 dc2 pm2 cd2 ct2 oc3 kV3 dc3 pm3 cd3 ct3 oc4 kV4 dc4 pm4 cd4 ct4 oc5 kV5 dc5 pm5 cd5 ct5 oc6 kV6 dc6 pm6 cd6 ct6 oc7 kV7 dc7 pm7 cd7 ct7 oc8 kV8 dc8 pm8 cd8 ct8 oc9 kV9 dc9 pm9 cd9 ct9 oc10 kV10 dc10 pm10 cd10 ct10 oc11 kV11 dc11 pm11 cd11 ct11 oc12 kV12 dc12 pm12 cd12 ct12 oc13 kV13 dc13 pm13 cd13 ct13 oc14 kV14 dc14 pm14 cd14 ct14 oc15 kV15 dc15 pm15 cd15 ct15 oc16 kV16 dc16 pm16 cd16 ct16 oc17 kV17 dc17 pm17 cd17 ct17 oc18 kV18 dc18 pm18 cd18 ct18 oc19 kV19 dc19 pm19 cd19 ct19 oc20 kV20 dc20 pm20 cd20 ct20 oc21 kV21 dc21 pm21 cd21 ct21 oc22 kV22 dc22 pm22 cd22 ct22 oc23 kV23 dc23 pm23 cd23 ct23 oc24 kV24 dc24 pm24 cd24 ct24 oc25 kV25 dc25 pm25 cd25 ct25 oc26 kV26 dc26 pm26 cd26 ct26 oc27 kV27 dc27 pm27 cd27 ct27 oc28 kV28 dc28 pm28 cd28 ct28 oc29 kV29 dc29 pm29 cd29 ct29 oc30 kV30 dc30 pm30 cd30 ct30 oc31 kV31 dc31 pm31 cd31 ct31 oc32 kV32 dc32 pm32 cd32 ct32 oc33 kV33 dc33 pm33 cd33 ct33 oc34 kV34 dc34 pm34 cd34 ct34 oc35 kV35 dc35 pm35 cd35 ct35 oc36 kV36 dc36 pm36 cd36 ct36 oc37 kV37 dc37 pm37 cd37 ct37 oc38 kV38 dc38 pm38 cd38 ct38 oc39 kV39 dc39 pm39 cd39 ct39 oc40 kV40 dc40 pm40 cd40 ct40 oc41 kV41 dc41 pm41 cd41 ct41 oc42 kV42 dc42 pm42 cd42 ct42 : Value} {t1 t2 t3 : Tok}
    (a1 : PySem.W.nsIn K mainGlobals "is_in" = some (some (.ref f1))) (l1 : K.lookup f1 = some ⟨oc1, od1, .func (PySem.W.fnOf "is_in" "is_in" (defArgs sIsIn) (defBody sIsIn) (defScope sIsIn) .none kV1 dc1 pm1 an1 cd1 ct1), sl1⟩) (c1 : PySem.W.codeIn K cd1 "is_in" = true) (k1 : PySem.W.keepIn K (.ref f1) = true)
    (a2 : PySem.W.nsIn K mainGlobals "flanks" = some (some (.ref f2))) (l2 : K.lookup f2 = some ⟨oc2, od2, .func (PySem.W.fnOf "flanks" "flanks" (defArgs sFlanks) (defBody sFlanks) (defScope sFlanks) .none kV2 dc2 pm2 an2 cd2 ct2), sl2⟩) (c2 : PySem.W.codeIn K cd2 "flanks" = true) (k2 : PySem.W.keepIn K (.ref f2) = true)
    (a3 : PySem.W.nsIn K mainGlobals "is_flanked" = some (some (.ref f3))) (l3 : K.lookup f3 = some ⟨oc3, od3, .func (PySem.W.fnOf "is_flanked" "is_flanked" (defArgs sFlanked) (defBody sFlanked) (defScope sFlanked) .none kV3 dc3 pm3 an3 cd3 ct3), sl3⟩) (c3 : PySem.W.codeIn K cd3 "is_flanked" = true) (k3 : PySem.W.keepIn K (.ref f3) = true)
    (a4 : PySem.W.nsIn K mainGlobals "held_in" = some (some (.ref f4))) (l4 : K.lookup f4 = some ⟨oc4, od4, .func (PySem.W.fnOf "held_in" "held_in" (defArgs sHeld) (defBody sHeld) (defScope sHeld) .none kV4 dc4 pm4 an4 cd4 ct4), sl4⟩) (c4 : PySem.W.codeIn K cd4 "held_in" = true) (k4 : PySem.W.keepIn K (.ref f4) = true)
    (a5 : PySem.W.nsIn K mainGlobals "ready_in" = some (some (.ref f5))) (l5 : K.lookup f5 = some ⟨oc5, od5, .func (PySem.W.fnOf "ready_in" "ready_in" (defArgs sReady) (defBody sReady) (defScope sReady) .none kV5 dc5 pm5 an5 cd5 ct5), sl5⟩) (c5 : PySem.W.codeIn K cd5 "ready_in" = true) (k5 : PySem.W.keepIn K (.ref f5) = true)
    (a6 : PySem.W.nsIn K mainGlobals "with_turned" = some (some (.ref f6))) (l6 : K.lookup f6 = some ⟨oc6, od6, .func (PySem.W.fnOf "with_turned" "with_turned" (defArgs sTurned) (defBody sTurned) (defScope sTurned) .none kV6 dc6 pm6 an6 cd6 ct6), sl6⟩) (c6 : PySem.W.codeIn K cd6 "with_turned" = true) (k6 : PySem.W.keepIn K (.ref f6) = true)
    (a7 : PySem.W.nsIn K mainGlobals "swings_in" = some (some (.ref f7))) (l7 : K.lookup f7 = some ⟨oc7, od7, .func (PySem.W.fnOf "swings_in" "swings_in" (defArgs sSwings) (defBody sSwings) (defScope sSwings) .none kV7 dc7 pm7 an7 cd7 ct7), sl7⟩) (c7 : PySem.W.codeIn K cd7 "swings_in" = true) (k7 : PySem.W.keepIn K (.ref f7) = true)
    (a8 : PySem.W.nsIn K mainGlobals "is_cells" = some (some (.ref f8))) (l8 : K.lookup f8 = some ⟨oc8, od8, .func (PySem.W.fnOf "is_cells" "is_cells" (defArgs sIsCells) (defBody sIsCells) (defScope sIsCells) .none kV8 dc8 pm8 an8 cd8 ct8), sl8⟩) (c8 : PySem.W.codeIn K cd8 "is_cells" = true) (k8 : PySem.W.keepIn K (.ref f8) = true)
    (a9 : PySem.W.nsIn K mainGlobals "need_line" = some (some (.ref f9))) (l9 : K.lookup f9 = some ⟨oc9, od9, .func (PySem.W.fnOf "need_line" "need_line" (defArgs sNeedLine) (defBody sNeedLine) (defScope sNeedLine) .none kV9 dc9 pm9 an9 cd9 ct9), sl9⟩) (c9 : PySem.W.codeIn K cd9 "need_line" = true) (k9 : PySem.W.keepIn K (.ref f9) = true)
    (a10 : PySem.W.nsIn K mainGlobals "is_wish" = some (some (.ref f10))) (l10 : K.lookup f10 = some ⟨oc10, od10, .func (PySem.W.fnOf "is_wish" "is_wish" (defArgs sIsWish) (defBody sIsWish) (defScope sIsWish) .none kV10 dc10 pm10 an10 cd10 ct10), sl10⟩) (c10 : PySem.W.codeIn K cd10 "is_wish" = true) (k10 : PySem.W.keepIn K (.ref f10) = true)
    (a11 : PySem.W.nsIn K mainGlobals "need_wish" = some (some (.ref f11))) (l11 : K.lookup f11 = some ⟨oc11, od11, .func (PySem.W.fnOf "need_wish" "need_wish" (defArgs sNeedWish) (defBody sNeedWish) (defScope sNeedWish) .none kV11 dc11 pm11 an11 cd11 ct11), sl11⟩) (c11 : PySem.W.codeIn K cd11 "need_wish" = true) (k11 : PySem.W.keepIn K (.ref f11) = true)
    (a12 : PySem.W.nsIn K mainGlobals "choices" = some (some (.ref f12))) (l12 : K.lookup f12 = some ⟨oc12, od12, .func (PySem.W.fnOf "choices" "choices" (defArgs sChoices) (defBody sChoices) (defScope sChoices) .none kV12 dc12 pm12 an12 cd12 ct12), sl12⟩) (c12 : PySem.W.codeIn K cd12 "choices" = true) (k12 : PySem.W.keepIn K (.ref f12) = true)
    (a13 : PySem.W.nsIn K mainGlobals "is_going" = some (some (.ref f13))) (l13 : K.lookup f13 = some ⟨oc13, od13, .func (PySem.W.fnOf "is_going" "is_going" (defArgs sGoing) (defBody sGoing) (defScope sGoing) .none kV13 dc13 pm13 an13 cd13 ct13), sl13⟩) (c13 : PySem.W.codeIn K cd13 "is_going" = true) (k13 : PySem.W.keepIn K (.ref f13) = true)
    (a14 : PySem.W.nsIn K mainGlobals "is_closed" = some (some (.ref f14))) (l14 : K.lookup f14 = some ⟨oc14, od14, .func (PySem.W.fnOf "is_closed" "is_closed" (defArgs sClosed) (defBody sClosed) (defScope sClosed) .none kV14 dc14 pm14 an14 cd14 ct14), sl14⟩) (c14 : PySem.W.codeIn K cd14 "is_closed" = true) (k14 : PySem.W.keepIn K (.ref f14) = true)
    (a15 : PySem.W.nsIn K mainGlobals "sets_of" = some (some (.ref f15))) (l15 : K.lookup f15 = some ⟨oc15, od15, .func (PySem.W.fnOf "sets_of" "sets_of" (defArgs sSets) (defBody sSets) (defScope sSets) .none kV15 dc15 pm15 an15 cd15 ct15), sl15⟩) (c15 : PySem.W.codeIn K cd15 "sets_of" = true) (k15 : PySem.W.keepIn K (.ref f15) = true)
    (a16 : PySem.W.nsIn K mainGlobals "costs_of" = some (some (.ref f16))) (l16 : K.lookup f16 = some ⟨oc16, od16, .func (PySem.W.fnOf "costs_of" "costs_of" (defArgs sCostsOf) (defBody sCostsOf) (defScope sCostsOf) .none kV16 dc16 pm16 an16 cd16 ct16), sl16⟩) (c16 : PySem.W.codeIn K cd16 "costs_of" = true) (k16 : PySem.W.keepIn K (.ref f16) = true)
    (a17 : PySem.W.nsIn K mainGlobals "stretches_in" = some (some (.ref f17))) (l17 : K.lookup f17 = some ⟨oc17, od17, .func (PySem.W.fnOf "stretches_in" "stretches_in" (defArgs sStretches) (defBody sStretches) (defScope sStretches) .none kV17 dc17 pm17 an17 cd17 ct17), sl17⟩) (c17 : PySem.W.codeIn K cd17 "stretches_in" = true) (k17 : PySem.W.keepIn K (.ref f17) = true)
    (a18 : PySem.W.nsIn K mainGlobals "insides" = some (some (.ref f18))) (l18 : K.lookup f18 = some ⟨oc18, od18, .func (PySem.W.fnOf "insides" "insides" (defArgs sInsides) (defBody sInsides) (defScope sInsides) .none kV18 dc18 pm18 an18 cd18 ct18), sl18⟩) (c18 : PySem.W.codeIn K cd18 "insides" = true) (k18 : PySem.W.keepIn K (.ref f18) = true)
    (a19 : PySem.W.nsIn K mainGlobals "paths_in" = some (some (.ref f19))) (l19 : K.lookup f19 = some ⟨oc19, od19, .func (PySem.W.fnOf "paths_in" "paths_in" (defArgs sPaths) (defBody sPaths) (defScope sPaths) .none kV19 dc19 pm19 an19 cd19 ct19), sl19⟩) (c19 : PySem.W.codeIn K cd19 "paths_in" = true) (k19 : PySem.W.keepIn K (.ref f19) = true)
    (a20 : PySem.W.nsIn K mainGlobals "wished_ends" = some (some (.ref f20))) (l20 : K.lookup f20 = some ⟨oc20, od20, .func (PySem.W.fnOf "wished_ends" "wished_ends" (defArgs sWEnds) (defBody sWEnds) (defScope sWEnds) .none kV20 dc20 pm20 an20 cd20 ct20), sl20⟩) (c20 : PySem.W.codeIn K cd20 "wished_ends" = true) (k20 : PySem.W.keepIn K (.ref f20) = true)
    (a21 : PySem.W.nsIn K mainGlobals "wished_end" = some (some (.ref f21))) (l21 : K.lookup f21 = some ⟨oc21, od21, .func (PySem.W.fnOf "wished_end" "wished_end" (defArgs sWEnd) (defBody sWEnd) (defScope sWEnd) .none kV21 dc21 pm21 an21 cd21 ct21), sl21⟩) (c21 : PySem.W.codeIn K cd21 "wished_end" = true) (k21 : PySem.W.keepIn K (.ref f21) = true)
    (a22 : PySem.W.nsIn K mainGlobals "fewest_to" = some (some (.ref f22))) (l22 : K.lookup f22 = some ⟨oc22, od22, .func (PySem.W.fnOf "fewest_to" "fewest_to" (defArgs sFewest) (defBody sFewest) (defScope sFewest) .none kV22 dc22 pm22 an22 cd22 ct22), sl22⟩) (c22 : PySem.W.codeIn K cd22 "fewest_to" = true) (k22 : PySem.W.keepIn K (.ref f22) = true)
    (a23 : PySem.W.nsIn K mainGlobals "most_to" = some (some (.ref f23))) (l23 : K.lookup f23 = some ⟨oc23, od23, .func (PySem.W.fnOf "most_to" "most_to" (defArgs sMost) (defBody sMost) (defScope sMost) .none kV23 dc23 pm23 an23 cd23 ct23), sl23⟩) (c23 : PySem.W.codeIn K cd23 "most_to" = true) (k23 : PySem.W.keepIn K (.ref f23) = true)
    (a24 : PySem.W.nsIn K mainGlobals "_law_held" = some (some (.ref f24))) (l24 : K.lookup f24 = some ⟨oc24, od24, .func (PySem.W.fnOf "_law_held" "_law_held" (defArgs sLHeld) (defBody sLHeld) (defScope sLHeld) .none kV24 dc24 pm24 an24 cd24 ct24), sl24⟩) (c24 : PySem.W.codeIn K cd24 "_law_held" = true) (k24 : PySem.W.keepIn K (.ref f24) = true)
    (a25 : PySem.W.nsIn K mainGlobals "_law_ready" = some (some (.ref f25))) (l25 : K.lookup f25 = some ⟨oc25, od25, .func (PySem.W.fnOf "_law_ready" "_law_ready" (defArgs sLReady) (defBody sLReady) (defScope sLReady) .none kV25 dc25 pm25 an25 cd25 ct25), sl25⟩) (c25 : PySem.W.codeIn K cd25 "_law_ready" = true) (k25 : PySem.W.keepIn K (.ref f25) = true)
    (a26 : PySem.W.nsIn K mainGlobals "_law_still" = some (some (.ref f26))) (l26 : K.lookup f26 = some ⟨oc26, od26, .func (PySem.W.fnOf "_law_still" "_law_still" (defArgs sLStill) (defBody sLStill) (defScope sLStill) .none kV26 dc26 pm26 an26 cd26 ct26), sl26⟩) (c26 : PySem.W.codeIn K cd26 "_law_still" = true) (k26 : PySem.W.keepIn K (.ref f26) = true)
    (a27 : PySem.W.nsIn K mainGlobals "_law_fits_wish" = some (some (.ref f27))) (l27 : K.lookup f27 = some ⟨oc27, od27, .func (PySem.W.fnOf "_law_fits_wish" "_law_fits_wish" (defArgs sLFits) (defBody sLFits) (defScope sLFits) .none kV27 dc27 pm27 an27 cd27 ct27), sl27⟩) (c27 : PySem.W.codeIn K cd27 "_law_fits_wish" = true) (k27 : PySem.W.keepIn K (.ref f27) = true)
    (a28 : PySem.W.nsIn K mainGlobals "_law_singles" = some (some (.ref f28))) (l28 : K.lookup f28 = some ⟨oc28, od28, .func (PySem.W.fnOf "_law_singles" "_law_singles" (defArgs sSingles) (defBody sSingles) (defScope sSingles) .none kV28 dc28 pm28 an28 cd28 ct28), sl28⟩) (c28 : PySem.W.codeIn K cd28 "_law_singles" = true) (k28 : PySem.W.keepIn K (.ref f28) = true)
    (a29 : PySem.W.nsIn K mainGlobals "_law_ends" = some (some (.ref f29))) (l29 : K.lookup f29 = some ⟨oc29, od29, .func (PySem.W.fnOf "_law_ends" "_law_ends" (defArgs sEnds) (defBody sEnds) (defScope sEnds) .none kV29 dc29 pm29 an29 cd29 ct29), sl29⟩) (c29 : PySem.W.codeIn K cd29 "_law_ends" = true) (k29 : PySem.W.keepIn K (.ref f29) = true)
    (a30 : PySem.W.nsIn K mainGlobals "_law_alike" = some (some (.ref f30))) (l30 : K.lookup f30 = some ⟨oc30, od30, .func (PySem.W.fnOf "_law_alike" "_law_alike" (defArgs sAlike) (defBody sAlike) (defScope sAlike) .none kV30 dc30 pm30 an30 cd30 ct30), sl30⟩) (c30 : PySem.W.codeIn K cd30 "_law_alike" = true) (k30 : PySem.W.keepIn K (.ref f30) = true)
    (a31 : PySem.W.nsIn K mainGlobals "_law_taken" = some (some (.ref f31))) (l31 : K.lookup f31 = some ⟨oc31, od31, .func (PySem.W.fnOf "_law_taken" "_law_taken" (defArgs sTaken) (defBody sTaken) (defScope sTaken) .none kV31 dc31 pm31 an31 cd31 ct31), sl31⟩) (c31 : PySem.W.codeIn K cd31 "_law_taken" = true) (k31 : PySem.W.keepIn K (.ref f31) = true)
    (a32 : PySem.W.nsIn K mainGlobals "_law_pick" = some (some (.ref f32))) (l32 : K.lookup f32 = some ⟨oc32, od32, .func (PySem.W.fnOf "_law_pick" "_law_pick" (defArgs sPick) (defBody sPick) (defScope sPick) .none kV32 dc32 pm32 an32 cd32 ct32), sl32⟩) (c32 : PySem.W.codeIn K cd32 "_law_pick" = true) (k32 : PySem.W.keepIn K (.ref f32) = true)
    (a33 : PySem.W.nsIn K mainGlobals "_law_line" = some (some (.ref f33))) (l33 : K.lookup f33 = some ⟨oc33, od33, .func (PySem.W.fnOf "_law_line" "_law_line" (defArgs sLine) (defBody sLine) (defScope sLine) .none kV33 dc33 pm33 an33 cd33 ct33), sl33⟩) (c33 : PySem.W.codeIn K cd33 "_law_line" = true) (k33 : PySem.W.keepIn K (.ref f33) = true)
    (a34 : PySem.W.nsIn K mainGlobals "_law_wish" = some (some (.ref f34))) (l34 : K.lookup f34 = some ⟨oc34, od34, .func (PySem.W.fnOf "_law_wish" "_law_wish" (defArgs sLWish) (defBody sLWish) (defScope sLWish) .none kV34 dc34 pm34 an34 cd34 ct34), sl34⟩) (c34 : PySem.W.codeIn K cd34 "_law_wish" = true) (k34 : PySem.W.keepIn K (.ref f34) = true)
    (a35 : PySem.W.findIn K (.ref A) "still" = some (some (.ref f35))) (i35 : PySem.W.isFn K (.ref f35) = true) (l35 : K.lookup f35 = some ⟨oc35, od35, .func (PySem.W.fnOf "still" "Lots.still" (defArgs sStill) (defBody sStill) (defScope sStill) .none kV35 dc35 pm35 an35 cd35 ct35), sl35⟩) (c35 : PySem.W.codeIn K cd35 "Lots.still" = true) (k35 : PySem.W.keepIn K (.ref f35) = true)
    (a36 : PySem.W.findIn K (.ref A) "costs" = some (some (.ref f36))) (i36 : PySem.W.isFn K (.ref f36) = true) (l36 : K.lookup f36 = some ⟨oc36, od36, .func (PySem.W.fnOf "costs" "Lots.costs" (defArgs sCosts) (defBody sCosts) (defScope sCosts) .none kV36 dc36 pm36 an36 cd36 ct36), sl36⟩) (c36 : PySem.W.codeIn K cd36 "Lots.costs" = true) (k36 : PySem.W.keepIn K (.ref f36) = true)
    (a37 : PySem.W.findIn K (.ref A) "count" = some (some (.ref f37))) (i37 : PySem.W.isFn K (.ref f37) = true) (l37 : K.lookup f37 = some ⟨oc37, od37, .func (PySem.W.fnOf "count" "Lots.count" (defArgs sCount) (defBody sCount) (defScope sCount) .none kV37 dc37 pm37 an37 cd37 ct37), sl37⟩) (c37 : PySem.W.codeIn K cd37 "Lots.count" = true) (k37 : PySem.W.keepIn K (.ref f37) = true)
    (a38 : PySem.W.findIn K (.ref A) "outer" = some (some (.ref f38))) (i38 : PySem.W.isFn K (.ref f38) = true) (l38 : K.lookup f38 = some ⟨oc38, od38, .func (PySem.W.fnOf "outer" "Lots.outer" (defArgs sOuter) (defBody sOuter) (defScope sOuter) .none kV38 dc38 pm38 an38 cd38 ct38), sl38⟩) (c38 : PySem.W.codeIn K cd38 "Lots.outer" = true) (k38 : PySem.W.keepIn K (.ref f38) = true)
    (a39 : PySem.W.findIn K (.ref A) "best" = some (some (.ref f39))) (i39 : PySem.W.isFn K (.ref f39) = true) (l39 : K.lookup f39 = some ⟨oc39, od39, .func (PySem.W.fnOf "best" "Lots.best" (defArgs sBest) (defBody sBest) (defScope sBest) .none kV39 dc39 pm39 an39 cd39 ct39), sl39⟩) (c39 : PySem.W.codeIn K cd39 "Lots.best" = true) (k39 : PySem.W.keepIn K (.ref f39) = true)
    (a40 : PySem.W.findIn K (.ref A) "colours" = some (some (.ref f40))) (i40 : PySem.W.isFn K (.ref f40) = true) (l40 : K.lookup f40 = some ⟨oc40, od40, .func (PySem.W.fnOf "colours" "Lots.colours" (defArgs sColours) (defBody sColours) (defScope sColours) .none kV40 dc40 pm40 an40 cd40 ct40), sl40⟩) (c40 : PySem.W.codeIn K cd40 "Lots.colours" = true) (k40 : PySem.W.keepIn K (.ref f40) = true)
    (a41 : PySem.W.findIn K (.ref A) "__init__" = some (some (.ref f41))) (i41 : PySem.W.isFn K (.ref f41) = true) (l41 : K.lookup f41 = some ⟨oc41, od41, .func (PySem.W.fnOf "__init__" "Lots.__init__" (defArgs sInit) (defBody sInit) (defScope sInit) .none kV41 dc41 pm41 an41 cd41 ct41), sl41⟩) (c41 : PySem.W.codeIn K cd41 "Lots.__init__" = true) (k41 : PySem.W.keepIn K (.ref f41) = true)
    (a42 : PySem.W.nsIn K mainGlobals "law" = some (some (.ref f42))) (l42 : K.lookup f42 = some ⟨oc42, od42, .func (PySem.W.fnOf "law" "law" (defArgs sLaw) (defBody sLaw) (defScope sLaw) .none kV42 dc42 pm42 an42 cd42 ct42), sl42⟩) (c42 : PySem.W.codeIn K cd42 "law" = true) (k42 : PySem.W.keepIn K (.ref f42) = true)
    (aC : PySem.W.nsIn K mainGlobals "Lots" = some (some (.ref A))) (pg : PySem.W.plainGet K A Str.empty = true) (hd : PySem.W.hasDictIn K A = true) (po : PySem.W.plainOver K A = true) (sa : PySem.W.findIn K (.ref A) "__setattr__" = some (some (.builtin "object.__setattr__"))) (mk : PySem.W.makesIn K A = true) (kc : PySem.W.keepIn K (.ref A) = true)
    (n1 : PySem.W.findIn K (.ref A) "base" = some none)
    (n2 : PySem.W.findIn K (.ref A) "suits" = some none)
    (n3 : PySem.W.findIn K (.ref A) "prices" = some none)
    (n4 : PySem.W.findIn K (.ref A) "must_fill" = some none)
    (n5 : PySem.W.findIn K (.ref A) "paths" = some none)
    (n6 : PySem.W.findIn K (.ref A) "is_ring" = some none)
    (q1 : PySem.W.nsIn K mainGlobals "MOST_CELLS" = some (some (.int 40 t1)))
    (q2 : PySem.W.nsIn K mainGlobals "MOST_COLOUR" = some (some (.int 9 t2)))
    (q3 : PySem.W.nsIn K mainGlobals "LEAST_RING" = some (some (.int 3 t3)))
    (z1 : PySem.W.nsIn K mainGlobals "len" = some none)
    (z2 : PySem.W.nsIn K mainGlobals "range" = some none)
    (z3 : PySem.W.nsIn K mainGlobals "isinstance" = some none)
    (z4 : PySem.W.nsIn K mainGlobals "int" = some none)
    (z5 : PySem.W.nsIn K mainGlobals "bool" = some none)
    (z6 : PySem.W.nsIn K mainGlobals "tuple" = some none)
    (z7 : PySem.W.nsIn K mainGlobals "list" = some none)
    (z8 : PySem.W.nsIn K mainGlobals "str" = some none)
    (z9 : PySem.W.nsIn K mainGlobals "sorted" = some none)
    (z10 : PySem.W.nsIn K mainGlobals "set" = some none)
    (z11 : PySem.W.nsIn K mainGlobals "sum" = some none)
    (z12 : PySem.W.nsIn K mainGlobals "min" = some none)
    (z13 : PySem.W.nsIn K mainGlobals "max" = some none)
    (z14 : PySem.W.nsIn K mainGlobals "zip" = some none)
    (z15 : PySem.W.nsIn K mainGlobals "dict" = some none)
    (z16 : PySem.W.nsIn K mainGlobals "enumerate" = some none)
    : ∃ fd : FuncData, (∀ (s : Shared) (v : Value), BindsTo s fd ⟨[v], []⟩ [("_law_script", v)]) ∧ ∀ base : Heap, K.In base → base.Ns mainGlobals mg → FnOk l.prog w K mg base CX0 11 fa fd ["_law_script"] (spLaw K) := by
  have e := hfa.symm.trans (PySem.W.mg_of X G a42)
  cases e
  have T : TopAt K mg := {
    d_is_in := def_mk X G a1 l1 c1 k1 fun _ _ _ _ _ _ us hl => match us, hl with | [_, _, _], _ => rfl
    d_flanks := def_mk X G a2 l2 c2 k2 fun _ _ _ _ _ _ us hl => match us, hl with | [_, _], _ => rfl
    d_is_flanked := def_mk X G a3 l3 c3 k3 fun _ _ _ _ _ _ us hl => match us, hl with | [_, _], _ => rfl
    d_held_in := def_mk X G a4 l4 c4 k4 fun _ _ _ _ _ _ us hl => match us, hl with | [_], _ => rfl
    d_ready_in := def_mk X G a5 l5 c5 k5 fun _ _ _ _ _ _ us hl => match us, hl with | [_], _ => rfl
    d_with_turned := def_mk X G a6 l6 c6 k6 fun _ _ _ _ _ _ us hl => match us, hl with | [_, _], _ => rfl
    d_swings_in := def_mk X G a7 l7 c7 k7 fun _ _ _ _ _ _ us hl => match us, hl with | [_], _ => rfl
    d_is_cells := def_mk X G a8 l8 c8 k8 fun _ _ _ _ _ _ us hl => match us, hl with | [_, _], _ => rfl
    d_need_line := def_mk X G a9 l9 c9 k9 fun _ _ _ _ _ _ us hl => match us, hl with | [_], _ => rfl
    d_is_wish := def_mk X G a10 l10 c10 k10 fun _ _ _ _ _ _ us hl => match us, hl with | [_, _], _ => rfl
    d_need_wish := def_mk X G a11 l11 c11 k11 fun _ _ _ _ _ _ us hl => match us, hl with | [_, _], _ => rfl
    d_choices := def_mk X G a12 l12 c12 k12 fun _ _ _ _ _ _ us hl => match us, hl with | [_, _, _], _ => rfl
    d_is_going := def_mk X G a13 l13 c13 k13 fun _ _ _ _ _ _ us hl => match us, hl with | [_, _, _, _], _ => rfl
    d_is_closed := def_mk X G a14 l14 c14 k14 fun _ _ _ _ _ _ us hl => match us, hl with | [_, _, _, _], _ => rfl
    d_sets_of := def_mk X G a15 l15 c15 k15 fun _ _ _ _ _ _ us hl => match us, hl with | [_, _, _, _], _ => rfl
    d_costs_of := def_mk X G a16 l16 c16 k16 fun _ _ _ _ _ _ us hl => match us, hl with | [_, _, _, _, _], _ => rfl
    d_stretches_in := def_mk X G a17 l17 c17 k17 fun _ _ _ _ _ _ us hl => match us, hl with | [_], _ => rfl
    d_insides := def_mk X G a18 l18 c18 k18 fun _ _ _ _ _ _ us hl => match us, hl with | [_], _ => rfl
    d_paths_in := def_mk X G a19 l19 c19 k19 fun _ _ _ _ _ _ us hl => match us, hl with | [_], _ => rfl
    d_wished_ends := def_mk X G a20 l20 c20 k20 fun _ _ _ _ _ _ us hl => match us, hl with | [_, _], _ => rfl
    d_wished_end := def_mk X G a21 l21 c21 k21 fun _ _ _ _ _ _ us hl => match us, hl with | [_, _], _ => rfl
    d_fewest_to := def_mk X G a22 l22 c22 k22 fun _ _ _ _ _ _ us hl => match us, hl with | [_, _], _ => rfl
    d_most_to := def_mk X G a23 l23 c23 k23 fun _ _ _ _ _ _ us hl => match us, hl with | [_, _], _ => rfl
    d__law_held := def_mk X G a24 l24 c24 k24 fun _ _ _ _ _ _ us hl => match us, hl with | [_], _ => rfl
    d__law_ready := def_mk X G a25 l25 c25 k25 fun _ _ _ _ _ _ us hl => match us, hl with | [_], _ => rfl
    d__law_still := def_mk X G a26 l26 c26 k26 fun _ _ _ _ _ _ us hl => match us, hl with | [_, _], _ => rfl
    d__law_fits_wish := def_mk X G a27 l27 c27 k27 fun _ _ _ _ _ _ us hl => match us, hl with | [_, _], _ => rfl
    d__law_singles := def_mk X G a28 l28 c28 k28 fun _ _ _ _ _ _ us hl => match us, hl with | [_], _ => rfl
    d__law_ends := def_mk X G a29 l29 c29 k29 fun _ _ _ _ _ _ us hl => match us, hl with | [_], _ => rfl
    d__law_alike := def_mk X G a30 l30 c30 k30 fun _ _ _ _ _ _ us hl => match us, hl with | [_, _], _ => rfl
    d__law_taken := def_mk X G a31 l31 c31 k31 fun _ _ _ _ _ _ us hl => match us, hl with | [_, _], _ => rfl
    d__law_pick := def_mk X G a32 l32 c32 k32 fun _ _ _ _ _ _ us hl => match us, hl with | [_, _], _ => rfl
    d__law_line := def_mk X G a33 l33 c33 k33 fun _ _ _ _ _ _ us hl => match us, hl with | [_, _, _], _ => rfl
    d__law_wish := def_mk X G a34 l34 c34 k34 fun _ _ _ _ _ _ us hl => match us, hl with | [_, _, _], _ => rfl
    lots := ⟨A, {
      cl := ⟨pg, hd, po, sa⟩
      n1 := n1
      n2 := n2
      n3 := n3
      n4 := n4
      n5 := n5
      n6 := n6
      nm := PySem.W.mg_of X G aC
      ini := init_mk mk kc a41 i41 l41 c41 k41
      m_still := meth_mk a35 i35 l35 c35 k35 fun _ _ _ _ _ _ us hl => match us, hl with | [_], _ => rfl
      m_costs := meth_mk a36 i36 l36 c36 k36 fun _ _ _ _ _ _ us hl => match us, hl with | [_, _], _ => rfl
      m_count := meth_mk a37 i37 l37 c37 k37 fun _ _ _ _ _ _ us hl => match us, hl with | [_], _ => rfl
      m_outer := meth_mk a38 i38 l38 c38 k38 fun _ _ _ _ _ _ us hl => match us, hl with | [_, _], _ => rfl
      m_best := meth_mk a39 i39 l39 c39 k39 fun _ _ _ _ _ _ us hl => match us, hl with | [_, _], _ => rfl
      m_colours := meth_mk a40 i40 l40 c40 k40 fun _ _ _ _ _ _ us hl => match us, hl with | [_, _, _], _ => rfl
    }⟩
    c_MOST_CELLS := ⟨t1, PySem.W.mg_of X G q1⟩
    c_MOST_COLOUR := ⟨t2, PySem.W.mg_of X G q2⟩
    c_LEAST_RING := ⟨t3, PySem.W.mg_of X G q3⟩
    b_len := PySem.W.mg_none_of X G z1
    b_range := PySem.W.mg_none_of X G z2
    b_isinstance := PySem.W.mg_none_of X G z3
    b_int := PySem.W.mg_none_of X G z4
    b_bool := PySem.W.mg_none_of X G z5
    b_tuple := PySem.W.mg_none_of X G z6
    b_list := PySem.W.mg_none_of X G z7
    b_str := PySem.W.mg_none_of X G z8
    b_sorted := PySem.W.mg_none_of X G z9
    b_set := PySem.W.mg_none_of X G z10
    b_sum := PySem.W.mg_none_of X G z11
    b_min := PySem.W.mg_none_of X G z12
    b_max := PySem.W.mg_none_of X G z13
    b_zip := PySem.W.mg_none_of X G z14
    b_dict := PySem.W.mg_none_of X G z15
    b_enumerate := PySem.W.mg_none_of X G z16
  }
  exact ⟨PySem.W.fnOf "law" "law" (defArgs sLaw) (defBody sLaw) (defScope sLaw) .none kV42 dc42 pm42 an42 cd42 ct42, fun s v => .of_eq rfl, fun base _ _ => law_all T (fun_mk (st := sLaw) l42 c42 k42)⟩
end FT
/-! text FINAL -/
open PySem PySem.W  PyProof.Rows
set_option maxRecDepth 100000  in
set_option maxHeartbeats 0 in
theorem PySem.Challenge.cw_flankturns_k34_whole_wished_ends_holds : PySem.Challenge.rw_flankturns_k34_whole_wished_ends.Holds := by
  w_on; o_law; k_head; (case hw =>  w_witness2)
  k_fill
  refine L2.walk_of (l := PySem.Challenge.rw_flankturns_k34_whole_wished_ends) (n := 63) (k := 11) (x := "_law_script") (CX := fun _ => L2.CX0) (sp := fun w => FT.spLaw _) rfl (by decide) rfl ⟨rfl, by decide, by decide⟩ (fun w h Y => PySem.W.kIn_of Y) ?F (fun _ _ a ns hl _ hS => ⟨a, ns, rfl, hS, hl, fun _ => rfl⟩) (fun _ _ _ _ _ h => h)
  case F =>
    intro w mg fa h KX G hmg
    refine' FT.all_mk KX G hmg ?a1 ?l1 ?c1 ?k1 ?a2 ?l2 ?c2 ?k2 ?a3 ?l3 ?c3 ?k3 ?a4 ?l4 ?c4 ?k4 ?a5 ?l5 ?c5 ?k5 ?a6 ?l6 ?c6 ?k6 ?a7 ?l7 ?c7 ?k7 ?a8 ?l8 ?c8 ?k8 ?a9 ?l9 ?c9 ?k9 ?a10 ?l10 ?c10 ?k10 ?a11 ?l11 ?c11 ?k11 ?a12 ?l12 ?c12 ?k12 ?a13 ?l13 ?c13 ?k13 ?a14 ?l14 ?c14 ?k14 ?a15 ?l15 ?c15 ?k15 ?a16 ?l16 ?c16 ?k16 ?a17 ?l17 ?c17 ?k17 ?a18 ?l18 ?c18 ?k18 ?a19 ?l19 ?c19 ?k19 ?a20 ?l20 ?c20 ?k20 ?a21 ?l21 ?c21 ?k21 ?a22 ?l22 ?c22 ?k22 ?a23 ?l23 ?c23 ?k23 ?a24 ?l24 ?c24 ?k24 ?a25 ?l25 ?c25 ?k25 ?a26 ?l26 ?c26 ?k26 ?a27 ?l27 ?c27 ?k27 ?a28 ?l28 ?c28 ?k28 ?a29 ?l29 ?c29 ?k29 ?a30 ?l30 ?c30 ?k30 ?a31 ?l31 ?c31 ?k31 ?a32 ?l32 ?c32 ?k32 ?a33 ?l33 ?c33 ?k33 ?a34 ?l34 ?c34 ?k34 ?a35 ?i35 ?l35 ?c35 ?k35 ?a36 ?i36 ?l36 ?c36 ?k36 ?a37 ?i37 ?l37 ?c37 ?k37 ?a38 ?i38 ?l38 ?c38 ?k38 ?a39 ?i39 ?l39 ?c39 ?k39 ?a40 ?i40 ?l40 ?c40 ?k40 ?a41 ?i41 ?l41 ?c41 ?k41 ?a42 ?l42 ?c42 ?k42 ?aC ?pg ?hd ?po ?sa ?mk ?kc ?n1 ?n2 ?n3 ?n4 ?n5 ?n6 ?q1 ?q2 ?q3 ?z1 ?z2 ?z3 ?z4 ?z5 ?z6 ?z7 ?z8 ?z9 ?z10 ?z11 ?z12 ?z13 ?z14 ?z15 ?z16
    (case aC => k_is); (case pg => k_is); (case hd => k_is); (case po => k_is); (case sa => k_is); (case mk => k_is); (case kc => k_is); (case n1 => k_is); (case n2 => k_is); (case n3 => k_is); (case n4 => k_is); (case n5 => k_is); (case n6 => k_is); (case q1 => k_is); (case q2 => k_is); (case q3 => k_is); (case z1 => k_is); (case z2 => k_is); (case z3 => k_is); (case z4 => k_is); (case z5 => k_is); (case z6 => k_is); (case z7 => k_is); (case z8 => k_is); (case z9 => k_is); (case z10 => k_is); (case z11 => k_is); (case z12 => k_is); (case z13 => k_is); (case z14 => k_is); (case z15 => k_is); (case z16 => k_is); (case a1 => k_is); (case l1 => k_is); (case c1 => k_is); (case k1 => k_is); (case a2 => k_is)
    (case l2 => k_is); (case c2 => k_is); (case k2 => k_is); (case a3 => k_is); (case l3 => k_is); (case c3 => k_is); (case k3 => k_is); (case a4 => k_is); (case l4 => k_is); (case c4 => k_is); (case k4 => k_is); (case a5 => k_is); (case l5 => k_is); (case c5 => k_is); (case k5 => k_is); (case a6 => k_is); (case l6 => k_is); (case c6 => k_is); (case k6 => k_is); (case a7 => k_is); (case l7 => k_is); (case c7 => k_is); (case k7 => k_is); (case a8 => k_is); (case l8 => k_is); (case c8 => k_is); (case k8 => k_is); (case a9 => k_is); (case l9 => k_is); (case c9 => k_is); (case k9 => k_is); (case a10 => k_is); (case l10 => k_is); (case c10 => k_is); (case k10 => k_is); (case a11 => k_is); (case l11 => k_is)
    (case c11 => k_is); (case k11 => k_is); (case a12 => k_is); (case l12 => k_is); (case c12 => k_is); (case k12 => k_is); (case a13 => k_is); (case l13 => k_is); (case c13 => k_is); (case k13 => k_is); (case a14 => k_is); (case l14 => k_is); (case c14 => k_is); (case k14 => k_is); (case a15 => k_is); (case l15 => k_is); (case c15 => k_is); (case k15 => k_is); (case a16 => k_is); (case l16 => k_is); (case c16 => k_is); (case k16 => k_is); (case a17 => k_is); (case l17 => k_is); (case c17 => k_is); (case k17 => k_is); (case a18 => k_is); (case l18 => k_is); (case c18 => k_is); (case k18 => k_is); (case a19 => k_is); (case l19 => k_is); (case c19 => k_is); (case k19 => k_is); (case a20 => k_is)
    (case l20 => k_is); (case c20 => k_is); (case k20 => k_is); (case a21 => k_is); (case l21 => k_is); (case c21 => k_is); (case k21 => k_is); (case a22 => k_is); (case l22 => k_is); (case c22 => k_is); (case k22 => k_is); (case a23 => k_is); (case l23 => k_is); (case c23 => k_is); (case k23 => k_is); (case a24 => k_is); (case l24 => k_is); (case c24 => k_is); (case k24 => k_is); (case a25 => k_is); (case l25 => k_is); (case c25 => k_is); (case k25 => k_is); (case a26 => k_is); (case l26 => k_is); (case c26 => k_is); (case k26 => k_is); (case a27 => k_is); (case l27 => k_is); (case c27 => k_is); (case k27 => k_is); (case a28 => k_is); (case l28 => k_is); (case c28 => k_is); (case k28 => k_is)
    (case a29 => k_is); (case l29 => k_is); (case c29 => k_is); (case k29 => k_is); (case a30 => k_is); (case l30 => k_is); (case c30 => k_is); (case k30 => k_is); (case a31 => k_is); (case l31 => k_is); (case c31 => k_is); (case k31 => k_is); (case a32 => k_is); (case l32 => k_is); (case c32 => k_is); (case k32 => k_is); (case a33 => k_is); (case l33 => k_is); (case c33 => k_is); (case k33 => k_is); (case a34 => k_is); (case l34 => k_is); (case c34 => k_is); (case k34 => k_is); (case a35 => k_is); (case i35 => k_is); (case l35 => k_is); (case c35 => k_is); (case k35 => k_is); (case a36 => k_is); (case i36 => k_is); (case l36 => k_is); (case c36 => k_is); (case k36 => k_is); (case a37 => k_is)
    (case i37 => k_is); (case l37 => k_is); (case c37 => k_is); (case k37 => k_is); (case a38 => k_is); (case i38 => k_is); (case l38 => k_is); (case c38 => k_is); (case k38 => k_is); (case a39 => k_is); (case i39 => k_is); (case l39 => k_is); (case c39 => k_is); (case k39 => k_is); (case a40 => k_is); (case i40 => k_is); (case l40 => k_is); (case c40 => k_is); (case k40 => k_is); (case a41 => k_is); (case i41 => k_is); (case l41 => k_is); (case c41 => k_is); (case k41 => k_is); (case a42 => k_is); (case l42 => k_is); (case c42 => k_is); (case k42 => k_is)
#print axioms PySem.Challenge.cw_flankturns_k34_whole_wished_ends_holds
