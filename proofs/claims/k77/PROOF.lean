import PyProof.Rows.All
import Wide.All
import OpenK.AllK
import Wide.FinOn
import KE.DataFind
import HandS.ForMost
import HandS.Walk
import HandS.Wide
import HandS.Deep
import HandS.IsInst
import HandS.Flow
import HandS.Rev
import HandS.Conv
import HandS.TupLen
import HandS.More
import HandS.SortInts
import HandS.SetFor
import HandS.TupSets
import HandS.SetKeys
import HandS.Records
import HandS.Rev
import HandS.RevTup
import PyProof.ListNew
import KE.SortData
import KE.DataCmp
import KE.DataMinMax
import HandS.More
import KE.KDictWalk
import KE.KDictSum
import HandS.Strs
import HandS.DictEq
import PyProof.P3Eq
import HandS.Keys
import KE.KDictCopyH
import HandS.TupSets
import HandS.Exc
import HandS.ExcOwn
import HandS.WordsExc
import HandS.TryOnly
import KE.KExcIs
import HandS.ExcField
import HandS.ExcInit
import KE.KeyNested
import KE.KDictDisplayH
import HandS.WordsDict
import PyProof.SetRoads
import HandS.Finally
import HandS.Replace
import HandS.Text
import HandS.TryMany
import KE.SortKeyHeap
import HandS.SortKw
import HandS.Defaults
import HandS.Head0
import HandS.Head1
import HandS.Head2
import HandS.HeadEnd
import HandS.HeadHook1
import HandS.HeadHook2
import KE.KStateDown
import PySem.Challenge.RW_knotwise_k77_lengths_and_sizes
set_option maxHeartbeats 0
set_option Elab.async false
set_option linter.all false
set_option maxRecDepth 100000
set_option autoImplicit false
namespace Mir
open PySem PySem.Spec L2

/-! ### data -/
inductive D where
  | non | bl (b : Bool) | int (i : Int) | str (x : Str)
  | lst (xs : List D) | tup (xs : List D)
  | dk (ks : List Key) (ds : List D) | dt (ks : List (List Key)) (ds : List D)
  | ob (c : Str) (C : Addr) (ns : List Str) (ds : List D) | exn (c : Str) (C : Addr) (ns : List Str) (ds : List D)
  | dn (ks : List NestedKey) (ds : List D)
mutual
/-- a key's data -/
def kN : NestedKey → D
  | .none => .non | .num i => .int i | .text x => .str x | .tup ks => .tup (kNs ks)
def kNs : List NestedKey → List D
  | [] => []
  | k :: ks => kN k :: kNs ks
end
/-- an exception's object at a -/
def ExH (cls : Value) (d : Option Addr) (a : Addr) : HO := .ext fun h => ∃ oe vs, h.get? a = some oe ∧ Zc cls d oe ∧ oe.data = .fields vs
/-! a key whose hash is the same in all worlds: no texts in it -/
mutual
def plainK : NestedKey → Bool
  | .none => true | .num _ => true | .text _ => false | .tup ks => plainKs ks
def plainKs : List NestedKey → Bool
  | [] => true
  | k :: ks => plainK k && plainKs ks
end
/-- the dict at a: its keys, their addresses, its values -/
def DnH (a : Addr) (es : List (NestedKey × Addr × V)) : HO := .ext fun h => es.length ≤ sizeLine ∧ (a == sysModules) = false ∧ ∃ (xs : List (NestedKey × Addr × Value)) (o : Obj) (des : Array DictEntry) (ep : Nat),
  Paired (fun (p : NestedKey × Addr × V) (q : NestedKey × Addr × Value) => p.1 = q.1 ∧ p.2.1 = q.2.1 ∧ RelV p.2.2 q.2.2) es xs ∧ h.get? a = some o ∧ o.ExactDict ∧ o.data = .dict des ep ∧ ∀ w : World, des.toList = xs.map (fun x => (⟨x.1.hash w, .ref x.2.1, x.2.2⟩ : DictEntry))
/-- what is asked of such a dict's keys -/
def NkOk (hs ks : List NestedKey) : Prop := hs = ks ∧ ks.Nodup ∧ ∀ k ∈ ks, k.depth ≤ 8 ∧ plainK k = true
/-- what is shared wherever it stands -/
def isIm : HO → Bool
  | .tup _ => true
  | .ins _ _ _ => true
  | _ => false

mutual
def D.imm : D → Bool
  | .non => true | .bl _ => true | .int _ => true | .str _ => true
  | .lst _ => false | .tup xs => immAll xs | .dk _ _ => false | .dt _ _ => false
  | .ob _ _ _ ds => immAll ds | .exn _ _ _ _ => false | .dn _ _ => false
def immAll : List D → Bool
  | [] => true
  | d :: ds => d.imm && immAll ds
end
theorem immAll_iff : ∀ {ds : List D}, immAll ds = true ↔ ∀ d ∈ ds, d.imm = true
  | [] => by simp [immAll]
  | d :: ds => by simp [immAll, immAll_iff (ds := ds)]

/-! ### what a value stands for, over a heap of what is shared -/
mutual
inductive Rp (G : Hp) : V → D → Prop
  | non : Rp G .non .non
  | bl (b : Bool) : Rp G (.bl b) (.bl b)
  | int (i : Int) : Rp G (.int i) (.int i)
  | str (x : Str) : Rp G (.str x) (.str x)
  | lst {a : Addr} {vs : List V} {ds : List D} : G a = some (.lst vs) → RpAll G vs ds → Rp G (.ref a) (.lst ds)
  | tup {a : Addr} {vs : List V} {ds : List D} : G a = some (.tup vs) → RpAll G vs ds → Rp G (.ref a) (.tup ds)
  | dk {a : Addr} {kvs : List (Key × V)} {ks : List Key} {ds : List D} : G a = some (.dK kvs) → kvs.map (·.1) = ks → RpAll G (kvs.map (·.2)) ds → Rp G (.ref a) (.dk ks ds)
  | dt {a : Addr} {kvs : List (List Key × V)} {ks : List (List Key)} {ds : List D} : G a = some (.dT kvs) → kvs.map (·.1) = ks → RpAll G (kvs.map (·.2)) ds → Rp G (.ref a) (.dt ks ds)
  | ob {a C dx : Addr} {kvs : List (Str × V)} {ns : List Str} {ds : List D} {c : Str} : G a = some (.ins C dx kvs) → kvs.map (·.1) = ns → RpAll G (kvs.map (·.2)) ds → Rp G (.ref a) (.ob c C ns ds)
  | exn0 {a C : Addr} {c : Str} : G a = some (ExH (.ref C) none a) → Rp G (.ref a) (.exn c C [] [])
  | exn {a C dx : Addr} {kvs : List (Str × V)} {ns : List Str} {ds : List D} {c : Str} : G a = some (ExH (.ref C) (some dx) a) → G dx = some (.xd kvs) → kvs.map (·.1) = ns → RpAll G (kvs.map (·.2)) ds → Rp G (.ref a) (.exn c C ns ds)
  | dn {a : Addr} {es : List (NestedKey × Addr × V)} {ks : List NestedKey} {ds : List D} : G a = some (DnH a es) → NkOk (es.map (·.1)) ks → RpAll G (es.map fun e => V.ref e.2.1) (kNs ks) → RpAll G (es.map (·.2.2)) ds → Rp G (.ref a) (.dn ks ds)
inductive RpAll (G : Hp) : List V → List D → Prop
  | nil : RpAll G [] []
  | cons {v : V} {vs : List V} {d : D} {ds : List D} : Rp G v d → RpAll G vs ds → RpAll G (v :: vs) (d :: ds)
end

mutual
theorem Rp.mono {G G' : Hp} (k : ∀ a o, G a = some o → G' a = some o) : ∀ {v : V} {d : D}, Rp G v d → Rp G' v d
  | _, _, .non => .non
  | _, _, .bl b => .bl b
  | _, _, .int i => .int i
  | _, _, .str x => .str x
  | _, _, .lst h r => .lst (k _ _ h) (RpAll.mono k r)
  | _, _, .tup h r => .tup (k _ _ h) (RpAll.mono k r)
  | _, _, .dk h e r => .dk (k _ _ h) e (RpAll.mono k r)
  | _, _, .dt h e r => .dt (k _ _ h) e (RpAll.mono k r)
  | _, _, .ob h e r => .ob (k _ _ h) e (RpAll.mono k r)
  | _, _, .exn0 h => .exn0 (k _ _ h)
  | _, _, .exn h1 h2 e r => .exn (k _ _ h1) (k _ _ h2) e (RpAll.mono k r)
  | _, _, .dn h n q r => .dn (k _ _ h) n (RpAll.mono k q) (RpAll.mono k r)
theorem RpAll.mono {G G' : Hp} (k : ∀ a o, G a = some o → G' a = some o) : ∀ {vs : List V} {ds : List D}, RpAll G vs ds → RpAll G' vs ds
  | _, _, .nil => .nil
  | _, _, .cons h r => .cons (Rp.mono k h) (RpAll.mono k r)
end
/-! the tuples are the same in both heaps: what holds no list, no dict stands in both -/
mutual
theorem Rp.immTo {G G' : Hp} (k : ∀ a u, isIm u = true → G a = some u → G' a = some u) : ∀ {v : V} {d : D}, Rp G v d → d.imm = true → Rp G' v d
  | _, _, .non, _ => .non
  | _, _, .bl b, _ => .bl b
  | _, _, .int i, _ => .int i
  | _, _, .str x, _ => .str x
  | _, _, .lst _ _, h => by simp [D.imm] at h
  | _, _, .tup h r, e => .tup (k _ _ rfl h) (RpAll.immTo k r (by simpa [D.imm] using e))
  | _, _, .dk _ _ _, h => by simp [D.imm] at h
  | _, _, .dt _ _ _, h => by simp [D.imm] at h
  | _, _, .ob h e1 r, e => .ob (k _ _ rfl h) e1 (RpAll.immTo k r (by simpa [D.imm] using e))
  | _, _, .exn0 _, h => by simp [D.imm] at h
  | _, _, .exn _ _ _ _, h => by simp [D.imm] at h
  | _, _, .dn _ _ _ _, h => by simp [D.imm] at h
theorem RpAll.immTo {G G' : Hp} (k : ∀ a u, isIm u = true → G a = some u → G' a = some u) : ∀ {vs : List V} {ds : List D}, RpAll G vs ds → immAll ds = true → RpAll G' vs ds
  | _, _, .nil, _ => .nil
  | _, _, .cons h r, e => by
    rw [immAll, Bool.and_eq_true] at e
    exact .cons (Rp.immTo k h e.1) (RpAll.immTo k r e.2)
end
theorem RpAll.length {G : Hp} : ∀ {vs : List V} {ds : List D}, RpAll G vs ds → vs.length = ds.length
  | _, _, .nil => rfl
  | _, _, .cons _ r => by simp [r.length]
theorem RpAll.get {G : Hp} : ∀ {vs : List V} {ds : List D} {i : Nat} {d : D}, RpAll G vs ds → ds[i]? = some d → ∃ v, vs[i]? = some v ∧ Rp G v d
  | _, _, _, _, .nil, e => by simp at e
  | _, _, 0, _, .cons h _, e => by simp at e; subst e; exact ⟨_, rfl, h⟩
  | _, _, i + 1, d, .cons _ r, e => by
    obtain ⟨v, h1, h2⟩ := RpAll.get (i := i) (d := d) r (by simpa using e)
    exact ⟨v, by simpa using h1, h2⟩
theorem RpAll.get' {G : Hp} : ∀ {vs : List V} {ds : List D} {i : Nat} {v : V}, RpAll G vs ds → vs[i]? = some v → ∃ d, ds[i]? = some d ∧ Rp G v d
  | _, _, _, _, .nil, e => by simp at e
  | _, _, 0, _, .cons h _, e => by simp at e; subst e; exact ⟨_, rfl, h⟩
  | _, _, i + 1, d, .cons _ r, e => by
    obtain ⟨v, h1, h2⟩ := RpAll.get' (i := i) (v := d) r (by simpa using e)
    exact ⟨v, by simpa using h1, h2⟩
theorem RpAll.append {G : Hp} : ∀ {vs ws : List V} {ds es : List D}, RpAll G vs ds → RpAll G ws es → RpAll G (vs ++ ws) (ds ++ es)
  | _, _, _, _, .nil, s => s
  | _, _, _, _, .cons h r, s => .cons h (RpAll.append r s)
theorem RpAll.take {G : Hp} : ∀ {vs : List V} {ds : List D} (n : Nat), RpAll G vs ds → RpAll G (vs.take n) (ds.take n)
  | _, _, 0, _ => .nil
  | _, _, _ + 1, .nil => .nil
  | _, _, n + 1, .cons h r => .cons h (RpAll.take n r)
theorem RpAll.drop {G : Hp} : ∀ {vs : List V} {ds : List D} (n : Nat), RpAll G vs ds → RpAll G (vs.drop n) (ds.drop n)
  | _, _, 0, r => r
  | _, _, _ + 1, .nil => .nil
  | _, _, n + 1, .cons _ r => RpAll.drop n r
theorem RpAll.set {G : Hp} : ∀ {vs : List V} {ds : List D} (i : Nat) {v : V} {d : D}, RpAll G vs ds → Rp G v d → RpAll G (vs.set i v) (ds.set i d)
  | _, _, _, _, _, .nil, _ => .nil
  | _, _, 0, _, _, .cons _ r, h => .cons h r
  | _, _, i + 1, _, _, .cons q r, h => .cons q (RpAll.set i r h)

/-- a heap without its locks -/
def unf : HO → HO
  | .frz _ u => u
  | o => o
def view (H : Hp) : Hp := fun a => (H a).map unf
theorem view_rd {H : Hp} {a : Addr} {u : HO} (h : view H a = some u) : Rd H a u := by
  unfold view at h
  cases e : H a with
  | none => rw [e] at h; cases h
  | some o =>
    rw [e] at h
    have q : unf o = u := Option.some.inj h
    cases o with
    | frz ob w => exact .inr ⟨ob, by rw [e]; exact congrArg some (congrArg _ q)⟩
    | _ => exact .inl (by rw [e]; exact congrArg some q)
theorem view_ext {H H' : Hp} (k : ∀ a o, H a = some o → H' a = some o) : ∀ a o, view H a = some o → view H' a = some o := fun a o h => by
  unfold view at h ⊢
  cases e : H a with
  | none => rw [e] at h; cases h
  | some u => rw [e] at h; rw [k a u e]; exact h

/-! ### what is owned: Od k: the lists and dicts of the first k levels stand at the addresses of the footprint and nowhere else -/
mutual
inductive Od (G H : Hp) : Nat → List Addr → V → D → Prop
  | sh {k : Nat} {v : V} {d : D} : (k = 0 ∨ d.imm = true) → Rp G v d → Od G H k [] v d
  | lst {k : Nat} {a : Addr} {vs : List V} {ds : List D} {f : List Addr} : H a = some (.lst vs) → OdAll G H k f vs ds → Od G H (k + 1) (a :: f) (.ref a) (.lst ds)
  | tup {k : Nat} {a : Addr} {vs : List V} {ds : List D} {f : List Addr} : H a = some (.tup vs) → OdAll G H k f vs ds → Od G H (k + 1) f (.ref a) (.tup ds)
  | dk {k : Nat} {a : Addr} {kvs : List (Key × V)} {ks : List Key} {ds : List D} {f : List Addr} : H a = some (.dK kvs) → kvs.map (·.1) = ks → OdAll G H k f (kvs.map (·.2)) ds → Od G H (k + 1) (a :: f) (.ref a) (.dk ks ds)
  | dt {k : Nat} {a : Addr} {kvs : List (List Key × V)} {ks : List (List Key)} {ds : List D} {f : List Addr} : H a = some (.dT kvs) → kvs.map (·.1) = ks → OdAll G H k f (kvs.map (·.2)) ds → Od G H (k + 1) (a :: f) (.ref a) (.dt ks ds)
  | dn {k : Nat} {a : Addr} {es : List (NestedKey × Addr × V)} {ks : List NestedKey} {ds : List D} {f : List Addr} : H a = some (DnH a es) → NkOk (es.map (·.1)) ks → RpAll G (es.map fun e => V.ref e.2.1) (kNs ks) → OdAll G H k f (es.map (·.2.2)) ds → Od G H (k + 1) (a :: f) (.ref a) (.dn ks ds)
inductive OdAll (G H : Hp) : Nat → List Addr → List V → List D → Prop
  | nil {k : Nat} : OdAll G H k [] [] []
  | cons {k : Nat} {f g : List Addr} {v : V} {vs : List V} {d : D} {ds : List D} : Od G H k f v d → OdAll G H k g vs ds → OdAll G H k (f ++ g) (v :: vs) (d :: ds)
end
end Mir

namespace Mir
open PySem PySem.Spec L2

mutual
theorem Od.frame {G G' H H' : Hp} (hG : ∀ a u, G a = some u → G' a = some u) : ∀ {k : Nat} {f : List Addr} {v : V} {d : D}, (∀ a u, H a = some u → (a ∈ f ∨ ∃ xs, u = .tup xs) → H' a = some u) → Od G H k f v d → Od G' H' k f v d
  | _, _, _, _, _, .sh h r => .sh h (r.mono hG)
  | _, _, _, _, hH, .lst h r => .lst (hH _ _ h (.inl List.mem_cons_self)) (OdAll.frame hG (fun a u e q => hH a u e (q.imp (List.mem_cons_of_mem _) id)) r)
  | _, _, _, _, hH, .tup h r => .tup (hH _ _ h (.inr ⟨_, rfl⟩)) (OdAll.frame hG hH r)
  | _, _, _, _, hH, .dk h e r => .dk (hH _ _ h (.inl List.mem_cons_self)) e (OdAll.frame hG (fun a u e q => hH a u e (q.imp (List.mem_cons_of_mem _) id)) r)
  | _, _, _, _, hH, .dt h e r => .dt (hH _ _ h (.inl List.mem_cons_self)) e (OdAll.frame hG (fun a u e q => hH a u e (q.imp (List.mem_cons_of_mem _) id)) r)
  | _, _, _, _, hH, .dn h n q r => .dn (hH _ _ h (.inl List.mem_cons_self)) n (q.mono hG) (OdAll.frame hG (fun a u e q => hH a u e (q.imp (List.mem_cons_of_mem _) id)) r)
theorem OdAll.frame {G G' H H' : Hp} (hG : ∀ a u, G a = some u → G' a = some u) : ∀ {k : Nat} {f : List Addr} {vs : List V} {ds : List D}, (∀ a u, H a = some u → (a ∈ f ∨ ∃ xs, u = .tup xs) → H' a = some u) → OdAll G H k f vs ds → OdAll G' H' k f vs ds
  | _, _, _, _, _, .nil => .nil
  | _, _, _, _, hH, .cons h r => .cons (Od.frame hG (fun a u e q => hH a u e (q.imp (List.mem_append_left _) id)) h) (OdAll.frame hG (fun a u e q => hH a u e (q.imp (List.mem_append_right _) id)) r)
end
mutual
theorem Od.frozen {G G' H : Hp} (hG : ∀ a u, G a = some u → G' a = some u) (hT : ∀ a xs, H a = some (.tup xs) → G' a = some (.tup xs)) : ∀ {k : Nat} {f : List Addr} {v : V} {d : D}, (∀ a u, H a = some u → a ∈ f → G' a = some u) → Od G H k f v d → Rp G' v d
  | _, _, _, _, _, .sh _ r => r.mono hG
  | _, _, _, _, hH, .lst h r => .lst (hH _ _ h List.mem_cons_self) (OdAll.frozen hG hT (fun a u e q => hH a u e (List.mem_cons_of_mem _ q)) r)
  | _, _, _, _, hH, .tup h r => .tup (hT _ _ h) (OdAll.frozen hG hT hH r)
  | _, _, _, _, hH, .dk h e r => .dk (hH _ _ h List.mem_cons_self) e (OdAll.frozen hG hT (fun a u e q => hH a u e (List.mem_cons_of_mem _ q)) r)
  | _, _, _, _, hH, .dt h e r => .dt (hH _ _ h List.mem_cons_self) e (OdAll.frozen hG hT (fun a u e q => hH a u e (List.mem_cons_of_mem _ q)) r)
  | _, _, _, _, hH, .dn h n q r => .dn (hH _ _ h List.mem_cons_self) n (q.mono hG) (OdAll.frozen hG hT (fun a u e q => hH a u e (List.mem_cons_of_mem _ q)) r)
theorem OdAll.frozen {G G' H : Hp} (hG : ∀ a u, G a = some u → G' a = some u) (hT : ∀ a xs, H a = some (.tup xs) → G' a = some (.tup xs)) : ∀ {k : Nat} {f : List Addr} {vs : List V} {ds : List D}, (∀ a u, H a = some u → a ∈ f → G' a = some u) → OdAll G H k f vs ds → RpAll G' vs ds
  | _, _, _, _, _, .nil => .nil
  | _, _, _, _, hH, .cons h r => .cons (Od.frozen hG hT (fun a u e q => hH a u e (List.mem_append_left _ q)) h) (OdAll.frozen hG hT (fun a u e q => hH a u e (List.mem_append_right _ q)) r)
end
/-- what is owned is a list or a dict -/
def isMu : HO → Prop
  | .lst _ => True
  | .dK _ => True
  | .dT _ => True
  | .ext _ => True
  | _ => False
theorem im_mu {u : HO} (h : isIm u = true) (m : isMu u) : False := by cases u <;> first | exact m.elim | cases h
theorem isMu.unf {u : HO} (h : isMu u) : unf u = u := by cases u <;> first | rfl | exact h.elim
mutual
theorem Od.mu {G H : Hp} : ∀ {k : Nat} {f : List Addr} {v : V} {d : D}, Od G H k f v d → ∀ p ∈ f, ∃ u, H p = some u ∧ isMu u
  | _, _, _, _, .sh _ _, p, hp => by cases hp
  | _, _, _, _, .lst h r, p, hp => by
    rcases List.mem_cons.mp hp with rfl | hp
    · exact ⟨_, h, trivial⟩
    · exact OdAll.mu r p hp
  | _, _, _, _, .tup h r, p, hp => OdAll.mu r p hp
  | _, _, _, _, .dk h _ r, p, hp => by
    rcases List.mem_cons.mp hp with rfl | hp
    · exact ⟨_, h, trivial⟩
    · exact OdAll.mu r p hp
  | _, _, _, _, .dt h _ r, p, hp => by
    rcases List.mem_cons.mp hp with rfl | hp
    · exact ⟨_, h, trivial⟩
    · exact OdAll.mu r p hp
  | _, _, _, _, .dn h _ _ r, p, hp => by
    rcases List.mem_cons.mp hp with rfl | hp
    · exact ⟨_, h, trivial⟩
    · exact OdAll.mu r p hp
theorem OdAll.mu {G H : Hp} : ∀ {k : Nat} {f : List Addr} {vs : List V} {ds : List D}, OdAll G H k f vs ds → ∀ p ∈ f, ∃ u, H p = some u ∧ isMu u
  | _, _, _, _, .nil, p, hp => by cases hp
  | _, _, _, _, .cons h r, p, hp => by
    rcases List.mem_append.mp hp with hp | hp
    · exact Od.mu h p hp
    · exact OdAll.mu r p hp
end
/-- a level's zero owns nothing -/
theorem Od.zero {G H : Hp} {f : List Addr} {v : V} {d : D} (h : Od G H 0 f v d) : f = [] ∧ Rp G v d := by
  cases h with
  | sh _ r => exact ⟨rfl, r⟩
theorem Od.of {G H : Hp} {v : V} {d : D} (r : Rp G v d) : Od G H 0 [] v d := .sh (.inl rfl) r
theorem Od.im {G H : Hp} {k : Nat} {v : V} {d : D} (r : Rp G v d) (h : d.imm = true) : Od G H k [] v d := .sh (.inr h) r

abbrev Hold := V × Nat × D
inductive HoldAll (G H : Hp) : List Hold → List Addr → Prop
  | nil : HoldAll G H [] []
  | cons {v : V} {k : Nat} {d : D} {hs : List Hold} {f g : List Addr} : Od G H k f v d → HoldAll G H hs g → HoldAll G H ((v, k, d) :: hs) (f ++ g)
theorem HoldAll.perm {G H : Hp} {hs hs' : List Hold} (p : hs.Perm hs') : ∀ {fp}, HoldAll G H hs fp → ∃ fp', HoldAll G H hs' fp' ∧ fp.Perm fp' := by
  induction p with
  | nil => intro fp h; exact ⟨fp, h, List.Perm.refl _⟩
  | cons x _ ih =>
    intro fp h
    cases h with
    | cons h1 h2 =>
      obtain ⟨g, h3, q⟩ := ih h2
      exact ⟨_, .cons h1 h3, List.Perm.append_left _ q⟩
  | swap x y l =>
    intro fp h
    cases h with
    | cons h1 h2 =>
      cases h2 with
      | @cons _ _ _ _ f2 g2 h2 h3 =>
        refine ⟨_, .cons h2 (.cons h1 h3), ?_⟩
        rw [← List.append_assoc, ← List.append_assoc]
        exact List.Perm.append_right _ List.perm_append_comm
  | trans _ _ ih1 ih2 =>
    intro fp h
    obtain ⟨g, h1, q1⟩ := ih1 h
    obtain ⟨g', h2, q2⟩ := ih2 h1
    exact ⟨g', h2, q1.trans q2⟩
theorem HoldAll.frame {G G' H H' : Hp} (hG : ∀ a u, G a = some u → G' a = some u) : ∀ {hs : List Hold} {fp : List Addr}, (∀ a u, H a = some u → (a ∈ fp ∨ ∃ xs, u = .tup xs) → H' a = some u) → HoldAll G H hs fp → HoldAll G' H' hs fp
  | _, _, _, .nil => .nil
  | _, _, hH, .cons h r => .cons (h.frame hG (fun a u e q => hH a u e (q.imp (List.mem_append_left _) id))) (HoldAll.frame hG (fun a u e q => hH a u e (q.imp (List.mem_append_right _) id)) r)
theorem HoldAll.mu {G H : Hp} : ∀ {hs : List Hold} {fp : List Addr}, HoldAll G H hs fp → ∀ p ∈ fp, ∃ u, H p = some u ∧ isMu u
  | _, _, .nil, p, hp => by cases hp
  | _, _, .cons h r, p, hp => (List.mem_append.mp hp).elim (Od.mu h p) (HoldAll.mu r p)
/-- all of one level -/
def lev (k : Nat) (vs : List V) (ds : List D) : List Hold := List.zipWith (fun v d => (v, k, d)) vs ds
theorem HoldAll.ofAll {G H : Hp} : ∀ {k : Nat} {f : List Addr} {vs : List V} {ds : List D} {hs : List Hold} {g : List Addr}, OdAll G H k f vs ds → HoldAll G H hs g → HoldAll G H (lev k vs ds ++ hs) (f ++ g)
  | _, _, _, _, _, _, .nil, s => s
  | _, _, _, _, _, _, .cons h r, s => by
    rw [List.append_assoc]
    exact HoldAll.cons h (HoldAll.ofAll r s)
theorem HoldAll.toAll {G H : Hp} : ∀ {k : Nat} {vs : List V} {ds : List D} {hs : List Hold} {fp : List Addr}, vs.length = ds.length → HoldAll G H (lev k vs ds ++ hs) fp → ∃ f g, fp = f ++ g ∧ OdAll G H k f vs ds ∧ HoldAll G H hs g
  | _, [], [], _, fp, _, h => ⟨[], fp, rfl, .nil, h⟩
  | _, [], _ :: _, _, _, e, _ => by simp at e
  | _, _ :: _, [], _, _, e, _ => by simp at e
  | k, v :: vs, d :: ds, hs, fp, e, h => by
    have h' : HoldAll G H ((v, k, d) :: (lev k vs ds ++ hs)) fp := h
    cases h' with
    | cons h1 h2 =>
      obtain ⟨f, g, rfl, h3, h4⟩ := HoldAll.toAll (by simpa using e) h2
      exact ⟨_, g, (List.append_assoc _ _ _).symm, .cons h1 h3, h4⟩

theorem set_self {α : Type} : ∀ {l : List α} {i : Nat} {x : α}, l[i]? = some x → l.set i x = l
  | [], _, _, h => by simp at h
  | y :: l, 0, x, h => by simp at h; subst h; rfl
  | y :: l, i + 1, x, h => congrArg (List.cons y) (set_self (l := l) (by simpa using h))
abbrev Env := List (Option (Nat × D))
def slots : Env → St → List Hold
  | some (k, d) :: e, some v :: s => (v, k, d) :: slots e s
  | some _ :: e, none :: s => slots e s
  | none :: e, _ :: s => slots e s
  | _, _ => []
theorem slots_take : ∀ {env : Env} {σ : St} {i : Nat} {k : Nat} {d : D} {v : V}, env[i]? = some (some (k, d)) → σ[i]? = some (some v) → (slots env σ).Perm ((v, k, d) :: slots (env.set i none) σ)
  | some _ :: e, some w :: s, 0, _, _, _, h1, h2 => by
    simp at h1 h2
    subst h1 h2
    exact List.Perm.refl _
  | some (k', d') :: e, some w :: s, i + 1, k, d, v, h1, h2 => by
    have ih := slots_take (env := e) (σ := s) (i := i) (by simpa using h1) (by simpa using h2)
    exact (List.Perm.cons _ ih).trans (List.Perm.swap _ _ _)
  | some _ :: e, none :: s, i + 1, k, d, v, h1, h2 => slots_take (env := e) (σ := s) (i := i) (by simpa using h1) (by simpa using h2)
  | none :: e, x :: s, i + 1, k, d, v, h1, h2 => by
    have ih := slots_take (env := e) (σ := s) (i := i) (by simpa using h1) (by simpa using h2)
    cases x <;> exact ih
  | none :: e, x :: s, 0, k, d, v, h1, h2 => by simp at h1
  | some _ :: e, none :: s, 0, k, d, v, h1, h2 => by simp at h2
  | [], _, _, _, _, _, h1, _ => by simp at h1
  | _ :: _, [], _, _, _, _, _, h2 => by simp at h2
theorem slots_none : ∀ {env : Env} {σ : St} {i : Nat} {x : Option V}, env[i]? = some none → slots env (σ.set i x) = slots env σ
  | none :: e, y :: s, 0, x, h => by cases x <;> cases y <;> rfl
  | some (k, d) :: e, y :: s, i + 1, x, h => by
    have ih := slots_none (env := e) (σ := s) (i := i) (x := x) (by simpa using h)
    cases y with
    | none => exact ih
    | some v => exact congrArg (List.cons _) ih
  | none :: e, y :: s, i + 1, x, h => by
    have ih := slots_none (env := e) (σ := s) (i := i) (x := x) (by simpa using h)
    cases y <;> exact ih
  | some _ :: e, y :: s, 0, x, h => by simp at h
  | [], _, _, _, h => by simp at h
  | some _ :: _, [], _, _, h => rfl
  | none :: _, [], _, _, h => rfl
/-- the slots of an env that is weaker -/
theorem slots_drop : ∀ {env : Env} {σ : St} (i : Nat), ∃ l, (slots env σ).Perm (l ++ slots (env.set i none) σ)
  | [], _, i => ⟨[], by simp⟩
  | x :: e, [], i => ⟨[], by cases i <;> cases x <;> exact List.Perm.refl _⟩
  | none :: e, y :: s, 0 => ⟨[], by cases y <;> exact List.Perm.refl _⟩
  | some (k, d) :: e, none :: s, 0 => ⟨[], List.Perm.refl _⟩
  | some (k, d) :: e, some v :: s, 0 => ⟨[(v, k, d)], List.Perm.refl _⟩
  | none :: e, y :: s, i + 1 => by
    obtain ⟨l, h⟩ := slots_drop (env := e) (σ := s) i
    exact ⟨l, by cases y <;> exact h⟩
  | some (k, d) :: e, none :: s, i + 1 => by
    obtain ⟨l, h⟩ := slots_drop (env := e) (σ := s) i
    exact ⟨l, h⟩
  | some (k, d) :: e, some v :: s, i + 1 => by
    obtain ⟨l, h⟩ := slots_drop (env := e) (σ := s) i
    exact ⟨l, (List.Perm.cons _ h).trans List.perm_middle.symm⟩

/-- where a def began: the heap, what was shared in it -/
structure Bs where
  h : Hp
  g : Hp
instance : CoeFun Bs (fun _ => Hp) := ⟨Bs.h⟩
structure Good (B : Bs) (G H : Hp) : Prop where
  bs : ∀ a o, B a = some o → H a = some o
  g0 : ∀ a, B a ≠ none → G a = B.g a
  gs : ∀ a u, G a = some u → view H a = some u
  gt : ∀ a u, isIm u = true → view H a = some u → G a = some u
  nf : ∀ a u, isIm u = true → view H a = some u → H a = some u
structure EnvOk (B : Bs) (H : Hp) (env : Env) (σ : St) (tm : List Hold) : Prop where
  ex : ∃ G fp, Good B G H ∧ HoldAll G H (slots env σ ++ tm) fp ∧ fp.Nodup ∧ ∀ p ∈ fp, B p = none ∧ G p = none
  len : env.length = σ.length
  has : ∀ (i : Nat) kd, env[i]? = some (some kd) → ∃ v, σ[i]? = some (some v)

section
variable {B : Bs} {H : Hp} {env : Env} {σ : St} {tm tm' : List Hold}
theorem EnvOk.perm (h : EnvOk B H env σ tm) (p : tm.Perm tm') : EnvOk B H env σ tm' := by
  obtain ⟨⟨G, fp, g, hs, nd, hp⟩, h2, h3⟩ := h
  obtain ⟨fp', hs', q⟩ := hs.perm (List.Perm.append_left _ p)
  exact ⟨⟨G, fp', g, hs', q.nodup_iff.mp nd, fun p hm => hp p (q.mem_iff.mpr hm)⟩, h2, h3⟩
/-- what is held no longer -/
theorem EnvOk.less {l : List Hold} (h : EnvOk B H env σ (l ++ tm)) : EnvOk B H env σ tm := by
  obtain ⟨⟨G, fp, g, hs, nd, hp⟩, h2, h3⟩ := h
  obtain ⟨fp', hs', q⟩ := hs.perm (hs' := l ++ (slots env σ ++ tm)) (by
    rw [← List.append_assoc, ← List.append_assoc]
    exact List.Perm.append_right _ List.perm_append_comm)
  have cut : ∀ (l : List Hold) {fp : List Addr}, HoldAll G H (l ++ (slots env σ ++ tm)) fp → ∃ f g, fp = f ++ g ∧ HoldAll G H (slots env σ ++ tm) g := by
    intro l
    induction l with
    | nil => intro fp h; exact ⟨[], fp, rfl, h⟩
    | cons x l ih =>
      intro fp h
      cases h with
      | cons h1 h2 =>
        obtain ⟨f, g, rfl, h3⟩ := ih h2
        exact ⟨_, g, (List.append_assoc _ _ _).symm, h3⟩
  obtain ⟨f, g', rfl, h4⟩ := cut l hs'
  have nd' := q.nodup_iff.mp nd
  exact ⟨⟨G, g', g, h4, (List.nodup_append.mp nd').2.1, fun p hm => hp p (q.mem_iff.mpr (List.mem_append_right _ hm))⟩, h2, h3⟩
theorem EnvOk.tail {x : Hold} (h : EnvOk B H env σ (x :: tm)) : EnvOk B H env σ tm := EnvOk.less (l := [x]) h
theorem EnvOk.swap {x y : Hold} (h : EnvOk B H env σ (x :: y :: tm)) : EnvOk B H env σ (y :: x :: tm) := h.perm (List.Perm.swap _ _ _)
/-- a slot's content goes to the hand -/
theorem EnvOk.move {i k : Nat} {d : D} {v : V} (h : EnvOk B H env σ tm) (e : env[i]? = some (some (k, d))) (s : σ[i]? = some (some v)) : EnvOk B H (env.set i none) σ ((v, k, d) :: tm) := by
  obtain ⟨⟨G, fp, g, hs, nd, hp⟩, h2, h3⟩ := h
  obtain ⟨fp', hs', q⟩ := hs.perm (hs' := slots (env.set i none) σ ++ (v, k, d) :: tm) (((slots_take e s).append_right _).trans List.perm_middle.symm)
  refine ⟨⟨G, fp', g, hs', q.nodup_iff.mp nd, fun p hm => hp p (q.mem_iff.mpr hm)⟩, by simpa using h2, fun j kd e' => ?_⟩
  by_cases ej : i = j
  · subst ej
    rw [List.getElem?_set_self (List.getElem?_eq_some_iff.mp e).1] at e'
    cases e'
  · rw [List.getElem?_set_ne ej] at e'
    exact h3 j kd e'
theorem EnvOk.forget (h : EnvOk B H env σ tm) (i : Nat) : EnvOk B H (env.set i none) σ tm := by
  obtain ⟨l, q⟩ := slots_drop (env := env) (σ := σ) i
  obtain ⟨⟨G, fp, g, hs, nd, hp⟩, h2, h3⟩ := h
  obtain ⟨fp', hs', q'⟩ := hs.perm (hs' := slots (env.set i none) σ ++ (l ++ tm)) (by
    refine (q.append_right _).trans ?_
    rw [← List.append_assoc]
    exact List.Perm.append_right _ List.perm_append_comm)
  have h' : EnvOk B H (env.set i none) σ (l ++ tm) := by
    refine ⟨⟨G, fp', g, hs', q'.nodup_iff.mp nd, fun p hm => hp p (q'.mem_iff.mpr hm)⟩, by simpa using h2, fun j kd e' => ?_⟩
    by_cases ej : i = j
    · subst ej
      rw [List.getElem?_set] at e'
      simp at e'
    · rw [List.getElem?_set_ne ej] at e'
      exact h3 j kd e'
  exact h'.less
def clear : Env → List Nat → Env
  | env, [] => env
  | env, i :: is => clear (env.set i none) is
theorem EnvOk.clear : ∀ {env : Env} (is : List Nat), EnvOk B H env σ tm → EnvOk B H (clear env is) σ tm
  | _, [], h => h
  | _, i :: is, h => EnvOk.clear is (h.forget i)
/-- .. and to a slot -/
theorem EnvOk.store {i k : Nat} {d : D} {v : V} (h : EnvOk B H env σ ((v, k, d) :: tm)) (hi : i < env.length) : EnvOk B H (env.set i (some (k, d))) (σ.set i (some v)) tm := by
  have h1 := h.forget i
  obtain ⟨⟨G, fp, g, hs, nd, hp⟩, h2, h3⟩ := h1
  have e1 : (env.set i none)[i]? = some none := List.getElem?_set_self hi
  have e2 : (env.set i (some (k, d)))[i]? = some (some (k, d)) := List.getElem?_set_self hi
  have hσ : i < σ.length := by rw [← h.len]; exact hi
  have e3 : (σ.set i (some v))[i]? = some (some v) := List.getElem?_set_self hσ
  have q := slots_take e2 e3
  rw [List.set_set, slots_none e1] at q
  obtain ⟨fp', hs', q'⟩ := hs.perm (hs' := slots (env.set i (some (k, d))) (σ.set i (some v)) ++ tm) (List.perm_middle.trans (q.symm.append_right _))
  refine ⟨⟨G, fp', g, hs', q'.nodup_iff.mp nd, fun p hm => hp p (q'.mem_iff.mpr hm)⟩, by simpa using h.len, fun j kd e' => ?_⟩
  by_cases ej : i = j
  · subst ej
    exact ⟨v, e3⟩
  · rw [List.getElem?_set_ne ej] at e'
    rw [List.getElem?_set_ne ej]
    exact h.has j kd e'
/-- σ may change where env knows nothing -/
theorem EnvOk.blank {i : Nat} {x : Option V} (h : EnvOk B H env σ tm) (e : env[i]? = some none) : EnvOk B H env (σ.set i x) tm := by
  obtain ⟨⟨G, fp, g, hs, nd, hp⟩, h2, h3⟩ := h
  refine ⟨⟨G, fp, g, by rw [slots_none e]; exact hs, nd, hp⟩, by simpa using h2, fun j kd e' => ?_⟩
  by_cases ej : i = j
  · subst ej
    rw [e] at e'
    cases e'
  · rw [List.getElem?_set_ne ej]
    exact h3 j kd e'
theorem Good.rp {G : Hp} (g : Good B G H) {k : Nat} {f : List Addr} {v : V} {d : D} (h : Od G H k f v d) (hf : ∀ p ∈ f, ∃ u, H p = some u ∧ isMu u) : Rp (view H) v d := by
  refine h.frozen g.gs (fun a xs e => by unfold view; rw [e]; rfl) fun a u e m => ?_
  obtain ⟨u', e', m'⟩ := hf a m
  rw [e] at e'
  cases e'
  unfold view
  rw [e]
  exact congrArg some m'.unf
/-- the first thing in the hand may be read -/
theorem EnvOk.rp {k : Nat} {d : D} {v : V} (h : EnvOk B H env σ ((v, k, d) :: tm)) : Rp (view H) v d := by
  obtain ⟨⟨G, fp, g, hs, nd, hp⟩, h2, h3⟩ := h
  obtain ⟨fp', hs', q⟩ := hs.perm (hs' := (v, k, d) :: (slots env σ ++ tm)) List.perm_middle
  cases hs' with
  | cons h1 _ => exact g.rp h1 h1.mu
theorem EnvOk.slot {i k : Nat} {d : D} (h : EnvOk B H env σ tm) (e : env[i]? = some (some (k, d))) : ∃ v, σ[i]? = some (some v) ∧ Rp (view H) v d := by
  obtain ⟨v, hv⟩ := h.has i _ e
  exact ⟨v, hv, (h.move e hv).rp⟩
/-- what is shared may be held twice -/
theorem EnvOk.dup {d : D} {v : V} (h : EnvOk B H env σ ((v, 0, d) :: tm)) : EnvOk B H env σ ((v, 0, d) :: (v, 0, d) :: tm) := by
  obtain ⟨⟨G, fp, g, hs, nd, hp⟩, h2, h3⟩ := h
  obtain ⟨fp', hs', q⟩ := hs.perm (hs' := (v, 0, d) :: (slots env σ ++ tm)) List.perm_middle
  cases hs' with
  | @cons _ _ _ _ f1 g1 h1 h4 =>
    obtain ⟨rfl, r⟩ := h1.zero
    obtain ⟨fp2, hs2, q2⟩ := (HoldAll.cons (Od.of (H := H) r) (HoldAll.cons h1 h4)).perm (hs' := slots env σ ++ (v, 0, d) :: (v, 0, d) :: tm) ((List.Perm.cons _ List.perm_middle.symm).trans List.perm_middle.symm)
    simp only [List.nil_append] at q q2
    have q3 := q.trans q2
    exact ⟨⟨G, fp2, g, hs2, q3.nodup_iff.mp nd, fun p hm => hp p (q3.mem_iff.mpr hm)⟩, h2, h3⟩
/-- a thing that may be read and holds no list and no dict -/
theorem EnvOk.imm {k : Nat} {d : D} {v : V} (h : EnvOk B H env σ tm) (r : Rp (view H) v d) (hd : d.imm = true) : EnvOk B H env σ ((v, k, d) :: tm) := by
  obtain ⟨⟨G, fp, g, hs, nd, hp⟩, h2, h3⟩ := h
  have r' : Rp G v d := r.immTo g.gt hd
  obtain ⟨fp2, hs2, q2⟩ := (HoldAll.cons (Od.im (H := H) (k := k) r' hd) hs).perm (hs' := slots env σ ++ (v, k, d) :: tm) List.perm_middle.symm
  simp only [List.nil_append] at q2
  exact ⟨⟨G, fp2, g, hs2, q2.nodup_iff.mp nd, fun p hm => hp p (q2.mem_iff.mpr hm)⟩, h2, h3⟩
/-- a slot that is shared -/
theorem EnvOk.slot0 {i : Nat} {d : D} (h : EnvOk B H env σ tm) (e : env[i]? = some (some (0, d))) : ∃ v, σ[i]? = some (some v) ∧ EnvOk B H env σ ((v, 0, d) :: tm) := by
  obtain ⟨v, hv⟩ := h.has i _ e
  refine ⟨v, hv, ?_⟩
  have hi : i < env.length := (List.getElem?_eq_some_iff.mp e).1
  have h1 := ((h.move e hv).dup).store (i := i) (by simpa using hi)
  have e1 : (env.set i none).set i (some (0, d)) = env := by
    rw [List.set_set]
    exact set_self e
  have e2 : σ.set i (some v) = σ := set_self hv
  rw [e1, e2] at h1
  exact h1
/-- G and H grow, what is owned stays -/
theorem EnvOk.grow {H' : Hp} (h : EnvOk B H env σ tm) (hH : ∀ a u, H a = some u → H' a = some u) (hB : ∀ a, H a = none → B a = none)
    (more : List Hold) (mk : ∀ G, Good B G H → ∃ G' f, (∀ a u, G a = some u → G' a = some u) ∧ (∀ a, H a ≠ none → G' a = G a) ∧ Good B G' H' ∧ HoldAll G' H' more f ∧ f.Nodup ∧ ∀ p ∈ f, H p = none ∧ G' p = none) : EnvOk B H' env σ (more ++ tm) := by
  obtain ⟨⟨G, fp, g, hs, nd, hp⟩, h2, h3⟩ := h
  obtain ⟨G', f, g1, g2, g3, g4, g5, g6⟩ := mk G g
  have hs' : HoldAll G' H' (slots env σ ++ tm) fp := hs.frame g1 fun a u e _ => hH a u e
  have app : ∀ {l : List Hold} {f : List Addr} {m : List Hold} {g : List Addr}, HoldAll G' H' l f → HoldAll G' H' m g → HoldAll G' H' (l ++ m) (f ++ g) := by
    intro l
    induction l with
    | nil => intro f m g a b; cases a; exact b
    | cons x l ih =>
      intro f m g a b
      cases a with
      | cons a1 a2 =>
        rw [List.append_assoc]
        exact .cons a1 (ih a2 b)
  obtain ⟨fp2, hs2, q2⟩ := (app g4 hs').perm (hs' := slots env σ ++ (more ++ tm)) (by
    rw [← List.append_assoc, ← List.append_assoc]
    exact List.Perm.append_right _ List.perm_append_comm)
  have mu := hs.mu
  have nd2 : (f ++ fp).Nodup := List.nodup_append.mpr ⟨g5, nd, fun a ha b hb e => by
    subst e
    obtain ⟨u, e, _⟩ := mu a hb
    rw [(g6 a ha).1] at e
    cases e⟩
  refine ⟨⟨G', fp2, g3, hs2, q2.nodup_iff.mp nd2, fun p hm => ?_⟩, h2, h3⟩
  rcases List.mem_append.mp (q2.mem_iff.mpr hm) with hm | hm
  · exact ⟨hB p (g6 p hm).1, (g6 p hm).2⟩
  · obtain ⟨u, e, _⟩ := mu p hm
    exact ⟨(hp p hm).1, by rw [g2 p (by rw [e]; simp)]; exact (hp p hm).2⟩
theorem EnvOk.bnone (h : EnvOk B H env σ tm) : ∀ a, H a = none → B a = none := fun a e => by
  obtain ⟨⟨G, fp, g, _⟩, _⟩ := h
  cases q : B a with
  | none => rfl
  | some o => rw [g.bs a o q] at e; cases e
theorem view_none {H : Hp} {a : Addr} (h : H a = none) : view H a = none := by unfold view; rw [h]; rfl
theorem view_upd {H : Hp} {p : Addr} {o : HO} : view (upd H p o) = upd (view H) p (unf o) := by
  funext a
  unfold view upd
  by_cases e : a = p
  · rw [if_pos e, if_pos e]; rfl
  · rw [if_neg e, if_neg e]
theorem up_keep {H : Hp} {p : Addr} {o : HO} (hp : H p = none) : ∀ a u, H a = some u → upd H p o a = some u := fun a u e => by
  rw [upd_ne (ne_of_none e hp)]; exact e
theorem Good.gnone {G : Hp} (g : Good B G H) {p : Addr} (hp : H p = none) : G p = none := by
  cases q : G p with
  | none => rfl
  | some u => rw [← g.gs p u q, view_none hp] 
/-- a new list or dict at p; its items go with it -/
theorem Good.newMu {G : Hp} (g : Good B G H) {p : Addr} {o : HO} (hp : H p = none) (hu : unf o = o) (ho : isIm o = false) : Good B G (upd H p o) where
  g0 := g.g0
  bs := fun a u e => up_keep hp a u (g.bs a u e)
  gs := fun a u e => by
    rw [view_upd, hu]
    exact up_keep (view_none hp) a u (g.gs a u e)
  gt := fun a xs im e => by
    rw [view_upd, hu] at e
    by_cases q : a = p
    · subst q
      rw [upd_same] at e
      rw [Option.some.inj e, im] at ho; cases ho
    · rw [upd_ne q] at e
      exact g.gt a xs im e
  nf := fun a xs im e => by
    rw [view_upd, hu] at e
    by_cases q : a = p
    · subst q
      rw [upd_same] at e
      rw [Option.some.inj e, im] at ho; cases ho
    · rw [upd_ne q] at e ⊢
      exact g.nf a xs im e
theorem Good.newSh {G : Hp} (g : Good B G H) {p : Addr} {o : HO} (hp : H p = none) (hu : unf o = o) : Good B (upd G p o) (upd H p o) where
  g0 := fun a e => by
    have : a ≠ p := fun z => by
      subst z
      cases q : B a with
      | none => exact e q
      | some u => rw [g.bs a u q] at hp; cases hp
    rw [upd_ne this]
    exact g.g0 a e
  bs := fun a u e => up_keep hp a u (g.bs a u e)
  gs := fun a u e => by
    rw [view_upd, hu]
    by_cases q : a = p
    · subst q
      rw [upd_same] at e ⊢
      exact e
    · rw [upd_ne q] at e ⊢
      exact g.gs a u e
  gt := fun a xs im e => by
    rw [view_upd, hu] at e
    by_cases q : a = p
    · subst q
      rw [upd_same] at e ⊢
      exact e
    · rw [upd_ne q] at e ⊢
      exact g.gt a xs im e
  nf := fun a xs im e => by
    rw [view_upd, hu] at e
    by_cases q : a = p
    · subst q
      rw [upd_same] at e ⊢
      exact e
    · rw [upd_ne q] at e ⊢
      exact g.nf a xs im e
theorem EnvOk.tupAt {a : Addr} {xs : List V} (h : EnvOk B H env σ tm) (e : view H a = some (.tup xs)) : H a = some (.tup xs) := by
  obtain ⟨⟨G, fp, g, _⟩, _⟩ := h
  exact g.nf a _ rfl e
theorem EnvOk.imAt {a : Addr} {u : HO} (h : EnvOk B H env σ tm) (im : isIm u = true) (e : view H a = some u) : H a = some u := by
  obtain ⟨⟨G, fp, g, _⟩, _⟩ := h
  exact g.nf a _ im e
/-- the hand's first things, taken apart -/
theorem EnvOk.apart {l : List Hold} (h : EnvOk B H env σ (l ++ tm)) : ∃ G f g, Good B G H ∧ HoldAll G H l f ∧ HoldAll G H (slots env σ ++ tm) g ∧ (f ++ g).Nodup ∧ (∀ p ∈ f ++ g, B p = none ∧ G p = none) := by
  obtain ⟨⟨G, fp, g, hs, nd, hp⟩, h2, h3⟩ := h
  obtain ⟨fp', hs', q⟩ := hs.perm (hs' := l ++ (slots env σ ++ tm)) (by
    rw [← List.append_assoc, ← List.append_assoc]
    exact List.Perm.append_right _ List.perm_append_comm)
  have cut : ∀ (l : List Hold) {fp : List Addr}, HoldAll G H (l ++ (slots env σ ++ tm)) fp → ∃ f g, fp = f ++ g ∧ HoldAll G H l f ∧ HoldAll G H (slots env σ ++ tm) g := by
    intro l
    induction l with
    | nil => intro fp h; exact ⟨[], fp, rfl, .nil, h⟩
    | cons x l ih =>
      intro fp h
      cases h with
      | cons h1 h2 =>
        obtain ⟨f, g, rfl, h3, h4⟩ := ih h2
        exact ⟨_, g, (List.append_assoc _ _ _).symm, .cons h1 h3, h4⟩
  obtain ⟨f, g', rfl, h4, h5⟩ := cut l hs'
  exact ⟨G, f, g', g, h4, h5, q.nodup_iff.mp nd, fun p hm => hp p (q.mem_iff.mpr hm)⟩
/-- .. and put together -/
theorem EnvOk.join {G : Hp} {l : List Hold} {f g : List Addr} (h2 : env.length = σ.length) (h3 : ∀ (i : Nat) kd, env[i]? = some (some kd) → ∃ v, σ[i]? = some (some v)) (hg : Good B G H) (hl : HoldAll G H l f) (hr : HoldAll G H (slots env σ ++ tm) g) (nd : (f ++ g).Nodup) (hp : ∀ p ∈ f ++ g, B p = none ∧ G p = none) : EnvOk B H env σ (l ++ tm) := by
  have app : ∀ {l : List Hold} {f : List Addr} {m : List Hold} {g : List Addr}, HoldAll G H l f → HoldAll G H m g → HoldAll G H (l ++ m) (f ++ g) := by
    intro l
    induction l with
    | nil => intro f m g a b; cases a; exact b
    | cons x l ih =>
      intro f m g a b
      cases a with
      | cons a1 a2 =>
        rw [List.append_assoc]
        exact .cons a1 (ih a2 b)
  obtain ⟨fp2, hs2, q2⟩ := (app hl hr).perm (hs' := slots env σ ++ (l ++ tm)) (by
    rw [← List.append_assoc, ← List.append_assoc]
    exact List.Perm.append_right _ List.perm_append_comm)
  exact ⟨⟨G, fp2, hg, hs2, q2.nodup_iff.mp nd, fun p hm => hp p (q2.mem_iff.mpr hm)⟩, h2, h3⟩
/-- what is owned becomes shared -/
theorem EnvOk.freeze {k : Nat} {d : D} {v : V} (h : EnvOk B H env σ ((v, k, d) :: tm)) : EnvOk B H env σ ((v, 0, d) :: tm) := by
  have h2 := h.len
  have h3 := h.has
  obtain ⟨G, f, g, hg, hl, hr, nd, hp⟩ := EnvOk.apart (l := [(v, k, d)]) h
  cases hl with
  | @cons _ _ _ _ f1 g1 h1 hn =>
    cases hn
    rw [List.append_nil] at nd hp
    have m1 := h1.mu
    obtain ⟨nd1, nd2, nd3⟩ := List.nodup_append.mp nd
    let G' : Hp := fun a => if a ∈ f1 then H a else G a
    have out : ∀ a, a ∉ f1 → G' a = G a := fun a ha => if_neg ha
    have inn : ∀ a, a ∈ f1 → G' a = H a := fun a ha => if_pos ha
    have e1 : ∀ a u, G a = some u → G' a = some u := fun a u e => by
      by_cases q : a ∈ f1
      · rw [(hp a (List.mem_append_left _ q)).2] at e; cases e
      · rw [out a q]; exact e
    have hg' : Good B G' H := ⟨hg.bs, fun a e => by
      rw [out a fun q => e (hp a (List.mem_append_left _ q)).1]
      exact hg.g0 a e, fun a u e => by
      by_cases q : a ∈ f1
      · rw [inn a q] at e
        obtain ⟨u', e', m'⟩ := m1 a q
        rw [e] at e'; cases e'
        unfold view; rw [e]; exact congrArg some m'.unf
      · rw [out a q] at e; exact hg.gs a u e, fun a xs im e => by
      by_cases q : a ∈ f1
      · obtain ⟨u', e', m'⟩ := m1 a q
        unfold view at e; rw [e'] at e
        have e2 : unf u' = xs := Option.some.inj e
        rw [m'.unf] at e2
        rw [e2] at m'
        exact (im_mu im m').elim
      · rw [out a q]; exact hg.gt a xs im e, hg.nf⟩
    have r : Rp G' v d := h1.frozen e1 (fun a xs e => hg'.gt a _ rfl (by unfold view; rw [e]; rfl)) fun a u e m => by rw [inn a m]; exact e
    refine EnvOk.join (l := [(v, 0, d)]) (G := G') (f := []) (g := g) h2 h3 hg' (HoldAll.cons (f := []) (g := []) (.of r) .nil) (hr.frame e1 fun _ _ e _ => e) nd2 fun p hm => ?_
    have hm' : p ∈ g := hm
    refine ⟨(hp p (List.mem_append_right _ hm')).1, ?_⟩
    rw [out p fun q => nd3 p q p hm' rfl]
    exact (hp p (List.mem_append_right _ hm')).2
end
end Mir

namespace Mir
open PySem PySem.Spec L2

section
variable {B : Bs} {H : Hp} {env : Env} {σ : St} {tm tm' : List Hold} {k : Nat} {vs : List V} {ds : List D} {p : Addr}
theorem EnvOk.newMu {o : HO} {d : D} (h : EnvOk B H env σ (lev k vs ds ++ tm)) (hl : vs.length = ds.length) (hp : H p = none) (hu : unf o = o) (ho : isIm o = false)
    (mk : ∀ (G H' : Hp) (f : List Addr), Good B G H → H' p = some o → OdAll G H' k f vs ds → Od G H' (k + 1) (p :: f) (.ref p) d) : EnvOk B (upd H p o) env σ ((.ref p, k + 1, d) :: tm) := by
  have h2 := h.len
  have h3 := h.has
  have hb := h.bnone p hp
  obtain ⟨G, f, g, hg, hf, hr, nd, hq⟩ := h.apart
  have hfm := hf.mu
  have hrm := hr.mu
  have hf' : HoldAll G H (lev k vs ds ++ []) f := by rw [List.append_nil]; exact hf
  obtain ⟨f1, f2, e, ha, hn⟩ := HoldAll.toAll hl hf'
  cases hn
  rw [List.append_nil] at e
  subst e
  have hH : ∀ a u, H a = some u → upd H p o a = some u := up_keep hp
  have hgp := hg.gnone hp
  refine EnvOk.join (l := [(.ref p, k + 1, d)]) (G := G) (f := (p :: f) ++ []) (g := g) h2 h3 (hg.newMu hp hu ho) (.cons (mk _ _ _ hg upd_same (ha.frame (fun _ _ e => e) fun a u e _ => hH a u e)) .nil) (hr.frame (fun _ _ e => e) fun a u e _ => hH a u e) ?_ ?_
  · rw [List.append_nil, List.cons_append]
    refine List.nodup_cons.mpr ⟨fun m => ?_, nd⟩
    rcases List.mem_append.mp m with m | m
    · obtain ⟨u, e, _⟩ := hfm p m; rw [hp] at e; cases e
    · obtain ⟨u, e, _⟩ := hrm p m; rw [hp] at e; cases e
  · rw [List.append_nil, List.cons_append]
    intro q m
    rcases List.mem_cons.mp m with rfl | m
    · exact ⟨hb, hgp⟩
    · exact hq q m
theorem EnvOk.newLst (h : EnvOk B H env σ (lev k vs ds ++ tm)) (hl : vs.length = ds.length) (hp : H p = none) : EnvOk B (upd H p (.lst vs)) env σ ((.ref p, k + 1, .lst ds) :: tm) :=
  h.newMu hl hp rfl rfl fun _ _ _ _ e r => .lst e r
theorem EnvOk.newDk {kvs : List (Key × V)} {ks : List Key} (h : EnvOk B H env σ (lev k (kvs.map (·.2)) ds ++ tm)) (hl : kvs.length = ds.length) (hk : kvs.map (·.1) = ks) (hp : H p = none) : EnvOk B (upd H p (.dK kvs)) env σ ((.ref p, k + 1, .dk ks ds) :: tm) :=
  h.newMu (by simpa using hl) hp rfl rfl fun _ _ _ _ e r => .dk e hk r
theorem EnvOk.newDt {kvs : List (List Key × V)} {ks : List (List Key)} (h : EnvOk B H env σ (lev k (kvs.map (·.2)) ds ++ tm)) (hl : kvs.length = ds.length) (hk : kvs.map (·.1) = ks) (hp : H p = none) : EnvOk B (upd H p (.dT kvs)) env σ ((.ref p, k + 1, .dt ks ds) :: tm) :=
  h.newMu (by simpa using hl) hp rfl rfl fun _ _ _ _ e r => .dt e hk r
mutual
theorem kN_imm : ∀ k : NestedKey, (kN k).imm = true
  | .none => rfl | .num _ => rfl | .text _ => rfl
  | .tup ks => by rw [kN, D.imm]; exact kNs_imm ks
theorem kNs_imm : ∀ ks : List NestedKey, immAll (kNs ks) = true
  | [] => rfl
  | k :: ks => by rw [kNs, immAll, kN_imm k, kNs_imm ks]; rfl
end
theorem EnvOk.newTup (h : EnvOk B H env σ (lev k vs ds ++ tm)) (hl : vs.length = ds.length) (hp : H p = none) : EnvOk B (upd H p (.tup vs)) env σ ((.ref p, k + 1, .tup ds) :: tm) := by
  have h2 := h.len
  have h3 := h.has
  obtain ⟨G, f, g, hg, hf, hr, nd, hq⟩ := h.apart
  have hfm := hf.mu
  have hrm := hr.mu
  have hf' : HoldAll G H (lev k vs ds ++ []) f := by rw [List.append_nil]; exact hf
  obtain ⟨f1, f2, e, ha, hn⟩ := HoldAll.toAll hl hf'
  cases hn
  rw [List.append_nil] at e
  subst e
  have hH : ∀ a u, H a = some u → upd H p (.tup vs) a = some u := up_keep hp
  have hgp := hg.gnone hp
  have hG : ∀ a u, G a = some u → upd G p (.tup vs) a = some u := up_keep hgp
  refine EnvOk.join (l := [(.ref p, k + 1, .tup ds)]) (G := upd G p (.tup vs)) (f := f ++ []) (g := g) h2 h3 (hg.newSh hp rfl) (.cons (.tup upd_same (ha.frame hG fun a u e _ => hH a u e)) .nil) (hr.frame hG fun a u e _ => hH a u e) ?_ ?_
  · rw [List.append_nil]; exact nd
  · rw [List.append_nil]
    intro q m
    refine ⟨(hq q m).1, ?_⟩
    have qp : q ≠ p := fun z => by
      subst z
      rcases List.mem_append.mp m with m | m
      · obtain ⟨u, e, _⟩ := hfm q m; rw [hp] at e; cases e
      · obtain ⟨u, e, _⟩ := hrm q m; rw [hp] at e; cases e
    rw [upd_ne qp]
    exact (hq q m).2
/-- the heap without p -/
def del (H : Hp) (p : Addr) : Hp := fun a => if a = p then none else H a
theorem del_self {H : Hp} {p : Addr} : del H p p = none := if_pos rfl
theorem del_ne {H : Hp} {p a : Addr} (h : a ≠ p) : del H p a = H a := if_neg h
theorem upd_del {H : Hp} {p : Addr} {o : HO} : upd (del H p) p o = upd H p o := by
  funext a
  unfold upd
  by_cases e : a = p
  · rw [if_pos e, if_pos e]
  · rw [if_neg e, if_neg e]; exact del_ne e
/-- what is owned is taken out of the heap, its items go to the hand -/
theorem EnvOk.takeMu {d : D} (h : EnvOk B H env σ ((.ref p, k + 1, d) :: tm)) (im : d.imm = false) (nt : ∀ xs, d ≠ .tup xs) (nn : ∀ ks ds, d ≠ .dn ks ds) :
    ∃ o vs ds, H p = some o ∧ vs.length = ds.length ∧ ((o = .lst vs ∧ d = .lst ds) ∨ (∃ kvs, o = .dK kvs ∧ d = .dk (kvs.map (·.1)) ds ∧ vs = kvs.map (·.2)) ∨ (∃ kvs, o = .dT kvs ∧ d = .dt (kvs.map (·.1)) ds ∧ vs = kvs.map (·.2))) ∧ EnvOk B (del H p) env σ (lev k vs ds ++ tm) := by
  have h2 := h.len
  have h3 := h.has
  obtain ⟨G, f, g, hg, hf, hr, nd, hq⟩ := EnvOk.apart (l := [(.ref p, k + 1, d)]) h
  have fin : ∀ {f1 : List Addr} {vs : List V} {ds : List D} {o : HO}, f = p :: f1 → H p = some o → (∀ xs, o ≠ .tup xs) → OdAll G H k f1 vs ds → EnvOk B (del H p) env σ (lev k vs ds ++ tm) := fun {f1 vs ds o} ef hp hnt ha => by
    subst ef
    rw [List.cons_append] at nd hq
    obtain ⟨nd1, nd2⟩ := List.nodup_cons.mp nd
    have hH : ∀ {l : List Addr}, p ∉ l → ∀ a u, H a = some u → (a ∈ l ∨ ∃ xs, u = .tup xs) → del H p a = some u := fun {l} hl a u e q => by
      have : a ≠ p := fun z => by
        subst z
        rcases q with q | ⟨xs, q⟩
        · exact hl q
        · rw [hp] at e; cases e; exact hnt xs q
      rw [del_ne this]; exact e
    have hgp : G p = none := (hq p List.mem_cons_self).2
    have hbp : B p = none := (hq p List.mem_cons_self).1
    have np : ∀ {F : Hp} {a : Addr} {u : HO}, F p = none → F a = some u → a ≠ p := fun n e z => by subst z; rw [n] at e; cases e
    have hg' : Good B G (del H p) := ⟨fun a o e => by rw [del_ne (np hbp e)]; exact hg.bs a o e, hg.g0, fun a u e => by
      have := hg.gs a u e
      unfold view at this ⊢
      rw [del_ne (np hgp e)]; exact this, fun a xs im e => by
      unfold view at e
      by_cases q : a = p
      · subst q; rw [del_self] at e; cases e
      · rw [del_ne q] at e; exact hg.gt a xs im e, fun a xs im e => by
      unfold view at e
      by_cases q : a = p
      · subst q; rw [del_self] at e; cases e
      · rw [del_ne q] at e ⊢; exact hg.nf a xs im e⟩
    have hv : HoldAll G (del H p) (lev k vs ds ++ []) (f1 ++ []) := HoldAll.ofAll (ha.frame (fun _ _ e => e) (hH fun m => nd1 (List.mem_append_left _ m))) .nil
    rw [List.append_nil, List.append_nil] at hv
    exact EnvOk.join h2 h3 hg' hv (hr.frame (fun _ _ e => e) (hH fun m => nd1 (List.mem_append_right _ m))) nd2 fun q m => hq q (List.mem_cons_of_mem _ m)
  cases hf with
  | @cons _ _ _ _ f1 g1 h1 hn =>
    cases hn
    rw [List.append_nil] at fin
    have len : ∀ {k : Nat} {f : List Addr} {vs : List V} {ds : List D}, OdAll G H k f vs ds → vs.length = ds.length := fun {k f vs ds} r => by
      induction vs generalizing ds f with
      | nil => cases r; rfl
      | cons v vs ih => cases r with | cons _ r => simp [ih r]
    cases h1 with
    | sh hz r => rcases hz with hz | hz
                 · cases hz
                 · rw [im] at hz; cases hz
    | lst e r => exact ⟨_, _, _, e, len r, .inl ⟨rfl, rfl⟩, fin rfl e (fun _ z => nomatch z) r⟩
    | tup e r => exact absurd rfl (nt _)
    | dn => exact absurd rfl (nn _ _)
    | dk e ek r =>
      subst ek
      exact ⟨_, _, _, e, len r, .inr (.inl ⟨_, rfl, rfl, rfl⟩), fin rfl e (fun _ z => nomatch z) r⟩
    | dt e ek r =>
      subst ek
      exact ⟨_, _, _, e, len r, .inr (.inr ⟨_, rfl, rfl, rfl⟩), fin rfl e (fun _ z => nomatch z) r⟩
theorem EnvOk.takeLst (h : EnvOk B H env σ ((.ref p, k + 1, .lst ds) :: tm)) : ∃ vs, H p = some (.lst vs) ∧ vs.length = ds.length ∧ EnvOk B (del H p) env σ (lev k vs ds ++ tm) := by
  obtain ⟨o, vs, ds', hp, hl, q, h'⟩ := h.takeMu rfl (fun _ z => nomatch z) (fun _ _ z => nomatch z)
  rcases q with ⟨rfl, e⟩ | ⟨kvs, rfl, e, rfl⟩ | ⟨kvs, rfl, e, rfl⟩
  · cases e; exact ⟨vs, hp, hl, h'⟩
  · cases e
  · cases e
theorem EnvOk.takeDk {ks : List Key} (h : EnvOk B H env σ ((.ref p, k + 1, .dk ks ds) :: tm)) : ∃ kvs, H p = some (.dK kvs) ∧ kvs.map (·.1) = ks ∧ kvs.length = ds.length ∧ EnvOk B (del H p) env σ (lev k (kvs.map (·.2)) ds ++ tm) := by
  obtain ⟨o, vs, ds', hp, hl, q, h'⟩ := h.takeMu rfl (fun _ z => nomatch z) (fun _ _ z => nomatch z)
  rcases q with ⟨rfl, e⟩ | ⟨kvs, rfl, e, rfl⟩ | ⟨kvs, rfl, e, rfl⟩
  · cases e
  · cases e; exact ⟨kvs, hp, rfl, by simpa using hl, h'⟩
  · cases e
theorem EnvOk.takeDt {ks : List (List Key)} (h : EnvOk B H env σ ((.ref p, k + 1, .dt ks ds) :: tm)) : ∃ kvs, H p = some (.dT kvs) ∧ kvs.map (·.1) = ks ∧ kvs.length = ds.length ∧ EnvOk B (del H p) env σ (lev k (kvs.map (·.2)) ds ++ tm) := by
  obtain ⟨o, vs, ds', hp, hl, q, h'⟩ := h.takeMu rfl (fun _ z => nomatch z) (fun _ _ z => nomatch z)
  rcases q with ⟨rfl, e⟩ | ⟨kvs, rfl, e, rfl⟩ | ⟨kvs, rfl, e, rfl⟩
  · cases e
  · cases e
  · cases e; exact ⟨kvs, hp, rfl, by simpa using hl, h'⟩
/-- an owned thing stands at an address -/
theorem EnvOk.isRef {v : V} {d : D} (h : EnvOk B H env σ ((v, k, d) :: tm)) (im : d.imm = false) : ∃ p, v = .ref p := by
  have r := h.rp
  cases r with
  | lst => exact ⟨_, rfl⟩
  | tup => exact ⟨_, rfl⟩
  | dk => exact ⟨_, rfl⟩
  | dt => exact ⟨_, rfl⟩
  | ob => exact ⟨_, rfl⟩
  | exn0 => exact ⟨_, rfl⟩
  | exn => exact ⟨_, rfl⟩
  | dn => exact ⟨_, rfl⟩
  | _ => simp [D.imm] at im
theorem lev_append {k : Nat} : ∀ {vs : List V} {ds : List D} (ws : List V) (es : List D), vs.length = ds.length → lev k (vs ++ ws) (ds ++ es) = lev k vs ds ++ lev k ws es
  | [], [], _, _, _ => rfl
  | [], _ :: _, _, _, e => by simp at e
  | _ :: _, [], _, _, e => by simp at e
  | v :: vs, d :: ds, ws, es, e => congrArg (List.cons _) (lev_append (vs := vs) (ds := ds) ws es (by simpa using e))
/-- all that can be read of shared things -/
theorem EnvOk.levs {vs : List V} {ds : List D} (h : EnvOk B H env σ tm) (r : RpAll (view H) vs ds) (hi : immAll ds = true) {k : Nat} : EnvOk B H env σ (lev k vs ds ++ tm) := by
  induction r using RpAll.rec (motive_1 := fun _ _ _ => True) with
  | nil => exact h
  | cons hr _ _ ih =>
    rw [immAll, Bool.and_eq_true] at hi
    exact (ih hi.2).imm hr hi.1
  | _ => trivial
/-- the items of a shared list, tuple are shared -/
theorem EnvOk.items {d : D} {v : V} (h : EnvOk B H env σ ((v, 0, d) :: tm)) : ∀ {ds : List D}, (d = .lst ds ∨ d = .tup ds ∨ (∃ ks, d = .dk ks ds) ∨ ∃ ks, d = .dt ks ds) → ∃ (p : Addr) (o : HO) (vs : List V), v = .ref p ∧ view H p = some o ∧ vs.length = ds.length ∧
    (d = .lst ds → o = .lst vs) ∧ (d = .tup ds → o = .tup vs) ∧ (∀ ks, d = .dk ks ds → ∃ kvs, o = .dK kvs ∧ kvs.map (·.1) = ks ∧ vs = kvs.map (·.2)) ∧ (∀ ks, d = .dt ks ds → ∃ kvs, o = .dT kvs ∧ kvs.map (·.1) = ks ∧ vs = kvs.map (·.2)) ∧ RpAll (view H) vs ds ∧ EnvOk B H env σ (lev 0 vs ds ++ (v, 0, d) :: tm) := by
  intro ds hd
  have h2 := h.len
  have h3 := h.has
  obtain ⟨G, f, g, hg, hf, hr, nd, hq⟩ := EnvOk.apart (l := [(v, 0, d)]) h
  cases hf with
  | @cons _ _ _ _ f1 g1 h1 hn =>
    cases hn
    obtain ⟨rfl, r⟩ := h1.zero
    have fin : ∀ {vs : List V}, RpAll G vs ds → EnvOk B H env σ (lev 0 vs ds ++ (v, 0, d) :: tm) := fun {vs} ra => by
      have hv : HoldAll G H (lev 0 vs ds ++ [(v, 0, d)]) [] := by
        clear hd
        induction ra using RpAll.rec (motive_1 := fun _ _ _ => True) with
        | nil => exact HoldAll.cons (f := []) (g := []) (.of r) .nil
        | cons hr _ _ ih => exact HoldAll.cons (f := []) (g := []) (.of hr) ih
        | _ => trivial
      have := EnvOk.join (l := lev 0 vs ds ++ [(v, 0, d)]) (f := []) h2 h3 hg hv hr nd hq
      rw [List.append_assoc] at this
      exact this
    cases r with
    | lst e ra =>
      rcases hd with q | q | ⟨_, q⟩ | ⟨_, q⟩ <;> cases q
      exact ⟨_, _, _, rfl, hg.gs _ _ e, ra.length, fun _ => rfl, (fun q => nomatch q), (fun _ q => nomatch q), (fun _ q => nomatch q), ra.mono hg.gs, fin ra⟩
    | tup e ra =>
      rcases hd with q | q | ⟨_, q⟩ | ⟨_, q⟩ <;> cases q
      exact ⟨_, _, _, rfl, hg.gs _ _ e, ra.length, (fun q => nomatch q), fun _ => rfl, (fun _ q => nomatch q), (fun _ q => nomatch q), ra.mono hg.gs, fin ra⟩
    | dk e ek ra =>
      rcases hd with q | q | ⟨_, q⟩ | ⟨_, q⟩ <;> cases q
      exact ⟨_, _, _, rfl, hg.gs _ _ e, ra.length, (fun q => nomatch q), (fun q => nomatch q), (fun ks q => by cases q; exact ⟨_, rfl, ek, rfl⟩), (fun _ q => nomatch q), ra.mono hg.gs, fin ra⟩
    | dt e ek ra =>
      rcases hd with q | q | ⟨_, q⟩ | ⟨_, q⟩ <;> cases q
      exact ⟨_, _, _, rfl, hg.gs _ _ e, ra.length, (fun q => nomatch q), (fun q => nomatch q), (fun _ q => nomatch q), (fun ks q => by cases q; exact ⟨_, rfl, ek, rfl⟩), ra.mono hg.gs, fin ra⟩
    | _ => rcases hd with q | q | ⟨_, q⟩ | ⟨_, q⟩ <;> cases q
end
end Mir

namespace Mir
open PySem PySem.Spec L2

/-! ### results -/
inductive Res (α : Type) where
  | ok (a : α) | exc (c : Str) (ns : List Str) (as : List D) | bad
def Res.bind {α β : Type} : Res α → (α → Res β) → Res β
  | .ok a, f => f a
  | .exc c ns as, _ => .exc c ns as
  | .bad, _ => .bad
instance : Monad Res where
  pure := .ok
  bind := Res.bind
theorem bind_ok {α β : Type} {x : Res α} {f : α → Res β} {b : β} (h : (x >>= f) = .ok b) : ∃ a, x = .ok a ∧ f a = .ok b := by
  cases x with
  | ok a => exact ⟨a, rfl, h⟩
  | exc c ns as => cases h
  | bad => cases h
@[simp] theorem ok_bind {α β : Type} (a : α) (f : α → Res β) : (Res.ok a >>= f) = f a := rfl
@[simp] theorem pure_ok {α : Type} (a : α) : (pure a : Res α) = .ok a := rfl
/-- a guard -/
def chk (b : Bool) : Res Unit := if b then .ok () else .bad
theorem chk_ok {b : Bool} {u : Unit} (h : chk b = .ok u) : b = true := by
  cases b with
  | true => rfl
  | false => cases h
@[simp] theorem chk_true : chk true = .ok () := rfl
inductive Ctl where
  | nx (e : Env) | bk (e : Env) | ct (e : Env) | rt (d : D)

def Ext (H H' : Hp) : Prop := ∀ a o, H a = some o → H' a = some o
theorem Ext.refl (H : Hp) : Ext H H := fun _ _ h => h
theorem Ext.trans {H H1 H2 : Hp} (a : Ext H H1) (b : Ext H1 H2) : Ext H H2 := fun c o h => b c o (a c o h)
theorem Ext.upd {H : Hp} {p : Addr} {o : HO} (h : H p = none) : Ext H (upd H p o) := up_keep h
theorem Ext.rp {H H' : Hp} (h : Ext H H') {v : V} {d : D} (r : Rp (view H) v d) : Rp (view H') v d := r.mono (view_ext h)
theorem Ext.rpAll {H H' : Hp} (h : Ext H H') {v : List V} {d : List D} (r : RpAll (view H) v d) : RpAll (view H') v d := r.mono (view_ext h)

/-! ### the readings by meaning -/
def wE (X : Cx) (e : Expr) : TE := fun σ H Q => ∀ (pins : List (Addr × Obj)) (s : Shared), Inv X pins σ H s → wpAny (model X.prog X.w) X.A (eval e X.env) (EP X pins σ Q) X.xe s
theorem pe_sem {X : Cx} {e : Expr} : PE X e (wE X e) := ⟨fun pins s _ _ _ I h => h pins s I⟩
theorem wE_of {X : Cx} {e : Expr} {t : TE} (h : PE X e t) {σ : St} {H : Hp} {Q : VK} (ht : t σ H Q) : wE X e σ H Q := fun pins s I => h.run pins s σ H Q I ht
def wT (X : Cx) (e : Expr) : TT := fun σ H Q => ∀ (pins : List (Addr × Obj)) (s : Shared), Inv X pins σ H s → wpAny (model X.prog X.w) X.A (isTrue e X.env (eval e X.env)) (TP X pins σ Q) X.xe s
theorem pt_sem {X : Cx} {e : Expr} : PT X e (wT X e) := ⟨fun pins s _ _ _ I h => h pins s I⟩
theorem wT_of {X : Cx} {e : Expr} {t : TT} (h : PT X e t) {σ : St} {H : Hp} {Q : Bool → Hp → Prop} (ht : t σ H Q) : wT X e σ H Q := fun pins s I => h.run pins s σ H Q I ht
def wW (X : Cx) (e : Expr) : TT := fun σ H Q => ∀ (whole : Sem Value) (pins : List (Addr × Obj)) (s : Shared), Inv X pins σ H s → wpAny (model X.prog X.w) X.A (isTrue e X.env whole) (TP X pins σ Q) X.xe s
theorem pw_sem {X : Cx} {e : Expr} : PW X e (wW X e) := ⟨fun w pins s _ _ _ I h => h w pins s I⟩
theorem wW_of {X : Cx} {e : Expr} {t : TT} (h : PW X e t) {σ : St} {H : Hp} {Q : Bool → Hp → Prop} (ht : t σ H Q) : wW X e σ H Q := fun w pins s I => h.run w pins s σ H Q I ht
def wA (X : Cx) (es : List Expr) : TA := fun σ H Q => ∀ (pos : Pos) (pins : List (Addr × Obj)) (s : Shared), Inv X pins σ H s → wpAny (model X.prog X.w) X.A (spliced (backTo pos (starEach es X.env))) (AP X pins σ Q) X.xe s
theorem pa_sem {X : Cx} {e : List Expr} : PA X e (wA X e) := ⟨fun p pins s _ _ _ I h => h p pins s I⟩
theorem wA_of {X : Cx} {e : List Expr} {t : TA} (h : PA X e t) {σ : St} {H : Hp} {Q : List V → Hp → Prop} (ht : t σ H Q) : wA X e σ H Q := fun p pins s I => h.run p pins s σ H Q I ht
def wS (X : Cx) (st : Stmt) : TS := fun D σ H => ∀ (pins : List (Addr × Obj)) (s : Shared), Inv X pins σ H s → wpAny (model X.prog X.w) X.A (exec st X.env) (SP X pins D) X.xe s
theorem ps_sem {X : Cx} {e : Stmt} : PS X e (wS X e) := ⟨fun pins s _ _ _ I h => h pins s I⟩
theorem wS_of {X : Cx} {e : Stmt} {t : TS} (h : PS X e t) {σ : St} {H : Hp} {D : Ends} (ht : t D σ H) : wS X e D σ H := fun pins s I => h.run pins s σ H D I ht
def wB (X : Cx) (st : List Stmt) : TS := fun D σ H => ∀ (pins : List (Addr × Obj)) (s : Shared), Inv X pins σ H s → wpAny (model X.prog X.w) X.A (execs st X.env) (SP X pins D) X.xe s
theorem pss_sem {X : Cx} {e : List Stmt} : PSs X e (wB X e) := ⟨fun pins s _ _ _ I h => h pins s I⟩
theorem wB_of {X : Cx} {e : List Stmt} {t : TS} (h : PSs X e t) {σ : St} {H : Hp} {D : Ends} (ht : t D σ H) : wB X e D σ H := fun pins s I => h.run pins s σ H D I ht

/-! ### the judgements: an expression's worth by its mirror m -/
/-- its value is handed on, owned to the level k; the slots cs are given away -/
def SE (X : Cx) (k : Nat) (cs : List Nat) (e : Expr) (m : Env → Res D) : Prop := ∀ (B : Bs) (H : Hp) (env : Env) (σ : St) (tm : List Hold) (d : D) (Q : VK), EnvOk B H env σ tm → m env = .ok d →
  (∀ v H', Ext H H' → EnvOk B H' (clear env cs) σ ((v, k, d) :: tm) → Q v H') → wE X e σ H Q
/-- its value may be read -/
def SB (X : Cx) (e : Expr) (m : Env → Res D) : Prop := ∀ (B : Bs) (H : Hp) (env : Env) (σ : St) (tm : List Hold) (d : D) (Q : VK), EnvOk B H env σ tm → m env = .ok d →
  (∀ v H', Ext H H' → EnvOk B H' env σ tm → Rp (view H') v d → Q v H') → wE X e σ H Q
/-- .. and holds no list, no dict -/
def SC (X : Cx) (e : Expr) (m : Env → Res D) : Prop := ∀ (B : Bs) (H : Hp) (env : Env) (σ : St) (tm : List Hold) (d : D) (Q : VK), EnvOk B H env σ tm → m env = .ok d →
  (∀ v H', Ext H H' → EnvOk B H' env σ tm → Rp (view H') v d → d.imm = true → Q v H') → wE X e σ H Q
/-- a test -/
def ST (X : Cx) (e : Expr) (m : Env → Res Bool) : Prop := ∀ (B : Bs) (H : Hp) (env : Env) (σ : St) (tm : List Hold) (b : Bool) (Q : Bool → Hp → Prop), EnvOk B H env σ tm → m env = .ok b →
  (∀ H', Ext H H' → EnvOk B H' env σ tm → Q b H') → wT X e σ H Q
def SW (X : Cx) (e : Expr) (m : Env → Res Bool) : Prop := ∀ (B : Bs) (H : Hp) (env : Env) (σ : St) (tm : List Hold) (b : Bool) (Q : Bool → Hp → Prop), EnvOk B H env σ tm → m env = .ok b →
  (∀ H', Ext H H' → EnvOk B H' env σ tm → Q b H') → wW X e σ H Q
/-- arguments that may be read -/
def SAB (X : Cx) (es : List Expr) (m : Env → Res (List D)) : Prop := ∀ (B : Bs) (H : Hp) (env : Env) (σ : St) (tm : List Hold) (ds : List D) (Q : List V → Hp → Prop), EnvOk B H env σ tm → m env = .ok ds →
  (∀ vs H', Ext H H' → EnvOk B H' env σ tm → RpAll (view H') vs ds → Q vs H') → wA X es σ H Q
/-- items that are handed on -/
def SAE (X : Cx) (k : Nat) (cs : List Nat) (es : List Expr) (m : Env → Res (List D)) : Prop := ∀ (B : Bs) (H : Hp) (env : Env) (σ : St) (tm : List Hold) (ds : List D) (Q : List V → Hp → Prop), EnvOk B H env σ tm → m env = .ok ds →
  (∀ vs H', Ext H H' → vs.length = ds.length → EnvOk B H' (clear env cs) σ (lev k vs ds ++ tm) → Q vs H') → wA X es σ H Q

section
variable {X : Cx} {e a b : Expr} {m ma mb : Env → Res D} {k : Nat} {cs : List Nat} {pos : Pos}
theorem sb_c (h : SC X e m) : SB X e m := fun B H env σ tm d Q ok hm q => h B H env σ tm d Q ok hm fun v H' x ok' r _ => q v H' x ok' r
theorem se_c (h : SC X e m) : SE X k [] e m := fun B H env σ tm d Q ok hm q => h B H env σ tm d Q ok hm fun v H' x ok' r i => q v H' x (ok'.imm r i)
theorem sb_e (h : SE X k [] e m) : SB X e m := fun B H env σ tm d Q ok hm q => h B H env σ tm d Q ok hm fun v H' x ok' => q v H' x ok'.tail ok'.rp
/-- what is read and holds no list, no dict -/
def mImm (m : Env → Res D) : Env → Res D := fun env => m env >>= fun d => if d.imm then .ok d else .bad
theorem sc_b (h : SB X e m) : SC X e (mImm m) := fun B H env σ tm d Q ok hm q => by
  obtain ⟨d', h1, h2⟩ := bind_ok hm
  by_cases hi : d'.imm = true
  · rw [if_pos hi] at h2
    cases h2
    exact h B H env σ tm d Q ok h1 fun v H' x ok' r => q v H' x ok' r hi
  · rw [if_neg hi] at h2; cases h2
theorem se_0 (h : SE X k cs e m) : SE X 0 cs e m := fun B H env σ tm d Q ok hm q => h B H env σ tm d Q ok hm fun v H' x ok' => q v H' x ok'.freeze

/-! ### names -/
def mVar (i : Nat) : Env → Res D := fun env => match env[i]? with
  | some (some (_, d)) => .ok d
  | _ => .bad
def mVarK (i k : Nat) : Env → Res D := fun env => match env[i]? with
  | some (some (j, d)) => if j = k then .ok d else .bad
  | _ => .bad
theorem sb_var {i : Nat} (h : PE X e (tVar i)) : SB X e (mVar i) := fun B H env σ tm d Q ok hm q => by
  unfold mVar at hm
  split at hm
  · rename_i j d' e1
    cases hm
    obtain ⟨v, hv, r⟩ := ok.slot e1
    exact wE_of h ⟨v, hv, q v H (Ext.refl H) ok r⟩
  · cases hm
theorem se_var {i : Nat} (h : PE X e (tVar i)) : SE X 0 [] e (mVarK i 0) := fun B H env σ tm d Q ok hm q => by
  unfold mVarK at hm
  split at hm
  · rename_i j d' e1
    split at hm
    · rename_i ej
      subst ej
      cases hm
      obtain ⟨v, hv, ok'⟩ := ok.slot0 e1
      exact wE_of h ⟨v, hv, q v H (Ext.refl H) ok'⟩
    · cases hm
  · cases hm
/-- a slot's content is given away -/
theorem se_move {i : Nat} (h : PE X e (tVar i)) : SE X k [i] e (mVarK i k) := fun B H env σ tm d Q ok hm q => by
  unfold mVarK at hm
  split at hm
  · rename_i j d' e1
    split at hm
    · rename_i ej
      subst ej
      cases hm
      obtain ⟨v, hv, r⟩ := ok.slot e1
      exact wE_of h ⟨v, hv, q v H (Ext.refl H) (ok.move e1 hv)⟩
    · cases hm
  · cases hm

/-! ### constants -/
def mC (d : D) : Env → Res D := fun _ => .ok d
theorem sc_of {d : D} {v : V} (h : PE X e (tC v)) (r : ∀ G, Rp G v d) (hi : d.imm = true) : SC X e (mC d) := fun B H env σ tm d' Q ok hm q => by
  cases hm
  exact wE_of h (q v H (Ext.refl H) ok (r _) hi)
theorem sc_int {i : Int} {j pos} : SC X (.Constant (.int i) j pos) (mC (.int i)) := sc_of pe_int (fun _ => .int i) rfl
theorem sc_bl {i : Bool} {j pos} : SC X (.Constant (.bool i) j pos) (mC (.bl i)) := sc_of pe_bl (fun _ => .bl i) rfl
theorem sc_non {j pos} : SC X (.Constant .none j pos) (mC .non) := sc_of pe_non (fun _ => .non) rfl
theorem sc_str {i : Str} {j pos} : SC X (.Constant (.str i) j pos) (mC (.str i)) := sc_of pe_str (fun _ => .str i) rfl

/-! ### operators on values -/
def OpC (X : Cx) (f : Value → Value → Sem Value) (g : D → D → Res D) : Prop := ∃ r : R2, OpR X f r ∧ ∀ (x y : V) (dx dy d : D) (H : Hp) (Q : VK), Rp (view H) x dx → Rp (view H) y dy → g dx dy = .ok d →
  (∀ v, Rp (view H) v d → d.imm = true → Q v H) → r x y H Q
def mOp (g : D → D → Res D) (ma mb : Env → Res D) : Env → Res D := fun env => ma env >>= fun x => mb env >>= fun y => g x y
theorem two {g : D → D → Res D} {env : Env} {d : D} (h : mOp g ma mb env = .ok d) : ∃ x y, ma env = .ok x ∧ mb env = .ok y ∧ g x y = .ok d := by
  obtain ⟨x, h1, h2⟩ := bind_ok h
  obtain ⟨y, h3, h4⟩ := bind_ok h2
  exact ⟨x, y, h1, h3, h4⟩
theorem sb2 (ha : SB X a ma) (hb : SB X b mb) {B : Bs} {H : Hp} {env : Env} {σ : St} {tm : List Hold} {x y : D} (ok : EnvOk B H env σ tm) (hx : ma env = .ok x) (hy : mb env = .ok y) {R : V → V → Hp → Prop}
    (q : ∀ v u H', Ext H H' → EnvOk B H' env σ tm → Rp (view H') v x → Rp (view H') u y → R v u H') : wE X a σ H fun v H1 => wE X b σ H1 fun u H2 => R v u H2 :=
  ha B H env σ tm x _ ok hx fun v H1 x1 ok1 r1 => hb B H1 env σ tm y _ ok1 hy fun u H2 x2 ok2 r2 => q v u H2 (x1.trans x2) ok2 (x2.rp r1) r2
theorem sc_op {op : Operator} {g : D → D → Res D} (ho : OpC X (binaryOp op) g) (ha : SB X a ma) (hb : SB X b mb) : SC X (.BinOp a op b pos) (mOp g ma mb) := fun B H env σ tm d Q ok hm q => by
  obtain ⟨x, y, hx, hy, hg⟩ := two hm
  obtain ⟨r, hr, hq⟩ := ho
  exact wE_of (pe_op hr pe_sem pe_sem) (sb2 ha hb ok hx hy fun v u H' x' ok' r1 r2 => hq v u _ _ _ H' Q r1 r2 hg fun z rz iz => q z H' x' ok' rz iz)
theorem sc_cmp {op : CmpOp} {g : D → D → Res D} (ho : OpC X (compareOp op) g) (ha : SB X a ma) (hb : SB X b mb) (hm : behindInMarks op b = false) : SC X (.Compare a [op] [b] pos) (mOp g ma mb) := fun B H env σ tm d Q ok hm' q => by
  obtain ⟨x, y, hx, hy, hg⟩ := two hm'
  obtain ⟨r, hr, hq⟩ := ho
  exact wE_of (pe_cmpR hr pe_sem pe_sem hm) (sb2 ha hb ok hx hy fun v u H' x' ok' r1 r2 => hq v u _ _ _ H' Q r1 r2 hg fun z rz iz => q z H' x' ok' rz iz)
def toB : D → Res Bool
  | .bl b => .ok b
  | _ => .bad
def mTb (m : Env → Res D) : Env → Res Bool := fun env => m env >>= toB
theorem toB_ok {d : D} {b : Bool} (h : toB d = .ok b) : d = .bl b := by
  cases d with
  | bl c => cases h; rfl
  | _ => cases h
theorem st_cmp {op : CmpOp} {g : D → D → Res D} (ho : OpC X (compareOp op) g) (ha : SB X a ma) (hb : SB X b mb) (hm : behindInMarks op b = false) : ST X (.Compare a [op] [b] pos) (mTb (mOp g ma mb)) := fun B H env σ tm d Q ok hm' q => by
  obtain ⟨z, hz, hd⟩ := bind_ok hm'
  have hd' := toB_ok hd
  subst hd'
  obtain ⟨x, y, hx, hy, hg⟩ := two hz
  obtain ⟨r, hr, hq⟩ := ho
  refine wT_of (pt_cmpR hr pe_sem pe_sem hm) (sb2 ha hb ok hx hy fun v u H' x' ok' r1 r2 => hq v u _ _ _ H' _ r1 r2 hg fun z rz iz => ?_)
  cases rz
  exact ⟨_, rfl, q H' x' ok'⟩
/-- a value True or False as a test -/
theorem st_val (h : SB X e m) (he : ∀ whole, isTrue e X.env whole = (do let v ← whole; standAt e.pos; holding [v] (truthy v)) := by intro _; rfl) : ST X e (mTb m) := fun B H env σ tm d Q ok hm' q => by
  obtain ⟨z, hz, hd⟩ := bind_ok hm'
  have hd' := toB_ok hd
  subst hd'
  refine wT_of (pt_val pe_sem he) (h B H env σ tm _ _ ok hz fun v H' x ok' r => ?_)
  cases r
  exact ⟨_, rfl, q H' x ok'⟩

/-! ### unary -/
def mUn (g : D → Res D) (m : Env → Res D) : Env → Res D := fun env => m env >>= g
def gNeg : D → Res D
  | .int i => .ok (.int (-i))
  | _ => .bad
/-! ### and, or, not -/
def mNotB (m : Env → Res Bool) : Env → Res Bool := fun env => m env >>= fun b => .ok (!b)
def mAndB (m n : Env → Res Bool) : Env → Res Bool := fun env => m env >>= fun b => if b then n env else .ok false
def mOrB (m n : Env → Res Bool) : Env → Res Bool := fun env => m env >>= fun b => if b then .ok true else n env
variable {ta tb : Env → Res Bool} {rest : List Expr}
theorem st_not (ha : ST X a ta) : ST X (.UnaryOp .Not a pos) (mNotB ta) := fun B H env σ tm d Q ok hm q => by
  obtain ⟨x, hx, hg⟩ := bind_ok hm
  cases hg
  exact wT_of (pt_not pt_sem) (ha B H env σ tm x _ ok hx fun H' x' ok' => q H' x' ok')
theorem sw_and1 (ha : ST X a ta) : SW X (.BoolOp .And [a] pos) ta := fun B H env σ tm d Q ok hm q => wW_of (pw_and1 pt_sem) (ha B H env σ tm d Q ok hm q)
theorem sw_or1 (ha : ST X a ta) : SW X (.BoolOp .Or [a] pos) ta := fun B H env σ tm d Q ok hm q => wW_of (pw_or1 pt_sem) (ha B H env σ tm d Q ok hm q)
theorem sw_and (ha : ST X a ta) (hb : SW X (.BoolOp .And (b :: rest) pos) tb) : SW X (.BoolOp .And (a :: b :: rest) pos) (mAndB ta tb) := fun B H env σ tm d Q ok hm q => by
  obtain ⟨x, hx, hg⟩ := bind_ok hm
  refine wW_of (pw_and pt_sem pw_sem) (ha B H env σ tm x _ ok hx fun H1 x1 ok1 => ?_)
  cases x with
  | true => exact hb B H1 env σ tm d Q ok1 hg fun H2 x2 ok2 => q H2 (x1.trans x2) ok2
  | false => cases hg; exact q H1 x1 ok1
theorem sw_or (ha : ST X a ta) (hb : SW X (.BoolOp .Or (b :: rest) pos) tb) : SW X (.BoolOp .Or (a :: b :: rest) pos) (mOrB ta tb) := fun B H env σ tm d Q ok hm q => by
  obtain ⟨x, hx, hg⟩ := bind_ok hm
  refine wW_of (pw_or pt_sem pw_sem) (ha B H env σ tm x _ ok hx fun H1 x1 ok1 => ?_)
  cases x with
  | false => exact hb B H1 env σ tm d Q ok1 hg fun H2 x2 ok2 => q H2 (x1.trans x2) ok2
  | true => cases hg; exact q H1 x1 ok1
theorem st_w (h : SW X e ta) : ST X e ta := fun B H env σ tm d Q ok hm q pins s I => h B H env σ tm d Q ok hm q _ pins s I
/-- .. as values -/
def mAndV (ma mb : Env → Res D) : Env → Res D := fun env => ma env >>= fun x => toB x >>= fun b => if b then mb env else .ok (.bl false)
def mOrV (ma mb : Env → Res D) : Env → Res D := fun env => ma env >>= fun x => toB x >>= fun b => if b then .ok (.bl true) else mb env
/-- not e as a value -/
def mNotV (m : Env → Res D) : Env → Res D := fun env => m env >>= fun x => toB x >>= fun b => .ok (.bl (!b))
/-- a if t else b -/
def mIf {α : Type} (t : Env → Res Bool) (ma mb : Env → Res α) : Env → Res α := fun env => t env >>= fun c => if c then ma env else mb env
/-! ### arguments, displays -/
def mNilA : Env → Res (List D) := fun _ => .ok []
def mConsA (m : Env → Res D) (n : Env → Res (List D)) : Env → Res (List D) := fun env => m env >>= fun x => n env >>= fun xs => .ok (x :: xs)
theorem sab_nil : SAB X [] mNilA := fun B H env σ tm ds Q ok hm q => by
  cases hm
  exact wA_of pa_nil (q [] H (Ext.refl H) ok .nil)
theorem sab_cons {es : List Expr} {ms : Env → Res (List D)} (he : SB X e m) (hs : SAB X es ms) (hst : starEach (e :: es) X.env = (false, eval e X.env) :: starEach es X.env := by rfl) : SAB X (e :: es) (mConsA m ms) := fun B H env σ tm ds Q ok hm q => by
  obtain ⟨x, hx, hg⟩ := bind_ok hm
  obtain ⟨xs, hxs, hg⟩ := bind_ok hg
  cases hg
  refine wA_of (pa_cons pe_sem pa_sem hst) (he B H env σ tm x _ ok hx fun v H1 x1 ok1 r1 => hs B H1 env σ tm xs _ ok1 hxs fun vs H2 x2 ok2 r2 => ?_)
  exact q _ H2 (x1.trans x2) ok2 (.cons (x2.rp r1) r2)
/-- items: the mirror of what stands behind sees the slots that are left -/
def mConsE (m : Env → Res D) (cs : List Nat) (n : Env → Res (List D)) : Env → Res (List D) := fun env => m env >>= fun x => n (clear env cs) >>= fun xs => .ok (x :: xs)
theorem clear_app : ∀ (env : Env) (cs cs' : List Nat), clear (clear env cs) cs' = clear env (cs ++ cs')
  | _, [], _ => rfl
  | env, c :: cs, cs' => clear_app (env.set c none) cs cs'
theorem sae_nil : SAE X k [] [] mNilA := fun B H env σ tm ds Q ok hm q => by
  cases hm
  exact wA_of pa_nil (q [] H (Ext.refl H) rfl ok)
theorem sae_cons {es : List Expr} {cs' : List Nat} {ms : Env → Res (List D)} (he : SE X k cs e m) (hs : SAE X k cs' es ms) (hst : starEach (e :: es) X.env = (false, eval e X.env) :: starEach es X.env := by rfl) : SAE X k (cs ++ cs') (e :: es) (mConsE m cs ms) := fun B H env σ tm ds Q ok hm q => by
  obtain ⟨x, hx, hg⟩ := bind_ok hm
  obtain ⟨xs, hxs, hg⟩ := bind_ok hg
  cases hg
  refine wA_of (pa_cons pe_sem pa_sem hst) (he B H env σ tm x _ ok hx fun v H1 x1 ok1 => hs B H1 (clear env cs) σ _ xs _ ok1 hxs fun vs H2 x2 hl ok2 => ?_)
  refine q _ H2 (x1.trans x2) (by simp [hl]) ?_
  rw [← clear_app]
  exact ok2.perm (List.perm_middle (l₁ := lev k vs xs) (a := (v, k, x)) (l₂ := tm))
def mTup (n : Env → Res (List D)) : Env → Res D := fun env => n env >>= fun xs => if xs.length ≤ sizeLine then .ok (.tup xs) else .bad
def mLst (n : Env → Res (List D)) : Env → Res D := fun env => n env >>= fun xs => if xs.length ≤ sizeLine then .ok (.lst xs) else .bad
theorem se_tup {es : List Expr} {ms : Env → Res (List D)} {x1} (hs : SAE X k cs es ms) : SE X (k + 1) cs (.Tuple es x1 pos) (mTup ms) := fun B H env σ tm d Q ok hm q => by
  obtain ⟨xs, hx, hg⟩ := bind_ok hm
  by_cases hl : xs.length ≤ sizeLine
  · rw [if_pos hl] at hg
    cases hg
    refine wE_of (pe_tup pa_sem) (hs B H env σ tm xs _ ok hx fun vs H1 x1 e1 ok1 => ⟨by rw [e1]; exact hl, fun p hp => ?_⟩)
    exact q _ _ (x1.trans (Ext.upd hp)) (ok1.newTup e1 hp)
  · rw [if_neg hl] at hg; cases hg
theorem se_lst {es : List Expr} {ms : Env → Res (List D)} (hs : SAE X k cs es ms) : SE X (k + 1) cs (.List es pos) (mLst ms) := fun B H env σ tm d Q ok hm q => by
  obtain ⟨xs, hx, hg⟩ := bind_ok hm
  by_cases hl : xs.length ≤ sizeLine
  · rw [if_pos hl] at hg
    cases hg
    refine wE_of (pe_lst pa_sem) (hs B H env σ tm xs _ ok hx fun vs H1 x1 e1 ok1 => ⟨by rw [e1]; exact hl, fun p hp => ?_⟩)
    exact q _ _ (x1.trans (Ext.upd hp)) (ok1.newLst e1 hp)
  · rw [if_neg hl] at hg; cases hg
/-- a tuple of things that hold no list, no dict -/
theorem sc_tup {es : List Expr} {ms : Env → Res (List D)} {x1} (hs : SAE X 0 [] es ms) : SC X (.Tuple es x1 pos) (mImm (mTup ms)) := sc_b (sb_e (se_0 (se_tup hs)))
end
end Mir

namespace Mir
open PySem PySem.Spec L2

/-! ### as the library's data -/
mutual
def D.py : D → PyData
  | .non => .none | .bl b => .bool b | .int i => .int i | .str x => .str x
  | .lst xs => .list (pyAll xs) | .tup xs => .tuple (pyAll xs) | .dk _ _ => .dict [] | .dt _ _ => .dict []
  | .ob _ _ _ _ => .dict [] | .exn _ _ _ _ => .dict [] | .dn _ _ => .dict []
def pyAll : List D → List PyData
  | [] => []
  | d :: ds => d.py :: pyAll ds
end
theorem pyAll_map : ∀ ds : List D, pyAll ds = ds.map D.py
  | [] => rfl
  | d :: ds => by rw [pyAll, pyAll_map ds]; rfl
mutual
theorem Rp.dp {K : PySem.W.Frag} {H : Hp} : ∀ {v : V} {d : D}, Rp (view H) v d → PyData.canLay0 d.py = true → Dp K H v d.py
  | _, _, .non, _ => .non
  | _, _, .bl b, _ => .bl b
  | _, _, .int i, _ => .int i
  | _, _, .str x, _ => .str x
  | _, _, .lst h r, e => .lst (.inl (view_rd h)) (RpAll.dp r (by simpa [D.py, PyData.canLay0] using e))
  | _, _, .tup h r, e => .tup (.inl (view_rd h)) (RpAll.dp r (by simpa [D.py, PyData.canLay0] using e))
  | _, _, .dk _ _ _, e => by simp [D.py, PyData.canLay0] at e
  | _, _, .dt _ _ _, e => by simp [D.py, PyData.canLay0] at e
  | _, _, .ob _ _ _, e => by simp [D.py, PyData.canLay0] at e
  | _, _, .exn0 _, e => by simp [D.py, PyData.canLay0] at e
  | _, _, .exn _ _ _ _, e => by simp [D.py, PyData.canLay0] at e
  | _, _, .dn _ _ _ _, e => by simp [D.py, PyData.canLay0] at e
theorem RpAll.dp {K : PySem.W.Frag} {H : Hp} : ∀ {v : List V} {d : List D}, RpAll (view H) v d → PyData.canLayAll0 (pyAll d) = true → DpAll K H v (pyAll d)
  | _, _, .nil, _ => .nil
  | _, _, .cons h r, e => by
    rw [pyAll, PyData.canLayAll0, Bool.and_eq_true] at e
    exact .cons (Rp.dp h e.1) (RpAll.dp r e.2)
end
theorem shaped_lay {d : PyData} (h : SeqAt.shaped d = true) : PyData.canLay0 d = true := by
  unfold SeqAt.shaped at h
  rw [Bool.and_eq_true] at h
  exact h.1

/-! ### arithmetic -/
def gAdd : D → D → Res D
  | .int i, .int j => .ok (.int (i + j))
  | .str a, .str b => if a.length + b.length ≤ sizeLine then .ok (.str (a ++ b)) else .bad
  | _, _ => .bad
def gSub : D → D → Res D
  | .int i, .int j => .ok (.int (i - j))
  | _, _ => .bad
def mulOk (i j : Int) : Bool := (decide (-(2 ^ 64) < i) && decide (i < 2 ^ 64)) || (decide (-(2 ^ 64) < j) && decide (j < 2 ^ 64)) || decide (i.natAbs.log2 + j.natAbs.log2 < 1000000)
def gMul : D → D → Res D
  | .int i, .int j => if mulOk i j then .ok (.int (i * j)) else .bad
  | _, _ => .bad
def gMod : D → D → Res D
  | .int i, .int j => if 0 < j then .ok (.int (i % j)) else .bad
  | _, _ => .bad
def gFdv : D → D → Res D
  | .int i, .int j => if 0 < j ∧ j.natAbs.log2 < 9000 then .ok (.int (i / j)) else .bad
  | _, _ => .bad
def gPow : D → D → Res D
  | .int i, .int j => if 0 ≤ j ∧ j ≤ 1000000 ∧ i.natAbs < 2 ^ 64 then .ok (.int (i ^ j.toNat)) else .bad
  | _, _ => .bad
section
variable {X : Cx}
theorem op_i {f : Value → Value → Sem Value} {C : Int → Int → Prop} {g : Int → Int → Int} {gg : D → D → Res D} (ho : OpR X f (rI C fun i j => .int (g i j)))
    (hg : ∀ x y d, gg x y = .ok d → ∃ i j, x = .int i ∧ y = .int j ∧ C i j ∧ d = .int (g i j)) : OpC X f gg := ⟨_, ho, fun x y dx dy d H Q rx ry e q => by
  obtain ⟨i, j, rfl, rfl, c, rfl⟩ := hg _ _ _ e
  cases rx
  cases ry
  exact ⟨i, j, rfl, rfl, c, q _ (.int _) rfl⟩⟩
theorem o_sub : OpC X (binaryOp .Sub) gSub := by
  refine ⟨_, op_sub, fun x y dx dy d H Q rx ry e q => ?_⟩
  unfold gSub at e
  split at e
  · cases e; cases rx; cases ry; exact ⟨_, _, rfl, rfl, q _ (.int _) rfl⟩
  · cases e
theorem o_mul : OpC X (binaryOp .Mult) gMul := by
  have h1 : OpR X (binaryOp .Mult) (fun x y H Q => (rI CMul fun i j => .int (i * j)) x y H Q ∨ (rI CMulW fun i j => .int (i * j)) x y H Q) := fun pins s σ H x y v u Q I rx ry h => h.elim (fun h => op_mul pins s σ H x y v u Q I rx ry h) fun h => op_mulW pins s σ H x y v u Q I rx ry h
  refine ⟨_, h1, fun x y dx dy d H Q rx ry e q => ?_⟩
  unfold gMul at e
  split at e
  · rename_i i j
    split at e
    · rename_i hm
      cases e; cases rx; cases ry
      unfold mulOk at hm
      rw [Bool.or_eq_true, Bool.or_eq_true, Bool.and_eq_true, Bool.and_eq_true] at hm
      simp only [decide_eq_true_eq] at hm
      rcases hm with (hm | hm) | hm
      · exact .inl ⟨_, _, rfl, rfl, .inl hm, q _ (.int _) rfl⟩
      · exact .inl ⟨_, _, rfl, rfl, .inr hm, q _ (.int _) rfl⟩
      · exact .inr ⟨_, _, rfl, rfl, hm, q _ (.int _) rfl⟩
    · cases e
  · cases e
theorem o_mod : OpC X (binaryOp .Mod) gMod := op_i op_mod fun x y d h => by
  unfold gMod at h
  split at h
  · split at h
    · rename_i hj; cases h; exact ⟨_, _, rfl, rfl, hj, rfl⟩
    · cases h
  · cases h
theorem o_fdv : OpC X (binaryOp .FloorDiv) gFdv := op_i op_fdivW fun x y d h => by
  unfold gFdv at h
  split at h
  · split at h
    · rename_i hj; cases h; exact ⟨_, _, rfl, rfl, hj, rfl⟩
    · cases h
  · cases h
theorem o_pow : OpC X (binaryOp .Pow) gPow := op_i op_pow fun x y d h => by
  unfold gPow at h
  split at h
  · split at h
    · rename_i hj; cases h; exact ⟨_, _, rfl, rfl, hj, rfl⟩
    · cases h
  · cases h
theorem o_add : OpC X (binaryOp .Add) gAdd := by
  have h1 : OpR X (binaryOp .Add) (fun x y H Q => (rI0 fun i j => .int (i + j)) x y H Q ∨ (∃ i j, x = .str i ∧ y = .str j ∧ i.length + j.length ≤ sizeLine ∧ Q (.str (i ++ j)) H)) := fun pins s σ H x y v u Q I rx ry h => h.elim (fun h => op_add pins s σ H x y v u Q I rx ry h) fun h => op_add_str pins s σ H x y v u Q I rx ry h
  refine ⟨_, h1, fun x y dx dy d H Q rx ry e q => ?_⟩
  unfold gAdd at e
  split at e
  · cases e; cases rx; cases ry
    exact .inl ⟨_, _, rfl, rfl, q _ (.int _) rfl⟩
  · split at e
    · rename_i hl
      cases e; cases rx; cases ry
      exact .inr ⟨_, _, rfl, rfl, hl, q _ (.str _) rfl⟩
    · cases e
  · cases e

/-! ### comparisons -/
def shp (d : D) : Bool := SeqAt.shaped d.py
def gEq (x y : D) : Res D := if shp x && shp y then .ok (.bl (PyData.eqv x.py y.py)) else .bad
def gNe (x y : D) : Res D := if shp x && shp y then .ok (.bl (!PyData.eqv x.py y.py)) else .bad
theorem o_eq (hu : X.A.units + 64 < cLine) : OpC X (compareOp .Eq) gEq := by
  refine ⟨_, op_eqD hu, fun x y dx dy d H Q rx ry e q => ?_⟩
  unfold gEq at e
  split at e
  · rename_i hs
    rw [Bool.and_eq_true] at hs
    cases e
    exact ⟨_, _, rx.dp (shaped_lay hs.1), ry.dp (shaped_lay hs.2), hs.1, hs.2, q _ (.bl _) rfl⟩
  · cases e
theorem o_ne (hu : X.A.units + 64 < cLine) : OpC X (compareOp .NotEq) gNe := by
  refine ⟨_, op_neD hu, fun x y dx dy d H Q rx ry e q => ?_⟩
  unfold gNe at e
  split at e
  · rename_i hs
    rw [Bool.and_eq_true] at hs
    cases e
    exact ⟨_, _, rx.dp (shaped_lay hs.1), ry.dp (shaped_lay hs.2), hs.1, hs.2, q _ (.bl _) rfl⟩
  · cases e
/-- what may be set in order -/
def ordOk (x y : D) : Bool := shp x && shp y && PySem.W.alike x.py y.py && (match x with | .non => false | _ => true) && decide (min x.py.depth y.py.depth ≤ 60)
def gLt : D → D → Res D
  | .int i, .int j => .ok (.bl (decide (i < j)))
  | x, y => if ordOk x y then .ok (.bl (PySem.W.dataLt x.py y.py)) else .bad
def gGt : D → D → Res D
  | .int i, .int j => .ok (.bl (decide (j < i)))
  | x, y => if ordOk x y then .ok (.bl (PySem.W.dataLt y.py x.py)) else .bad
def gLe : D → D → Res D
  | .int i, .int j => .ok (.bl (decide (i ≤ j)))
  | x, y => if ordOk x y then .ok (.bl (!PySem.W.dataLt y.py x.py)) else .bad
def gGe : D → D → Res D
  | .int i, .int j => .ok (.bl (decide (j ≤ i)))
  | x, y => if ordOk x y then .ok (.bl (!PySem.W.dataLt x.py y.py)) else .bad
def rOrd (K : PySem.W.Frag) (f : PyData → PyData → Bool) : R2 := fun x y H Q => ∃ d e, Dp K H x d ∧ Dp K H y e ∧ PySem.W.alike d e = true ∧ d ≠ .none ∧ min d.depth e.depth ≤ 60 ∧ Q (.bl (f d e)) H
theorem op_ord {op : CmpOp} {f : PyData → PyData → Bool} (hu : X.A.units + 64 < cLine)
    (rule : ∀ {a b : Value} {da db : PyData} {as bs : List Addr} {s : Shared} {Q : Value → Shared → Prop}, Reads s.heap a da as → Reads s.heap b db bs → PySem.W.alike da db = true → da ≠ .none → X.A.units + min da.depth db.depth < cLine → Q (.bool (f da db)) s → wpAny (model X.prog X.w) X.A (compareOp op a b) Q X.xe s) : OpR X (compareOp op) (rOrd X.K f) := by
  intro pins s σ H x y v u Q I rx ry h
  obtain ⟨d, e, hd, he, ha, hn, hm, q⟩ := h
  obtain ⟨as, r1⟩ := Dp.reads I d x v hd rx
  obtain ⟨bs, r2⟩ := Dp.reads I e y u he ry
  exact rule r1 r2 ha hn (by omega) ⟨.bl _, H, I, rfl, q⟩
theorem ord_ok {x y : D} {H : Hp} {K : PySem.W.Frag} {v u : V} (h : ordOk x y = true) (rx : Rp (view H) v x) (ry : Rp (view H) u y) : Dp K H v x.py ∧ Dp K H u y.py ∧ PySem.W.alike x.py y.py = true ∧ x.py ≠ .none ∧ min x.py.depth y.py.depth ≤ 60 := by
  unfold ordOk at h
  simp only [Bool.and_eq_true, decide_eq_true_eq] at h
  obtain ⟨⟨⟨⟨h1, h2⟩, h3⟩, h4⟩, h5⟩ := h
  refine ⟨rx.dp (shaped_lay h1), ry.dp (shaped_lay h2), h3, ?_, h5⟩
  cases x <;> simp [D.py] at h4 ⊢
theorem o_ord {op : CmpOp} {f : PyData → PyData → Bool} {p : Int → Int → Bool} {g : D → D → Res D} (h1 : OpR X (compareOp op) (rI0 fun i j => .bl (p i j))) (h2 : OpR X (compareOp op) (rOrd X.K f))
    (hg : ∀ x y d, g x y = .ok d → (∃ i j, x = .int i ∧ y = .int j ∧ d = .bl (p i j)) ∨ (ordOk x y = true ∧ d = .bl (f x.py y.py))) : OpC X (compareOp op) g := by
  have h3 : OpR X (compareOp op) (fun x y H Q => (rI0 fun i j => .bl (p i j)) x y H Q ∨ rOrd X.K f x y H Q) := fun pins s σ H x y v u Q I rx ry h => h.elim (fun h => h1 pins s σ H x y v u Q I rx ry h) fun h => h2 pins s σ H x y v u Q I rx ry h
  refine ⟨_, h3, fun x y dx dy d H Q rx ry e q => ?_⟩
  rcases hg _ _ _ e with ⟨i, j, rfl, rfl, rfl⟩ | ⟨ho, rfl⟩
  · cases rx; cases ry
    exact .inl ⟨_, _, rfl, rfl, q _ (.bl _) rfl⟩
  · obtain ⟨a1, a2, a3, a4, a5⟩ := ord_ok (K := X.K) ho rx ry
    exact .inr ⟨_, _, a1, a2, a3, a4, a5, q _ (.bl _) rfl⟩
theorem o_lt (hu : X.A.units + 64 < cLine) : OpC X (compareOp .Lt) gLt := o_ord op_lt (op_ord (f := fun d e => PySem.W.dataLt d e) hu fun r1 r2 a n u q => PySem.W.lt_data r1 r2 a n u q) fun x y d h => by
  unfold gLt at h
  split at h
  · cases h; exact .inl ⟨_, _, rfl, rfl, rfl⟩
  · split at h
    · rename_i ho; cases h; exact .inr ⟨ho, rfl⟩
    · cases h
theorem o_gt (hu : X.A.units + 64 < cLine) : OpC X (compareOp .Gt) gGt := o_ord op_gt (op_ord (f := fun d e => PySem.W.dataLt e d) hu fun r1 r2 a n u q => PySem.W.gt_data r1 r2 a n u q) fun x y d h => by
  unfold gGt at h
  split at h
  · cases h; exact .inl ⟨_, _, rfl, rfl, rfl⟩
  · split at h
    · rename_i ho; cases h; exact .inr ⟨ho, rfl⟩
    · cases h
/-- is None -/
def gIsN : D → Res D := fun d => .ok (.bl (match d with | .non => true | _ => false))
def gNotN : D → Res D := fun d => .ok (.bl (match d with | .non => false | _ => true))
variable {a b e : Expr} {ma mb m : Env → Res D} {pos : Pos} {k : Nat}
theorem st_isN {j pos'} (ha : SB X a ma) : ST X (.Compare a [.Is] [.Constant .none j pos'] pos) (mTb (mUn gIsN ma)) := fun B H env σ tm d Q ok hm q => by
  obtain ⟨z, hz, hd⟩ := bind_ok hm
  obtain ⟨x, hx, hg⟩ := bind_ok hz
  cases hg
  cases hd
  refine wT_of (pt_cmp (pc_isN pe_sem)) (ha B H env σ tm x _ ok hx fun v H1 x1 ok1 r1 => ?_)
  cases r1 <;> exact ⟨_, rfl, q H1 x1 ok1⟩
theorem st_notN {j pos'} (ha : SB X a ma) : ST X (.Compare a [.IsNot] [.Constant .none j pos'] pos) (mTb (mUn gNotN ma)) := fun B H env σ tm d Q ok hm q => by
  obtain ⟨z, hz, hd⟩ := bind_ok hm
  obtain ⟨x, hx, hg⟩ := bind_ok hz
  cases hg
  cases hd
  refine wT_of (pt_cmp (pc_notN pe_sem)) (ha B H env σ tm x _ ok hx fun v H1 x1 ok1 r1 => ?_)
  cases r1 <;> exact ⟨_, rfl, q H1 x1 ok1⟩

/-! ### truth -/
def gTru : D → Res Bool
  | .non => .ok false
  | .bl b => .ok b
  | .int i => .ok (i != 0)
  | .str z => if z.length ≤ sizeLine then .ok ((z.length : Int) != 0) else .bad
  | .lst xs => .ok (!xs.isEmpty)
  | .tup xs => .ok (!xs.isEmpty)
  | _ => .bad
theorem empty_len {α β : Type} {xs : List α} {ys : List β} (h : xs.length = ys.length) : (!xs.isEmpty) = !ys.isEmpty := by
  cases xs <;> cases ys <;> simp_all
theorem st_tru (ha : SB X a ma) (he : ∀ whole, isTrue a X.env whole = (do let v ← whole; standAt a.pos; holding [v] (truthy v)) := by intro _; rfl) : ST X a (fun env => ma env >>= gTru) := fun B H env σ tm d Q ok hm q => by
  obtain ⟨x, hx, hg⟩ := bind_ok hm
  refine wT_of (pt_truth pe_sem he) (ha B H env σ tm x _ ok hx fun v H1 x1 ok1 r1 => ?_)
  cases r1 with
  | non => cases hg; exact ⟨_, rfl, q H1 x1 ok1⟩
  | bl => cases hg; exact ⟨_, rfl, q H1 x1 ok1⟩
  | int => cases hg; exact ⟨_, rfl, q H1 x1 ok1⟩
  | str z =>
    unfold gTru at hg
    split at hg <;> first | cases hg | skip
    all_goals first | (rename_i e; cases e) | skip
    all_goals first | (split at hg; (rename_i hl; cases hg; exact ⟨_, ⟨hl, rfl⟩, q H1 x1 ok1⟩); cases hg) | skip
  | lst h r =>
    cases hg
    exact ⟨_, .inl ⟨_, .inl (view_rd h), (empty_len r.length).symm⟩, q H1 x1 ok1⟩
  | tup h r =>
    cases hg
    exact ⟨_, .inr (.inl ⟨_, .inl (view_rd h), (empty_len r.length).symm⟩), q H1 x1 ok1⟩
  | dk => cases hg
  | dt => cases hg
  | ob => cases hg
  | exn0 => cases hg
  | dn => cases hg
  | exn => cases hg

/-! ### subscripts -/
def gIx : D → D → Res D
  | .lst xs, .int i => match atI xs i with | some d => .ok d | none => .bad
  | .tup xs, .int i => match atI xs i with | some d => .ok d | none => .bad
  | .str z, .int i => if z.length ≤ sizeLine then (match atI z.cps.toList i with | some c => .ok (.str ⟨#[c]⟩) | none => .bad) else .bad
  | _, _ => .bad
theorem atI_rp {G : Hp} {vs : List V} {ds : List D} {i : Int} {d : D} (r : RpAll G vs ds) (h : atI ds i = some d) : ∃ v, atI vs i = some v ∧ Rp G v d := by
  unfold atI at h ⊢
  rw [r.length]
  cases e : ixN ds.length i with
  | none => rw [e] at h; cases h
  | some j =>
    rw [e] at h
    exact r.get (show ds[j]? = some d from h)
theorem sb_ix (ha : SB X a ma) (hb : SB X b mb) (hs : PlainIx b) : SB X (.Subscript a b pos) (mOp gIx ma mb) := fun B H env σ tm d Q ok hm q => by
  obtain ⟨x, y, hx, hy, hg⟩ := two hm
  refine wE_of (pe_ix ix_seq pe_sem pe_sem hs) (sb2 ha hb ok hx hy fun v u H' x' ok' r1 r2 => ?_)
  unfold gIx at hg
  split at hg
  · cases r1 with
    | lst h r =>
      cases r2
      split at hg
      · rename_i d' he
        cases hg
        obtain ⟨z, hz, rz⟩ := atI_rp r he
        exact .inl ⟨_, _, _, _, rfl, rfl, .inl (view_rd h), hz, q z H' x' ok' rz⟩
      · cases hg
  · cases r1 with
    | tup h r =>
      cases r2
      split at hg
      · rename_i d' he
        cases hg
        obtain ⟨z, hz, rz⟩ := atI_rp r he
        exact .inr (.inl ⟨_, _, _, _, rfl, rfl, .inl (view_rd h), hz, q z H' x' ok' rz⟩)
      · cases hg
  · cases r1
    cases r2
    split at hg
    · rename_i hl
      split at hg
      · rename_i c he
        cases hg
        exact .inr (.inr ⟨_, _, c, rfl, rfl, hl, he, q _ H' x' ok' (.str _)⟩)
      · cases hg
    · cases hg
  · cases hg
theorem lev_get {vs : List V} {ds : List D} {k i : Nat} {v : V} {d : D} (h1 : vs[i]? = some v) (h2 : ds[i]? = some d) : ∃ l, (lev k vs ds).Perm ((v, k, d) :: l) := by
  have : (v, k, d) ∈ lev k vs ds := by
    unfold lev
    rw [List.mem_iff_getElem?]
    exact ⟨i, by rw [List.getElem?_zipWith, h1, h2]⟩
  obtain ⟨l1, l2, e⟩ := List.append_of_mem this
  exact ⟨l1 ++ l2, by rw [e]; exact List.perm_middle⟩
theorem atI_some {α : Type} {xs : List α} {i : Int} {x : α} (h : atI xs i = some x) : ∃ j, ixN xs.length i = some j ∧ xs[j]? = some x := by
  unfold atI at h
  cases e : ixN xs.length i with
  | none => rw [e] at h; cases h
  | some j => rw [e] at h; exact ⟨j, rfl, h⟩
/-- a shared thing's item is shared -/
theorem se_ix (ha : SE X 0 [] a ma) (hb : SB X b mb) (hs : PlainIx b) : SE X 0 [] (.Subscript a b pos) (mOp gIx ma mb) := fun B H env σ tm d Q ok hm q => by
  obtain ⟨x, y, hx, hy, hg⟩ := two hm
  refine wE_of (pe_ix ix_seq pe_sem pe_sem hs) (ha B H env σ tm x _ ok hx fun v H1 x1 ok1 => hb B H1 env σ _ y _ ok1 hy fun u H2 x2 ok2 r2 => ?_)
  have fin : ∀ {ds : List D} {i : Int}, (x = .lst ds ∨ x = .tup ds) → y = .int i → atI ds i = some d → (rIx X.K) v u H2 Q := fun {ds i} hxx hyy he => by
    subst hyy
    cases r2
    obtain ⟨p, o, vs, ev, hp, hl, f1, f2, _, _, ra, ok3⟩ := ok2.items (ds := ds) (hxx.imp id .inl)
    obtain ⟨j, hj, hd⟩ := atI_some he
    obtain ⟨z, hz, rz⟩ := ra.get hd
    have hz' : atI vs i = some z := by
      unfold atI
      rw [hl, hj]
      exact hz
    obtain ⟨l, hp'⟩ := lev_get (k := 0) hz hd
    have ok4 : EnvOk B H2 env σ ((z, 0, d) :: tm) := by
      refine EnvOk.less (l := l ++ [(v, 0, x)]) (ok3.perm ((hp'.append_right _).trans ?_))
      have e : (l ++ [(v, 0, x)]) ++ (z, 0, d) :: tm = l ++ (v, 0, x) :: (z, 0, d) :: tm := by simp
      rw [e]
      have e2 : (z, 0, d) :: l ++ (v, 0, x) :: tm = (z, 0, d) :: ((l ++ [(v, 0, x)]) ++ tm) := by simp
      rw [e2]
      refine List.perm_middle.symm.trans ?_
      rw [e]
    have ext := x1.trans x2
    subst ev
    rcases hxx with e | e
    · have := f1 e
      subst this
      exact .inl ⟨_, _, _, _, rfl, rfl, .inl (view_rd hp), hz', q z H2 ext ok4⟩
    · have := f2 e
      subst this
      exact .inr (.inl ⟨_, _, _, _, rfl, rfl, .inl (view_rd hp), hz', q z H2 ext ok4⟩)
  unfold gIx at hg
  split at hg
  · split at hg
    · rename_i he; cases hg; exact fin (.inl rfl) rfl he
    · cases hg
  · split at hg
    · rename_i he; cases hg; exact fin (.inr rfl) rfl he
    · cases hg
  · split at hg
    · rename_i hl
      split at hg
      · rename_i c he
        cases hg
        have r1 := ok2.rp
        cases r1
        cases r2
        exact .inr (.inr ⟨_, _, c, rfl, rfl, hl, he, q _ H2 (x1.trans x2) (ok2.tail.imm (.str _) rfl)⟩)
      · cases hg
    · cases hg
  · cases hg
end
end Mir

namespace Mir
open PySem PySem.Spec L2

def wG (X : Cx) (tg : Expr) : TG := fun v σ H Q => ∀ (pins : List (Addr × Obj)) (s : Shared) (u : Value), Inv X pins σ H s → RelV v u → wpAny (model X.prog X.w) X.A (assign tg X.env u) (fun _ s' => ∃ σ' H', Inv X pins σ' H' s' ∧ Q σ' H') X.xe s
theorem pg_sem {X : Cx} {tg : Expr} : PG X tg (wG X tg) := ⟨fun pins s σ H v u Q I r h => h pins s u I r⟩
theorem wG_of {X : Cx} {tg : Expr} {t : TG} (h : PG X tg t) {v : V} {σ : St} {H : Hp} {Q : St → Hp → Prop} (ht : t v σ H Q) : wG X tg v σ H Q := fun pins s u I r => h.run pins s σ H v u Q I r ht
def wGs (X : Cx) (ts : List Expr) : TGs := fun vs σ H Q => ∀ (pins : List (Addr × Obj)) (s : Shared) (us : List Value), Inv X pins σ H s → Vals vs us → wpAny (model X.prog X.w) X.A (assignInOrder ((assignEach ts X.env).map (·.2)) us) (fun _ s' => ∃ σ' H', Inv X pins σ' H' s' ∧ Q σ' H') X.xe s
theorem pgs_sem {X : Cx} {tg : List Expr} : PGs X tg (wGs X tg) := ⟨fun pins s σ H v u Q I r h => h pins s u I r⟩
theorem wGs_of {X : Cx} {tg : List Expr} {t : TGs} (h : PGs X tg t) {v : List V} {σ : St} {H : Hp} {Q : St → Hp → Prop} (ht : t v σ H Q) : wGs X tg v σ H Q := fun pins s u I r => h.run pins s σ H v u Q I r ht
def wI (X : Cx) (tg it : Expr) : TI := fun σ H R => ∀ (pins : List (Addr × Obj)) (s : Shared), Inv X pins σ H s → wpAny (model X.prog X.w) X.A (eval it X.env) (fun v s1 => wpAny (model X.prog X.w) X.A (pyIter v) (PIE X pins σ tg R) X.xe s1) X.xe s
theorem pi_sem {X : Cx} {tg it : Expr} : PI X tg it (wI X tg it) := ⟨fun pins s σ H R I h => h pins s I⟩
theorem wI_of {X : Cx} {tg it : Expr} {t : TI} (h : PI X tg it t) {σ : St} {H : Hp} {R : It → Hp → Prop} (ht : t σ H R) : wI X tg it σ H R := fun pins s I => h.run pins s σ H R I ht

/-- a target: what stands in the hand goes into the slots -/
def Off (is : List Nat) (σ σ' : St) : Prop := σ'.length = σ.length ∧ ∀ j, j ∉ is → σ'[j]? = σ[j]?
def STg (X : Cx) (tg : Expr) (is : List Nat) (m : Nat → D → Env → Res Env) : Prop := ∀ (k : Nat) (B : Bs) (H : Hp) (env : Env) (σ : St) (tm : List Hold) (d : D) (v : V) (env' : Env) (Q : St → Hp → Prop), EnvOk B H env σ ((v, k, d) :: tm) → m k d env = .ok env' →
  (∀ σ', Off is σ σ' → EnvOk B H env' σ' tm → Q σ' H) → wG X tg v σ H Q
def STgs (X : Cx) (ts : List Expr) (is : List Nat) (m : Nat → List D → Env → Res Env) : Prop := ∀ (k : Nat) (B : Bs) (H : Hp) (env : Env) (σ : St) (tm : List Hold) (ds : List D) (vs : List V) (env' : Env) (Q : St → Hp → Prop), vs.length = ds.length → EnvOk B H env σ (lev k vs ds ++ tm) → m k ds env = .ok env' →
  (∀ σ', Off is σ σ' → EnvOk B H env' σ' tm → Q σ' H) → wGs X ts vs σ H Q
def tName (i : Nat) : Nat → D → Env → Res Env := fun k d env => if i < env.length then .ok (env.set i (some (k, d))) else .bad
theorem tg_name {X : Cx} {tg : Expr} {i : Nat} (h : PG X tg (gName i)) : STg X tg [i] (tName i) := fun k B H env σ tm d v env' Q ok hm q => by
  unfold tName at hm
  split at hm
  · rename_i hi
    cases hm
    exact wG_of h (q _ ⟨by simp, fun j hj => by rw [List.getElem?_set_ne (fun z => hj (by simp [z]))]⟩ (ok.store hi))
  · cases hm
def tNil : Nat → List D → Env → Res Env := fun _ ds env => match ds with
  | [] => .ok env
  | _ => .bad
def tCons (t : Nat → D → Env → Res Env) (u : Nat → List D → Env → Res Env) : Nat → List D → Env → Res Env := fun k ds env => match ds with
  | d :: r => t k d env >>= fun e => u k r e
  | _ => .bad
section
variable {X : Cx} {e a b tg it : Expr} {m ma mb : Env → Res D} {k : Nat} {cs : List Nat} {pos : Pos}
theorem tgs_nil : STgs X [] [] tNil := fun k B H env σ tm ds vs env' Q hl ok hm q => by
  unfold tNil at hm
  split at hm
  · cases hm
    have : vs = [] := List.length_eq_zero_iff.mp hl
    subst this
    exact wGs_of pgs_nil ⟨rfl, q σ ⟨rfl, fun _ _ => rfl⟩ ok⟩
  · cases hm
theorem tgs_cons {es : List Expr} {t : Nat → D → Env → Res Env} {u : Nat → List D → Env → Res Env} {is js : List Nat} (h1 : STg X e is t) (h2 : STgs X es js u)
    (hs : (assignEach (e :: es) X.env).map (·.2) = assign e X.env :: (assignEach es X.env).map (·.2) := by rfl) : STgs X (e :: es) (is ++ js) (tCons t u) := fun k B H env σ tm ds vs env' Q hl ok hm q => by
  unfold tCons at hm
  split at hm
  · rename_i d r
    obtain ⟨e1, h3, h4⟩ := bind_ok hm
    cases vs with
    | nil => simp at hl
    | cons v vr =>
      have ok' : EnvOk B H env σ ((v, k, d) :: (lev k vr r ++ tm)) := ok
      exact wGs_of (pgs_cons pg_sem pgs_sem hs) ⟨v, vr, rfl, h1 k B H env σ _ d v e1 _ ok' h3 fun σ' o1 ok2 => h2 k B H e1 σ' tm r vr env' Q (by simpa using hl) ok2 h4 fun σ2 o2 ok3 => q σ2 ⟨o2.1.trans o1.1, fun j hj => (o2.2 j fun z => hj (List.mem_append_right _ z)).trans (o1.2 j fun z => hj (List.mem_append_left _ z))⟩ ok3⟩
  · cases hm
/-- a tuple, taken apart -/
def tTupT (n : Nat) (u : Nat → List D → Env → Res Env) : Nat → D → Env → Res Env := fun k d env => match d with
  | .tup ds => if ds.length = n then u (k - 1) ds env else .bad
  | _ => .bad
theorem EnvOk.opTup {B : Bs} {H : Hp} {env : Env} {σ : St} {tm : List Hold} {v : V} {ds : List D} (h : EnvOk B H env σ ((v, k, .tup ds) :: tm)) : ∃ p vs, v = .ref p ∧ view H p = some (.tup vs) ∧ vs.length = ds.length ∧ EnvOk B H env σ (lev (k - 1) vs ds ++ tm) := by
  have h2 := h.len
  have h3 := h.has
  obtain ⟨G, f, g, hg, hf, hr, nd, hq⟩ := EnvOk.apart (l := [(v, k, D.tup ds)]) h
  cases hf with
  | @cons _ _ _ _ f1 g1 h1 hn =>
    cases hn
    rw [List.append_nil] at nd hq
    cases h1 with
    | sh hz r =>
      cases r with
      | @tup a0 vs0 _ e ra =>
        refine ⟨_, _, rfl, hg.gs _ _ e, ra.length, ?_⟩
        have hv : HoldAll G H (lev (k - 1) vs0 ds) [] := by
          have hz' : k - 1 = 0 ∨ immAll ds = true := hz.imp (fun z => by omega) fun z => by simpa [D.imm] using z
          clear hz hq nd e h
          induction ra using RpAll.rec (motive_1 := fun _ _ _ => True) with
          | nil => exact .nil
          | @cons v' vs' d' ds' hr' _ _ ih =>
            have a1 : k - 1 = 0 ∨ d'.imm = true := hz'.imp id fun z => by rw [immAll, Bool.and_eq_true] at z; exact z.1
            have a2 : k - 1 = 0 ∨ immAll ds' = true := hz'.imp id fun z => by rw [immAll, Bool.and_eq_true] at z; exact z.2
            exact HoldAll.cons (f := []) (g := []) (.sh a1 hr') (ih a2)
          | _ => trivial
        exact EnvOk.join h2 h3 hg hv hr nd hq
    | @tup k' a vs _ _ e ra =>
      refine ⟨_, vs, rfl, by unfold view; rw [e]; rfl, ?_, ?_⟩
      · have len : ∀ {k : Nat} {f : List Addr} {vs : List V} {ds : List D}, OdAll G H k f vs ds → vs.length = ds.length := fun {k f vs ds} r => by
          induction vs generalizing ds f with
          | nil => cases r; rfl
          | cons v vs ih => cases r with | cons _ r => simp [ih r]
        exact len ra
      · have hv : HoldAll G H (lev k' vs ds ++ []) (f1 ++ []) := HoldAll.ofAll ra .nil
        rw [List.append_nil, List.append_nil] at hv
        exact EnvOk.join h2 h3 hg hv hr nd hq
theorem tg_tup {es : List Expr} {j : Nat} {n : Nat} {u : Nat → List D → Env → Res Env} {is : List Nat} (hc : X.calm = true) (h : STgs X es is u) (hn : (assignEach es X.env).length = n := by rfl) (hst : (assignEach es X.env).findIdx? (·.1) = none := by rfl) : STg X (.Tuple es j pos) is (tTupT n u) := fun k B H env σ tm d v env' Q ok hm q => by
  unfold tTupT at hm
  split at hm
  · rename_i ds
    split at hm
    · rename_i hl
      obtain ⟨p, vs, rfl, hp, hvl, ok2⟩ := ok.opTup
      exact wG_of (pg_tup hc pgs_sem hn hst) ⟨p, vs, rfl, .inl (view_rd hp), hvl.trans hl, h (k - 1) B H env σ tm ds vs env' Q hvl ok2 hm q⟩
    · cases hm
  · cases hm

/-! ### statements -/
def Post (kr : Nat) (B : Bs) (tm : List Hold) (D : Ends) : Ctl → Prop
  | .nx e => ∀ σ' H', EnvOk B H' e σ' tm → D.nx σ' H'
  | .bk e => ∀ σ' H', EnvOk B H' e σ' tm → D.bk σ' H'
  | .ct e => ∀ σ' H', EnvOk B H' e σ' tm → D.ct σ' H'
  | .rt d => ∀ v H', EnvOk B H' [] [] ((v, kr, d) :: tm) → D.rt v H'
def S1 (X : Cx) (kr : Nat) (st : Stmt) (m : Env → Res Ctl) : Prop := ∀ (B : Bs) (H : Hp) (env : Env) (σ : St) (tm : List Hold) (D : Ends) (r : Ctl), EnvOk B H env σ tm → m env = .ok r → Post kr B tm D r → wS X st D σ H
def SS (X : Cx) (kr : Nat) (ss : List Stmt) (m : Env → Res Ctl) : Prop := ∀ (B : Bs) (H : Hp) (env : Env) (σ : St) (tm : List Hold) (D : Ends) (r : Ctl), EnvOk B H env σ tm → m env = .ok r → Post kr B tm D r → wB X ss D σ H
variable {kr : Nat} {st : Stmt} {ss : List Stmt} {m1 m2 : Env → Res Ctl}
def mSkip : Env → Res Ctl := fun env => .ok (.nx env)
def mSeq (m n : Env → Res Ctl) : Env → Res Ctl := fun env => m env >>= fun c => match c with
  | .nx e => n e
  | c => .ok c
theorem ss_nil : SS X kr [] mSkip := fun B H env σ tm D r ok hm p => by
  cases hm
  exact wB_of pss_nil (p σ H ok)
theorem ss_cons (h1 : S1 X kr st m1) (h2 : SS X kr ss m2) : SS X kr (st :: ss) (mSeq m1 m2) := fun B H env σ tm D r ok hm p => by
  obtain ⟨c, hc, hd⟩ := bind_ok hm
  refine wB_of (pss_cons ps_sem pss_sem) (h1 B H env σ tm { D with nx := wB X ss D } c ok hc ?_)
  cases c with
  | nx e => exact fun σ' H' ok' => h2 B H' e σ' tm D r ok' hd p
  | bk e => cases hd; exact p
  | ct e => cases hd; exact p
  | rt d => cases hd; exact p
theorem ss_one (h1 : S1 X kr st m1) : SS X kr [st] m1 := fun B H env σ tm D r ok hm p => wB_of (pss_one ps_sem) (h1 B H env σ tm D r ok hm p)
/-- something is forgotten ahead of a block -/
def mForget (is : List Nat) (m : Env → Res Ctl) : Env → Res Ctl := fun env => m (clear env is)
/-- a slot is shared from here on -/
def fz (i : Nat) (env : Env) : Env := match env[i]? with
  | some (some (_, d)) => env.set i (some (0, d))
  | _ => env
theorem EnvOk.fz {B : Bs} {H : Hp} {env : Env} {σ : St} {tm : List Hold} (h : EnvOk B H env σ tm) (i : Nat) : EnvOk B H (fz i env) σ tm := by
  unfold Mir.fz
  split
  · rename_i k d e
    obtain ⟨v, hv⟩ := h.has i _ e
    have hi : i < env.length := (List.getElem?_eq_some_iff.mp e).1
    have h1 := ((h.move e hv).freeze).store (i := i) (by simpa using hi)
    rw [List.set_set, set_self hv] at h1
    exact h1
  · exact h
def mFz (i : Nat) (m : Env → Res Ctl) : Env → Res Ctl := fun env => m (fz i env)
theorem ss_fz {i : Nat} (h : SS X kr ss m1) : SS X kr ss (mFz i m1) := fun B H env σ tm D r ok hm p => h B H _ σ tm D r (ok.fz i) hm p
theorem s1_fz {i : Nat} (h : S1 X kr st m1) : S1 X kr st (mFz i m1) := fun B H env σ tm D r ok hm p => h B H _ σ tm D r (ok.fz i) hm p

def mSet (i k : Nat) (cs : List Nat) (m : Env → Res D) : Env → Res Ctl := fun env => m env >>= fun d => tName i k d (clear env cs) >>= fun e => .ok (.nx e)
theorem s_set {i : Nat} {x : Str} {pos' : Pos} (hN : X.N.Nodup) (hi : X.N[i]? = some x) (hx : Loc X.env.scope x) (he : SE X k cs e m) (hs : swapsWith e (some (.Name x pos')) pos.line X.env = pure false := by rfl)
    (hf : X.fn x = true ∨ X.env.scope.names.lookup x = some .local := by first | exact .inl rfl | exact .inr rfl | assumption) : S1 X kr (.Assign [.Name x pos'] e pos) (mSet i k cs m) := fun B H env σ tm D r ok hm p => by
  obtain ⟨d, hd, h2⟩ := bind_ok hm
  obtain ⟨e', h3, h4⟩ := bind_ok h2
  cases h4
  unfold tName at h3
  split at h3
  · rename_i hl
    cases h3
    exact wS_of (ps_set hN hi hx pe_sem hs hf) (he B H env σ tm d _ ok hd fun v H' x' ok' => p _ _ (ok'.store hl))
  · cases h3
theorem EnvOk.noSlots {B : Bs} {H : Hp} {env : Env} {σ : St} {tm : List Hold} (h : EnvOk B H env σ tm) : EnvOk B H [] [] tm := by
  obtain ⟨⟨G, fp, g, hs, nd, hp⟩, h2, h3⟩ := h
  have h' : EnvOk B H [] [] (slots env σ ++ tm) := ⟨⟨G, fp, g, hs, nd, hp⟩, rfl, fun i kd e => by simp at e⟩
  exact h'.less
def mRet (m : Env → Res D) : Env → Res Ctl := fun env => m env >>= fun d => .ok (.rt d)
theorem s_ret (he : SE X kr cs e m) : S1 X kr (.Return (some e) pos) (mRet m) := fun B H env σ tm D r ok hm p => by
  obtain ⟨d, hd, h2⟩ := bind_ok hm
  cases h2
  exact wS_of (ps_ret pe_sem) (he B H env σ tm d _ ok hd fun v H' x' ok' => p v H' ok'.noSlots)
theorem s_if {c : Expr} {as bs : List Stmt} {t : Env → Res Bool} (hc : ST X c t) (ha : SS X kr as m1) (hb : SS X kr bs m2) : S1 X kr (.If c as bs pos) (mIf t m1 m2) := fun B H env σ tm D r ok hm p => by
  obtain ⟨b, hb', h2⟩ := bind_ok hm
  refine wS_of (ps_if pt_sem pss_sem pss_sem) (hc B H env σ tm b _ ok hb' fun H' x' ok' => ?_)
  cases b with
  | true => rw [if_pos rfl] at h2 ⊢; exact ha B H' env σ tm D r ok' h2 p
  | false => exact hb B H' env σ tm D r ok' h2 p
/-- what the proof never comes to -/
def mNo {α : Type} : Env → Res α := fun _ => .bad
theorem s_no : S1 X kr st mNo := fun B H env σ tm D r ok hm p => by cases hm
/-! ### for -/
/-- what an iterator gives, while what it leans on is held -/
def Yields (B : Bs) (J : It) (ex : List Hold) (ds : List D) : Prop := ∀ (i : Nat) (H : Hp) (env : Env) (σ : St) (tm : List Hold), EnvOk B H env σ (ex ++ tm) → (i = ds.length → J.stop i H) ∧ (i < ds.length → J.go i H ∧
  ∀ x H', J.yld i H x H' → ∃ d, ds[i]? = some d ∧ Ext H H' ∧ EnvOk B H' env σ ((x, 0, d) :: (ex ++ tm)))
def SI (X : Cx) (tg it : Expr) (m : Env → Res (List D)) : Prop := ∀ (B : Bs) (H : Hp) (env : Env) (σ : St) (tm : List Hold) (ds : List D) (R : It → Hp → Prop), EnvOk B H env σ tm → m env = .ok ds →
  (∀ J H' ex, Ext H H' → EnvOk B H' env σ (ex ++ tm) → Yields B J ex ds → R J H') → wI X tg it σ H R
def loop (t : Nat → D → Env → Res Env) (body : Env → Res Ctl) (fg : List Nat) : List D → Env → Res Ctl
  | [], env => .ok (.nx env)
  | x :: xs, env => t 0 x env >>= fun e1 => body e1 >>= fun c => match c with
    | .nx e => loop t body fg xs (clear e fg)
    | .ct e => loop t body fg xs (clear e fg)
    | .bk e => .ok (.nx (clear e fg))
    | .rt d => .ok (.rt d)
def mFor (m : Env → Res (List D)) (t : Nat → D → Env → Res Env) (body : Env → Res Ctl) (fg : List Nat) : Env → Res Ctl := fun env => m env >>= fun ds => loop t body fg ds env
theorem s_for {body : List Stmt} {mi : Env → Res (List D)} {t : Nat → D → Env → Res Env} {fg : List Nat} (hp : PassesOwn (model X.prog X.w) X.A X.env X.xe) (hc : X.calm = true) (hi : SI X tg it mi) {is : List Nat} (hg : STg X tg is t) (hb : SS X kr body m1)
    (hs : ∀ x, foldedSetIterable it X.env x = pure x := by intro _; rfl) : S1 X kr (.For tg it body [] pos) (mFor mi t m1 fg) := fun B H env σ tm D r ok hm p => by
  obtain ⟨ds, hd, hl⟩ := bind_ok hm
  refine wS_of (ps_for hp hc pi_sem pg_sem pss_sem hs) (hi B H env σ tm ds _ ok hd fun J H1 ex x1 ok1 Y => ?_)
  refine ⟨fun i m σ H => m = ds.length - i ∧ i ≤ ds.length ∧ ∃ env, EnvOk B H env σ (ex ++ tm) ∧ loop t m1 fg (ds.drop i) env = .ok r, ⟨ds.length, by simp, Nat.zero_le _, env, ok1, by simpa using hl⟩, ?_⟩
  rintro i n σ2 H2 ⟨rfl, hi2, env2, ok2, hr⟩
  obtain ⟨y1, y2⟩ := Y i H2 env2 σ2 tm ok2
  by_cases hlt : i < ds.length
  · obtain ⟨go, yl⟩ := y2 hlt
    refine .inr ⟨go, fun σ' H' => i + 1 ≤ ds.length ∧ ∃ env, EnvOk B H' env σ' (ex ++ tm) ∧ loop t m1 fg (ds.drop (i + 1)) env = .ok r, fun σ' H' ⟨h1, h2⟩ => ⟨ds.length - (i + 1), by omega, rfl, h1, h2⟩, fun x H3 hy => ?_⟩
    obtain ⟨d, hd2, x3, ok3⟩ := yl x H3 hy
    have hdr : ds.drop i = d :: ds.drop (i + 1) := by
      obtain ⟨h1, h2⟩ := List.getElem?_eq_some_iff.mp hd2
      rw [← h2]
      exact List.drop_eq_getElem_cons h1
    rw [hdr] at hr
    obtain ⟨e1, h3, h4⟩ := bind_ok hr
    obtain ⟨c, h5, h6⟩ := bind_ok h4
    refine hg 0 B H3 env2 σ2 (ex ++ tm) d x e1 _ ok3 h3 fun σ4 _ ok4 => ?_
    refine hb B H3 e1 σ4 (ex ++ tm) _ c ok4 h5 ?_
    cases c with
    | nx e => exact fun σ5 H5 ok5 => ⟨hlt, _, ok5.clear fg, h6⟩
    | ct e => exact fun σ5 H5 ok5 => ⟨hlt, _, ok5.clear fg, h6⟩
    | bk e =>
      cases h6
      exact fun σ5 H5 ok5 => p σ5 H5 ((ok5.clear fg).less)
    | rt d' =>
      cases h6
      refine fun v H5 ok5 => p v H5 (EnvOk.less (l := ex) (ok5.perm ?_))
      exact List.perm_middle.symm
  · have ei : i = ds.length := by omega
    refine .inl ⟨y1 ei, ?_⟩
    rw [ei, List.drop_length] at hr
    cases hr
    exact p σ2 H2 ok2.less

/-! ### iterators -/
def items : D → Res (List D)
  | .lst xs => .ok xs
  | .tup xs => .ok xs
  | _ => .bad
def itemsL : D → Res (List D)
  | .lst xs => .ok xs
  | _ => .bad
def itemsT : D → Res (List D)
  | .tup xs => .ok xs
  | _ => .bad
theorem EnvOk.item {B : Bs} {H : Hp} {env : Env} {σ : St} {tm : List Hold} {v x : V} {d y : D} {ds : List D} {vs : List V} {p : Addr} {i : Nat} (h : EnvOk B H env σ ((v, 0, d) :: tm)) (hd : d = .lst ds ∨ d = .tup ds) (ev : v = .ref p) (hp : view H p = some (.lst vs) ∨ view H p = some (.tup vs)) (hx : vs[i]? = some x) (hy : ds[i]? = some y) :
    EnvOk B H env σ ((x, 0, y) :: (v, 0, d) :: tm) := by
  obtain ⟨q, o, ws, ev', hq, hl, f1, f2, _, _, ra, ok⟩ := h.items (ds := ds) (hd.imp id .inl)
  rw [ev] at ev'
  cases ev'
  have ew : ws = vs := by
    rcases hd with rfl | rfl
    · rw [f1 rfl] at hq
      rcases hp with hp | hp <;> rw [hq] at hp <;> cases hp
      rfl
    · rw [f2 rfl] at hq
      rcases hp with hp | hp <;> rw [hq] at hp <;> cases hp
      rfl
  subst ew
  obtain ⟨l, hp'⟩ := lev_get (k := 0) hx hy
  refine EnvOk.less (l := l) (ok.perm ((hp'.append_right _).trans ?_))
  exact (List.perm_middle (l₁ := l) (a := (x, 0, y)) (l₂ := (v, 0, d) :: tm)).symm
theorem si_list (he : SE X 0 [] it m) : SI X tg it (fun env => m env >>= itemsL) := fun B H env σ tm ds R ok hm q => by
  obtain ⟨d, hd, h2⟩ := bind_ok hm
  unfold itemsL at h2
  split at h2
  · rename_i xs
    cases h2
    refine wI_of (pi_list pe_sem) (he B H env σ tm _ _ ok hd fun v H1 x1 ok1 => ?_)
    have r := ok1.rp
    cases r with
    | @lst a vs _ hv ra =>
      refine ⟨a, rfl, ⟨_, .inl (view_rd hv)⟩, q _ H1 [(.ref a, 0, .lst ds)] x1 ok1 fun i H2 env2 σ2 tm2 ok2 => ?_⟩
      have r2 := EnvOk.rp ok2
      cases r2 with
      | @lst _ ws _ hw rb =>
        have hs : SqL X.K H2 a ws := .inl (view_rd hw)
        refine ⟨fun ei => ⟨ws, hs, by have := rb.length; omega⟩, fun hi => ?_⟩
        obtain ⟨x, hx, rx⟩ := rb.get (List.getElem?_eq_getElem hi)
        refine ⟨⟨ws, x, hs, hx⟩, fun y H3 hy => ?_⟩
        obtain ⟨rfl, hy⟩ := hy
        have ey : y = x := Option.some.inj ((hy ws hs).symm.trans hx)
        subst ey
        exact ⟨_, List.getElem?_eq_getElem hi, Ext.refl _, EnvOk.item ok2 (.inl rfl) rfl (.inl hw) hx (List.getElem?_eq_getElem hi)⟩
  · cases h2
theorem si_tup (he : SE X 0 [] it m) : SI X tg it (fun env => m env >>= itemsT) := fun B H env σ tm ds R ok hm q => by
  obtain ⟨d, hd, h2⟩ := bind_ok hm
  unfold itemsT at h2
  split at h2
  · rename_i xs
    cases h2
    refine wI_of (pi_tup pe_sem) (he B H env σ tm _ _ ok hd fun v H1 x1 ok1 => ?_)
    have r := ok1.rp
    cases r with
    | @tup a vs _ hv ra =>
      refine ⟨a, rfl, ⟨_, .inl (view_rd hv)⟩, q _ H1 [(.ref a, 0, .tup ds)] x1 ok1 fun i H2 env2 σ2 tm2 ok2 => ?_⟩
      have r2 := EnvOk.rp ok2
      cases r2 with
      | @tup _ ws _ hw rb =>
        have hs : SqT X.K H2 a ws := .inl (view_rd hw)
        refine ⟨fun ei => ⟨ws, hs, by have := rb.length; omega⟩, fun hi => ?_⟩
        obtain ⟨x, hx, rx⟩ := rb.get (List.getElem?_eq_getElem hi)
        refine ⟨⟨ws, x, hs, hx⟩, fun y H3 hy => ?_⟩
        obtain ⟨rfl, hy⟩ := hy
        have ey : y = x := Option.some.inj ((hy ws hs).symm.trans hx)
        subst ey
        exact ⟨_, List.getElem?_eq_getElem hi, Ext.refl _, EnvOk.item ok2 (.inr rfl) rfl (.inr hw) hx (List.getElem?_eq_getElem hi)⟩
  · cases h2
def intsD (lo : Int) (n : Nat) : List D := (List.range n).map fun i => .int (lo + (i : Nat))
def rangeOk (i : Int) : Bool := decide (-(2 ^ 62) ≤ i) && decide (i < 2 ^ 62)
def gRng1 : D → Res (List D)
  | .int j => if rangeOk j then .ok (intsD 0 j.toNat) else .bad
  | _ => .bad
theorem rangeOk_iff {i : Int} : rangeOk i = true ↔ -(2 ^ 62) ≤ i ∧ i < 2 ^ 62 := by
  unfold rangeOk
  rw [Bool.and_eq_true, decide_eq_true_eq, decide_eq_true_eq]
theorem yields_range {B : Bs} {lo : Int} {n : Nat} : Yields B (Itr lo n) [] (intsD lo n) := fun i H env σ tm ok => by
  have hl : (intsD lo n).length = n := by unfold intsD; simp
  rw [hl]
  refine ⟨fun e => Nat.le_of_eq e.symm, fun hi => ⟨hi, fun x H' hy => ?_⟩⟩
  obtain ⟨rfl, rfl⟩ := hy
  refine ⟨.int (lo + i), ?_, Ext.refl _, ok.imm (.int _) rfl⟩
  unfold intsD
  rw [List.getElem?_map, List.getElem?_range hi]
  rfl
theorem si_range1 {p : Pos} (hg : Gl X "range") (hm : X.mg "range" = none) (ha : SB X a ma) (hs : starEach [a] X.env = [(false, eval a X.env)] := by rfl) : SI X tg (.Call (.Name "range" p) [a] [] pos) (fun env => ma env >>= gRng1) := fun B H env σ tm ds R ok hm' q => by
  obtain ⟨d, hd, h2⟩ := bind_ok hm'
  unfold gRng1 at h2
  split at h2
  · split at h2
    · rename_i hr
      cases h2
      obtain ⟨r1, r2⟩ := rangeOk_iff.mp hr
      refine wI_of (pi_range1 hg hm (pa_cons pe_sem pa_nil (by rw [hs]; rfl)) hs) (ha B H env σ tm _ _ ok hd fun v H1 x1 ok1 rv => ?_)
      cases rv
      exact ⟨_, rfl, r1, r2, q _ H1 [] x1 ok1 yields_range⟩
    · cases h2
  · cases h2
end
end Mir

namespace Mir
open PySem PySem.Spec L2

theorem slots_cong : ∀ {env : Env} {σ σ' : St}, σ'.length = σ.length → (∀ (j : Nat) kd, env[j]? = some (some kd) → σ'[j]? = σ[j]?) → slots env σ' = slots env σ
  | [], σ, σ', _, _ => by cases σ <;> cases σ' <;> rfl
  | x :: e, [], [], _, _ => rfl
  | x :: e, [], _ :: _, h, _ => by simp at h
  | x :: e, _ :: _, [], h, _ => by simp at h
  | none :: e, y :: s, y' :: s', hl, h => by
    have ih := slots_cong (env := e) (σ := s) (σ' := s') (by simpa using hl) (fun j kd hj => by simpa using h (j + 1) kd (by simpa using hj))
    cases y <;> cases y' <;> exact ih
  | some kd :: e, y :: s, y' :: s', hl, h => by
    have ih := slots_cong (env := e) (σ := s) (σ' := s') (by simpa using hl) (fun j kd hj => by simpa using h (j + 1) kd (by simpa using hj))
    have e0 : y' = y := by simpa using h 0 kd rfl
    subst e0
    obtain ⟨k, d⟩ := kd
    cases y' with
    | none => exact ih
    | some v => exact congrArg (List.cons _) ih
theorem EnvOk.cong {B : Bs} {H : Hp} {env : Env} {σ σ' : St} {tm : List Hold} (h : EnvOk B H env σ tm) (hl : σ'.length = σ.length) (hs : ∀ (j : Nat) kd, env[j]? = some (some kd) → σ'[j]? = σ[j]?) : EnvOk B H env σ' tm := by
  obtain ⟨⟨G, fp, g, hh, nd, hp⟩, h2, h3⟩ := h
  exact ⟨⟨G, fp, g, by rw [slots_cong hl hs]; exact hh, nd, hp⟩, h2.trans hl.symm, fun i kd e => by rw [hs i kd e]; exact h3 i kd e⟩
theorem wipe_len : ∀ (σ : St) (vs : List Nat), (wipe σ vs).length = σ.length
  | _, [] => rfl
  | σ, v :: vs => by unfold wipe; rw [List.length_set, wipe_len σ vs]
theorem wipe_get : ∀ (σ : St) (vs : List Nat) (j : Nat), (wipe σ vs)[j]? = if j ∈ vs then (σ[j]?).map (fun _ => none) else σ[j]?
  | σ, [], j => by simp [wipe]
  | σ, v :: vs, j => by
    unfold wipe
    rw [List.getElem?_set]
    by_cases e : v = j
    · subst e
      rw [if_pos rfl, if_pos List.mem_cons_self, wipe_len]
      by_cases h : v < σ.length
      · rw [if_pos h, List.getElem?_eq_getElem h]; rfl
      · rw [if_neg h, List.getElem?_eq_none (by omega)]; rfl
    · rw [if_neg e, wipe_get σ vs j]
      have : (j ∈ v :: vs) ↔ j ∈ vs := by simp [Ne.symm e]
      by_cases h : j ∈ vs
      · rw [if_pos h, if_pos (this.mpr h)]
      · rw [if_neg h, if_neg fun z => h (this.mp z)]
theorem clear_get : ∀ (is : List Nat) (env : Env) (j : Nat), (clear env is)[j]? = if j ∈ is then (env[j]?).map (fun _ => none) else env[j]?
  | [], env, j => by simp [clear]
  | i :: is, env, j => by
    unfold clear
    rw [clear_get is, List.getElem?_set]
    by_cases e : i = j
    · subst e
      rw [if_pos rfl, if_pos List.mem_cons_self]
      by_cases h : i < env.length
      · rw [if_pos h, List.getElem?_eq_getElem h]
        split <;> rfl
      · rw [if_neg h, List.getElem?_eq_none (by omega)]
        split <;> rfl
    · rw [if_neg e]
      have : (j ∈ i :: is) ↔ j ∈ is := by simp [Ne.symm e]
      by_cases h : j ∈ is
      · rw [if_pos h, if_pos (this.mpr h)]
      · rw [if_neg h, if_neg fun z => h (this.mp z)]
/-- a target's mirror changes just its slots -/
def TgOk (is : List Nat) (t : Nat → D → Env → Res Env) : Prop := ∀ k d env env', t k d env = .ok env' → env'.length = env.length ∧ ∀ j, j ∉ is → env'[j]? = env[j]?
theorem tok_name {i : Nat} : TgOk [i] (tName i) := fun k d env env' h => by
  unfold tName at h
  split at h
  · cases h
    exact ⟨by simp, fun j hj => by rw [List.getElem?_set_ne (fun z => hj (by simp [z]))]⟩
  · cases h
theorem wipe_off {σ σ' : St} {vs is : List Nat} (o : Off is (wipe σ vs) σ') (hs : ∀ i ∈ is, i ∈ vs) : wipe σ' vs = wipe σ vs := by
  refine List.ext_getElem? fun j => ?_
  rw [wipe_get, wipe_get]
  have hl : σ'.length = σ.length := o.1.trans (wipe_len σ vs)
  by_cases h : j ∈ vs
  · rw [if_pos h, if_pos h]
    by_cases hj : j < σ.length
    · rw [List.getElem?_eq_getElem hj, List.getElem?_eq_getElem (by omega)]; rfl
    · rw [List.getElem?_eq_none (by omega), List.getElem?_eq_none (by omega)]
  · rw [if_neg h, if_neg h, o.2 j fun z => h (hs j z), wipe_get, if_neg h]

/-! ### list comprehensions -/
section
variable {X : Cx} {e a b tg it elt : Expr} {m ma mb me : Env → Res D} {k : Nat} {cs : List Nat} {pos : Pos}
def SPT (X : Cx) (ifs : List Expr) (m : Env → Res Bool) : Prop := ∀ (B : Bs) (H : Hp) (env : Env) (σ : St) (tm : List Hold) (b : Bool) (Q : Bool → Hp → Prop), EnvOk B H env σ tm → m env = .ok b → (∀ H', Ext H H' → EnvOk B H' env σ tm → Q b H') →
  ∀ (pins : List (Addr × Obj)) (s : Shared), Inv X pins σ H s → wpAny (model X.prog X.w) X.A (forIn ifs true fun c r => if r = true then do let ok ← isTrue c X.env (eval c X.env); pure (ForInStep.yield ok) else pure (ForInStep.yield r)) (TP X pins σ Q) X.xe s
theorem spt_nil : SPT X [] (fun _ => .ok true) := fun B H env σ tm b Q ok hm q pins s I => by
  cases hm
  exact pts_nil.run pins s σ H Q I (q H (Ext.refl H) ok)
def lcLoop (t : Nat → D → Env → Res Env) (mt : Env → Res Bool) (me : Env → Res D) (env : Env) : List D → Res (List D)
  | [] => .ok []
  | x :: xs => t 0 x env >>= fun e1 => mt e1 >>= fun b => if b then me e1 >>= fun y => lcLoop t mt me env xs >>= fun ys => .ok (y :: ys) else lcLoop t mt me env xs
/-- the comprehension's own slots hold nothing -/
def noOwn (own : List Nat) (env : Env) : Bool := own.all fun i => match env[i]? with
  | some none => true
  | _ => false
def mLc (mi : Env → Res (List D)) (t : Nat → D → Env → Res Env) (mt : Env → Res Bool) (me : Env → Res D) (own : List Nat) : Env → Res D := fun env =>
  chk (noOwn own env) >>= fun _ => mi env >>= fun ds => lcLoop t mt me env ds >>= fun ys => if ys.length ≤ sizeLine then .ok (.lst ys) else .bad
theorem noOwn_iff {own : List Nat} {env : Env} (h : noOwn own env = true) : ∀ i ∈ own, env[i]? = some none := fun i hi => by
  unfold noOwn at h
  have := List.all_eq_true.mp h i hi
  cases q : env[i]? with
  | none => rw [q] at this; cases this
  | some x =>
    cases x with
    | none => rfl
    | some y => rw [q] at this; cases this
abbrev Blk (X : Cx) (scope : Scope) (P : Cx → Prop) : Prop := ∀ (s : Shared) (H : Hp) (C : Addr) (cl : List (Str × Addr)) (fp : List Addr), P (X.blk s H scope (compEnvC scope cl C X.env) fp)
/-- the reading of the comprehension, at its mirror -/
theorem lc_read {wi : TI} {B : Bs} {H : Hp} {env : Env} {σ : St} {tm : List Hold} {own is : List Nat} {scope : Scope} {ifs : List Expr} {mi : Env → Res (List D)} {t : Nat → D → Env → Res Env} {mt : Env → Res Bool} {d : D} {Q : VK}
    (hi : ∀ (ds : List D) (R : It → Hp → Prop), mi env = .ok ds → (∀ J H' ex, Ext H H' → EnvOk B H' env σ (ex ++ tm) → Yields B J ex ds → R J H') → wi σ H R) (hg : Blk X scope fun Y => STg Y tg is t) (htg : TgOk is t) (his : ∀ i ∈ is, i ∈ own) (ht : Blk X scope fun Y => SPT Y ifs mt) (he : Blk X scope fun Y => SE Y k [] elt me) (ok : EnvOk B H env σ tm) (hm : mLc mi t mt me own env = .ok d)
    (q : ∀ v H', Ext H H' → EnvOk B H' env σ ((v, k + 1, d) :: tm) → Q v H') :
    tLc wi (fun v σ H Q => Blk X scope fun Y => wG Y tg v σ H Q) (fun σ H Q => Blk X scope fun Y => ∀ (pins : List (Addr × Obj)) (s : Shared), Inv Y pins σ H s → wpAny (model Y.prog Y.w) Y.A (forIn ifs true fun c r => if r = true then do let ok ← isTrue c Y.env (eval c Y.env); pure (ForInStep.yield ok) else pure (ForInStep.yield r)) (TP Y pins σ Q) Y.xe s)
      (fun σ H Q => Blk X scope fun Y => wE Y elt σ H Q) own σ H Q := by
  obtain ⟨u, hc, h2⟩ := bind_ok hm
  have hno := noOwn_iff (chk_ok hc)
  obtain ⟨ds, hds, h3⟩ := bind_ok h2
  obtain ⟨ys, hys, h4⟩ := bind_ok h3
  by_cases hl : ys.length ≤ sizeLine
  · rw [if_pos hl] at h4
    cases h4
    have offOwn : ∀ (j : Nat) kd, env[j]? = some (some kd) → j ∉ own := fun j kd e z => by rw [hno j z] at e; cases e
    refine hi ds _ hds fun J H1 ex x1 ok1 Y L hD => ?_
    have ok1' : EnvOk B H1 env (wipe σ own) (ex ++ tm) := ok1.cong (wipe_len _ _) fun j kd e => by rw [wipe_get, if_neg (offOwn j kd e)]
    have ok2 : EnvOk B (upd H1 L (.lst [])) env (wipe σ own) ((.ref L, k + 1, .lst []) :: (ex ++ tm)) := EnvOk.newLst (vs := []) (ds := []) ok1' rfl hD
    refine ⟨fun i m H' => m = ds.length - i ∧ i ≤ ds.length ∧ Ext H1 (del H' L) ∧ ∃ acc rest, ys = acc ++ rest ∧ lcLoop t mt me env (ds.drop i) = .ok rest ∧ EnvOk B H' env (wipe σ own) ((.ref L, k + 1, .lst acc) :: (ex ++ tm)), ⟨ds.length, by simp, Nat.zero_le _, fun a o e => ?_, [], ys, rfl, by simpa using hys, ok2⟩, ?_⟩
    · rw [del_ne (ne_of_none e hD), upd_ne (ne_of_none e hD)]; exact e
    rintro i n H2 ⟨rfl, hi2, x2, acc, rest, ey, hr, ok3⟩
    have swp : ∀ {H : Hp} {x : Hold}, EnvOk B H env (wipe σ own) (x :: (ex ++ tm)) → EnvOk B H env (wipe σ own) (ex ++ x :: tm) := fun h => h.perm List.perm_middle.symm
    obtain ⟨y1, y2⟩ := Y i H2 env (wipe σ own) _ (swp ok3)
    by_cases hlt : i < ds.length
    · obtain ⟨go, yl⟩ := y2 hlt
      refine .inr ⟨go, fun H' => i + 1 ≤ ds.length ∧ Ext H1 (del H' L) ∧ ∃ acc rest, ys = acc ++ rest ∧ lcLoop t mt me env (ds.drop (i + 1)) = .ok rest ∧ EnvOk B H' env (wipe σ own) ((.ref L, k + 1, .lst acc) :: (ex ++ tm)), fun H' ⟨h1, h2, h3⟩ => ⟨ds.length - (i + 1), by omega, rfl, h1, h2, h3⟩, fun x H3 hy => ?_⟩
      obtain ⟨d, hd2, x3, ok4⟩ := yl x H3 hy
      have hdr : ds.drop i = d :: ds.drop (i + 1) := by
        obtain ⟨h1, h2⟩ := List.getElem?_eq_some_iff.mp hd2
        rw [← h2]
        exact List.drop_eq_getElem_cons h1
      rw [hdr] at hr
      obtain ⟨e1, g1, hr⟩ := bind_ok hr
      obtain ⟨b, g2, hr⟩ := bind_ok hr
      have xd : ∀ {Ha Hb : Hp}, Ext Ha Hb → Ext H1 (del Ha L) → Ext H1 (del Hb L) := fun {Ha Hb} p r a o e => by
        have ha : a ≠ L := ne_of_none e hD
        have := r a o e
        rw [del_ne ha] at this ⊢
        exact p a o this
      intro sX HX CX clX fpX
      refine hg sX HX CX clX fpX 0 B H3 env (wipe σ own) (ex ++ (V.ref L, k + 1, D.lst acc) :: tm) d x e1 _ ok4 g1 fun σ4 o4 ok5 => ⟨wipe_off o4 his, ?_⟩
      intro sY HY CY clY fpY pins s I
      refine ht sY HY CY clY fpY B H3 e1 σ4 (ex ++ (V.ref L, k + 1, D.lst acc) :: tm) b _ ok5 g2 (fun H5 x5 ok6 => ?_) pins s I
      -- back to the frame's env
      obtain ⟨tl, tk⟩ := htg _ _ _ _ g1
      have ec : clear e1 own = env := List.ext_getElem? fun j => by
        rw [clear_get]
        by_cases h : j ∈ own
        · rw [if_pos h, hno j h]
          have hj : j < env.length := (List.getElem?_eq_some_iff.mp (hno j h)).1
          rw [List.getElem?_eq_getElem (by omega)]; rfl
        · rw [if_neg h, tk j fun z => h (his j z)]
      have back : ∀ {H : Hp} {tm : List Hold}, EnvOk B H e1 σ4 tm → EnvOk B H env (wipe σ own) tm := fun {H tm} h => by
        have h1 := h.clear own
        rw [ec] at h1
        exact h1.cong (by rw [o4.1]) fun j kd e => (o4.2 j fun z => offOwn j kd e (his j z)).symm
      cases b with
      | false =>
        refine (show i + 1 ≤ ds.length ∧ _ from ⟨hlt, xd (x3.trans x5) x2, acc, rest, ey, hr, (back ok6).perm List.perm_middle⟩)
      | true =>
        rw [if_pos rfl] at hr ⊢
        obtain ⟨y, g3, hr⟩ := bind_ok hr
        obtain ⟨rest', g4, hr⟩ := bind_ok hr
        cases hr
        intro sZ HZ CZ clZ fpZ
        refine he sZ HZ CZ clZ fpZ B H5 e1 σ4 (ex ++ (V.ref L, k + 1, D.lst acc) :: tm) y _ ok6 g3 fun v H6 x6 ok7 => ?_
        have ok8 : EnvOk B H6 env (wipe σ own) ((V.ref L, k + 1, D.lst acc) :: (v, k, y) :: (ex ++ tm)) := by
          have h1 : EnvOk B H6 env (wipe σ own) ((v, k, y) :: (ex ++ (V.ref L, k + 1, D.lst acc) :: tm)) := back ok7
          refine h1.perm ?_
          refine (List.Perm.cons _ (List.perm_middle (l₁ := ex) (a := (V.ref L, k + 1, D.lst acc)) (l₂ := tm))).trans (List.Perm.swap _ _ _)
        obtain ⟨vs, hL, hvl, ok9⟩ := ok8.takeLst
        have ok10 : EnvOk B (del H6 L) env (wipe σ own) (lev k (vs ++ [v]) (acc ++ [y]) ++ (ex ++ tm)) := by
          rw [lev_append [v] [y] hvl, List.append_assoc]
          exact ok9
        have ok11 := ok10.newLst (p := L) (by simp [hvl]) del_self
        rw [upd_del] at ok11
        refine ⟨vs, hL, ?_, hlt, fun a o e => ?_, acc ++ [y], rest', by rw [ey, List.append_assoc]; rfl, g4, ok11⟩
        · have : acc.length + (rest'.length + 1) ≤ sizeLine := by rw [ey] at hl; simpa using hl
          omega
        · have ha : a ≠ L := ne_of_none e hD
          have := xd (x3.trans (x5.trans x6)) x2 a o e
          rw [del_ne ha] at this ⊢
          rw [upd_ne ha]; exact this
    · have ei : i = ds.length := by omega
      refine .inl ⟨y1 ei, ?_⟩
      rw [ei, List.drop_length] at hr
      cases hr
      rw [List.append_nil] at ey
      subst ey
      refine q _ _ (fun a o e => ?_) ?_
      · have e1 := x1 a o e
        have := x2 a o e1
        rw [del_ne (ne_of_none e1 hD)] at this
        exact this
      · have ok5 := ok3.cong (σ' := σ) (wipe_len _ _).symm fun j kd e => by rw [wipe_get, if_neg (offOwn j kd e)]
        exact EnvOk.less (l := ex) (ok5.perm List.perm_middle.symm)
  · rw [if_neg hl] at h4; cases h4
theorem se_lc {own is : List Nat} {scope : Scope} {ifs : List Expr} {mi : Env → Res (List D)} {t : Nat → D → Env → Res Env} {mt : Env → Res Bool} (ow : List (Str × Nat)) (hc : X.calm = true) (hN : X.N.Nodup) (ok : BlkOk X.N X.env.scope scope ow) (eo : ow.map (·.2) = own)
    (hi : SI X tg it mi) (hg : Blk X scope fun Y => STg Y tg is t) (htg : TgOk is t) (his : ∀ i ∈ is, i ∈ own) (ht : Blk X scope fun Y => SPT Y ifs mt) (he : Blk X scope fun Y => SE Y k [] elt me)
    (hs : ∀ x, foldedSetIterable it X.env x = pure x := by intro _; rfl) : SE X (k + 1) [] (.ListComp elt [⟨tg, it, ifs, 0⟩] scope pos) (mLc mi t mt me own) := fun B H env σ tm d Q ok1 hm q => by
  subst eo
  exact wE_of (pe_lc hc hN pi_sem ok (fun s H C cl fp => ⟨fun pins s' σ H' v u Q I r h => h s H C cl fp pins s' u I r⟩) (fun s H C cl fp => ⟨fun pins s' σ H' Q I h => h s H C cl fp pins s' I⟩) (fun s H C cl fp => ⟨fun pins s' σ H' Q I h => h s H C cl fp pins s' I⟩) hs) (lc_read (fun ds R h q => hi B H env σ tm ds R ok1 h q) hg htg his ht he ok1 hm q)
/-- name = [..] -/
theorem s_setLc {kr : Nat} {i : Nat} {y : Str} {py : Pos} {spos : Pos} {own is : List Nat} {scope : Scope} {ifs : List Expr} {mi : Env → Res (List D)} {t : Nat → D → Env → Res Env} {mt : Env → Res Bool} (ow : List (Str × Nat)) (hc : X.calm = true) (hN : X.N.Nodup) (hy : X.N[i]? = some y) (hyl : X.env.scope.names.lookup y = some .local)
    (hsw : swapsWith (.ListComp elt [⟨tg, it, ifs, 0⟩] scope pos) (some (.Name y py)) spos.line X.env = pure true) (ok : BlkOk X.N X.env.scope scope ow) (eo : ow.map (·.2) = own)
    (hi : SI X tg it mi) (hg : Blk X scope fun Y => STg Y tg is t) (htg : TgOk is t) (his : ∀ i ∈ is, i ∈ own) (ht : Blk X scope fun Y => SPT Y ifs mt) (he : Blk X scope fun Y => SE Y k [] elt me)
    (hs : ∀ x, foldedSetIterable it X.env x = pure x := by intro _; rfl) : S1 X kr (.Assign [.Name y py] (.ListComp elt [⟨tg, it, ifs, 0⟩] scope pos) spos) (mSet i (k + 1) [] (mLc mi t mt me own)) := fun B H env σ tm D r ok1 hm p => by
  subst eo
  obtain ⟨d, hd, h2⟩ := bind_ok hm
  obtain ⟨e', h3, h4⟩ := bind_ok h2
  cases h4
  unfold tName at h3
  split at h3
  · rename_i hl
    cases h3
    exact wS_of (ps_setLc hc hN hy hyl hsw pi_sem ok (fun s H C cl fp => ⟨fun pins s' σ H' v u Q I r h => h s H C cl fp pins s' u I r⟩) (fun s H C cl fp => ⟨fun pins s' σ H' Q I h => h s H C cl fp pins s' I⟩) (fun s H C cl fp => ⟨fun pins s' σ H' Q I h => h s H C cl fp pins s' I⟩) hs) (lc_read (fun ds R h q => hi B H env σ tm ds R ok1 h q) hg htg his ht he ok1 hd fun v H' x' ok' => p _ _ (ok'.store hl))
  · cases h3
end
end Mir

namespace Mir
open PySem PySem.Spec L2

section
variable {X : Cx}
theorem lstR {X : Cx} {pins : List (Addr × Obj)} {σ : St} {H : Hp} {s : Shared} {l : Addr} {xs : List V} (I : Inv X pins σ H s) (hH : Rd H l (.lst xs)) : xs.length ≤ sizeLine ∧ ∃ (its : List Value) (n : Nat), Vals xs its ∧ xs.length = its.length ∧ s.heap.get? l = some { cls := .type "list", data := .seq its.toArray n } := by
  obtain ⟨z, its, n, r, e⟩ := hH.ok I.hok
  exact ⟨z, its, n, r, r.length, e⟩
def rCatR : R2 := fun x y H Q => ∃ l b xs zs, x = .ref l ∧ y = .ref b ∧ Rd H l (.lst xs) ∧ Rd H b (.lst zs) ∧ xs.length + zs.length ≤ sizeLine ∧ ∀ p, H p = none → Q (.ref p) (upd H p (.lst (xs ++ zs)))
theorem op_catR : OpR X (binaryOp .Add) rCatR := by
  intro pins s σ H x y v u Q I rx ry h
  obtain ⟨l, b, xs, zs, rfl, rfl, hH, hB, hz, q⟩ := h
  cases rx
  cases ry
  obtain ⟨z, its, n, r, hl, e⟩ := lstR I hH
  obtain ⟨z2, its2, n2, r2, hl2, e2⟩ := lstR I hB
  refine PySem.P.add_list e e2 ?_ (by rw [List.size_toArray, List.size_toArray]; omega)
  have ea : its.toArray ++ its2.toArray = (its ++ its2).toArray := by simp
  rw [ea]
  exact ⟨.ref _, _, I.lnew (t' := s.toks) (r.append r2) (by rw [List.length_append]; omega), rfl, q _ I.fresh⟩
end

/-! ### lists that are read as a whole: their items go to new lists -/
def Sel (vs : List V) (ds : List D) (ws : List V) (es : List D) : Prop := ws.length = es.length ∧ ∀ (i : Nat) w e, ws[i]? = some w → es[i]? = some e → ∃ j : Nat, vs[j]? = some w ∧ ds[j]? = some e
def Pick (k : Nat) (B : Bs) (H : Hp) (ex : List Hold) (vs : List V) (ds : List D) : Prop := ∀ (H' : Hp) (env : Env) (σ : St) (tm : List Hold), Ext H H' → EnvOk B H' env σ (ex ++ tm) → ∀ ws es, Sel vs ds ws es → EnvOk B H' env σ (lev k ws es ++ (ex ++ tm))
theorem Sel.tail {vs : List V} {ds : List D} {w : V} {e : D} {ws : List V} {es : List D} (h : Sel vs ds (w :: ws) (e :: es)) : Sel vs ds ws es := ⟨by simpa using h.1, fun i w' e' h1 h2 => h.2 (i + 1) w' e' (by simpa using h1) (by simpa using h2)⟩
theorem pick_imm {k : Nat} {B : Bs} {H : Hp} {vs : List V} {ds : List D} (r : RpAll (view H) vs ds) (hi : immAll ds = true) : Pick k B H [] vs ds := fun H' env σ tm x ok ws es => by
  have r' := x.rpAll r
  induction ws generalizing es with
  | nil => intro s; cases es with
    | nil => exact ok
    | cons => exact absurd s.1 (by simp)
  | cons w ws ih =>
    intro s
    cases es with
    | nil => exact absurd s.1 (by simp)
    | cons e es =>
      obtain ⟨j, h1, h2⟩ := s.2 0 w e rfl rfl
      obtain ⟨d, h3, h4⟩ := r'.get' h1
      rw [h2] at h3
      cases h3
      exact (ih es s.tail).imm h4 (immAll_iff.mp hi e (List.mem_of_getElem? h2))
theorem pick_sh {B : Bs} {H : Hp} {v : V} {d : D} {p : Addr} {vs : List V} {ds : List D} (hd : d = .lst ds ∨ d = .tup ds) (ev : v = .ref p) (hp : view H p = some (.lst vs) ∨ view H p = some (.tup vs)) : Pick 0 B H [(v, 0, d)] vs ds := fun H' env σ tm x ok ws es => by
  have hp' : view H' p = some (.lst vs) ∨ view H' p = some (.tup vs) := hp.imp (view_ext x _ _) (view_ext x _ _)
  induction ws generalizing es with
  | nil => intro s; cases es with
    | nil => exact ok
    | cons => exact absurd s.1 (by simp)
  | cons w ws ih =>
    intro s
    cases es with
    | nil => exact absurd s.1 (by simp)
    | cons e es =>
      obtain ⟨j, h1, h2⟩ := s.2 0 w e rfl rfl
      have h3 : EnvOk B H' env σ ((v, 0, d) :: (lev 0 ws es ++ tm)) := (ih es s.tail).perm List.perm_middle
      have h4 := EnvOk.item h3 hd ev hp' h1 h2
      refine h4.perm (List.Perm.cons _ ?_)
      exact (List.perm_middle (l₁ := lev 0 ws es) (a := (v, 0, d)) (l₂ := tm)).symm
/-- c: a list, a tuple -/
def SL (X : Cx) (k : Nat) (c : List V → HO) (e : Expr) (m : Env → Res (List D)) : Prop := ∀ (B : Bs) (H : Hp) (env : Env) (σ : St) (tm : List Hold) (ds : List D) (Q : VK), EnvOk B H env σ tm → m env = .ok ds →
  (∀ p vs H' ex, Ext H H' → view H' p = some (c vs) → vs.length = ds.length → RpAll (view H') vs ds → EnvOk B H' env σ (ex ++ tm) → Pick k B H' ex vs ds → Q (.ref p) H') → wE X e σ H Q
section
variable {X : Cx} {e a b : Expr} {m ma mb : Env → Res D} {k : Nat} {cs : List Nat} {pos : Pos}
def immL (ds : List D) : Res (List D) := if immAll ds then .ok ds else .bad
theorem sl_imm (h : SB X e m) : SL X k .lst e (fun env => m env >>= fun d => itemsL d >>= immL) := fun B H env σ tm ds Q ok hm q => by
  obtain ⟨d, hd, h2⟩ := bind_ok hm
  obtain ⟨ds', h3, h4⟩ := bind_ok h2
  unfold itemsL at h3
  split at h3
  · cases h3
    unfold immL at h4
    split at h4
    · rename_i hi
      cases h4
      refine h B H env σ tm _ _ ok hd fun v H1 x1 ok1 r => ?_
      cases r with
      | lst hv ra => exact q _ _ H1 [] x1 hv ra.length ra ok1 (pick_imm ra hi)
    · cases h4
  · cases h3
theorem sl_sh (h : SE X 0 [] e m) : SL X 0 .lst e (fun env => m env >>= itemsL) := fun B H env σ tm ds Q ok hm q => by
  obtain ⟨d, hd, h2⟩ := bind_ok hm
  unfold itemsL at h2
  split at h2
  · cases h2
    refine h B H env σ tm _ _ ok hd fun v H1 x1 ok1 => ?_
    have r := ok1.rp
    cases r with
    | lst hv ra => exact q _ _ H1 [_] x1 hv ra.length ra ok1 (pick_sh (.inl rfl) rfl (.inl hv))
  · cases h2
/-! ### slices -/
def SO (X : Cx) (o : Option Expr) (m : Env → Res (Option Int)) : Prop := ∀ (B : Bs) (H : Hp) (env : Env) (σ : St) (tm : List Hold) (i : Option Int) (Q : Option Int → Hp → Prop), EnvOk B H env σ tm → m env = .ok i → (∀ H', Ext H H' → EnvOk B H' env σ tm → Q i H') →
  ∀ (pins : List (Addr × Obj)) (s : Shared), Inv X pins σ H s → wpAny (model X.prog X.w) X.A (evalPart o X.env) (fun u s' => ∃ o H', Inv X pins σ H' s' ∧ IsPart u o ∧ Q o H') X.xe s
def wO (X : Cx) (o : Option Expr) : TO := fun σ H Q => ∀ (pins : List (Addr × Obj)) (s : Shared), Inv X pins σ H s → wpAny (model X.prog X.w) X.A (evalPart o X.env) (fun u s' => ∃ o H', Inv X pins σ H' s' ∧ IsPart u o ∧ Q o H') X.xe s
theorem po_sem {o : Option Expr} : PO X o (wO X o) := ⟨fun pins s _ _ _ I h => h pins s I⟩
theorem so_none : SO X none (fun _ => .ok none) := fun B H env σ tm i Q ok hm q pins s I => by
  cases hm
  exact po_none.run pins s σ H Q I (q H (Ext.refl H) ok)
def toI : D → Res Int
  | .int i => .ok i
  | _ => .bad
theorem toI_ok {d : D} {i : Int} (h : toI d = .ok i) : d = .int i := by
  cases d with
  | int j => cases h; rfl
  | _ => cases h
theorem so_some (h : SB X e m) : SO X (some e) (fun env => m env >>= toI >>= fun i => .ok (some i)) := fun B H env σ tm i Q ok hm q pins s I => by
  obtain ⟨j, hj, h2⟩ := bind_ok hm
  obtain ⟨d, hd, h3⟩ := bind_ok hj
  have := toI_ok h3
  subst this
  cases h2
  refine (po_some pe_sem).run pins s σ H Q I (h B H env σ tm _ _ ok hd fun v H1 x1 ok1 r => ?_)
  cases r
  exact ⟨j, rfl, q H1 x1 ok1⟩
def cutD (xs : List D) (lo hi : Option Int) : List D := (xs.drop (HT.sIx xs.length 0 lo)).take (HT.sIx xs.length xs.length hi - HT.sIx xs.length 0 lo)
theorem sel_cut {vs : List V} {ds : List D} (hl : vs.length = ds.length) (lo hi : Option Int) : Sel vs ds (cutV vs lo hi) (cutD ds lo hi) := by
  unfold cutV cutD
  rw [hl]
  refine ⟨by simp [hl], fun i w e h1 h2 => ⟨HT.sIx ds.length 0 lo + i, ?_, ?_⟩⟩
  · rw [List.getElem?_take] at h1
    split at h1
    · rw [List.getElem?_drop] at h1; exact h1
    · cases h1
  · rw [List.getElem?_take] at h2
    split at h2
    · rw [List.getElem?_drop] at h2; exact h2
    · cases h2
def mSlice (m : Env → Res (List D)) (l u : Env → Res (Option Int)) : Env → Res D := fun env => m env >>= fun ds => l env >>= fun lo => u env >>= fun hi => .ok (.lst (cutD ds lo hi))
theorem se_slice {lo hi : Option Expr} {p2 : Pos} {ml mu : Env → Res (Option Int)} {mm : Env → Res (List D)} (h : SL X k .lst e mm) (hl : SO X lo ml) (hu : SO X hi mu) : SE X (k + 1) [] (.Subscript e (.Slice lo hi none p2) pos) (mSlice mm ml mu) := fun B H env σ tm d Q ok hm q => by
  obtain ⟨ds, hds, h2⟩ := bind_ok hm
  obtain ⟨i, hi', h3⟩ := bind_ok h2
  obtain ⟨j, hj', h4⟩ := bind_ok h3
  cases h4
  refine wE_of (pe_slice sl_list pe_sem po_sem po_sem) (h B H env σ tm ds _ ok hds fun p vs H1 ex x1 hp hl1 ra ok1 pk => ?_)
  refine hl B H1 env σ _ i _ ok1 hi' fun H2 x2 ok2 => hu B H2 env σ _ j _ ok2 hj' fun H3 x3 ok3 => ?_
  have x23 := x2.trans x3
  refine ⟨p, vs, rfl, .inl (view_rd (view_ext x23 _ _ hp)), fun l hnl => ?_⟩
  have s := sel_cut hl1 i j
  have ok4 := (pk H3 env σ tm x23 ok3 _ _ s).newLst s.1 hnl
  exact q _ _ ((x1.trans x23).trans (Ext.upd hnl)) (EnvOk.less (l := ex) (ok4.perm List.perm_middle.symm))
/-- a tuple's slice, shorter than the tuple -/
def gCutT (ds : List D) (lo hi : Option Int) : Res D := if immAll ds && !(decide (HT.sIx ds.length 0 lo = 0) && decide (HT.sIx ds.length ds.length hi = ds.length)) then .ok (.tup (cutD ds lo hi)) else .bad
theorem sc_sliceT {lo hi : Option Expr} {p2 : Pos} {ml mu : Env → Res (Option Int)} (h : SB X e m) (hl : SO X lo ml) (hu : SO X hi mu) : SC X (.Subscript e (.Slice lo hi none p2) pos) (fun env => m env >>= itemsT >>= fun ds => ml env >>= fun lo => mu env >>= fun hi => gCutT ds lo hi) := fun B H env σ tm d Q ok hm q => by
  obtain ⟨ds, hz, h2⟩ := bind_ok hm
  obtain ⟨d', hd', h5⟩ := bind_ok hz
  obtain ⟨i, hi', h3⟩ := bind_ok h2
  obtain ⟨j, hj', h4⟩ := bind_ok h3
  unfold itemsT at h5
  split at h5
  · cases h5
    unfold gCutT at h4
    split at h4
    · rename_i hc
      cases h4
      rw [Bool.and_eq_true] at hc
      obtain ⟨c1, c2⟩ := hc
      refine wE_of (pe_slice sl_tup pe_sem po_sem po_sem) (h B H env σ tm _ _ ok hd' fun v H1 x1 ok1 r => hl B H1 env σ tm i _ ok1 hi' fun H2 x2 ok2 => hu B H2 env σ tm j _ ok2 hj' fun H3 x3 ok3 => ?_)
      have x23 := x2.trans x3
      cases r with
      | @tup a vs _ hv ra =>
        have hlen := ra.length
        refine ⟨a, vs, rfl, .inl (view_rd (view_ext x23 _ _ hv)), ?_, fun l hnl => ?_⟩
        · intro ⟨z1, z2⟩
          rw [hlen] at z1 z2
          rw [decide_eq_true z1, decide_eq_true z2] at c2
          cases c2
        · have s := sel_cut hlen i j
          have hi2 : immAll (cutD ds i j) = true := immAll_iff.mpr fun x hx => immAll_iff.mp c1 x (List.mem_of_mem_drop (List.mem_of_mem_take hx))
          have ok4 := ((pick_imm (k := 0) (x23.rpAll ra) c1 H3 env σ tm (Ext.refl _) ok3 _ _ s).newTup s.1 hnl)
          have r4 := ok4.rp
          exact q _ _ ((x1.trans x23).trans (Ext.upd hnl)) (EnvOk.tail ok4) r4 (by show immAll _ = true; exact hi2)
    · cases h4
  · cases h5

/-! ### lists joined, copied -/
theorem perm_aca {α : Type} (a b c : List α) : (a ++ (b ++ c)).Perm (b ++ (a ++ c)) := by
  rw [← List.append_assoc, ← List.append_assoc]
  exact List.Perm.append_right _ List.perm_append_comm
def mCat (m n : Env → Res (List D)) : Env → Res D := fun env => m env >>= fun xs => n env >>= fun ys => if xs.length + ys.length ≤ sizeLine then .ok (.lst (xs ++ ys)) else .bad
theorem sel_refl {vs : List V} {ds : List D} (hl : vs.length = ds.length) : Sel vs ds vs ds := ⟨hl, fun i w e h1 h2 => ⟨i, h1, h2⟩⟩
theorem se_cat {mm nn : Env → Res (List D)} (ha : SL X k .lst a mm) (hb : SL X k .lst b nn) : SE X (k + 1) [] (.BinOp a .Add b pos) (mCat mm nn) := fun B H env σ tm d Q ok hm q => by
  obtain ⟨xs, hx, h2⟩ := bind_ok hm
  obtain ⟨ys, hy, h3⟩ := bind_ok h2
  split at h3
  · rename_i hl
    cases h3
    refine wE_of (pe_op op_catR pe_sem pe_sem) (ha B H env σ tm xs _ ok hx fun p vs H1 ex x1 hp hl1 ra ok1 pk => hb B H1 env σ (ex ++ tm) ys _ ok1 hy fun p2 ws H2 ex2 x2 hp2 hl2 ra2 ok2 pk2 => ?_)
    refine ⟨p, p2, vs, ws, rfl, rfl, view_rd (view_ext x2 _ _ hp), view_rd hp2, by omega, fun l hnl => ?_⟩
    have ok3 := pk2 H2 env σ _ (Ext.refl _) ok2 _ _ (sel_refl hl2)
    have ok4 : EnvOk B H2 env σ (ex ++ (lev k ws ys ++ (ex2 ++ tm))) := ok3.perm ((List.Perm.append_left _ (perm_aca _ _ _)).trans (perm_aca _ _ _))
    have ok5 := pk H2 env σ _ x2 ok4 _ _ (sel_refl hl1)
    have ok6 : EnvOk B H2 env σ (lev k (vs ++ ws) (xs ++ ys) ++ (ex ++ (ex2 ++ tm))) := by
      rw [lev_append ws ys hl1, List.append_assoc]
      exact ok5.perm (List.Perm.append_left _ (perm_aca _ _ _))
    have ok7 := ok6.newLst (by simp [hl1, hl2]) hnl
    refine q _ _ ((x1.trans x2).trans (Ext.upd hnl)) (EnvOk.less (l := ex ++ ex2) (ok7.perm ?_))
    rw [← List.append_assoc]
    exact List.perm_middle.symm
  · cases h3
/-- list(xs) -/
theorem se_list {c : List V → HO} {p : Pos} {mm : Env → Res (List D)} (hcc : c = .lst ∨ c = .tup) (hg : Gl X "list") (hm0 : X.mg "list" = none) (h : SL X k c e mm) (he : starEach [e] X.env = (false, eval e X.env) :: starEach [] X.env := by rfl) (hpl : (backTo pos (starEach [] X.env)).any (·.1) = false := by rfl) : SE X (k + 1) [] (.Call (.Name "list" p) [e] [] pos) (fun env => mm env >>= fun ds => .ok (.lst ds)) := fun B H env σ tm d Q ok hm q => by
  obtain ⟨ds, hds, h2⟩ := bind_ok hm
  cases h2
  refine wE_of (pe_callTy call_list_of hg hm0 (by decide +kernel) (pa_cons pe_sem pa_nil he) (by decide) (by decide) he hpl) (h B H env σ tm ds _ ok hds fun p vs H1 ex x1 hp hl1 ra ok1 pk => ?_)
  refine ⟨p, vs, rfl, ?_, fun l hnl => ?_⟩
  · rcases hcc with rfl | rfl
    · exact .inl (.inl (view_rd hp))
    · exact .inr (.inl (view_rd hp))
  · have ok2 := (pk H1 env σ tm (Ext.refl _) ok1 _ _ (sel_refl hl1)).newLst hl1 hnl
    exact q _ _ (x1.trans (Ext.upd hnl)) (EnvOk.less (l := ex) (ok2.perm List.perm_middle.symm))
/-- len(x) -/
def gLen : D → Res D
  | .lst xs => .ok (.int xs.length)
  | .tup xs => .ok (.int xs.length)
  | .str z => if z.length ≤ sizeLine then .ok (.int z.length) else .bad
  | _ => .bad
theorem sc_len {p : Pos} (hg : Gl X "len") (hm0 : X.mg "len" = none) (h : SB X e m) (he : starEach [e] X.env = (false, eval e X.env) :: starEach [] X.env := by rfl) (hpl : (backTo pos (starEach [] X.env)).any (·.1) = false := by rfl) : SC X (.Call (.Name "len" p) [e] [] pos) (mUn gLen m) := fun B H env σ tm d Q ok hm q => by
  obtain ⟨x, hx, h2⟩ := bind_ok hm
  refine wE_of (pe_callB call_len hg hm0 PySem.boot_len (pa_cons pe_sem pa_nil he) (by decide) (by decide) he hpl) (h B H env σ tm _ _ ok hx fun v H1 x1 ok1 r => ?_)
  cases r with
  | lst hv ra => cases h2; exact ⟨_, _, rfl, .inl ⟨_, .inl (view_rd hv), rfl⟩, by rw [ra.length]; exact q _ H1 x1 ok1 (.int _) rfl⟩
  | tup hv ra => cases h2; exact ⟨_, _, rfl, .inr ⟨_, .inl (view_rd hv), rfl⟩, by rw [ra.length]; exact q _ H1 x1 ok1 (.int _) rfl⟩
  | str z =>
    have h3 : (if z.length ≤ sizeLine then Res.ok (D.int z.length) else .bad) = .ok d := h2
    split at h3
    · rename_i hl
      cases h3
      exact ⟨_, _, rfl, ⟨hl, rfl⟩, q _ H1 x1 ok1 (.int _) rfl⟩
    · cases h3
  | _ => cases h2
end
end Mir

namespace Mir
open PySem PySem.Spec L2
open PyProof.Rows (envOfC)

/-! ### what a def promises -/
structure RetOk (kr : Nat) (G H H' : Hp) (v : V) (d : D) : Prop where
  ex : ∃ (G' : Hp) (fp : List Addr), Good ⟨H, G⟩ G' H' ∧ Od G' H' kr fp v d ∧ fp.Nodup ∧ ∀ p ∈ fp, H p = none ∧ G' p = none
def spF (kr n : Nat) (F : List D → Res D) : Sp := fun vs H Q _ => vs.length = n ∧ ∃ (G : Hp) (ds : List D) (d : D), Good ⟨H, G⟩ G H ∧ RpAll G vs ds ∧ F ds = .ok d ∧ ∀ v H', RetOk kr G H H' v d → Q v H'
/-- the mirror of a def: its body's mirror, run -/
def runD (n : Nat) (m : Env → Res Ctl) : List D → Res D := fun ds => m (ds.map (fun d => some (0, d)) ++ List.replicate (n - ds.length) none) >>= fun c => match c with
  | .rt d => .ok d
  | .nx _ => .ok .non
  | _ => .bad
theorem slots_start : ∀ (vs : List V) (ds : List D) (n : Nat), vs.length = ds.length → slots (ds.map (fun d => some (0, d)) ++ List.replicate n none) (vs.map some ++ List.replicate n none) = lev 0 vs ds
  | [], [], n, _ => by
    induction n with
    | zero => rfl
    | succ n ih => exact ih
  | v :: vs, d :: ds, n, h => congrArg (List.cons (v, 0, d)) (slots_start vs ds n (by simpa using h))
  | [], _ :: _, _, h => by simp at h
  | _ :: _, [], _, h => by simp at h
theorem hold_lev {G H : Hp} {vs : List V} {ds : List D} (r : RpAll G vs ds) : HoldAll G H (lev 0 vs ds) [] := by
  induction r using RpAll.rec (motive_1 := fun _ _ _ => True) with
  | nil => exact .nil
  | cons hr _ _ ih => exact HoldAll.cons (f := []) (g := []) (.of hr) ih
  | _ => trivial
section
variable {P : Program} {w : World} {K : PySem.W.Frag} {mg : Str → Option Value} {base : Heap}
/-- THE RULE for a def -/
theorem def_ok {x qual : Str} {st : Stmt} {f : Addr} {fd : FuncData} {N ps : List Str} {k kr : Nat} {m : Env → Res Ctl} {n : Nat} {FF : List D → Res D} (F : Fun K x qual st f fd) (S : FnScope N ps (defScope st)) (hn : ps.length = n) (hFF : FF = runD N.length m)
    (hb : ∀ (cdv : Value) (A : Around) (outer : List PySem.Env) (s : Shared) (H : Hp) (E : XK), Room k (A.deeper (envOfC qual (defScope st) s.heap.objs.size f cdv)) → SS (cxOf CX0 P w K mg base N qual (defScope st) f cdv A outer s H E).nox kr (defBody st) m) :
    FnOk P w K mg base CX0 (k + 1) f fd ps (spF kr n FF) := by
  subst hn hFF
  refine F.ok S (fun vs H Q E h => h.1) (fun cdv A outer s H vs Q E hr h => ?_)
  obtain ⟨hl, G, ds, d, hg, ra, hF, q⟩ := h
  have hlen := ra.length
  refine ⟨_, pss_sem, ?_⟩
  have hF' : (m (ds.map (fun d => some (0, d)) ++ List.replicate (N.length - ds.length) none) >>= fun c => match c with | .rt d => .ok d | .nx _ => .ok .non | _ => Res.bad) = .ok d := hF
  obtain ⟨c, hc, hd⟩ := bind_ok hF'
  have ok : EnvOk ⟨H, G⟩ H (ds.map (fun d => some (0, d)) ++ List.replicate (N.length - ds.length) none) (L2.start N vs) [] := by
    unfold L2.start
    rw [hlen]
    refine ⟨⟨G, [], hg, by rw [slots_start _ _ _ hlen, List.append_nil]; exact hold_lev ra, List.nodup_nil, fun p hp => by cases hp⟩, by simp [hlen], fun i kd e => ?_⟩
    by_cases hi : i < ds.length
    · have hv : i < (vs.map some).length := by rw [List.length_map]; omega
      rw [List.getElem?_append_left hv, List.getElem?_map, List.getElem?_eq_getElem (by omega)]
      exact ⟨_, rfl⟩
    · rw [List.getElem?_append_right (by simpa using hi), List.getElem?_replicate] at e
      split at e <;> cases e
  refine hb cdv A outer s H E hr ⟨H, G⟩ H _ _ [] _ c ok hc ?_
  have fin : ∀ {v : V} {H' : Hp} {e : Env} {σ : St}, EnvOk ⟨H, G⟩ H' e σ [(v, kr, d)] → Q v H' := fun {v H' e σ} ok' => by
    obtain ⟨⟨G', fp, g, hh, nd, hp⟩, _⟩ := ok'.noSlots
    have hh' : HoldAll G' H' [(v, kr, d)] fp := hh
    cases hh' with
    | @cons _ _ _ _ f1 g1 h1 h2 =>
      cases h2
      rw [List.append_nil] at nd hp
      exact q v H' ⟨G', f1, g, h1, nd, hp⟩
  cases c with
  | nx e =>
    cases hd
    exact fun σ' H' ok' => fin (ok'.imm (k := kr) .non rfl)
  | rt d' =>
    cases hd
    exact fun v H' ok' => fin ok'
  | bk e => cases hd
  | ct e => cases hd
end

/-! ### calls -/
mutual
/-- below the first k levels stands no list, no dict -/
def immAt : Nat → D → Bool
  | 0, d => d.imm
  | k + 1, .lst ds => immAtL k ds
  | k + 1, .tup ds => immAtL k ds
  | k + 1, .dk _ ds => immAtL k ds
  | k + 1, .dt _ ds => immAtL k ds
  | k + 1, .dn _ ds => immAtL k ds
  | _ + 1, _ => true
def immAtL : Nat → List D → Bool
  | _, [] => true
  | k, d :: ds => immAt k d && immAtL k ds
end
mutual
theorem Od.toImm {G G' H : Hp} (hT : ∀ a u, isIm u = true → G a = some u → G' a = some u) : ∀ {k : Nat} {f : List Addr} {v : V} {d : D}, Od G H k f v d → immAt k d = true → Od G' H k f v d
  | 0, _, _, _, .sh h r, e => .sh h (r.immTo hT (by simpa [immAt] using e))
  | k + 1, _, _, _, .sh h r, e => by
    rcases h with h | h
    · cases h
    · exact .sh (.inr h) (r.immTo hT h)
  | _, _, _, _, .lst h r, e => .lst h (OdAll.toImm hT r (by simpa [immAt] using e))
  | _, _, _, _, .tup h r, e => .tup h (OdAll.toImm hT r (by simpa [immAt] using e))
  | _, _, _, _, .dk h e1 r, e => .dk h e1 (OdAll.toImm hT r (by simpa [immAt] using e))
  | _, _, _, _, .dt h e1 r, e => .dt h e1 (OdAll.toImm hT r (by simpa [immAt] using e))
  | _, _, _, _, .dn h n q r, e => .dn h n (q.immTo hT (kNs_imm _)) (OdAll.toImm hT r (by simpa [immAt] using e))
theorem OdAll.toImm {G G' H : Hp} (hT : ∀ a u, isIm u = true → G a = some u → G' a = some u) : ∀ {k : Nat} {f : List Addr} {v : List V} {d : List D}, OdAll G H k f v d → immAtL k d = true → OdAll G' H k f v d
  | _, _, _, _, .nil, _ => .nil
  | _, _, _, _, .cons h r, e => by
    rw [immAtL, Bool.and_eq_true] at e
    exact .cons (Od.toImm hT h e.1) (OdAll.toImm hT r e.2)
end
theorem Good.ne {B : Bs} {G H : Hp} (g : Good B G H) {a : Addr} {u : HO} (e : G a = some u) : H a ≠ none := fun z => by
  have := g.gs a u e
  rw [view_none z] at this
  cases this
/-- what has come of a call, its arguments read -/
theorem EnvOk.retB {B : Bs} {H H' : Hp} {env : Env} {σ : St} {tm : List Hold} {kr : Nat} {v : V} {d : D} (ok : EnvOk B H env σ tm) (r : RetOk kr (view H) H H' v d) (hi : immAt kr d = true) : Ext H H' ∧ EnvOk B H' env σ ((v, kr, d) :: tm) := by
  obtain ⟨G', f, g, od, nd, hf⟩ := r.ex
  have x : Ext H H' := g.bs
  refine ⟨x, ?_⟩
  refine ok.grow x ok.bnone [(v, kr, d)] fun G1 g1 => ?_
  refine ⟨fun a => if H a = none then G' a else G1 a, f, fun a u e => ?_, fun a e => if_neg e, ⟨fun a o e => x a o (g1.bs a o e), fun a e => ?_, fun a u e => ?_, fun a xs im e => ?_, g.nf⟩, ?_, nd, fun p hp => ?_⟩
  · show (if H a = none then G' a else G1 a) = some u
    rw [if_neg (g1.ne e)]; exact e
  · show (if H a = none then G' a else G1 a) = _
    have : H a ≠ none := fun z => e (ok.bnone a z)
    rw [if_neg this]; exact g1.g0 a e
  · have e' : (if H a = none then G' a else G1 a) = some u := e
    split at e'
    · exact g.gs a u e'
    · exact view_ext x a u (g1.gs a u e')
  · show (if H a = none then G' a else G1 a) = _
    split
    · exact g.gt a xs im e
    · rename_i hn
      cases q : H a with
      | none => exact absurd q hn
      | some o =>
        have e2 : H' a = some o := x a o q
        refine g1.gt a xs im ?_
        unfold view at e ⊢
        rw [q]; rw [e2] at e; exact e
  · refine HoldAll.cons (f := f) (g := []) (od.toImm (fun a xs im e => ?_) hi) .nil |> fun h => by rw [List.append_nil] at h; exact h
    show (if H a = none then G' a else G1 a) = _
    split
    · exact e
    · rename_i hn
      have e1 : G' a = view H a := g.g0 a hn
      exact g1.gt a xs im (e1.symm.trans e)
  · refine ⟨(hf p hp).1, ?_⟩
    show (if H p = none then G' p else G1 p) = _
    rw [if_pos (hf p hp).1]; exact (hf p hp).2
/-- .. its arguments shared -/
theorem EnvOk.ret0 {B : Bs} {H H' : Hp} {env : Env} {σ : St} {tm : List Hold} {kr : Nat} {vs : List V} {ds : List D} (hl : vs.length = ds.length) (ok : EnvOk B H env σ (lev 0 vs ds ++ tm)) :
    ∃ G, Good ⟨H, G⟩ G H ∧ RpAll G vs ds ∧ ∀ H' v d, RetOk kr G H H' v d → Ext H H' ∧ EnvOk B H' env σ ((v, kr, d) :: tm) := by
  have h2 := ok.len
  have h3 := ok.has
  obtain ⟨G1, f, g, hg, hf, hr, nd, hq⟩ := ok.apart
  have hf' : HoldAll G1 H (lev 0 vs ds ++ []) f := by rw [List.append_nil]; exact hf
  obtain ⟨f1, f2, e, ha, hn⟩ := HoldAll.toAll hl hf'
  cases hn
  rw [List.append_nil] at e
  subst e
  have ra : ∀ {f : List Addr} {vs : List V} {ds : List D}, OdAll G1 H 0 f vs ds → RpAll G1 vs ds := fun {f vs ds} r => by
    induction vs generalizing ds f with
    | nil => cases r; exact .nil
    | cons v vs ih => cases r with | cons h r => exact .cons h.zero.2 (ih r)
  refine ⟨G1, ⟨fun _ _ e => e, fun _ _ => rfl, hg.gs, hg.gt, hg.nf⟩, ra ha, fun H' v d r => ?_⟩
  obtain ⟨G', fr, gr, od, ndr, hfr⟩ := r.ex
  have x : Ext H H' := gr.bs
  refine ⟨x, ?_⟩
  have hG : ∀ a u, G1 a = some u → G' a = some u := fun a u e => (gr.g0 a (hg.ne e)).trans e
  have hrm := hr.mu
  refine EnvOk.join (l := [(v, kr, d)]) (G := G') (f := fr) (g := g) h2 h3 ⟨fun a o e => x a o (hg.bs a o e), fun a e => ?_, gr.gs, gr.gt, gr.nf⟩ ?_ (hr.frame hG fun a u e _ => x a u e) ?_ ?_
  · have : H a ≠ none := fun z => e (ok.bnone a z)
    exact (gr.g0 a this).trans (hg.g0 a e)
  · have := HoldAll.cons od (.nil (G := G') (H := H'))
    rw [List.append_nil] at this; exact this
  · refine List.nodup_append.mpr ⟨ndr, (List.nodup_append.mp nd).2.1, fun a m1 b m2 e => ?_⟩
    subst e
    obtain ⟨u, e, _⟩ := hrm a m2
    rw [(hfr a m1).1] at e; cases e
  · intro p m
    rcases List.mem_append.mp m with m | m
    · exact ⟨ok.bnone p (hfr p m).1, (hfr p m).2⟩
    · obtain ⟨u, e, _⟩ := hrm p m
      refine ⟨(hq p (List.mem_append_right _ m)).1, ?_⟩
      have : H p ≠ none := by rw [e]; simp
      exact (gr.g0 p this).trans (hq p (List.mem_append_right _ m)).2
section
variable {X : Cx} {e a b : Expr} {es : List Expr} {m ma mb : Env → Res D} {ms : Env → Res (List D)} {k kr n : Nat} {cs : List Nat} {pos p : Pos} {x : Str} {F : List D → Res D} {j : Nat} {f : Addr} {fd : FuncData} {ps : List Str}
/-- f(..), its arguments read, its worth owned to the level kr -/
def mCall (kr : Nat) (F : List D → Res D) (ms : Env → Res (List D)) : Env → Res D := fun env => ms env >>= fun ds => F ds >>= fun d => if immAt kr d then .ok d else .bad
theorem se_call (Fo : FnOk X.prog X.w X.K X.mg X.base CX0 j f fd ps (spF kr n F)) (hr : Room j X.A) (hg : Gl X x) (hm : X.mg x = some (.ref f)) (hk : PySem.W.keepIn X.K (.ref f) = true) (hb : Binds X.K fd ps [])
    (ha : SAB X (e :: es) ms) (hdb : (x == ("__debug__" : Str)) = false := by decide) (he : starEach (e :: es) X.env = (false, eval e X.env) :: starEach es X.env := by rfl) (hpl : (backTo pos (starEach es X.env)).any (·.1) = false := by rfl) (hl : ∀ env ds, ms env = .ok ds → ds.length = n) :
    SE X kr [] (.Call (.Name x p) (e :: es) [] pos) (mCall kr F ms) := fun B H env σ tm d Q ok hm' q => by
  obtain ⟨ds, hds, h2⟩ := bind_ok hm'
  obtain ⟨d', hF, h3⟩ := bind_ok h2
  split at h3
  · rename_i hi
    cases h3
    refine wE_of (pe_call Fo hr hg hm hk hb .nil pass0 pa_sem hdb he hpl) (ha B H env σ tm ds _ ok hds fun vs H1 x1 ok1 ra => ?_)
    rw [List.append_nil]
    refine ⟨by rw [ra.length]; exact hl _ _ hds, view H1, ds, _, ⟨fun _ _ e => e, fun _ _ => rfl, fun _ _ e => e, fun _ _ _ e => e, fun a xs im e => ok1.imAt im e⟩, ra, hF, fun v H' r => ?_⟩
    obtain ⟨x2, ok2⟩ := ok1.retB r hi
    exact q v H' (x1.trans x2) ok2
  · cases h3
theorem sab_len {ms : Env → Res (List D)} : ∀ {n : Nat}, (∀ env ds, ms env = .ok ds → ds.length = n) → ∀ {m : Env → Res D}, ∀ env ds, mConsA m ms env = .ok ds → ds.length = n + 1 := fun {n} h {m} env ds hm => by
  obtain ⟨y, _, h2⟩ := bind_ok hm
  obtain ⟨ys, h3, h4⟩ := bind_ok h2
  cases h4
  simp [h env ys h3]
theorem sab_len0 : ∀ env ds, mNilA env = .ok ds → ds.length = 0 := fun env ds h => by cases h; rfl
end
end Mir

namespace Mir
open PySem PySem.Spec L2

/-! ### dicts in the mirror -/
section
variable {κ : Type} [DecidableEq κ]
def dFind : List κ → List D → κ → Option D
  | k :: ks, d :: ds, x => if k = x then some d else dFind ks ds x
  | _, _, _ => none
def dPutK (ks : List κ) (x : κ) : List κ := if x ∈ ks then ks else ks ++ [x]
def dPutD : List κ → List D → κ → D → List D
  | k :: ks, d :: ds, x, y => (if k = x then y else d) :: dPutD ks ds x y
  | _, _, _, _ => []
def dPutV (ks : List κ) (ds : List D) (x : κ) (y : D) : List D := if x ∈ ks then dPutD ks ds x y else ds ++ [y]
theorem find_rp {G : Hp} : ∀ {kvs : List (κ × V)} {ds : List D} {x : κ}, RpAll G (kvs.map (·.2)) ds → (dFind (kvs.map (·.1)) ds x = none → valV kvs x = none) ∧ ∀ d, dFind (kvs.map (·.1)) ds x = some d → ∃ v, valV kvs x = some v ∧ Rp G v d
  | [], _, _, _ => ⟨fun _ => rfl, fun d h => by simp [dFind] at h⟩
  | (k, v) :: kvs, [], _, r => by cases r
  | (k, v) :: kvs, d :: ds, x, r => by
    cases r with
    | cons h r =>
      have ih := find_rp (kvs := kvs) (ds := ds) (x := x) r
      by_cases e : k = x
      · subst e
        refine ⟨fun h' => ?_, fun d' h' => ⟨v, ?_, ?_⟩⟩
        · have : (if k = k then some d else _) = none := h'
          rw [if_pos rfl] at this; cases this
        · unfold valV; simp
        · have : (if k = k then some d else _) = some d' := h'
          rw [if_pos rfl] at this; cases this; exact h
      · have e1 : valV ((k, v) :: kvs) x = valV kvs x := by unfold valV; simp [List.find?_cons, e]
        have e2 : dFind (((k, v) :: kvs).map (·.1)) (d :: ds) x = dFind (kvs.map (·.1)) ds x := if_neg e
        rw [e1, e2]
        exact ih
theorem putK_keys (kvs : List (κ × V)) (x : κ) (v : V) : (putK kvs x v).map (·.1) = dPutK (kvs.map (·.1)) x := by
  unfold putK dPutK
  by_cases h : x ∈ kvs.map (·.1)
  · have h' : (kvs.any fun kv => decide (kv.1 = x)) = true := by
      obtain ⟨p, hp, e⟩ := List.mem_map.mp h
      exact List.any_eq_true.mpr ⟨p, hp, decide_eq_true e⟩
    rw [if_pos h', if_pos h, List.map_map]
    refine List.map_congr_left fun p _ => ?_
    by_cases e : p.1 = x
    · simp [e]
    · simp [e]
  · have h' : ¬ (kvs.any fun kv => decide (kv.1 = x)) = true := fun q => by
      obtain ⟨p, hp, e⟩ := List.any_eq_true.mp q
      exact h (List.mem_map.mpr ⟨p, hp, of_decide_eq_true e⟩)
    rw [if_neg h', if_neg h]
    simp
theorem putV_len {ks : List κ} {ds : List D} {x : κ} {y : D} (h : ks.length = ds.length) : (dPutK ks x).length = (dPutV ks ds x y).length := by
  unfold dPutK dPutV
  have : ∀ (ks : List κ) (ds : List D), ks.length = ds.length → ks.length = (dPutD ks ds x y).length := fun ks ds h => by
    induction ks generalizing ds with
    | nil => rfl
    | cons k ks ih =>
      cases ds with
      | nil => simp at h
      | cons d ds => simp [dPutD, ih ds (by simpa using h)]
  by_cases e : x ∈ ks
  · rw [if_pos e, if_pos e]; exact this ks ds h
  · rw [if_neg e, if_neg e]; simp [h]
theorem putK_len' {kvs : List (κ × V)} {x : κ} {v : V} : (putK kvs x v).length = (dPutK (kvs.map (·.1)) x).length := by
  rw [← putK_keys kvs x v, List.length_map]
/-- the values behind a store: old ones or the new one -/
theorem putK_sel : ∀ {kvs : List (κ × V)} {ds : List D} {x : κ} {v : V} {y : D}, kvs.length = ds.length → Sel (kvs.map (·.2) ++ [v]) (ds ++ [y]) ((putK kvs x v).map (·.2)) (dPutV (kvs.map (·.1)) ds x y) := by
  intro kvs ds x v y hl
  have hlen : ((putK kvs x v).map (·.2)).length = (dPutV (kvs.map (·.1)) ds x y).length := by
    rw [List.length_map, putK_len', putV_len (by simpa using hl)]
  refine ⟨hlen, fun i w e h1 h2 => ?_⟩
  unfold putK at h1
  unfold dPutV at h2
  by_cases h : x ∈ kvs.map (·.1)
  · have h' : (kvs.any fun kv => decide (kv.1 = x)) = true := by
      obtain ⟨p, hp, e⟩ := List.mem_map.mp h
      exact List.any_eq_true.mpr ⟨p, hp, decide_eq_true e⟩
    rw [if_pos h', List.map_map] at h1
    rw [if_pos h] at h2
    have key : ∀ (kvs : List (κ × V)) (ds : List D) (i : Nat), kvs.length = ds.length → (kvs.map ((·.2) ∘ fun kv => if kv.1 = x then (kv.1, v) else kv))[i]? = some w → (dPutD (kvs.map (·.1)) ds x y)[i]? = some e → (w = v ∧ e = y) ∨ ((kvs.map (·.2))[i]? = some w ∧ ds[i]? = some e) := by
      intro kvs
      induction kvs with
      | nil => intro ds i _ q; simp at q
      | cons p kvs ih =>
        intro ds i hl q1 q2
        cases ds with
        | nil => simp at hl
        | cons d ds =>
          cases i with
          | zero =>
            simp [dPutD] at q1 q2
            by_cases e1 : p.1 = x
            · rw [if_pos e1] at q1 q2; exact .inl ⟨q1.symm, q2.symm⟩
            · rw [if_neg e1] at q1 q2; exact .inr ⟨by simp [q1], by simp [q2]⟩
          | succ i =>
            have := ih ds i (by simpa using hl) (by simpa using q1) (by simpa [dPutD] using q2)
            exact this.imp id fun z => ⟨by simpa using z.1, by simpa using z.2⟩
    rcases key kvs ds i hl h1 h2 with ⟨rfl, rfl⟩ | ⟨a1, a2⟩
    · exact ⟨kvs.length, by simp, by rw [hl]; simp⟩
    · have hi : i < ds.length := (List.getElem?_eq_some_iff.mp a2).1
      exact ⟨i, by rw [List.getElem?_append_left (by simp; omega)]; exact a1, by rw [List.getElem?_append_left hi]; exact a2⟩
  · have h' : ¬ (kvs.any fun kv => decide (kv.1 = x)) = true := fun q => by
      obtain ⟨p, hp, e⟩ := List.any_eq_true.mp q
      exact h (List.mem_map.mpr ⟨p, hp, of_decide_eq_true e⟩)
    rw [if_neg h'] at h1
    rw [if_neg h] at h2
    exact ⟨i, by simpa using h1, h2⟩
end
/-- keys -/
def keyOf : D → Option Key
  | .int i => some (.inl i)
  | .str z => some (.inr z)
  | _ => none
def keysOf : List D → Option (List Key)
  | [] => some []
  | d :: ds => match keyOf d, keysOf ds with
    | some k, some ks => some (k :: ks)
    | _, _ => none
def keyT : D → Option (List Key)
  | .tup ds => keysOf ds
  | _ => none
theorem keyOf_rp {G : Hp} {v : V} {d : D} {k : Key} (r : Rp G v d) (h : keyOf d = some k) : v = kV k := by
  cases r with
  | int i => cases h; rfl
  | str z => cases h; rfl
  | _ => simp [keyOf] at h
theorem keysOf_rp {G : Hp} : ∀ {vs : List V} {ds : List D} {ks : List Key}, RpAll G vs ds → keysOf ds = some ks → vs = ks.map kV
  | _, _, ks, .nil, h => by cases h; rfl
  | _, _, ks, .cons (d := d) (ds := ds) hr r, h => by
    unfold keysOf at h
    split at h
    · rename_i k ks' h1 h2
      cases h
      rw [keyOf_rp hr h1, keysOf_rp r h2]; rfl
    · cases h
theorem keyT_rp {B : Bs} {H : Hp} {env : Env} {σ : St} {tm : List Hold} {v : V} {d : D} {k : List Key} (ok : EnvOk B H env σ tm) (r : Rp (view H) v d) (h : keyT d = some k) : ∃ b, v = .ref b ∧ H b = some (.tup (k.map kV)) := by
  cases r with
  | tup hv ra => exact ⟨_, rfl, by rw [← keysOf_rp ra h]; exact ok.tupAt hv⟩
  | _ => simp [keyT] at h
/-- what a dict holds at a key: none where the key isn't one -/
def dGet : D → D → Option (Option D)
  | .dk ks ds, key => (keyOf key).map fun k => dFind ks ds k
  | .dt ks ds, key => (keyT key).map fun k => dFind ks ds k
  | _, _ => none
theorem dGet_rp {B : Bs} {H : Hp} {env : Env} {σ : St} {tm : List Hold} {v y : V} {d key : D} {o : Option D} (ok : EnvOk B H env σ tm) (r : Rp (view H) v d) (ry : Rp (view H) y key) (h : dGet d key = some o) :
    ∃ a ov, v = .ref a ∧ IsD H a ∧ DGet H a y ov ∧ (o = none → ov = none) ∧ ∀ x, o = some x → ∃ w, ov = some w ∧ Rp (view H) w x := by
  unfold dGet at h
  split at h
  · rename_i ks ds
    cases r with
    | @dk a kvs _ _ hv ek ra =>
      subst ek
      cases hk : keyOf key with
      | none => rw [hk] at h; cases h
      | some k =>
        rw [hk] at h
        cases h
        obtain ⟨f1, f2⟩ := find_rp (x := k) ra
        exact ⟨a, valV kvs k, rfl, .inl ⟨_, view_rd hv⟩, .inl ⟨kvs, k, view_rd hv, keyOf_rp ry hk, rfl⟩, f1, f2⟩
  · rename_i ks ds
    cases r with
    | @dt a kvs _ _ hv ek ra =>
      subst ek
      cases hk : keyT key with
      | none => rw [hk] at h; cases h
      | some k =>
        rw [hk] at h
        cases h
        obtain ⟨f1, f2⟩ := find_rp (x := k) ra
        obtain ⟨b, eb, hb⟩ := keyT_rp ok ry hk
        exact ⟨a, valV kvs k, rfl, .inr ⟨_, view_rd hv⟩, .inr ⟨kvs, k, b, view_rd hv, eb, hb, rfl⟩, f1, f2⟩
  · cases h
section
variable {X : Cx} {e o i a b : Expr} {m ma mb md mk : Env → Res D} {k kr : Nat} {cs : List Nat} {pos cpos apos : Pos}
/-- d[k] -/
def gDGet (d key : D) : Res D := match dGet d key with
  | some (some x) => .ok x
  | _ => .bad
theorem sb_dget (hu : X.A.units + 1 < cLine) (ho : SB X o md) (hi : SB X i mk) (hs : NoSl i) : SB X (.Subscript o i pos) (mOp gDGet md mk) := fun B H env σ tm d Q ok hm q => by
  obtain ⟨x, y, hx, hy, hg⟩ := two hm
  refine wE_of (pe_dget hu pe_sem pe_sem hs) (sb2 ho hi ok hx hy fun v u H' x' ok' r1 r2 => ?_)
  unfold gDGet at hg
  split at hg
  · rename_i z hz
    cases hg
    obtain ⟨p, ov, rfl, _, g, _, f2⟩ := dGet_rp ok' r1 r2 hz
    obtain ⟨w, rfl, rw'⟩ := f2 _ rfl
    exact ⟨p, w, rfl, g, q w H' x' ok' rw'⟩
  · cases hg
/-- k in d, k not in d -/
def gDIn (key d : D) : Res D := match dGet d key with
  | some o => .ok (.bl o.isSome)
  | none => .bad
def gDNotIn (key d : D) : Res D := match dGet d key with
  | some o => .ok (.bl (!o.isSome))
  | none => .bad
theorem some_eq {o : Option D} {ov : Option V} (h1 : o = none → ov = none) (h2 : ∀ x, o = some x → ∃ w, ov = some w ∧ True) : ov.isSome = o.isSome := by
  cases o with
  | none => rw [h1 rfl]; rfl
  | some x => obtain ⟨w, rfl, _⟩ := h2 x rfl; rfl
theorem din_core {x y d : D} {B : Bs} {H : Hp} {env : Env} {σ : St} {tm : List Hold} (hg : gDIn x y = .ok d) {v u : V} (ok' : EnvOk B H env σ tm) (r1 : Rp (view H) v x) (r2 : Rp (view H) u y) : ∃ a o, u = .ref a ∧ DGet H a v o ∧ d = .bl o.isSome := by
  unfold gDIn at hg
  split at hg
  · rename_i z hz
    cases hg
    obtain ⟨p, ov, rfl, _, g, f1, f2⟩ := dGet_rp ok' r2 r1 hz
    refine ⟨p, ov, rfl, g, ?_⟩
    rw [some_eq f1 fun x e => let ⟨w, a, _⟩ := f2 x e; ⟨w, a, trivial⟩]
  · cases hg
theorem dnotin_core {x y d : D} {B : Bs} {H : Hp} {env : Env} {σ : St} {tm : List Hold} (hg : gDNotIn x y = .ok d) {v u : V} (ok' : EnvOk B H env σ tm) (r1 : Rp (view H) v x) (r2 : Rp (view H) u y) : ∃ a o, u = .ref a ∧ DGet H a v o ∧ d = .bl (!o.isSome) := by
  unfold gDNotIn at hg
  split at hg
  · rename_i z hz
    cases hg
    obtain ⟨p, ov, rfl, _, g, f1, f2⟩ := dGet_rp ok' r2 r1 hz
    refine ⟨p, ov, rfl, g, ?_⟩
    rw [some_eq f1 fun x e => let ⟨w, a, _⟩ := f2 x e; ⟨w, a, trivial⟩]
  · cases hg
theorem st_din (hu : X.A.units + 1 < cLine) (hi : SB X i mk) (ho : SB X o md) (h1 : behindInMarks .In o = false := by rfl) : ST X (.Compare i [.In] [o] pos) (mTb (mOp gDIn mk md)) := fun B H env σ tm d Q ok hm q => by
  obtain ⟨z, hz, hd⟩ := bind_ok hm
  have hd' := toB_ok hd
  subst hd'
  obtain ⟨x, y, hx, hy, hg⟩ := two hz
  refine wT_of (pt_cmp (pc_din hu pe_sem pe_sem) h1) (sb2 hi ho ok hx hy fun v u H' x' ok' r1 r2 => ?_)
  obtain ⟨p, ov, rfl, g, e⟩ := din_core hg ok' r1 r2
  cases e
  exact ⟨p, ov, rfl, g, _, rfl, q H' x' ok'⟩
theorem st_dnotin (hu : X.A.units + 1 < cLine) (hi : SB X i mk) (ho : SB X o md) (h1 : behindInMarks .NotIn o = false := by rfl) : ST X (.Compare i [.NotIn] [o] pos) (mTb (mOp gDNotIn mk md)) := fun B H env σ tm d Q ok hm q => by
  obtain ⟨z, hz, hd⟩ := bind_ok hm
  have hd' := toB_ok hd
  subst hd'
  obtain ⟨x, y, hx, hy, hg⟩ := two hz
  refine wT_of (pt_cmp (pc_dnotin hu pe_sem pe_sem) h1) (sb2 hi ho ok hx hy fun v u H' x' ok' r1 r2 => ?_)
  obtain ⟨p, ov, rfl, g, e⟩ := dnotin_core hg ok' r1 r2
  cases e
  exact ⟨p, ov, rfl, g, _, rfl, q H' x' ok'⟩
/-- d.get(k, x): what it tells may be read -/
def mGet2 (md mk m : Env → Res D) : Env → Res D := fun env => md env >>= fun d => mk env >>= fun y => m env >>= fun z => match dGet d y with
  | some o => .ok (o.getD z)
  | none => .bad
/-- {} -/
theorem se_dnewK : SE X (k + 1) [] (.Dict [] [] pos) (mC (.dk [] [])) := fun B H env σ tm d Q ok hm q => by
  cases hm
  exact wE_of pe_dnewK fun p hp => q _ _ (Ext.upd hp) (EnvOk.newDk (kvs := []) (ds := []) ok rfl rfl hp)
/-! ### what a slot holds is changed -/
theorem EnvOk.slotMu {B : Bs} {H : Hp} {env : Env} {σ : St} {tm : List Hold} {j : Nat} {d : D} (ok : EnvOk B H env σ tm) (e : env[j]? = some (some (k + 1, d))) (im : d.imm = false) : ∃ p, σ[j]? = some (some (.ref p)) ∧ EnvOk B H (env.set j none) σ ((.ref p, k + 1, d) :: tm) := by
  obtain ⟨v, hv⟩ := ok.has j _ e
  have ok1 := ok.move e hv
  obtain ⟨p, rfl⟩ := ok1.isRef im
  exact ⟨p, hv, ok1⟩
theorem EnvOk.putBack {B : Bs} {H : Hp} {env : Env} {σ : St} {tm : List Hold} {j : Nat} {d d0 : D} {v : V} (hj : env[j]? = some (some (k, d0))) (hv : σ[j]? = some (some v)) (ok : EnvOk B H (env.set j none) σ ((v, k, d) :: tm)) : EnvOk B H (env.set j (some (k, d))) σ tm := by
  have hi : j < env.length := (List.getElem?_eq_some_iff.mp hj).1
  have h1 := ok.store (i := j) (by simpa using hi)
  rw [List.set_set, set_self hv] at h1
  exact h1
/-- the slot's list, the hand -/
def atL (env : Env) (j k : Nat) : Res (List D) := match env[j]? with
  | some (some (k', .lst ds)) => if k' = k then .ok ds else .bad
  | _ => .bad
theorem atL_ok {env : Env} {j k : Nat} {ds : List D} (h : atL env j k = .ok ds) : env[j]? = some (some (k, .lst ds)) := by
  unfold atL at h
  split at h
  · rename_i k' ds' he
    split at h
    · rename_i ek
      subst ek
      cases h
      exact he
    · cases h
  · cases h
theorem clear_some {env : Env} {cs : List Nat} {j : Nat} {kd : Nat × D} (h : (clear env cs)[j]? = some (some kd)) : env[j]? = some (some kd) := by
  induction cs generalizing env with
  | nil => exact h
  | cons c cs ih =>
    have h1 := ih h
    rw [List.getElem?_set] at h1
    split at h1
    · split at h1 <;> cases h1
    · exact h1
/-- x.append(e) -/
def mAppend (j k : Nat) (cs : List Nat) (m : Env → Res D) : Env → Res Ctl := fun env => m env >>= fun d => atL (clear env cs) j (k + 1) >>= fun ds =>
  if ds.length < sizeLine then .ok (.nx ((clear env cs).set j (some (k + 1, .lst (ds ++ [d]))))) else .bad
theorem s_append {j : Nat} (hx : PE X o (tVar j)) (he : SE X k cs e m)
    (hbase : attributeBase o "append" X.env (eval o X.env) = eval o X.env := by rfl)
    (hfew : ((backTo cpos (starEach [e] X.env)).all (fun x => !x.1) && (backToKw cpos (keywordEach [] X.env)).all (fun x => x.1.isSome)
      && decide ([e].length + ([] : List Keyword).length + (if ([] : List Keyword).isEmpty then 0 else 1) < 30)) = true := by rfl)
    (hline : (apos.endLine == cpos.line) = true := by rfl) (hs : starEach [e] X.env = (false, eval e X.env) :: starEach [] X.env := by rfl) (hplain : (backTo cpos (starEach [] X.env)).any (·.1) = false := by rfl)
    (hsw : swapsWith (.Call (.Attribute o "append" apos) [e] [] cpos) none pos.line X.env = pure false := by rfl) : S1 X kr (.Expr (.Call (.Attribute o "append" apos) [e] [] cpos) pos) (mAppend j k cs m) := fun B H env σ tm D r ok hm p => by
  obtain ⟨d, hd, h2⟩ := bind_ok hm
  obtain ⟨ds, hds, h3⟩ := bind_ok h2
  split at h3
  · rename_i hl
    cases h3
    have he1 := atL_ok hds
    obtain ⟨v, hv, rv⟩ := ok.slot (clear_some he1)
    refine wS_of (ps_expr (pe_bm F.plainAttrs_list F.slot_list_append F.type_list_append mt_append hx (pa_cons pe_sem pa_nil hs) hbase hfew hline hs hplain) hsw) ?_
    refine ⟨v, hv, ?_⟩
    cases rv with
    | @lst q vs0 _ hq ra0 =>
      refine ⟨.inl ⟨rfl, _, .inl (view_rd hq)⟩, ?_⟩
      refine he B H env σ tm d _ ok hd fun w H1 x1 ok1 => ?_
      obtain ⟨q', hv', ok2⟩ := ok1.slotMu he1 rfl
      rw [hv] at hv'
      cases hv'
      obtain ⟨vs, hL, hvl, ok3⟩ := ok2.takeLst
      refine ⟨q, vs, w, rfl, rfl, hL, by omega, ?_⟩
      have ok4 : EnvOk B (del H1 q) ((clear env cs).set j none) σ (lev k (vs ++ [w]) (ds ++ [d]) ++ tm) := by
        rw [lev_append [w] [d] hvl, List.append_assoc]
        exact ok3
      have ok5 := ok4.newLst (p := q) (by simp [hvl]) del_self
      rw [upd_del] at ok5
      exact p σ _ (ok5.putBack he1 hv)
  · cases h3
/-- x.extend(e) -/
def mExtend (j k : Nat) (m : Env → Res (List D)) : Env → Res Ctl := fun env => m env >>= fun es => atL env j (k + 1) >>= fun ds =>
  if ds.length + es.length ≤ sizeLine then .ok (.nx (env.set j (some (k + 1, .lst (ds ++ es))))) else .bad
/-- d[key] = e, d a dict whose values are shared -/
def atK (env : Env) (j : Nat) : Res D := match env[j]? with
  | some (some (1, d)) => .ok d
  | _ => .bad
theorem atK_ok {env : Env} {j : Nat} {d : D} (h : atK env j = .ok d) : env[j]? = some (some (1, d)) := by
  unfold atK at h
  split at h
  · rename_i d' he; cases h; exact he
  · cases h
def dSet (d key v : D) : Res D := match d with
  | .dk ks ds => if ds.length < sizeLine ∧ ks.length = ds.length then (match keyOf key with | some k => .ok (.dk (dPutK ks k) (dPutV ks ds k v)) | none => .bad) else .bad
  | .dt ks ds => if ds.length < sizeLine ∧ ks.length = ds.length then (match keyT key with | some k => .ok (.dt (dPutK ks k) (dPutV ks ds k v)) | none => .bad) else .bad
  | _ => .bad
def mDput (j : Nat) (cs : List Nat) (m mk : Env → Res D) : Env → Res Ctl := fun env => m env >>= fun d => mk (clear env cs) >>= fun y => atK (clear env cs) j >>= fun dd => dSet dd y d >>= fun d' => .ok (.nx ((clear env cs).set j (some (1, d'))))
theorem sel_lev0 {B : Bs} {H : Hp} {env : Env} {σ : St} {tm : List Hold} {vs : List V} {ds : List D} (ok : EnvOk B H env σ (lev 0 vs ds ++ tm)) : ∀ {ws : List V} {es : List D}, Sel vs ds ws es → EnvOk B H env σ (lev 0 ws es ++ (lev 0 vs ds ++ tm)) := by
  intro ws
  induction ws with
  | nil => intro es s; cases es with
    | nil => exact ok
    | cons => exact absurd s.1 (by simp)
  | cons w ws ih =>
    intro es s
    cases es with
    | nil => exact absurd s.1 (by simp)
    | cons e es =>
      obtain ⟨j, h1, h2⟩ := s.2 0 w e rfl rfl
      have h3 := ih s.tail
      obtain ⟨l, hp⟩ := lev_get (k := 0) h1 h2
      have h4 : EnvOk B H env σ ((w, 0, e) :: (l ++ (lev 0 ws es ++ tm))) := h3.perm ((perm_aca _ _ _).trans (hp.append_right _))
      refine h4.dup.perm (List.Perm.cons _ ?_)
      refine List.Perm.trans ?_ ((perm_aca (lev 0 vs ds) (lev 0 ws es) tm))
      exact (hp.append_right (lev 0 ws es ++ tm)).symm
theorem s_dput {j : Nat} {pos' : Pos} (hu : X.A.units + 1 < cLine) (hx : PE X o (tVar j)) (hi : SB X i mk) (hv : SE X 0 cs e m) (hs : swapsWith e (some (.Subscript o i pos')) pos.line X.env = pure false := by rfl) :
    S1 X kr (.Assign [.Subscript o i pos'] e pos) (mDput j cs m mk) := fun B H env σ tm D r ok hm p => by
  obtain ⟨d, hd, h2⟩ := bind_ok hm
  obtain ⟨y, hy, h3⟩ := bind_ok h2
  obtain ⟨dd, hdd, h4⟩ := bind_ok h3
  obtain ⟨d', hd', h5⟩ := bind_ok h4
  cases h5
  have he1 := atK_ok hdd
  refine wS_of (ps_dput hu hx pe_sem pe_sem hs) (hv B H env σ tm d _ ok hd fun w H1 x1 ok1 => ?_)
  obtain ⟨v, hv', rv⟩ := ok1.slot he1
  refine ⟨v, hv', hi B H1 (clear env cs) σ _ y _ ok1 hy fun u H2 x2 ok2 r2 => ?_⟩
  have im : dd.imm = false := by
    unfold dSet at hd'
    split at hd' <;> first | rfl | cases hd'
  obtain ⟨q, hq, ok3⟩ := ok2.slotMu he1 im
  rw [hv'] at hq
  cases hq
  unfold dSet at hd'
  split at hd'
  · rename_i ks ds
    split at hd'
    · rename_i hl
      split at hd'
      · rename_i kk hk
        cases hd'
        obtain ⟨kvs, hq, ek, hlen, ok4⟩ := ok3.takeDk
        refine ⟨q, _, rfl, .inl ⟨kvs, kk, hq, keyOf_rp r2 hk, by omega, rfl⟩, ?_⟩
        have ok5 : EnvOk B (del H2 q) ((clear env cs).set j none) σ (lev 0 (kvs.map (·.2) ++ [w]) (ds ++ [d]) ++ tm) := by
          rw [lev_append [w] [d] (by simpa using hlen), List.append_assoc]
          exact ok4
        subst ek
        have ok6 := sel_lev0 ok5 (putK_sel (x := kk) (v := w) (y := d) hlen)
        have ok7 := ok6.newDk (p := q) (kvs := putK kvs kk w) (by have := (putK_sel (x := kk) (v := w) (y := d) hlen).1; simpa using this) (putK_keys kvs kk w) del_self
        rw [upd_del] at ok7
        exact p σ _ ((EnvOk.less (l := lev 0 (kvs.map (·.2) ++ [w]) (ds ++ [d])) (ok7.perm List.perm_middle.symm |> fun h => h)).putBack he1 hv')
      · cases hd'
    · cases hd'
  · rename_i ks ds
    split at hd'
    · rename_i hl
      split at hd'
      · rename_i kk hk
        cases hd'
        obtain ⟨kvs, hq, ek, hlen, ok4⟩ := ok3.takeDt
        obtain ⟨bb, eb, hb⟩ := keyT_rp ok2 r2 hk
        refine ⟨q, _, rfl, .inr ⟨kvs, kk, bb, hq, eb, hb, by omega, rfl⟩, ?_⟩
        have ok5 : EnvOk B (del H2 q) ((clear env cs).set j none) σ (lev 0 (kvs.map (·.2) ++ [w]) (ds ++ [d]) ++ tm) := by
          rw [lev_append [w] [d] (by simpa using hlen), List.append_assoc]
          exact ok4
        subst ek
        have ok6 := sel_lev0 ok5 (putK_sel (x := kk) (v := w) (y := d) hlen)
        have ok7 := ok6.newDt (p := q) (kvs := putK kvs kk w) (by have := (putK_sel (x := kk) (v := w) (y := d) hlen).1; simpa using this) (putK_keys kvs kk w) del_self
        rw [upd_del] at ok7
        exact p σ _ ((EnvOk.less (l := lev 0 (kvs.map (·.2) ++ [w]) (ds ++ [d])) (ok7.perm List.perm_middle.symm |> fun h => h)).putBack he1 hv')
      · cases hd'
    · cases hd'
  · cases hd'
end
end Mir

namespace Mir
open PySem PySem.Spec L2

section
variable {X : Cx} {e a b tg it o : Expr} {m ma mb md : Env → Res D} {k kr : Nat} {cs : List Nat} {pos cpos apos : Pos} {m1 : Env → Res Ctl}
/-! ### dicts, walked -/
def pinB (B : Bs) (d : Addr) (o u : HO) : Bs := ⟨upd B.h d o, upd B.g d u⟩
theorem EnvOk.shAt {B : Bs} {H : Hp} {env : Env} {σ : St} {tm : List Hold} {d : Addr} {x : D} (ok : EnvOk B H env σ ((.ref d, 0, x) :: tm)) : ∃ G fp u, Good B G H ∧ G d = some u ∧ HoldAll G H (slots env σ ++ tm) fp ∧ fp.Nodup ∧ (∀ p ∈ fp, B p = none ∧ G p = none) := by
  obtain ⟨G, f, g, hg, hf, hr, nd, hq⟩ := EnvOk.apart (l := [(.ref d, 0, x)]) ok
  cases hf with
  | @cons _ _ _ _ f1 g1 h1 hn =>
    cases hn
    obtain ⟨rfl, r⟩ := h1.zero
    have : ∃ u, G d = some u := by
      cases r with
      | lst e => exact ⟨_, e⟩
      | tup e => exact ⟨_, e⟩
      | dk e => exact ⟨_, e⟩
      | dt e => exact ⟨_, e⟩
      | ob e => exact ⟨_, e⟩
      | exn0 e => exact ⟨_, e⟩
      | exn e => exact ⟨_, e⟩
      | dn e => exact ⟨_, e⟩
    obtain ⟨u, hu⟩ := this
    exact ⟨G, g, u, hg, hu, hr, nd, hq⟩
/-- the object at d is to stay as it is, locked or not -/
theorem EnvOk.pin {B : Bs} {H : Hp} {env : Env} {σ : St} {tm : List Hold} {d : Addr} {x : D} {u o : HO} (ok : EnvOk B H env σ ((.ref d, 0, x) :: tm)) (hu : view H d = some u) (hH : isIm u = false) (ho : unf o = u) : EnvOk (pinB B d o u) (upd H d o) env σ tm := by
  have h2 := ok.len
  have h3 := ok.has
  obtain ⟨G, fp, u', hg, hG, hh, nd, hp⟩ := ok.shAt
  have eu : u' = u := Option.some.inj ((hg.gs d u' hG).symm.trans hu)
  subst eu
  have nd' : ∀ p ∈ fp, p ≠ d := fun p hm z => by
    have := (hp p hm).2
    rw [z, hG] at this; cases this
  have hv : view (upd H d o) = view H := by
    rw [view_upd, ho]
    funext a
    by_cases q : a = d
    · subst q; rw [upd_same, hu]
    · rw [upd_ne q]
  refine ⟨⟨G, fp, ⟨fun a z e => ?_, fun a e => ?_, fun a z e => by rw [hv]; exact hg.gs a z e, fun a xs im e => hg.gt a xs im (by rw [← hv]; exact e), fun a xs im e => ?_⟩, hh.frame (fun _ _ e => e) fun a z e q => ?_, nd, fun p hm => ⟨?_, (hp p hm).2⟩⟩, h2, h3⟩
  · have e' : upd B.h d o a = some z := e
    by_cases q : a = d
    · subst q; rw [upd_same] at e' ⊢; exact e'
    · rw [upd_ne q] at e' ⊢; exact hg.bs a z e'
  · have e' : upd B.h d o a ≠ none := e
    show G a = upd B.g d u' a
    by_cases q : a = d
    · subst q; rw [upd_same]; exact hG
    · rw [upd_ne q] at e' ⊢; exact hg.g0 a e'
  · by_cases q : a = d
    · subst q
      rw [hv, hu] at e
      rw [Option.some.inj e, im] at hH; cases hH
    · rw [upd_ne q]
      exact hg.nf a xs im (by rw [← hv]; exact e)
  · have : a ≠ d := fun z' => by
      subst z'
      rcases q with q | ⟨xs, q⟩
      · exact nd' a q rfl
      · subst q
        have := hg.gt a _ rfl (by unfold view; rw [e]; rfl)
        rw [hG] at this
        rw [Option.some.inj this] at hH; cases hH
    rw [upd_ne this]; exact e
  · show upd B.h d o p = none
    rw [upd_ne (nd' p hm)]; exact (hp p hm).1
def kD : Key → D
  | .inl i => .int i
  | .inr z => .str z
/-- what a dict gives when it is walked -/
def dKeys : D → Res (List D)
  | .dk ks _ => .ok (ks.map kD)
  | .dt ks _ => .ok (ks.map fun k => .tup (k.map kD))
  | _ => .bad
def dItems : D → Res (List D)
  | .dk ks ds => if ks.length = ds.length then .ok (List.zipWith (fun k d => .tup [kD k, d]) ks ds) else .bad
  | _ => .bad
end
end Mir

namespace Mir
open PySem PySem.Spec L2

/-! ### isinstance -/
inductive Ty6 where | int | bool | str | list | tuple | dict
def Ty6.s : Ty6 → String
  | .int => "int" | .bool => "bool" | .str => "str" | .list => "list" | .tuple => "tuple" | .dict => "dict"
inductive Tg where | non | bl | int | str | lst | tup | dic
def Tg.s : Tg → String
  | .non => "NoneType" | .bl => "bool" | .int => "int" | .str => "str" | .lst => "list" | .tup => "tuple" | .dic => "dict"
def tgD : D → Tg
  | .non => .non | .bl _ => .bl | .int _ => .int | .str _ => .str | .lst _ => .lst | .tup _ => .tup | .dk _ _ => .dic | .dt _ _ => .dic | .ob _ _ _ _ => .non | .exn _ _ _ _ => .non | .dn _ _ => .dic
/-- an object of an own class -/
def isOb : D → Bool
  | .ob _ _ _ _ => true
  | .exn _ _ _ _ => true
  | _ => false
def isiT : Ty6 → Tg → Bool
  | .int, .int => true | .int, .bl => true | .bool, .bl => true | .str, .str => true | .list, .lst => true | .tuple, .tup => true | .dict, .dic => true
  | _, _ => false
def isi (T : Ty6) (d : D) : Bool := isiT T (tgD d)
section
variable {X : Cx} {e a b c : Expr} {m ma mb mc : Env → Res D} {k kr : Nat} {cs : List Nat} {pos p cpos apos : Pos}
def mIsi (T : Ty6) (m : Env → Res D) : Env → Res D := fun env => m env >>= fun d => if isOb d = true then .bad else .ok (.bl (isi T d))
/-! ### dict(d), == of dicts -/
/-- dict(d) of a dict with keys that are numbers, texts; its values shared or of one level -/
def gDictC : D → Res D
  | .dk ks ds => if immAll ds then .ok (.dk ks ds) else .bad
  | _ => .bad
end
end Mir

namespace Mir
open PySem PySem.Spec L2

/-- a def as it stands; as it is called -/
structure At (K : PySem.W.Frag) (mg : Str → Option Value) (x : Str) (st : Stmt) : Prop where
  ex : ∃ f fd, Fun K x x st f fd ∧ mg x = some (.ref f)
structure Cal (P : Program) (w : World) (K : PySem.W.Frag) (mg : Str → Option Value) (base : Heap) (x : Str) (j n kr : Nat) (F : List D → Res D) : Prop where
  ex : ∃ f fd ps, mg x = some (.ref f) ∧ PySem.W.keepIn K (.ref f) = true ∧ Binds K fd ps [] ∧ FnOk P w K mg base CX0 j f fd ps (spF kr n F)
theorem se_cal {X : Cx} {e : Expr} {es : List Expr} {ms : Env → Res (List D)} {j n kr : Nat} {F : List D → Res D} {x : Str} {p pos : Pos} (C : Cal X.prog X.w X.K X.mg X.base x j n kr F) (hr : Room j X.A) (hg : Gl X x)
    (ha : SAB X (e :: es) ms) (hl : ∀ env ds, ms env = .ok ds → ds.length = n) (hdb : (x == ("__debug__" : Str)) = false := by decide) (he : starEach (e :: es) X.env = (false, eval e X.env) :: starEach es X.env := by rfl) (hpl : (backTo pos (starEach es X.env)).any (·.1) = false := by rfl) :
    SE X kr [] (.Call (.Name x p) (e :: es) [] pos) (mCall kr F ms) := by
  obtain ⟨f, fd, ps, hm, hk, hb, Fo⟩ := C.ex
  exact se_call Fo hr hg hm hk hb ha hdb he hpl hl
theorem At.mk' {K : PySem.W.Frag} {mg : Str → Option Value} {h : Heap} {x : Str} {st : Stmt} {f : Addr} {oc : Value} {od an : Option Addr} {osl : Array (Option Value)} {kV doc pm cdv ct : Value} (X : K.In h) (G : h.Ns mainGlobals mg) (a : PySem.W.nsIn K mainGlobals x = some (some (.ref f)))
    (l : K.lookup f = some ⟨oc, od, .func (PySem.W.fnOf x x (defArgs st) (defBody st) (defScope st) .none kV doc pm an cdv ct), osl⟩) (c : PySem.W.codeIn K cdv x = true) (k : PySem.W.keepIn K (.ref f) = true) : At K mg x st :=
  ⟨f, _, fun_mk l c k, PySem.W.mg_of X G a⟩
/-- no list stands in the written part -/
def noLists (K : PySem.W.Frag) : Bool := K.all fun p => match p.2.cls with
  | .type n => n != "list"
  | _ => true
theorem noLists_lookup : ∀ {K : PySem.W.Frag} {a : Addr} {o : Obj}, noLists K = true → K.lookup a = some o → o.cls ≠ .type "list"
  | [], _, _, _, h => by simp at h
  | (b, ob) :: K, a, o, hn, h => by
    unfold noLists at hn
    rw [List.all_cons, Bool.and_eq_true] at hn
    rw [List.lookup_cons] at h
    split at h
    · cases h
      intro e
      have := hn.1
      rw [e] at this
      simp at this
    · exact noLists_lookup (K := K) hn.2 h
theorem ints_rp {G : Hp} : ∀ ns : List Int, RpAll G (ns.map V.int) (ns.map D.int)
  | [] => .nil
  | n :: ns => .cons (.int n) (ints_rp ns)
theorem law_sp {F : List D → Res D} {K : PySem.W.Frag} {H : Hp} {a : Addr} {ns : List Int} (hK : noLists K = true) (hO : Only H) (hS : SqL K H a (ns.map V.int)) (hF : F [.lst (ns.map D.int)] = .ok (.bl true)) : spF 0 1 F [.ref a] H (fun v _ => v = .bl true) fun _ _ _ => False := by
  have hv : view H a = some (.lst (ns.map V.int)) := by
    rcases hS with (h | ⟨o, h⟩) | ⟨o, its, n, h1, h2, _⟩
    · unfold view; rw [h]; rfl
    · unfold view; rw [h]; rfl
    · exact absurd h2 (noLists_lookup hK h1)
  refine ⟨rfl, view H, [.lst (ns.map D.int)], .bl true, ⟨fun _ _ e => e, fun _ _ => rfl, fun _ _ e => e, fun _ _ _ e => e, fun b xs im e => ?_⟩, .cons (.lst hv (ints_rp ns)) .nil, hF, fun v H' r => ?_⟩
  · rcases hO b with h | ⟨o, ys, h⟩
    · rw [view_none h] at e; cases e
    · unfold view at e; rw [h] at e
      rw [← Option.some.inj e] at im; cases im
  · obtain ⟨G', fp, g, od, _⟩ := r.ex
    obtain ⟨_, rp⟩ := od.zero
    cases rp
    rfl
end Mir

namespace Mir
open PySem PySem.Spec L2

/-! ### the mirror, reckoned -/
@[simp] theorem exc_bind {α β : Type} (c : Str) (ns : List Str) (as : List D) (f : α → Res β) : (Res.exc c ns as >>= f) = .exc c ns as := rfl
@[simp] theorem bad_bind {α β : Type} (f : α → Res β) : ((Res.bad : Res α) >>= f) = .bad := rfl
@[simp] theorem res_assoc {α β γ : Type} (x : Res α) (f : α → Res β) (g : β → Res γ) : (x >>= f >>= g) = (x >>= fun a => f a >>= g) := by cases x <;> rfl
section
variable (env : Mir.Env) (m n : Mir.Env → Res D) (m1 m2 : Mir.Env → Res Ctl) (ma mb : Mir.Env → Res Bool) (g : D → D → Res D) (g1 : D → Res D) (ms ns : Mir.Env → Res (List D)) (i j k : Nat) (cs fg : List Nat) (d : D) (F : List D → Res D)
@[simp] theorem e_mSeq : mSeq m1 m2 env = (m1 env >>= fun c => match c with | .nx e => m2 e | c => .ok c) := rfl
@[simp] theorem e_mIf {α : Type} (x y : Mir.Env → Res α) : mIf ma x y env = (ma env >>= fun c => if c then x env else y env) := rfl
@[simp] theorem e_mTb : mTb m env = (m env >>= toB) := rfl
@[simp] theorem e_toB (b : Bool) : toB (.bl b) = .ok b := rfl
@[simp] theorem e_mOp : mOp g m n env = (m env >>= fun x => n env >>= fun y => g x y) := rfl
@[simp] theorem e_mUn : mUn g1 m env = (m env >>= g1) := rfl
@[simp] theorem e_mVar : mVar i env = (match env[i]? with | some (some (_, d)) => .ok d | _ => .bad) := rfl
@[simp] theorem e_mVarK : mVarK i k env = (match env[i]? with | some (some (j, d)) => if j = k then .ok d else .bad | _ => .bad) := rfl
@[simp] theorem e_mC : mC d env = .ok d := rfl
@[simp] theorem e_mRet : mRet m env = (m env >>= fun d => .ok (.rt d)) := rfl
@[simp] theorem e_mImm : mImm m env = (m env >>= fun d => if d.imm then .ok d else .bad) := rfl
@[simp] theorem e_mSkip : mSkip env = .ok (.nx env) := rfl
@[simp] theorem e_mSet : mSet i k cs m env = (m env >>= fun d => tName i k d (clear env cs) >>= fun e => .ok (.nx e)) := rfl
@[simp] theorem e_tName : tName i k d env = if i < env.length then .ok (env.set i (some (k, d))) else .bad := rfl
@[simp] theorem e_mCall : mCall k F ms env = (ms env >>= fun ds => F ds >>= fun d => if immAt k d then .ok d else .bad) := rfl
@[simp] theorem e_mNilA : mNilA env = .ok [] := rfl
@[simp] theorem e_mConsA : mConsA m ms env = (m env >>= fun x => ms env >>= fun xs => .ok (x :: xs)) := rfl
@[simp] theorem e_mConsE : mConsE m cs ms env = (m env >>= fun x => ms (clear env cs) >>= fun xs => .ok (x :: xs)) := rfl
@[simp] theorem e_mTup : mTup ms env = (ms env >>= fun xs => if xs.length ≤ sizeLine then .ok (.tup xs) else .bad) := rfl
@[simp] theorem e_mLst : mLst ms env = (ms env >>= fun xs => if xs.length ≤ sizeLine then .ok (.lst xs) else .bad) := rfl
@[simp] theorem e_mNotB : mNotB ma env = (ma env >>= fun b => .ok (!b)) := rfl
@[simp] theorem e_mAndB : mAndB ma mb env = (ma env >>= fun b => if b then mb env else .ok false) := rfl
@[simp] theorem e_mOrB : mOrB ma mb env = (ma env >>= fun b => if b then .ok true else mb env) := rfl
@[simp] theorem e_mAndV : mAndV m n env = (m env >>= fun x => toB x >>= fun b => if b then n env else .ok (.bl false)) := rfl
@[simp] theorem e_mOrV : mOrV m n env = (m env >>= fun x => toB x >>= fun b => if b then .ok (.bl true) else n env) := rfl
@[simp] theorem e_mNotV : mNotV m env = (m env >>= fun x => toB x >>= fun b => .ok (.bl (!b))) := rfl
@[simp] theorem e_mFz : mFz i m1 env = m1 (fz i env) := rfl
@[simp] theorem e_fz : fz i env = (match env[i]? with | some (some (_, d)) => env.set i (some (0, d)) | _ => env) := rfl
@[simp] theorem e_mForget : mForget cs m1 env = m1 (clear env cs) := rfl
@[simp] theorem e_clear0 : clear env [] = env := rfl
@[simp] theorem e_clear1 (i : Nat) (is : List Nat) : clear env (i :: is) = clear (env.set i none) is := rfl
@[simp] theorem e_mGet2 (o : Mir.Env → Res D) : mGet2 m n o env = (m env >>= fun d => n env >>= fun y => o env >>= fun z => match dGet d y with | some o => .ok (o.getD z) | none => .bad) := rfl
@[simp] theorem e_mIsi (T : Ty6) : mIsi T m env = (m env >>= fun d => if isOb d = true then .bad else .ok (.bl (isi T d))) := rfl
@[simp] theorem isOb_n : isOb .non = false := rfl
@[simp] theorem isOb_b (b : Bool) : isOb (.bl b) = false := rfl
@[simp] theorem isOb_i (i : Int) : isOb (.int i) = false := rfl
@[simp] theorem isOb_s (z : Str) : isOb (.str z) = false := rfl
@[simp] theorem isOb_l (xs : List D) : isOb (.lst xs) = false := rfl
@[simp] theorem isOb_t (xs : List D) : isOb (.tup xs) = false := rfl
@[simp] theorem isOb_dk (ks : List Key) (ds : List D) : isOb (.dk ks ds) = false := rfl
@[simp] theorem isOb_dt (ks : List (List Key)) (ds : List D) : isOb (.dt ks ds) = false := rfl
@[simp] theorem isOb_ob (c : Str) (C : Addr) (ns : List Str) (ds : List D) : isOb (.ob c C ns ds) = true := rfl
@[simp] theorem isOb_exn (c : Str) (C : Addr) (ns : List Str) (ds : List D) : isOb (.exn c C ns ds) = true := rfl
@[simp] theorem e_mSlice (l u : Mir.Env → Res (Option Int)) : mSlice ms l u env = (ms env >>= fun ds => l env >>= fun lo => u env >>= fun hi => .ok (.lst (cutD ds lo hi))) := rfl
@[simp] theorem e_mFor (t : Nat → D → Mir.Env → Res Mir.Env) : mFor ms t m1 fg env = (ms env >>= fun ds => loop t m1 fg ds env) := rfl
@[simp] theorem e_mDput : mDput j cs m n env = (m env >>= fun d => n (clear env cs) >>= fun y => atK (clear env cs) j >>= fun dd => dSet dd y d >>= fun d' => .ok (.nx ((clear env cs).set j (some (1, d'))))) := rfl
@[simp] theorem e_atK : atK env j = (match env[j]? with | some (some (1, d)) => .ok d | _ => .bad) := rfl
@[simp] theorem e_mAppend : mAppend j k cs m env = (m env >>= fun d => atL (clear env cs) j (k + 1) >>= fun ds => if ds.length < sizeLine then .ok (.nx ((clear env cs).set j (some (k + 1, .lst (ds ++ [d]))))) else .bad) := rfl
@[simp] theorem e_atL : atL env j k = (match env[j]? with | some (some (k', d)) => if k' = k then itemsL d else .bad | _ => .bad) := by
  unfold atL
  cases env[j]? with
  | none => rfl
  | some x =>
    cases x with
    | none => rfl
    | some y =>
      obtain ⟨k', d⟩ := y
      cases d <;> simp [itemsL]
end
@[simp] theorem e_itemsL (xs : List D) : itemsL (.lst xs) = .ok xs := rfl
@[simp] theorem e_itemsT (xs : List D) : itemsT (.tup xs) = .ok xs := rfl
@[simp] theorem e_toI (i : Int) : toI (.int i) = .ok i := rfl
@[simp] theorem e_gAdd (i j : Int) : gAdd (.int i) (.int j) = .ok (.int (i + j)) := rfl
@[simp] theorem e_gSub (i j : Int) : gSub (.int i) (.int j) = .ok (.int (i - j)) := rfl
@[simp] theorem e_gNeg (i : Int) : gNeg (.int i) = .ok (.int (-i)) := rfl
@[simp] theorem e_gLt (i j : Int) : gLt (.int i) (.int j) = .ok (.bl (decide (i < j))) := rfl
@[simp] theorem e_gLe (i j : Int) : gLe (.int i) (.int j) = .ok (.bl (decide (i ≤ j))) := rfl
@[simp] theorem e_gGt (i j : Int) : gGt (.int i) (.int j) = .ok (.bl (decide (j < i))) := rfl
@[simp] theorem e_gGe (i j : Int) : gGe (.int i) (.int j) = .ok (.bl (decide (j ≤ i))) := rfl
@[simp] theorem e_gLenL (xs : List D) : gLen (.lst xs) = .ok (.int xs.length) := rfl
@[simp] theorem e_gLenT (xs : List D) : gLen (.tup xs) = .ok (.int xs.length) := rfl
theorem e_gMod (i j : Int) (h : 0 < j) : gMod (.int i) (.int j) = .ok (.int (i % j)) := if_pos h
theorem e_gFdv (i j : Int) (h : 0 < j) (h2 : j < 2 ^ 30) : gFdv (.int i) (.int j) = .ok (.int (i / j)) := if_pos ⟨h, by
  have : j.natAbs < 2 ^ 30 := by omega
  exact Nat.lt_of_lt_of_le (PySem.Flt.log2_lt_of (by decide) this) (by decide)⟩
theorem e_gMul (i j : Int) (h : (-(2 ^ 64) < i ∧ i < 2 ^ 64) ∨ (-(2 ^ 64) < j ∧ j < 2 ^ 64)) : gMul (.int i) (.int j) = .ok (.int (i * j)) := if_pos (by
  unfold mulOk
  rw [Bool.or_eq_true, Bool.or_eq_true, Bool.and_eq_true, Bool.and_eq_true]
  simp only [decide_eq_true_eq]
  exact .inl h)
@[simp] theorem e_int_imm (i : Int) : (D.int i).imm = true := rfl
@[simp] theorem e_bl_imm (i : Bool) : (D.bl i).imm = true := rfl
@[simp] theorem e_str_imm (i : Str) : (D.str i).imm = true := rfl
@[simp] theorem e_non_imm : D.non.imm = true := rfl
@[simp] theorem e_tup_imm (xs : List D) : (D.tup xs).imm = immAll xs := rfl
@[simp] theorem e_immAll_nil : immAll [] = true := rfl
@[simp] theorem e_immAll_cons (d : D) (ds : List D) : immAll (d :: ds) = (d.imm && immAll ds) := rfl
@[simp] theorem e_immAll_map {α : Type} (f : α → D) (xs : List α) : immAll (xs.map f) = xs.all fun x => (f x).imm := by
  induction xs with
  | nil => rfl
  | cons x xs ih => simp [ih]
@[simp] theorem e_immAt0 (d : D) : immAt 0 d = d.imm := by unfold immAt; rfl
@[simp] theorem e_shp_int (i : Int) : shp (.int i) = true := rfl
@[simp] theorem e_shp_bl (i : Bool) : shp (.bl i) = true := rfl
@[simp] theorem e_py_int (i : Int) : (D.int i).py = .int i := rfl
@[simp] theorem e_eqv_int (i j : Int) : PyData.eqv (.int i) (.int j) = (i == j) := by simp [PyData.eqv]
@[simp] theorem e_gEq_int (i j : Int) : gEq (.int i) (.int j) = .ok (.bl (i == j)) := by unfold gEq; simp
@[simp] theorem e_gNe_int (i j : Int) : gNe (.int i) (.int j) = .ok (.bl (!(i == j))) := by unfold gNe; simp
theorem sizeLine_big {n : Nat} (h : n ≤ 16000000) : n ≤ sizeLine := by rw [sizeLine_eq]; omega
theorem sizeLine_lt {n : Nat} (h : n ≤ 16000000) : n < sizeLine := by rw [sizeLine_eq]; omega
/-! ### dicts of whole numbers -/
abbrev Pol := List (Int × Int)
def look (p : Pol) (k : Int) : Option Int := (p.find? fun x => decide (x.1 = k)).map (·.2)
def put (p : Pol) (k v : Int) : Pol := if k ∈ p.map (·.1) then p.map (fun x => if x.1 = k then (x.1, v) else x) else p ++ [(k, v)]
def encP (p : Pol) : D := .dk (p.map fun x => .inl x.1) (p.map fun x => .int x.2)
theorem dFind_enc : ∀ (p : Pol) (k : Int), dFind (p.map fun x => (Sum.inl x.1 : Key)) (p.map fun x => D.int x.2) (Sum.inl k) = (look p k).map D.int
  | [], k => rfl
  | x :: p, k => by
    show (if (Sum.inl x.1 : Key) = Sum.inl k then some (D.int x.2) else dFind (p.map fun x => (Sum.inl x.1 : Key)) (p.map fun x => D.int x.2) (Sum.inl k)) = _
    rw [dFind_enc p k]
    unfold look
    by_cases e : x.1 = k
    · simp [e]
    · have : ¬ (Sum.inl x.1 : Key) = Sum.inl k := fun z => e (Sum.inl.inj z)
      rw [if_neg this]
      simp [e]
@[simp] theorem dGet_enc (p : Pol) (k : Int) : dGet (encP p) (.int k) = some ((look p k).map D.int) := by
  show some (dFind _ _ _) = _
  rw [dFind_enc]
@[simp] theorem immAtL0 : ∀ ds : List D, immAtL 0 ds = immAll ds
  | [] => by unfold immAtL; rfl
  | d :: ds => by rw [immAtL, immAtL0 ds, e_immAt0]; rfl
@[simp] theorem immAt_enc (p : Pol) : immAt 1 (encP p) = true := by
  show immAt 1 (.dk _ _) = true
  unfold immAt
  simp
theorem put_keys (p : Pol) (k v : Int) : (put p k v).map (·.1) = if k ∈ p.map (·.1) then p.map (·.1) else p.map (·.1) ++ [k] := by
  unfold put
  split
  · rw [List.map_map]
    refine List.map_congr_left fun x _ => ?_
    by_cases e : x.1 = k <;> simp [e]
  · simp
theorem put_nodup {p : Pol} (h : (p.map (·.1)).Nodup) (k v : Int) : ((put p k v).map (·.1)).Nodup := by
  rw [put_keys]
  split
  · exact h
  · rename_i hk
    refine List.nodup_append.mpr ⟨h, by simp, fun a ha b hb e => ?_⟩
    rw [List.mem_singleton.mp hb] at e
    exact hk (e ▸ ha)
@[simp] theorem dKeys_enc (p : Pol) : dKeys (encP p) = .ok (p.map fun x => D.int x.1) := by
  show Res.ok ((p.map fun x => (Sum.inl x.1 : Key)).map kD) = _
  rw [List.map_map]; rfl
@[simp] theorem dItems_enc (p : Pol) : dItems (encP p) = .ok (p.map fun x => D.tup [.int x.1, .int x.2]) := by
  show (if (p.map fun x => (Sum.inl x.1 : Key)).length = (p.map fun x => D.int x.2).length then Res.ok _ else .bad) = _
  rw [if_pos (by simp)]
  congr 1
  induction p with
  | nil => rfl
  | cons x p ih => exact congrArg (List.cons _) ih
@[simp] theorem gDictC_enc (p : Pol) : gDictC (encP p) = .ok (encP p) := by
  show (if immAll _ then _ else _) = _
  rw [if_pos (by simp)]; rfl
@[simp] theorem isi_dict_enc (p : Pol) : isi .dict (encP p) = true := rfl
@[simp] theorem isOb_encP (p : Pol) : isOb (encP p) = false := rfl
end Mir

namespace Mir
open PySem PySem.Spec L2
end Mir

namespace Mir
open PySem PySem.Spec L2
/-! ### polynomials: what a sum over the terms says -/
abbrev ND (p : Pol) : Prop := (p.map (·.1)).Nodup
def ev : Pol → (Int → Int) → Int
  | [], _ => 0
  | x :: p, w => x.2 * w x.1 + ev p w
theorem look_cons (x : Int × Int) (p : Pol) (k : Int) : look (x :: p) k = if x.1 = k then some x.2 else look p k := by
  unfold look
  by_cases e : x.1 = k <;> simp [e]
theorem look_in {p : Pol} {k v : Int} (h : look p k = some v) : (k, v) ∈ p := by
  induction p with
  | nil => cases h
  | cons x p ih =>
    rw [look_cons] at h
    split at h
    · rename_i e
      have := Option.some.inj h
      rw [← e, ← this]; exact List.mem_cons_self
    · exact List.mem_cons_of_mem _ (ih h)
theorem put_new {p : Pol} {k : Int} (h : k ∉ p.map (·.1)) (v : Int) : put p k v = p ++ [(k, v)] := if_neg h
theorem nodup_le : ∀ {xs ys : List Int}, xs.Nodup → (∀ x ∈ xs, x ∈ ys) → xs.length ≤ ys.length
  | [], _, _, _ => Nat.zero_le _
  | x :: xs, ys, h, s => by
    have h2 := List.nodup_cons.mp h
    have hx := s x List.mem_cons_self
    have := nodup_le (ys := ys.erase x) h2.2 fun y hy => (List.mem_erase_of_ne (fun e : y = x => h2.1 (e ▸ hy))).mpr (s y (List.mem_cons_of_mem _ hy))
    rw [List.length_erase_of_mem hx] at this
    have pos : 0 < ys.length := List.length_pos_of_mem hx
    rw [List.length_cons]; omega
theorem nodup_range {xs : List Int} (h : xs.Nodup) {m : Nat} (b : ∀ x ∈ xs, -(m : Int) ≤ x ∧ x ≤ m) : xs.length ≤ 2 * m + 1 := by
  have := nodup_le (ys := (List.range (2 * m + 1)).map fun i : Nat => (i : Int) - m) h fun x hx => by
    obtain ⟨h1, h2⟩ := b x hx
    refine List.mem_map.mpr ⟨(x + m).toNat, List.mem_range.mpr (by omega), by omega⟩
  simpa using this
def keep (q : Pol) (x : Int × Int) : Pol := if x.2 = 0 then q else put q x.1 x.2
end Mir

namespace Mir
open PySem PySem.Spec L2
/-- unlike powers, none beyond R, numbers of at most B -/
structure PB (R B : Nat) (p : Pol) : Prop where
  nd : ND p
  rg : ∀ x ∈ p, x.1.natAbs ≤ R
  vb : ∀ x ∈ p, x.2.natAbs ≤ B
theorem PB.nil {R B : Nat} : PB R B [] := ⟨List.nodup_nil, fun x h => absurd h List.not_mem_nil, fun x h => absurd h List.not_mem_nil⟩
theorem PB.len {R B : Nat} {p : Pol} (h : PB R B p) : p.length ≤ 2 * R + 1 := by
  have := nodup_range h.nd (m := R) fun x hx => by
    obtain ⟨y, hy, rfl⟩ := List.mem_map.mp hx
    have := h.rg y hy
    omega
  simpa using this
theorem PB.up {R B R' B' : Nat} {p : Pol} (h : PB R B p) (hr : R ≤ R') (hb : B ≤ B') : PB R' B' p := ⟨h.nd, fun x hx => Nat.le_trans (h.rg x hx) hr, fun x hx => Nat.le_trans (h.vb x hx) hb⟩
theorem mem_put {p : Pol} {k v : Int} {x : Int × Int} (h : x ∈ put p k v) : x = (k, v) ∨ x ∈ p := by
  unfold put at h
  split at h
  · obtain ⟨y, hy, e⟩ := List.mem_map.mp h
    split at e
    · rename_i ek; exact .inl (by rw [← e, ek])
    · exact .inr (e ▸ hy)
  · rcases List.mem_append.mp h with h | h
    · exact .inr h
    · exact .inl (List.mem_singleton.mp h)
theorem PB.put {R B : Nat} {p : Pol} (h : PB R B p) {k v : Int} (hk : k.natAbs ≤ R) (hv : v.natAbs ≤ B) : PB R B (put p k v) :=
  ⟨put_nodup h.nd k v, fun x hx => by rcases mem_put hx with rfl | hx; exact hk; exact h.rg x hx, fun x hx => by rcases mem_put hx with rfl | hx; exact hv; exact h.vb x hx⟩
theorem PB.look {R B : Nat} {p : Pol} (h : PB R B p) (k : Int) : ((look p k).getD 0).natAbs ≤ B := by
  cases e : Mir.look p k with
  | none => exact Nat.zero_le _
  | some v => exact h.vb _ (look_in e)
/-- the product -/
def ter (x : Int × Int) (t : Pol) (y : Int × Int) : Pol := Mir.put t (x.1 + y.1) ((Mir.look t (x.1 + y.1)).getD 0 + x.2 * y.2)
def row (b : Pol) (t : Pol) (x : Int × Int) : Pol := b.foldl (ter x) t
/-- of few bits -/
def Sm (A : Nat) : Prop := ∃ k, k < 400000 ∧ A ≤ 2 ^ k
theorem Sm.lt {A : Nat} {i : Int} (h : Sm A) (hi : i.natAbs ≤ A) : i.natAbs.log2 < 400001 := by
  obtain ⟨k, hk, hA⟩ := h
  have h1 : i.natAbs < 2 ^ (k + 1) := Nat.lt_of_le_of_lt (Nat.le_trans hi hA) (Nat.pow_lt_pow_right (by decide) (by omega))
  exact Nat.lt_of_lt_of_le (PySem.Flt.log2_lt_of (by omega) h1) (by omega)
end Mir

namespace Mir
open PySem PySem.Spec L2
/-! ### dict displays, unlike keys, values without lists and dicts -/
def mDispP : List ((Env → Res D) × (Env → Res D)) → Env → Res (List (Key × D))
  | [], _ => .ok []
  | (mk, mv) :: r, env => mk env >>= fun x => mv env >>= fun d => mDispP r env >>= fun t => match keyOf x with
    | some k => if d.imm then .ok ((k, d) :: t) else .bad
    | none => .bad
def mDisp (l : List ((Env → Res D) × (Env → Res D))) : Env → Res D := fun env => mDispP l env >>= fun kds => if (kds.map (·.1)).Nodup ∧ kds.length ≤ 15 then .ok (.dk (kds.map (·.1)) (kds.map (·.2))) else .bad
section
variable {X : Cx} {pos : Pos}
end
variable (env : Mir.Env)
@[simp] theorem e_mDisp (l : List ((Mir.Env → Res D) × (Mir.Env → Res D))) : mDisp l env = (mDispP l env >>= fun kds => if (kds.map (·.1)).Nodup ∧ kds.length ≤ 15 then .ok (.dk (kds.map (·.1)) (kds.map (·.2))) else .bad) := rfl
@[simp] theorem e_mDispP0 : mDispP [] env = .ok [] := rfl
@[simp] theorem e_mDispP1 (mk mv : Mir.Env → Res D) (r : List ((Mir.Env → Res D) × (Mir.Env → Res D))) : mDispP ((mk, mv) :: r) env = (mk env >>= fun x => mv env >>= fun d => mDispP r env >>= fun t => match keyOf x with
    | some k => if d.imm then .ok ((k, d) :: t) else .bad
    | none => .bad) := rfl
@[simp] theorem e_keyOf_int (i : Int) : keyOf (.int i) = some (.inl i) := rfl
@[simp] theorem e_keyOf_str (i : Str) : keyOf (.str i) = some (.inr i) := rfl
theorem rangeOk_nat (n : Nat) (h : n ≤ 1000) : rangeOk (n : Int) = true := by
  have h1 : -(2 ^ 62) ≤ (n : Int) := Int.le_trans (by decide) (Int.natCast_nonneg n)
  have h2 : (n : Int) < 2 ^ 62 := Int.lt_of_le_of_lt (Int.ofNat_le.mpr h) (by decide)
  unfold rangeOk
  rw [decide_eq_true h1, decide_eq_true h2, Bool.true_and]
theorem gRng1_nat (n : Nat) (h : n ≤ 1000) : gRng1 (.int n) = .ok ((List.range n).map fun i : Nat => D.int i) := by
  show (if rangeOk (n : Int) = true then Res.ok (intsD 0 (n : Int).toNat) else .bad) = _
  rw [if_pos (rangeOk_nat n h)]
  simp [intsD]
end Mir

namespace Mir
open PySem PySem.Spec L2
/-! ### a number laid into each dict of a list -/
section
variable {X : Cx} {kr : Nat} {pos p2 p3 p4 p5 p6 p7 : Pos} {o it : Expr} {v : Str}
end
end Mir

namespace Mir
open PySem PySem.Spec L2
/-! ### texts of numbers, joined texts, sorted dicts, the truth of a dict -/
def gStr : D → Res D
  | .int i => if i.natAbs.log2 < 1920 then .ok (.str (toString i)) else .bad
  | _ => .bad
def strsOf : List D → Option (List Str)
  | [] => some []
  | .str z :: ds => (strsOf ds).map fun zs => z :: zs
  | _ :: _ => none
def gJoin : D → D → Res D
  | .str a, .lst ds => match strsOf ds with
    | some ys => if (ys.map (·.length)).sum + ys.length * a.length ≤ 16777216 then .ok (.str (Txt.join a ys)) else .bad
    | none => .bad
  | _, _ => .bad
theorem strsOf_rp {G : Hp} : ∀ {vs : List V} {ds : List D} {ys : List Str}, RpAll G vs ds → strsOf ds = some ys → vs = ys.map V.str
  | [], [], ys, .nil, h => by cases h; rfl
  | v :: vs, d :: ds, ys, .cons hr r, h => by
    cases hr with
    | str z =>
      unfold strsOf at h
      cases e : strsOf ds with
      | none => rw [e] at h; cases h
      | some zs =>
        rw [e] at h
        cases h
        rw [strsOf_rp r e]; rfl
    | _ => cases h
def intsOf : List Key → Option (List Int)
  | [] => some []
  | .inl i :: ks => (intsOf ks).map fun is => i :: is
  | .inr _ :: _ => none
theorem intsOf_eq : ∀ {ks : List Key} {is : List Int}, intsOf ks = some is → ks = is.map Sum.inl
  | [], is, h => by cases h; rfl
  | .inl i :: ks, is, h => by
    unfold intsOf at h
    cases e : intsOf ks with
    | none => rw [e] at h; cases h
    | some js =>
      rw [e] at h
      cases h
      rw [intsOf_eq e]; rfl
  | .inr _ :: _, _, h => by cases h
def insI (x : Int) : List Int → List Int
  | [] => [x]
  | y :: ys => if x ≤ y then x :: y :: ys else y :: insI x ys
def sortI : List Int → List Int
  | [] => []
  | x :: xs => insI x (sortI xs)
theorem insI_perm (x : Int) : ∀ ys : List Int, (insI x ys).Perm (x :: ys)
  | [] => .refl _
  | y :: ys => by
    unfold insI
    split
    · exact .refl _
    · exact ((insI_perm x ys).cons y).trans (.swap x y ys)
theorem sortI_perm : ∀ xs : List Int, (sortI xs).Perm xs
  | [] => .refl _
  | x :: xs => (insI_perm x _).trans ((sortI_perm xs).cons x)
theorem insI_sorted (x : Int) : ∀ ys : List Int, ys.Pairwise (· ≤ ·) → (insI x ys).Pairwise (· ≤ ·)
  | [], _ => List.pairwise_singleton _ _
  | y :: ys, h => by
    have h2 := List.pairwise_cons.mp h
    unfold insI
    split
    · rename_i hx
      exact List.pairwise_cons.mpr ⟨fun z hz => by
        rcases List.mem_cons.mp hz with rfl | hz
        · exact hx
        · exact Int.le_trans hx (h2.1 z hz), h⟩
    · rename_i hx
      refine List.pairwise_cons.mpr ⟨fun z hz => ?_, insI_sorted x ys h2.2⟩
      rcases List.mem_cons.mp ((insI_perm x ys).mem_iff.mp hz) with rfl | hz
      · omega
      · exact h2.1 z hz
theorem sortI_sorted : ∀ xs : List Int, (sortI xs).Pairwise (· ≤ ·)
  | [] => .nil
  | x :: xs => insI_sorted x _ (sortI_sorted xs)
theorem sorted_unique : ∀ {xs ys : List Int}, xs.Perm ys → xs.Pairwise (· ≤ ·) → ys.Pairwise (· ≤ ·) → xs = ys
  | [], ys, h, _, _ => (List.Perm.nil_eq h)
  | x :: xs, [], h, _, _ => (List.Perm.nil_eq h.symm).symm
  | x :: xs, y :: ys, h, hx, hy => by
    have hx2 := List.pairwise_cons.mp hx
    have hy2 := List.pairwise_cons.mp hy
    have e : x = y := by
      have m1 := h.mem_iff.mp (List.mem_cons_self (a := x) (l := xs))
      have m2 := h.mem_iff.mpr (List.mem_cons_self (a := y) (l := ys))
      rcases List.mem_cons.mp m1 with e | m1
      · exact e
      · rcases List.mem_cons.mp m2 with e | m2
        · exact e.symm
        · have := hx2.1 y m2; have := hy2.1 x m1; omega
    subst e
    rw [sorted_unique (h.cons_inv) hx2.2 hy2.2]
def gSortD : D → Res D
  | .dk ks _ => match intsOf ks with
    | some is => if is.length < 64 then .ok (.lst ((sortI is).map D.int)) else .bad
    | none => .bad
  | _ => .bad
section
variable {X : Cx} {e o : Expr} {m mo : Env → Res D} {k : Nat} {pos p apos : Pos}
theorem sc_strI (hg : Gl X "str") (hm0 : X.mg "str" = none) (h : SB X e m) (he : starEach [e] X.env = (false, eval e X.env) :: starEach [] X.env := by rfl) (hpl : (backTo pos (starEach [] X.env)).any (·.1) = false := by rfl) : SC X (.Call (.Name "str" p) [e] [] pos) (mUn gStr m) := fun B H env σ tm d Q ok hm q => by
  obtain ⟨x, hx, h2⟩ := bind_ok hm
  refine wE_of (pe_callTy call_str_int hg hm0 (by decide +kernel) (pa_cons pe_sem pa_nil he) (by decide) (by decide) he hpl) (h B H env σ tm _ _ ok hx fun v H1 x1 ok1 r => ?_)
  cases r with
  | int i =>
    have h3 : (if i.natAbs.log2 < 1920 then Res.ok (D.str (toString i)) else .bad) = .ok d := h2
    split at h3
    · rename_i hl
      cases h3
      exact ⟨i, rfl, hl, q _ H1 x1 ok1 (.str _) rfl⟩
    · cases h3
  | _ => cases h2
theorem se_sortDI (hc : X.calm = true) (hg : Gl X "sorted") (hm0 : X.mg "sorted" = none) (h : SB X e m) (he : starEach [e] X.env = (false, eval e X.env) :: starEach [] X.env := by rfl) (hpl : (backTo pos (starEach [] X.env)).any (·.1) = false := by rfl) : SE X (k + 1) [] (.Call (.Name "sorted" p) [e] [] pos) (fun env => m env >>= gSortD) := fun B H env σ tm d Q ok hm q => by
  obtain ⟨x, hx, h2⟩ := bind_ok hm
  refine wE_of (pe_callB (call_sortedDI hc) hg hm0 (by decide +kernel) (pa_cons pe_sem pa_nil he) (by decide) (by decide) he hpl) (h B H env σ tm _ _ ok hx fun v H1 x1 ok1 r => ?_)
  cases r with
  | @dk a kvs ks ds hv ek ra =>
    unfold gSortD at h2
    dsimp only at h2
    split at h2
    · rename_i is his
      split at h2
      · rename_i hlt
        cases h2
        refine ⟨a, kvs, is, rfl, view_rd hv, by rw [ek]; exact intsOf_eq his, hlt, fun ys q' hp hs hn => ?_⟩
        have e : ys = sortI is := sorted_unique (hp.trans (sortI_perm is).symm) hs (sortI_sorted is)
        subst e
        refine q _ _ (x1.trans (Ext.upd hn)) ?_
        have hall : RpAll (view H1) ((sortI is).map V.int) ((sortI is).map D.int) := by
          generalize sortI is = zs
          induction zs with
          | nil => exact .nil
          | cons z zs ih => exact .cons (.int z) ih
        have him : immAll ((sortI is).map D.int) = true := by simp
        exact (ok1.levs (k := k) hall him).newLst (by simp) hn
      · cases h2
    · cases h2
  | _ => cases h2
def mJoin (mo m : Env → Res D) : Env → Res D := fun env => mo env >>= fun a => m env >>= fun l => gJoin a l
theorem sc_join (ho : SB X o mo) (h : SB X e m) (hs : starEach [e] X.env = [(false, eval e X.env)] := by rfl) (hbase : attributeBase o "join" X.env (eval o X.env) = eval o X.env := by rfl) (hline : (apos.endLine == pos.line) = true := by rfl) :
    SC X (.Call (.Attribute o "join" apos) [e] [] pos) (mJoin mo m) := fun B H env σ tm d Q ok hm q => by
  obtain ⟨a, ha, h2⟩ := bind_ok hm
  obtain ⟨l, hl, h3⟩ := bind_ok h2
  unfold gJoin at h3
  split at h3
  · rename_i z ds
    split at h3
    · rename_i ys hy
      split at h3
      · rename_i hz
        cases h3
        refine wE_of (pe_m1 F.slot_str_join F.type_str_join mt_join pe_sem pe_sem hs hbase hline) (ho B H env σ tm _ _ ok ha fun v H1 x1 ok1 r1 => ?_)
        cases r1
        refine ⟨⟨_, rfl⟩, h B H1 env σ tm _ _ ok1 hl fun u H2 x2 ok2 r2 => ?_⟩
        cases r2 with
        | @lst b vs _ hv ra =>
          have e := strsOf_rp ra hy
          subst e
          exact ⟨_, b, ys, rfl, rfl, .inl (.inl (view_rd hv)), hz, q _ H2 (x1.trans x2) ok2 (.str _) rfl⟩
      · cases h3
    · cases h3
  · cases h3
end
end Mir

namespace Mir
open PySem PySem.Spec PyProof.Rows RT
section
variable {prog : Program} {w : World} {A : Around} {E : Value → Shared → Prop} {s : Shared}
/-- what list(..) does with the backward iterator of a list -/
theorem mir_list_rev {it l : Addr} {items : Array Value} {Q : Value → Shared → Prop} (hh : A.handled = none) (hit : s.heap.IsRevIter it l ((items.size : Int) - 1)) (hl : s.heap.IsList l items) (hne : l ≠ it) (hn : items.size ≤ sizeLine)
    (hQ : ∀ (h' : Heap) (tk : Nat) (acc : Array Value) (c' : Nat), (∀ b o, b ≠ it → s.heap.get? b = some o → h'.get? b = some o) → h'.get? s.heap.objs.size = some { cls := .type "list", dict := none, data := .seq acc c', slots := #[] } →
      ItemsOf (fun i v => items[items.size - 1 - i]? = some v) acc items.size → Q (.ref s.heap.objs.size) { s with heap := h', toks := tk }) :
    wpAny (model prog w) A (call (.type "list") [.ref it]) Q E s := by
  have hh2 : A.in1.in1.handled = none := hh
  have W := (Walks.listRev (prog := prog) (w := w) (A := A.in1.in1) hh2 it l hne items).toS
  have hSi : s.heap.objs.size ≠ it := let ⟨o, ho, _⟩ := hit; Nat.ne_of_gt (Heap.lt_size ho)
  have hSl : s.heap.objs.size ≠ l := let ⟨o, ho, _⟩ := hl; Nat.ne_of_gt (Heap.lt_size ho)
  have hSf : s.heap.objs.size ∉ [it, l] := fun m => (List.mem_cons.mp m).elim hSi fun m => hSl (List.mem_singleton.mp m)
  refine callType_codes (Q₁ := fun obj s₁ => obj = .ref s.heap.objs.size ∧ s₁ = { s with heap := s.heap.push { cls := .type "list", data := .seq #[] } }) F.called_list (F.typeCall_list_1 _) F.entry_list_init (code_list_new _ ⟨rfl, rfl⟩) fun obj s₁ h₁ => ?_
  obtain ⟨rfl, rfl⟩ := h₁
  generalize eS : s.heap.objs.size = S at *
  have hS : (s.heap.push { cls := .type "list", data := .seq #[] }).get? S = some { cls := .type "list", data := .seq #[] } := eS ▸ Heap.get?_push_size _ rfl
  refine ⟨⟨_, hS, rfl⟩, F.args_list_init_2 _ _, ?_⟩
  have hS₂ := Heap.get?_update_self (Obj.mapSeq (fun _ => (#[] : Array Value))) hS rfl
  have keep : ∀ b o, b ≠ S → s.heap.get? b = some o → ((s.heap.push { cls := .type "list", data := .seq #[] }).update S (Obj.mapSeq (fun _ => (#[] : Array Value)))).get? b = some o := fun b o hb e =>
    (Heap.get?_update_other _ _ (Ne.symm hb)).trans (Heap.get?_push_of_some _ e)
  have hit1 := hit.at (h' := (s.heap.push { cls := .type "list", data := .seq #[] }).update S (Obj.mapSeq (fun _ => (#[] : Array Value)))) fun o e => keep _ o (Ne.symm hSi) e
  have hl1 : ((s.heap.push { cls := .type "list", data := .seq #[] }).update S (Obj.mapSeq (fun _ => (#[] : Array Value)))).IsList l items := let ⟨o, ho, r⟩ := hl; ⟨o, keep _ o (Ne.symm hSl) ho, r⟩
  show wpAny _ A.in1.in1 (do let old ← Builtin.List.listItems (.ref S); Builtin.List.listUpdate (.ref S) (fun _ => #[]); letGo old.toList.reverse; Builtin.List.listExtendWith (.ref S) (.ref it) .none) _ _ _
  refine wpAny_bind ?_
  unfold Builtin.List.listItems
  refine wpAny_bind (wpAny_seqItems hS rfl (wpAny_pure ?_))
  refine wpAny_bind (wpAny_updateSeq hS rfl ?_)
  refine wpAny_bind (wpAny_letGo ?_)
  unfold Builtin.List.listExtendWith
  have hT : ({ s with heap := (s.heap.push { cls := .type "list", data := .seq #[] }).update S (Obj.mapSeq (fun _ => (#[] : Array Value))) } : Shared).TypeIs (.ref it) "list_reverseiterator" := Heap.IsRevIter.typeIs (s := { s with heap := (s.heap.push { cls := .type "list", data := .seq #[] }).update S (Obj.mapSeq (fun _ => (#[] : Array Value))) }) hit1
  have h1 : Builtin.List.listSameRef (.ref S) (.ref it) = false := by unfold Builtin.List.listSameRef; simp [hSi]
  refine wpAny_bind (wpAny_typeOf hT ?_)
  rw [if_neg (by rw [h1]; decide)]
  refine wpAny_bind (wpAny_pyIter_revIter (s := { s with heap := (s.heap.push { cls := .type "list", data := .seq #[] }).update S (Obj.mapSeq (fun _ => (#[] : Array Value))) }) hit1 ?_)
  refine wpAny_bind (wpAny_holding ?_)
  unfold Builtin.List.listLengthHint
  refine wpAny_bind (wpAny_specialOf hT nolen_lri ?_)
  show wpAny _ A.in1.in1 (specialOf (Value.ref it) (Str.ofString "__length_hint__") >>= _) _ _ _
  refine wpAny_bind (wpAny_specialOf hT hint_lri ?_)
  generalize hid : ("list_reverseiterator.__length_hint__" : String) = id0
  wp_delta
  rw [show splitId id0 = some ("list_reverseiterator", "__length_hint__") from by subst hid; decide +kernel]
  subst hid
  refine wpAny_bind (wpAny_isInstance (b := true) hT (by rw [isSubtype_type]; kernel_rfl) ?_)
  refine wpAny_pure ?_
  rw [if_neg (by decide)]
  have e0 : ((items.size : Nat) : Int) - 1 - ((0 : Nat) : Int) = (items.size : Int) - 1 := by omega
  refine wpAny_pure ⟨plainId_quiet F.plain_extend_loop _, codeAny_extend_loopS W hn _ hSf _ items.size 0 _ _ _ rfl (Nat.zero_le _) ⟨Nat.zero_le _, by rw [e0]; exact hit1, hl1⟩ hS₂ (ItemsOf.nil _) fun s' acc' c' hm hS' hacc => ?_⟩
  rw [Moved.eq_with hm]
  refine ⟨rfl, hQ s'.heap s'.toks acc' c' (fun b o hb e => ?_) hS' hacc⟩
  have hbS : b ≠ S := fun z => by rw [z, ← eS] at e; exact absurd (Heap.lt_size e) (Nat.lt_irrefl _)
  refine hm.heap b o (fun hmem => ?_) (keep b o hbS e)
  rcases List.mem_cons.mp hmem with e' | hmem
  · exact hbS e'
  · exact hb (List.mem_singleton.mp hmem)
end
end Mir
namespace Mir
open PySem PySem.Spec PyProof.Rows L2 RT
section
variable {X : Cx} {e : Expr} {te : TE} {k : Nat} {p p2 pos pos2 : Pos} {mm : Env → Res (List D)}
def tLstRev (K : PySem.W.Frag) (te : TE) : TE := fun σ H Q => te σ H fun v H1 => ∃ (a : Addr) (xs : List V), v = .ref a ∧ SqL K H1 a xs ∧ ∀ q, H1 q = none → Q (.ref q) (upd H1 q (.lst xs.reverse))
theorem pe_lstRev (hc : X.calm = true) (hg : Gl X "list") (hm : X.mg "list" = none) (hg2 : Gl X "reversed") (hm2 : X.mg "reversed" = none) (he : PE X e te)
    (hs : starEach [e] X.env = (false, eval e X.env) :: starEach [] X.env) (hs2 : starEach [.Call (.Name "reversed" p2) [e] [] pos2] X.env = (false, eval (.Call (.Name "reversed" p2) [e] [] pos2) X.env) :: starEach [] X.env) :
    PE X (.Call (.Name "list" p) [.Call (.Name "reversed" p2) [e] [] pos2] [] pos) (tLstRev X.K te) := by
  refine ⟨fun pins s σ H Q I h => Call_ (ld_blt I hg hm (show bootBuiltins (Str.ofString "list") = some (.type "list") by decide +kernel) (callWith_type1 (args_cons (Call_ (ld_blt I hg2 hm2 boot_reversed (callWith_type1 (args_cons (thn (he.run pins s σ H _ I h) fun u s1 ⟨v, H1, I1, r1, q1⟩ => args_nil ?_) hs) hs rfl))) hs2) hs2 rfl))⟩
  obtain ⟨a, xs, rfl, hq, q⟩ := q1
  obtain rfl : u = Value.ref a := r1
  obtain ⟨its, rv, pl, hz⟩ := I1.list hq
  refine call_reversed_list pl.isList (args_nil ?_)
  have hl := pl.isList
  have hne : a ≠ s1.heap.objs.size := let ⟨_, ho, _⟩ := hl; Nat.ne_of_lt (Heap.lt_size ho)
  have hn : its.toArray.size ≤ sizeLine := by rw [List.size_toArray, ← rv.length]; exact hz
  have hsz : (s1.heap.push (revObj a ((its.toArray.size : Int) - 1))).objs.size = s1.heap.objs.size + 1 := by rw [Heap.objs_push, Array.size_push]
  refine mir_list_rev (s := { s1 with heap := s1.heap.push (revObj a ((its.toArray.size : Int) - 1)) }) (I1.ok.hd hc) ⟨_, Heap.get?_push_size _ rfl, rfl, rfl⟩ (hl.push _) hne hn fun h' tk acc c' hk hS hi => ?_
  have kp : ∀ b u, s1.heap.get? b = some u → h'.get? b = some u := fun b u e => hk b u (Nat.ne_of_lt (Heap.lt_size e)) (Heap.get?_push_of_some _ e)
  have hp : s1.heap.objs.size ≤ (s1.heap.push (revObj a ((its.toArray.size : Int) - 1))).objs.size := by rw [hsz]; exact Nat.le_succ _
  refine ⟨.ref (s1.heap.push (revObj a ((its.toArray.size : Int) - 1))).objs.size, _, I1.laid (t' := tk) kp hp (show ObjOk X.prog X.w _ h' _ (.lst xs.reverse) from ⟨by rw [List.length_reverse]; exact hz, acc.toList, c', vals_rev rv hi, by rw [Array.toArray_toList]; exact hS⟩), rfl, q _ (I1.hok.fresh hp)⟩
def mListRev (mm : Env → Res (List D)) : Env → Res D := fun env => mm env >>= fun ds => .ok (.lst ds.reverse)
theorem sel_rev {vs : List V} {ds : List D} (hl : vs.length = ds.length) : Sel vs ds vs.reverse ds.reverse := ⟨by simp [hl], fun i w e h1 h2 => by
  have hi : i < vs.length := by simpa using (List.getElem?_eq_some_iff.mp h1).1
  rw [List.getElem?_reverse hi] at h1
  rw [List.getElem?_reverse (by omega)] at h2
  exact ⟨vs.length - 1 - i, h1, by rw [hl]; exact h2⟩⟩
theorem se_listRev (hc : X.calm = true) (hg : Gl X "list") (hm : X.mg "list" = none) (hg2 : Gl X "reversed") (hm2 : X.mg "reversed" = none) (h : SL X k .lst e mm)
    (hs : starEach [e] X.env = (false, eval e X.env) :: starEach [] X.env := by rfl) (hs2 : starEach [.Call (.Name "reversed" p2) [e] [] pos2] X.env = (false, eval (.Call (.Name "reversed" p2) [e] [] pos2) X.env) :: starEach [] X.env := by rfl) :
    SE X (k + 1) [] (.Call (.Name "list" p) [.Call (.Name "reversed" p2) [e] [] pos2] [] pos) (mListRev mm) := fun B H env σ tm d Q ok hm' q => by
  obtain ⟨ds, hds, h2⟩ := bind_ok hm'
  cases h2
  refine wE_of (pe_lstRev hc hg hm hg2 hm2 pe_sem hs hs2) (h B H env σ tm ds _ ok hds fun p vs H1 ex x1 hp hl1 ra ok1 pk => ?_)
  refine ⟨p, vs, rfl, .inl (view_rd hp), fun l hnl => ?_⟩
  have ok2 := (pk H1 env σ tm (Ext.refl _) ok1 _ _ (sel_rev hl1)).newLst (by simp [hl1]) hnl
  exact q _ _ (x1.trans (Ext.upd hnl)) (EnvOk.less (l := ex) (ok2.perm List.perm_middle.symm))
end
end Mir

namespace Mir
open PySem PySem.Spec L2
/-! ### a list that is made to be read alone: its items stay where they are -/
theorem EnvOk.extra {B : Bs} {H : Hp} {env : Env} {σ : St} {tm : List Hold} {p : Addr} {o : HO} (h : EnvOk B H env σ tm) (hp : H p = none) (hu : unf o = o) (ho : isIm o = false) : EnvOk B (upd H p o) env σ tm := by
  obtain ⟨⟨G, fp, g, hs, nd, hq⟩, h2, h3⟩ := h
  exact ⟨⟨G, fp, g.newMu hp hu ho, hs.frame (fun a u e => e) (fun a u e _ => up_keep hp a u e), nd, hq⟩, h2, h3⟩
section
variable {X : Cx} {pos : Pos} {es : List Expr} {ms : Env → Res (List D)}
/-- [..] that is read alone -/
theorem sb_lst (hs : SAB X es ms) : SB X (.List es pos) (mLst ms) := fun B H env σ tm d Q ok hm q => by
  obtain ⟨xs, hx, hg⟩ := bind_ok hm
  by_cases hl : xs.length ≤ sizeLine
  · rw [if_pos hl] at hg
    cases hg
    refine wE_of (pe_lst pa_sem) (hs B H env σ tm xs _ ok hx fun vs H1 x1 ok1 ra => ⟨by rw [ra.length]; exact hl, fun p hp => ?_⟩)
    have x2 : Ext H1 (upd H1 p (.lst vs)) := Ext.upd hp
    refine q _ _ (x1.trans x2) (ok1.extra hp rfl rfl) (.lst ?_ (x2.rpAll ra))
    unfold view
    rw [upd_same]; rfl
  · rw [if_neg hl] at hg; cases hg
end
end Mir

namespace Mir
open PySem PySem.Spec L2
/-! ### in a list, the place in a list, all -/
def gIn (x y : D) : Res D := match y with
  | .lst ds => if shp x && shp y then .ok (.bl ((pyAll ds).any fun z => PyData.eqv z x.py)) else .bad
  | _ => .bad
def gNotIn (x y : D) : Res D := match y with
  | .lst ds => if shp x && shp y then .ok (.bl (!(pyAll ds).any fun z => PyData.eqv z x.py)) else .bad
  | _ => .bad
section
variable {X : Cx}
theorem o_in (hu : X.A.units + 65 < cLine) : OpC X (compareOp .In) gIn := by
  refine ⟨_, op_inD hu, fun x y dx dy d H Q rx ry e q => ?_⟩
  unfold gIn at e
  split at e
  · rename_i ds
    split at e
    · rename_i hs
      rw [Bool.and_eq_true] at hs
      cases e
      exact ⟨dx.py, pyAll ds, rx.dp (shaped_lay hs.1), ry.dp (shaped_lay hs.2), hs.1, hs.2, q _ (.bl _) rfl⟩
    · cases e
  · cases e
theorem o_notIn (hu : X.A.units + 65 < cLine) : OpC X (compareOp .NotIn) gNotIn := by
  refine ⟨_, op_notInD hu, fun x y dx dy d H Q rx ry e q => ?_⟩
  unfold gNotIn at e
  split at e
  · rename_i ds
    split at e
    · rename_i hs
      rw [Bool.and_eq_true] at hs
      cases e
      exact ⟨dx.py, pyAll ds, rx.dp (shaped_lay hs.1), ry.dp (shaped_lay hs.2), hs.1, hs.2, q _ (.bl _) rfl⟩
    · cases e
  · cases e
variable {e o : Expr} {m mo : Env → Res D} {pos p apos cpos : Pos}
def idxOf (d : PyData) : List PyData → Nat → Option Nat
  | [], _ => none
  | z :: zs, n => if PyData.eqv z d then some n else idxOf d zs (n + 1)
theorem idxOf_some {d : PyData} : ∀ {zs : List PyData} {n j : Nat}, idxOf d zs n = some j → n ≤ j ∧ (∃ z, zs[j - n]? = some z ∧ PyData.eqv z d = true) ∧ ∀ (m : Nat) (z' : PyData), m < j - n → zs[m]? = some z' → PyData.eqv z' d = false
  | [], n, j, h => by cases h
  | z :: zs, n, j, h => by
    unfold idxOf at h
    split at h
    · rename_i hz
      cases h
      exact ⟨Nat.le_refl _, ⟨z, by simp, hz⟩, fun m z' hm => by omega⟩
    · rename_i hz
      obtain ⟨h1, ⟨w, h2, h3⟩, h4⟩ := idxOf_some h
      refine ⟨by omega, ⟨w, ?_, h3⟩, fun m z' hm hm2 => ?_⟩
      · rw [show j - n = (j - (n + 1)) + 1 by omega]; simpa using h2
      · cases m with
        | zero => cases hm2; simpa using hz
        | succ m => exact h4 m z' (by omega) (by simpa using hm2)
def gIndex (x y : D) : Res D := match x with
  | .lst ds => if shp x && shp y then (match idxOf y.py (pyAll ds) 0 with | some j => .ok (.int j) | none => .bad) else .bad
  | _ => .bad
theorem sc_index (hu : X.A.units + 65 < cLine) (ho : SB X o mo) (h : SB X e m) (hbase : attributeBase o "index" X.env (eval o X.env) = eval o X.env := by rfl)
    (hfew : ((backTo cpos (starEach [e] X.env)).all (fun x => !x.1) && (backToKw cpos (keywordEach [] X.env)).all (fun x => x.1.isSome) && decide ([e].length + ([] : List Keyword).length + (if ([] : List Keyword).isEmpty then 0 else 1) < 30)) = true := by rfl)
    (hline : (apos.endLine == cpos.line) = true := by rfl) (hs : starEach [e] X.env = (false, eval e X.env) :: starEach [] X.env := by rfl) (hplain : (backTo cpos (starEach [] X.env)).any (·.1) = false := by rfl) :
    SC X (.Call (.Attribute o "index" apos) [e] [] cpos) (mOp gIndex mo m) := fun B H env σ tm d Q ok hm q => by
  obtain ⟨x, y, hx, hy, hg⟩ := two hm
  unfold gIndex at hg
  split at hg
  · rename_i ds
    split at hg
    · rename_i hsh
      rw [Bool.and_eq_true] at hsh
      split at hg
      · rename_i j hj
        cases hg
        obtain ⟨_, ⟨z, hz1, hz2⟩, hz3⟩ := idxOf_some hj
        refine wE_of (pe_bm F.plainAttrs_list F.slot_list_index F.type_list_index (mt_indexD hu) pe_sem (pa_cons pe_sem pa_nil hs) hbase hfew hline hs hplain) (ho B H env σ tm _ _ ok hx fun v H1 x1 ok1 r1 => ?_)
        cases r1 with
        | @lst a vs _ hv ra =>
          refine ⟨.inl ⟨rfl, _, .inl (view_rd hv)⟩, h B H1 env σ tm _ _ ok1 hy fun u H2 x2 ok2 r2 => ?_⟩
          exact ⟨a, u, y.py, pyAll ds, j, z, rfl, rfl, (x2.rp (.lst hv ra)).dp (shaped_lay hsh.1), r2.dp (shaped_lay hsh.2), hsh.1, hsh.2, by simpa using hz1, hz2, fun m z' hm => hz3 m z' (by omega), q _ H2 (x1.trans x2) ok2 (.int _) rfl⟩
      · cases hg
    · cases hg
  · cases hg
end
end Mir

namespace Mir
open PySem PySem.Spec L2
/-! ### x = d.setdefault(k, v) -/
def mSetd (i j : Nat) (mk mz : Env → Res D) : Env → Res Ctl := fun env => mk env >>= fun y => mz env >>= fun z => atK env j >>= fun dd => match dd, keyOf y with
  | .dk ks ds, some kk => if i < env.length ∧ z.imm = true ∧ ds.length < sizeLine then (match dFind ks ds kk with
    | some w => if w.imm then .ok (.nx (env.set i (some (0, w)))) else .bad
    | none => .ok (.nx ((env.set j (some (1, .dk (dPutK ks kk) (dPutV ks ds kk z)))).set i (some (0, z))))) else .bad
  | _, _ => .bad
section
variable {X : Cx} {kr : Nat} {o e f : Expr} {pos apos cpos : Pos} {mk mz : Env → Res D}
end
end Mir

namespace Mir
open PySem PySem.Spec L2
/-! ### min of a list of alike data -/
def rMinD (K : PySem.W.Frag) : List V → Hp → VK → Prop := fun xs H Q => ∃ (a : Addr) (vs : List V) (d : PyData) (ds : List PyData), xs = [.ref a] ∧ SqL K H a vs ∧ DpAll K H vs (d :: ds) ∧ PyData.canLayAll0 (d :: ds) = true ∧ PySem.W.AlikeAll (d :: ds) ∧ PyData.depthAll (d :: ds) ≤ 60 ∧
  ∀ (i : Nat) (v : V), vs[i]? = some v → (d :: ds)[i]? = some (PySem.W.minD d ds) → Q v H
theorem cr_minD {X : Cx} (hc : X.calm = true) (hu : X.A.units + 65 < cLine) : CallR X (.builtin "min") (rMinD X.K) := by
  intro pins s σ H xs us Q I r h
  obtain ⟨a, vs, d, ds, rfl, hs, hd, hlay, hal, hdep, q⟩ := h
  obtain ⟨its, rv, hl, _⟩ := I.list hs
  rw [Vals.ref1 r]
  obtain ⟨as, hr⟩ := Dp.readsAll I (d :: ds) vs its hd rv
  refine PySem.W.min_list_data (I.ok.hd hc) hl.isList (by simpa using hr) hal (by omega) fun i v h' tk bs hi hrd hk => ?_
  have hi2 : its[i]? = some v := by simpa using hi
  have hil : i < its.length := (List.getElem?_eq_some_iff.mp hi2).1
  obtain ⟨w, hw⟩ : ∃ w, vs[i]? = some w := ⟨_, List.getElem?_eq_getElem (by rw [rv.length]; exact hil)⟩
  obtain ⟨v2, hv2, rw2⟩ := rv.get hw
  rw [hi2] at hv2
  cases hv2
  obtain ⟨cs, hr2, hlt, _, _⟩ := PySem.W.readsAll_atA (vs := its.toArray) (by simpa using hr) i v hi
  have hgi : (d :: ds)[i]? = some ((d :: ds).getD i .none) := by
    rw [List.getD_eq_getElem?_getD, List.getElem?_eq_getElem hlt]; rfl
  have e := (Reads.unique (PySem.W.reads_keeps hk hr2) _ _ hrd).1
  exact ⟨w, H, I.kept hk, rw2, q i w hw (by rw [hgi, e])⟩
end Mir

namespace Mir
open PySem PySem.Spec L2
mutual
def unpy : PyData → D
  | .none => .non | .bool b => .bl b | .int i => .int i | .str x => .str x
  | .list xs => .lst (unpyAll xs) | .tuple xs => .tup (unpyAll xs)
  | _ => .non
def unpyAll : List PyData → List D
  | [] => []
  | x :: xs => unpy x :: unpyAll xs
end
mutual
theorem unpy_py : ∀ d : D, d.imm = true → PyData.canLay0 d.py = true → unpy d.py = d
  | .non, _, _ => by simp [D.py, unpy]
  | .bl _, _, _ => by simp [D.py, unpy]
  | .int _, _, _ => by simp [D.py, unpy]
  | .str _, _, _ => by simp [D.py, unpy]
  | .lst _, h, _ => by simp [D.imm] at h
  | .tup xs, h, e => by
    have := unpyAll_py xs (by simpa [D.imm] using h) (by simpa [D.py, PyData.canLay0] using e)
    simp [D.py, unpy, this]
  | .dk _ _, h, _ => by simp [D.imm] at h
  | .dt _ _, h, _ => by simp [D.imm] at h
  | .ob _ _ _ _, _, e => by simp [D.py, PyData.canLay0] at e
  | .exn _ _ _ _, h, _ => by simp [D.imm] at h
  | .dn _ _, h, _ => by simp [D.imm] at h
theorem unpyAll_py : ∀ ds : List D, immAll ds = true → PyData.canLayAll0 (pyAll ds) = true → unpyAll (pyAll ds) = ds
  | [], _, _ => by simp [pyAll, unpyAll]
  | d :: ds, h, e => by
    have h2 : d.imm = true ∧ immAll ds = true := by simpa [immAll] using h
    rw [pyAll, PyData.canLayAll0, Bool.and_eq_true] at e
    simp [pyAll, unpyAll, unpy_py d h2.1 e.1, unpyAll_py ds h2.2 e.2]
end
theorem lay_get {ds : List D} (e : PyData.canLayAll0 (pyAll ds) = true) : ∀ {d : D}, d ∈ ds → PyData.canLay0 d.py = true := by
  induction ds with
  | nil => intro d h; cases h
  | cons x xs ih =>
    rw [pyAll, PyData.canLayAll0, Bool.and_eq_true] at e
    intro d h
    rcases List.mem_cons.mp h with rfl | h
    · exact e.1
    · exact ih e.2 h
def notNon : PyData → Bool
  | .none => false
  | _ => true
def alikeB (xs : List PyData) : Bool := xs.all (fun x => xs.all fun y => PySem.W.alike x y) && xs.all notNon
theorem alikeB_iff {xs : List PyData} (h : alikeB xs = true) : PySem.W.AlikeAll xs := by
  unfold alikeB at h
  simp only [Bool.and_eq_true, List.all_eq_true] at h
  exact ⟨h.1, fun x hx e => by have := h.2 x hx; rw [e] at this; cases this⟩
def gMin : D → Res D
  | .lst (d :: ds) => if immAll (d :: ds) = true ∧ PyData.canLayAll0 (pyAll (d :: ds)) = true ∧ alikeB (pyAll (d :: ds)) = true ∧ PyData.depthAll (pyAll (d :: ds)) ≤ 60 then .ok (unpy (PySem.W.minD d.py (pyAll ds))) else .bad
  | _ => .bad
section
variable {X : Cx} {e : Expr} {m : Env → Res D} {pos p : Pos}
theorem sc_min (hc : X.calm = true) (hu : X.A.units + 65 < cLine) (hg : Gl X "min") (hm0 : X.mg "min" = none) (h : SB X e m) (he : starEach [e] X.env = (false, eval e X.env) :: starEach [] X.env := by rfl) (hpl : (backTo pos (starEach [] X.env)).any (·.1) = false := by rfl) : SC X (.Call (.Name "min" p) [e] [] pos) (mUn gMin m) := fun B H env σ tm d Q ok hm q => by
  obtain ⟨x, hx, h2⟩ := bind_ok hm
  refine wE_of (pe_callB (cr_minD hc hu) hg hm0 (by decide +kernel) (pa_cons pe_sem pa_nil he) (by decide) (by decide) he hpl) (h B H env σ tm _ _ ok hx fun v H1 x1 ok1 r => ?_)
  cases r with
  | @lst a vs ds0 hv ra =>
    cases ds0 with
    | nil => cases h2
    | cons d0 ds =>
      unfold gMin at h2
      dsimp only at h2
      split at h2
      · rename_i hh
        obtain ⟨h3, h4, h5, h6⟩ := hh
        cases h2
        refine ⟨a, vs, d0.py, pyAll ds, rfl, .inl (view_rd hv), ra.dp h4, h4, alikeB_iff h5, h6, fun i w hw hmin => ?_⟩
        have hi : i < (d0 :: ds).length := by rw [← ra.length]; exact (List.getElem?_eq_some_iff.mp hw).1
        obtain ⟨w2, hw2, rw2⟩ := ra.get (List.getElem?_eq_getElem hi)
        rw [hw] at hw2
        cases hw2
        have e1 : (d0.py :: pyAll ds)[i]? = some ((d0 :: ds)[i].py) := by
          rw [show d0.py :: pyAll ds = pyAll (d0 :: ds) from rfl, pyAll_map, List.getElem?_map, List.getElem?_eq_getElem hi]; rfl
        rw [e1] at hmin
        have e2 := Option.some.inj hmin
        have im : ((d0 :: ds)[i]).imm = true := immAll_iff.mp h3 _ (List.getElem_mem hi)
        have e3 : unpy (PySem.W.minD d0.py (pyAll ds)) = (d0 :: ds)[i] := by rw [← e2]; exact unpy_py _ im (lay_get h4 (List.getElem_mem hi))
        rw [e3] at q
        exact q w H1 x1 ok1 rw2 im
      · cases h2
  | _ => cases h2
end
end Mir

namespace Mir
open PySem PySem.Spec L2
/-! ### data with a Lean type: ==, <, in, index, min told of the Lean values -/
class Dat (α : Type) [DecidableEq α] where
  enc : α → D
  lt : α → α → Bool
  dep : Nat
  eqv : ∀ a b, PyData.eqv (enc a).py (enc b).py = decide (a = b)
  alike : ∀ a b, PySem.W.alike (enc a).py (enc b).py = true
  lay : ∀ a, PyData.canLay0 (enc a).py = true
  depth : ∀ a, (enc a).py.depth ≤ dep
  dlt : ∀ a b, PySem.W.dataLt (enc a).py (enc b).py = lt a b
  nn : ∀ a, enc a ≠ .non
  tot : ∀ a b, lt a b = false → lt b a = false → a = b
  tr : ∀ a b c, lt a b = true → lt b c = true → lt a c = true
  asy : ∀ a b, lt a b = true → lt b a = false
open Dat
theorem Dat.irr {α : Type} [DecidableEq α] [Dat α] (a : α) : Dat.lt a a = false := by
  cases h : Dat.lt a a with
  | false => rfl
  | true => exact absurd h (by rw [Dat.asy a a h]; decide)
instance : Dat Int where
  enc := D.int
  lt a b := decide (a < b)
  dep := 1
  eqv a b := by
    show PyData.eqv (PyData.int a) (PyData.int b) = _
    simp only [e_eqv_int]; by_cases h : a = b <;> simp [h]
  alike a b := by simp [D.py, PySem.W.alike]
  lay a := by simp [D.py, PyData.canLay0]
  depth a := by simp [D.py, PyData.depth]
  dlt a b := by simp only [D.py, PySem.W.dataLt_int]
  nn a := by simp
  tot a b := by simp; omega
  tr a b c := by simp; omega
  asy a b := by simp; omega
section
variable {α β γ : Type} [DecidableEq α] [Dat α] [DecidableEq β] [Dat β] [DecidableEq γ] [Dat γ]
theorem depthAll_le {ds : List PyData} {n : Nat} (h : ∀ d ∈ ds, d.depth ≤ n) : PyData.depthAll ds ≤ n := by
  induction ds with
  | nil => simp [PyData.depthAll]
  | cons d ds ih =>
    simp only [PyData.depthAll]
    exact Nat.max_le.mpr ⟨h d List.mem_cons_self, ih fun x hx => h x (List.mem_cons_of_mem _ hx)⟩
theorem eqvAll_enc : ∀ xs ys : List α, PyData.eqvAll (pyAll (xs.map enc)) (pyAll (ys.map enc)) = decide (xs = ys)
  | [], [] => by simp [pyAll, PyData.eqvAll]
  | [], y :: ys => by simp [pyAll, PyData.eqvAll]
  | x :: xs, [] => by simp [pyAll, PyData.eqvAll]
  | x :: xs, y :: ys => by
    simp only [List.map_cons, pyAll, PyData.eqvAll, eqv, eqvAll_enc xs ys]
    by_cases h : x = y <;> by_cases h2 : xs = ys <;> simp [h, h2]
theorem alikeAll_enc : ∀ xs ys : List α, PySem.W.alikeAll (pyAll (xs.map enc)) (pyAll (ys.map enc)) = true
  | [], _ => by rw [List.map_nil, pyAll, PySem.W.alikeAll]
  | x :: xs, [] => by rw [List.map_nil, List.map_cons, pyAll, pyAll, PySem.W.alikeAll]
  | x :: xs, y :: ys => by
    simp only [List.map_cons, pyAll, PySem.W.alikeAll, alike x y, alikeAll_enc xs ys, Bool.and_self]
theorem layAll_enc : ∀ xs : List α, PyData.canLayAll0 (pyAll (xs.map enc)) = true
  | [] => by simp [pyAll, PyData.canLayAll0]
  | x :: xs => by simp only [List.map_cons, pyAll, PyData.canLayAll0, lay x, layAll_enc xs, Bool.and_self]
theorem depthAll_enc (xs : List α) : PyData.depthAll (pyAll (xs.map (enc (α := α)))) ≤ dep α := depthAll_le fun d hd => by
  rw [pyAll_map, List.map_map] at hd
  obtain ⟨a, _, rfl⟩ := List.mem_map.mp hd
  exact depth a
/-- the first difference decides, else the shorter one is the less -/
def listLt (lt : α → α → Bool) : List α → List α → Bool
  | [], [] => false
  | [], _ :: _ => true
  | _ :: _, [] => false
  | x :: xs, y :: ys => if x = y then listLt lt xs ys else lt x y
theorem lexAll_enc : ∀ xs ys : List α, PyProof.Rows.lexLt PyProof.Rows.itemOrd (PySem.W.keyToksAll (pyAll (xs.map enc))) (PySem.W.keyToksAll (pyAll (ys.map enc))) = listLt lt xs ys
  | [], [] => PyProof.Rows.lex_irrefl _
  | [], y :: ys => by
    rw [List.map_nil, List.map_cons, pyAll, pyAll, PySem.W.toks_all_cons]
    simp only [PySem.W.keyToksAll]
    rw [PyProof.Rows.lex_diff (O := PyProof.Rows.itemOrd) (by simp)]
    rfl
  | x :: xs, [] => by
    rw [List.map_nil, List.map_cons, pyAll, pyAll, PySem.W.toks_all_cons]
    simp only [PySem.W.keyToksAll]
    rw [PyProof.Rows.lex_diff (O := PyProof.Rows.itemOrd) (by simp)]
    rfl
  | x :: xs, y :: ys => by
    rw [List.map_cons, List.map_cons, pyAll, pyAll, listLt]
    by_cases h : x = y
    · rw [if_pos h, PySem.W.dataLt_all_yes (alike x y) (by rw [eqv, decide_eq_true_eq]; exact h), lexAll_enc xs ys]
    · rw [if_neg h, PySem.W.dataLt_all_no (alike x y) (by rw [eqv, decide_eq_false_iff_not]; exact h), dlt]
theorem listLt_tot {lt : α → α → Bool} (h : ∀ a b, lt a b = false → lt b a = false → a = b) : ∀ xs ys : List α, listLt lt xs ys = false → listLt lt ys xs = false → xs = ys
  | [], [], _, _ => rfl
  | [], _ :: _, h1, _ => by simp [listLt] at h1
  | _ :: _, [], _, h1 => by simp [listLt] at h1
  | x :: xs, y :: ys, h1, h2 => by
    unfold listLt at h1 h2
    by_cases e : x = y
    · subst e
      rw [if_pos rfl] at h1 h2
      rw [listLt_tot h xs ys h1 h2]
    · rw [if_neg e] at h1
      rw [if_neg (Ne.symm e)] at h2
      exact absurd (h x y h1 h2) e
theorem listLt_tr {lt : α → α → Bool} (h : ∀ a b c, lt a b = true → lt b c = true → lt a c = true) (ha : ∀ a b, lt a b = true → lt b a = false) : ∀ xs ys zs : List α, listLt lt xs ys = true → listLt lt ys zs = true → listLt lt xs zs = true
  | [], [], _, h1, _ => by simp [listLt] at h1
  | _, _ :: _, [], _, h1 => by simp [listLt] at h1
  | _ :: _, [], _, h1, _ => by simp [listLt] at h1
  | [], y :: ys, z :: zs, _, _ => rfl
  | x :: xs, y :: ys, z :: zs, h1, h2 => by
    unfold listLt at h1 h2 ⊢
    by_cases e : x = y
    · subst e
      rw [if_pos rfl] at h1
      by_cases e2 : x = z
      · rw [if_pos e2] at h2 ⊢
        exact listLt_tr h ha xs ys zs h1 h2
      · rw [if_neg e2] at h2 ⊢
        exact h2
    · rw [if_neg e] at h1
      by_cases e2 : y = z
      · subst e2
        rw [if_neg e]; exact h1
      · rw [if_neg e2] at h2
        have h3 := h _ _ _ h1 h2
        have e3 : x ≠ z := fun e => by
          subst e
          rw [ha _ _ h1] at h2
          cases h2
        rw [if_neg e3]; exact h3
theorem listLt_asy {lt : α → α → Bool} (ha : ∀ a b, lt a b = true → lt b a = false) : ∀ xs ys : List α, listLt lt xs ys = true → listLt lt ys xs = false
  | [], [], h1 => by simp [listLt] at h1
  | _ :: _, [], h1 => by simp [listLt] at h1
  | [], y :: ys, _ => rfl
  | x :: xs, y :: ys, h1 => by
    unfold listLt at h1 ⊢
    by_cases e : x = y
    · subst e
      rw [if_pos rfl] at h1 ⊢
      exact listLt_asy ha xs ys h1
    · rw [if_neg e] at h1
      rw [if_neg (Ne.symm e)]
      exact ha _ _ h1
instance : Dat (List α) where
  enc xs := .lst (xs.map enc)
  lt := listLt lt
  dep := dep α + 1
  eqv a b := by simp only [D.py, PyData.eqv]; exact eqvAll_enc a b
  alike a b := by simp only [D.py, PySem.W.alike]; exact alikeAll_enc a b
  lay a := by simp only [D.py, PyData.canLay0]; exact layAll_enc a
  depth a := by
    simp only [D.py, PyData.depth]
    have := depthAll_enc a
    omega
  dlt a b := by simp only [D.py, PySem.W.dataLt_list]; exact lexAll_enc a b
  nn a := by simp
  tot := listLt_tot tot
  tr := listLt_tr tr asy
  asy := listLt_asy asy
theorem nilTok : PyProof.Rows.lexLt PyProof.Rows.itemOrd (PySem.W.keyToksAll []) (PySem.W.keyToksAll []) = false := PyProof.Rows.lex_irrefl _
theorem consTok (x y : α) (xs ys : List PyData) : PyProof.Rows.lexLt PyProof.Rows.itemOrd (PySem.W.keyToksAll ((enc x).py :: xs)) (PySem.W.keyToksAll ((enc y).py :: ys)) = if x = y then PyProof.Rows.lexLt PyProof.Rows.itemOrd (PySem.W.keyToksAll xs) (PySem.W.keyToksAll ys) else lt x y := by
  by_cases h : x = y
  · rw [if_pos h, PySem.W.dataLt_all_yes (alike x y) (by rw [eqv, decide_eq_true_eq]; exact h)]
  · rw [if_neg h, PySem.W.dataLt_all_no (alike x y) (by rw [eqv, decide_eq_false_iff_not]; exact h), dlt]
instance : Dat (α × β) where
  enc p := .tup [enc p.1, enc p.2]
  lt p q := if p.1 = q.1 then lt p.2 q.2 else lt p.1 q.1
  dep := max (dep α) (dep β) + 1
  eqv a b := by
    obtain ⟨a1, a2⟩ := a
    obtain ⟨b1, b2⟩ := b
    simp only [D.py, pyAll, PyData.eqv, PyData.eqvAll, eqv]
    by_cases h : a1 = b1 <;> by_cases h2 : a2 = b2 <;> simp [h, h2]
  alike a b := by simp only [D.py, pyAll, PySem.W.alike, PySem.W.alikeAll, alike, Bool.and_self]
  lay a := by simp only [D.py, pyAll, PyData.canLay0, PyData.canLayAll0, lay, Bool.and_self]
  depth a := by
    simp only [D.py, pyAll, PyData.depth, PyData.depthAll]
    have h1 := depth a.1
    have h2 := depth a.2
    omega
  dlt a b := by
    simp only [D.py, pyAll, PySem.W.dataLt_tuple, consTok, nilTok]
    by_cases h : a.1 = b.1
    · rw [if_pos h, if_pos h]
      by_cases h2 : a.2 = b.2
      · rw [if_pos h2, h2, irr]
      · rw [if_neg h2]
    · rw [if_neg h, if_neg h]
  nn a := by simp
  tot a b h1 h2 := by
    obtain ⟨a1, a2⟩ := a
    obtain ⟨b1, b2⟩ := b
    dsimp only at h1 h2
    by_cases e : a1 = b1
    · subst e
      rw [if_pos rfl] at h1 h2
      rw [tot _ _ h1 h2]
    · rw [if_neg e] at h1
      rw [if_neg (Ne.symm e)] at h2
      exact absurd (tot _ _ h1 h2) e
  tr a b c h1 h2 := by
    obtain ⟨a1, a2⟩ := a
    obtain ⟨b1, b2⟩ := b
    obtain ⟨c1, c2⟩ := c
    dsimp only at h1 h2 ⊢
    by_cases e : a1 = b1
    · subst e
      rw [if_pos rfl] at h1
      by_cases e2 : a1 = c1
      · rw [if_pos e2] at h2 ⊢
        exact tr _ _ _ h1 h2
      · rw [if_neg e2] at h2 ⊢
        exact h2
    · rw [if_neg e] at h1
      by_cases e2 : b1 = c1
      · subst e2
        rw [if_neg e]; exact h1
      · rw [if_neg e2] at h2
        have h3 := tr _ _ _ h1 h2
        have e3 : a1 ≠ c1 := fun e => by
          subst e
          rw [asy _ _ h1] at h2
          cases h2
        rw [if_neg e3]; exact h3
  asy a b h1 := by
    obtain ⟨a1, a2⟩ := a
    obtain ⟨b1, b2⟩ := b
    dsimp only at h1 ⊢
    by_cases e : a1 = b1
    · subst e
      rw [if_pos rfl] at h1 ⊢
      exact asy _ _ h1
    · rw [if_neg e] at h1
      rw [if_neg (Ne.symm e)]
      exact asy _ _ h1
end
/-- three whole numbers, a tuple: a passing, a side -/
structure T3 where
  a : Int
  b : Int
  c : Int
  deriving DecidableEq
def T3.lt (x y : T3) : Bool := decide (x.a < y.a ∨ (x.a = y.a ∧ (x.b < y.b ∨ (x.b = y.b ∧ x.c < y.c))))
def t3 (x : T3) : D := .tup [.int x.a, .int x.b, .int x.c]
theorem T3.eq_iff (x y : T3) : x = y ↔ x.a = y.a ∧ x.b = y.b ∧ x.c = y.c := by
  cases x; cases y; simp
instance : Dat T3 where
  enc := t3
  lt := T3.lt
  dep := 2
  eqv x y := by
    simp only [t3, D.py, pyAll, PyData.eqv, PyData.eqvAll]
    by_cases h1 : x.a = y.a <;> by_cases h2 : x.b = y.b <;> by_cases h3 : x.c = y.c <;> simp [h1, h2, h3, T3.eq_iff]
  alike x y := by simp [t3, D.py, pyAll, PySem.W.alike, PySem.W.alikeAll]
  lay a := by simp [t3, D.py, pyAll, PyData.canLay0, PyData.canLayAll0]
  depth a := by simp [t3, D.py, pyAll, PyData.depth, PyData.depthAll]
  dlt x y := by
    have h := fun (i j : Int) (xs ys : List PyData) => consTok i j xs ys
    simp only [enc, e_py_int] at h
    show PySem.W.dataLt (D.tup _).py (D.tup _).py = _
    simp only [D.py, pyAll, PySem.W.dataLt_tuple, h, nilTok, lt, T3.lt]
    by_cases h1 : x.a = y.a <;> by_cases h2 : x.b = y.b <;> by_cases h3 : x.c = y.c <;> simp [h1, h2, h3]
  nn a := by simp [t3]
  tot x y := by simp only [T3.lt, decide_eq_false_iff_not, T3.eq_iff]; omega
  tr x y z := by simp only [T3.lt, decide_eq_true_eq]; omega
  asy x y := by simp only [T3.lt, decide_eq_true_eq, decide_eq_false_iff_not]; omega
section
variable {α : Type} [DecidableEq α] [Dat α]
theorem shp_enc (a : α) (h : dep α ≤ 64) : shp (enc a) = true := by
  unfold shp SeqAt.shaped
  rw [lay a, Bool.true_and, decide_eq_true_eq]
  exact Nat.le_trans (depth a) h
theorem gEq_enc (a b : α) (h : dep α ≤ 64) : gEq (enc a) (enc b) = .ok (.bl (decide (a = b))) := by
  unfold gEq
  rw [shp_enc a h, shp_enc b h, eqv]; rfl
theorem ordOk_enc (a b : α) (h : dep α ≤ 60) : ordOk (enc a) (enc b) = true := by
  unfold ordOk
  rw [shp_enc a (by omega), shp_enc b (by omega), alike]
  have : min (enc a).py.depth (enc b).py.depth ≤ 60 := Nat.le_trans (Nat.min_le_left _ _) (Nat.le_trans (depth a) h)
  have nz := nn a
  revert nz
  cases hh : enc a <;> simp_all
theorem gLt_enc (a b : α) (h : dep α ≤ 60) : gLt (enc a) (enc b) = .ok (.bl (lt a b)) := by
  have h1 := ordOk_enc a b h
  have h2 := dlt a b
  revert h1 h2
  generalize enc a = x
  generalize enc b = y
  intro h1 h2
  unfold gLt
  split
  · rw [← h2]; simp only [D.py, PySem.W.dataLt_int]
  · rw [if_pos h1, h2]
theorem any_enc (a : α) (xs : List α) : ((pyAll (xs.map enc)).any fun z => PyData.eqv z (enc a).py) = decide (a ∈ xs) := by
  induction xs with
  | nil => simp [pyAll]
  | cons x xs ih =>
    simp only [List.map_cons, pyAll, List.any_cons, ih, eqv]
    by_cases h : x = a
    · simp [h]
    · have : ¬ a = x := fun e => h e.symm
      simp [h, this]
theorem gIn_enc (a : α) (xs : List α) (h : dep α ≤ 60) : gIn (enc a) (.lst (xs.map enc)) = .ok (.bl (decide (a ∈ xs))) := by
  have h2 : shp (D.lst (xs.map (enc (α := α)))) = true := shp_enc (α := List α) xs (by show dep α + 1 ≤ 64; omega)
  unfold gIn
  simp only [shp_enc a (by omega : dep α ≤ 64), h2, any_enc, Bool.and_self, if_true]
theorem gNotIn_enc (a : α) (xs : List α) (h : dep α ≤ 60) : gNotIn (enc a) (.lst (xs.map enc)) = .ok (.bl (!decide (a ∈ xs))) := by
  have h2 : shp (D.lst (xs.map (enc (α := α)))) = true := shp_enc (α := List α) xs (by show dep α + 1 ≤ 64; omega)
  unfold gNotIn
  simp only [shp_enc a (by omega : dep α ≤ 64), h2, any_enc, Bool.and_self, if_true]
theorem idxOf_enc (a : α) : ∀ (xs : List α) (n : Nat), a ∈ xs → idxOf (enc a).py (pyAll (xs.map enc)) n = some (n + xs.idxOf a)
  | [], _, h => by cases h
  | x :: xs, n, h => by
    simp only [List.map_cons, pyAll, idxOf, eqv, decide_eq_true_eq]
    by_cases e : x = a
    · subst e; simp
    · rw [if_neg e, idxOf_enc a xs (n + 1) (by rcases List.mem_cons.mp h with h | h; exact absurd h.symm e; exact h), List.idxOf_cons]
      have : (x == a) = false := by simpa using e
      rw [this]
      show some (n + 1 + xs.idxOf a) = some (n + (xs.idxOf a + 1))
      congr 1; omega
theorem gIndex_enc (a : α) (xs : List α) (h : dep α ≤ 60) (ha : a ∈ xs) : gIndex (.lst (xs.map enc)) (enc a) = .ok (.int (xs.idxOf a : Nat)) := by
  have h2 : shp (D.lst (xs.map (enc (α := α)))) = true := shp_enc (α := List α) xs (by show dep α + 1 ≤ 64; omega)
  unfold gIndex
  simp only [shp_enc a (by omega : dep α ≤ 64), h2, idxOf_enc a xs 0 ha, Bool.and_self, if_true, Nat.zero_add]
/-- the first of the least -/
def minOf (x : α) (xs : List α) : α := xs.foldl (fun a y => if lt y a = true then y else a) x
theorem minD_enc (x : α) (xs : List α) : PySem.W.minD (enc x).py (pyAll (xs.map enc)) = (enc (minOf x xs)).py := by
  unfold PySem.W.minD minOf
  induction xs generalizing x with
  | nil => rfl
  | cons y ys ih =>
    rw [List.map_cons, pyAll, List.foldl_cons, List.foldl_cons, ← ih]
    (try dsimp only)
    rw [dlt y x]
    cases lt y x <;> rfl
theorem notNon_enc (a : α) : notNon (enc a).py = true := by
  have h := alike a a
  have h2 := nn a
  revert h h2
  generalize enc a = x
  intro h h2
  cases x <;> simp_all [D.py, notNon, PySem.W.alike]
theorem alikeB_enc (xs : List α) : alikeB (pyAll (xs.map enc)) = true := by
  unfold alikeB
  simp only [Bool.and_eq_true, List.all_eq_true]
  rw [pyAll_map, List.map_map]
  refine ⟨fun x hx y hy => ?_, fun x hx => ?_⟩
  · obtain ⟨a, _, rfl⟩ := List.mem_map.mp hx
    obtain ⟨b, _, rfl⟩ := List.mem_map.mp hy
    exact alike a b
  · obtain ⟨a, _, rfl⟩ := List.mem_map.mp hx
    exact notNon_enc a
theorem gMin_enc (x : α) (xs : List α) (h : dep α ≤ 60) (hi : ∀ a : α, (enc a).imm = true) : gMin (.lst ((x :: xs).map enc)) = .ok (enc (minOf x xs)) := by
  rw [List.map_cons]
  unfold gMin
  dsimp only
  rw [if_pos ⟨immAll_iff.mpr fun d hd => by
    rw [← List.map_cons] at hd
    obtain ⟨a, _, rfl⟩ := List.mem_map.mp hd
    exact hi a, layAll_enc (x :: xs), alikeB_enc (x :: xs), Nat.le_trans (depthAll_enc (x :: xs)) h⟩, minD_enc, unpy_py _ (hi _) (Dat.lay _)]
theorem minOf_mem (x : α) : ∀ xs : List α, minOf x xs ∈ x :: xs := by
  intro xs
  unfold minOf
  induction xs generalizing x with
  | nil => exact List.mem_cons_self
  | cons y ys ih =>
    rw [List.foldl_cons]
    rcases List.mem_cons.mp (ih (if lt y x = true then y else x)) with h | h
    · rw [h]
      split
      · exact List.mem_cons_of_mem _ List.mem_cons_self
      · exact List.mem_cons_self
    · exact List.mem_cons_of_mem _ (List.mem_cons_of_mem _ h)
theorem minOf_le (x : α) : ∀ xs : List α, ∀ y ∈ x :: xs, lt y (minOf x xs) = false := by
  intro xs
  unfold minOf
  induction xs generalizing x with
  | nil =>
    intro y hy
    rw [List.mem_singleton.mp hy]; exact irr x
  | cons z zs ih =>
    intro y hy
    rw [List.foldl_cons]
    have h0 := ih (if lt z x = true then z else x)
    have hb := h0 _ List.mem_cons_self
    rcases List.mem_cons.mp hy with h | h
    · subst h
      by_cases e : lt z y = true
      · rw [if_pos e] at hb ⊢
        cases hc : lt y (zs.foldl (fun a y => if lt y a = true then y else a) z) with
        | false => rfl
        | true => rw [tr _ _ _ e hc] at hb; cases hb
      · rw [if_neg e] at hb ⊢; exact hb
    · rcases List.mem_cons.mp h with h | h
      · subst h
        by_cases e : lt y x = true
        · rw [if_pos e] at hb ⊢; exact hb
        · rw [if_neg e] at hb ⊢
          cases hc : lt y (zs.foldl (fun a y => if lt y a = true then y else a) x) with
          | false => rfl
          | true =>
            by_cases e2 : lt x y = true
            · rw [tr _ _ _ e2 hc] at hb; cases hb
            · have := tot x y (by simpa using e2) (by simpa using e)
              subst this
              rw [hc] at hb; cases hb
      · exact h0 y (List.mem_cons_of_mem _ h)
end
end Mir

namespace Mir
open PySem PySem.Spec L2
/-! ### branches brought together -/
section
variable {c : Prop} [Decidable c]
end
def setdM (i j : Nat) (y z dd : D) (env : Mir.Env) : Res Ctl := match dd, keyOf y with
  | .dk ks ds, some kk => if i < env.length ∧ z.imm = true ∧ ds.length < sizeLine then (match dFind ks ds kk with
    | some w => if w.imm then .ok (.nx (env.set i (some (0, w)))) else .bad
    | none => .ok (.nx ((env.set j (some (1, .dk (dPutK ks kk) (dPutV ks ds kk z)))).set i (some (0, z))))) else .bad
  | _, _ => .bad
@[simp] theorem e_mSetd (i j : Nat) (mk mz : Mir.Env → Res D) (env : Mir.Env) : mSetd i j mk mz env = (mk env >>= fun y => mz env >>= fun z => atK env j >>= fun dd => setdM i j y z dd env) := rfl
theorem gIx_map {α : Type} {f : α → D} {xs : List α} {i : Nat} {a : α} (h : xs[i]? = some a) : gIx (.lst (xs.map f)) (.int i) = .ok (f a) := by
  have hl := (List.getElem?_eq_some_iff.mp h).1
  have h2 : xs[i] = a := (List.getElem?_eq_some_iff.mp h).2
  simp [gIx, atI, ixN, hl, h2]
theorem gRng1_d {n : Nat} (h : n ≤ 1000) : gRng1 (.int n) = .ok ((List.range n).map fun i : Nat => D.int i) := gRng1_nat n h
@[simp] theorem t3_imm (x : T3) : (t3 x).imm = true := rfl
@[simp] theorem t3_isi (x : T3) : isi .tuple (t3 x) = true := rfl
@[simp] theorem t3_isOb (x : T3) : isOb (t3 x) = false := rfl
@[simp] theorem t3_len (x : T3) : gLen (t3 x) = .ok (.int 3) := rfl
@[simp] theorem t3_items (x : T3) : itemsT (t3 x) = .ok [.int x.a, .int x.b, .int x.c] := rfl
@[simp] theorem t3_0 (x : T3) : gIx (t3 x) (.int 0) = .ok (.int x.a) := rfl
@[simp] theorem t3_1 (x : T3) : gIx (t3 x) (.int 1) = .ok (.int x.b) := rfl
@[simp] theorem t3_2 (x : T3) : gIx (t3 x) (.int 2) = .ok (.int x.c) := rfl
theorem immAll_drop {ds : List D} (h : immAll ds = true) (k : Nat) : immAll (ds.drop k) = true := immAll_iff.mpr fun d hd => immAll_iff.mp h d (List.mem_of_mem_drop hd)
theorem immAll_take {ds : List D} (h : immAll ds = true) (k : Nat) : immAll (ds.take k) = true := immAll_iff.mpr fun d hd => immAll_iff.mp h d (List.mem_of_mem_take hd)
theorem immAll_t3 (xs : List T3) : immAll (xs.map t3) = true := by simp
@[simp] theorem immAll_dt3 (xs : List T3) (k : Nat) : immAll ((xs.map t3).drop k) = true := immAll_drop (immAll_t3 xs) k
@[simp] theorem immAll_tt3 (xs : List T3) (k : Nat) : immAll ((xs.map t3).take k) = true := immAll_take (immAll_t3 xs) k
@[simp] theorem isi_ll (xs : List D) : isi .list (.lst xs) = true := rfl
@[simp] theorem isi_tt (xs : List D) : isi .tuple (.tup xs) = true := rfl
@[simp] theorem isi_ii (i : Int) : isi .int (.int i) = true := rfl
@[simp] theorem isi_bi (i : Int) : isi .bool (.int i) = false := rfl
@[simp] theorem immAt_l (k : Nat) (ds : List D) : immAt (k + 1) (.lst ds) = immAtL k ds := by unfold immAt; rfl
@[simp] theorem immAt_1l (ds : List D) : immAt 1 (.lst ds) = immAll ds := by rw [show (1 : Nat) = 0 + 1 from rfl, immAt_l, immAtL0]
@[simp] theorem e_immL (ds : List D) : immL ds = if immAll ds = true then .ok ds else .bad := rfl
@[simp] theorem gTru_l (ds : List D) : gTru (.lst ds) = .ok (!ds.isEmpty) := rfl
@[simp] theorem gTru_i (i : Int) : gTru (.int i) = .ok (i != 0) := rfl
@[simp] theorem gTru_b (b : Bool) : gTru (.bl b) = .ok b := rfl
@[simp] theorem gTru_n : gTru .non = .ok false := rfl
@[simp] theorem gTru_t (ds : List D) : gTru (.tup ds) = .ok (!ds.isEmpty) := rfl
@[simp] theorem sz1 : 1 ≤ sizeLine := sizeLine_big (by decide)
@[simp] theorem sz2 : 2 ≤ sizeLine := sizeLine_big (by decide)
@[simp] theorem sz3 : 3 ≤ sizeLine := sizeLine_big (by decide)
@[simp] theorem sz4 : 4 ≤ sizeLine := sizeLine_big (by decide)
@[simp] theorem sz5 : 5 ≤ sizeLine := sizeLine_big (by decide)
@[simp] theorem sz6 : 6 ≤ sizeLine := sizeLine_big (by decide)
@[simp] theorem sz7 : 7 ≤ sizeLine := sizeLine_big (by decide)
@[simp] theorem sz8 : 8 ≤ sizeLine := sizeLine_big (by decide)
@[simp] theorem sz9 : 9 ≤ sizeLine := sizeLine_big (by decide)
@[simp] theorem sz10 : 10 ≤ sizeLine := sizeLine_big (by decide)
@[simp] theorem sz11 : 11 ≤ sizeLine := sizeLine_big (by decide)
@[simp] theorem sz12 : 12 ≤ sizeLine := sizeLine_big (by decide)
@[simp] theorem sz13 : 13 ≤ sizeLine := sizeLine_big (by decide)
@[simp] theorem sz14 : 14 ≤ sizeLine := sizeLine_big (by decide)
@[simp] theorem sz15 : 15 ≤ sizeLine := sizeLine_big (by decide)
@[simp] theorem sz16 : 16 ≤ sizeLine := sizeLine_big (by decide)
def t2 (x : Int × Int) : D := .tup [.int x.1, .int x.2]
@[simp] theorem t2_imm (x : Int × Int) : (t2 x).imm = true := rfl
@[simp] theorem t2_isi (x : Int × Int) : isi .tuple (t2 x) = true := rfl
@[simp] theorem t2_isOb (x : Int × Int) : isOb (t2 x) = false := rfl
@[simp] theorem t2_len (x : Int × Int) : gLen (t2 x) = .ok (.int 2) := rfl
@[simp] theorem t2_items (x : Int × Int) : itemsT (t2 x) = .ok [.int x.1, .int x.2] := rfl
@[simp] theorem t2_0 (x : Int × Int) : gIx (t2 x) (.int 0) = .ok (.int x.1) := rfl
@[simp] theorem t2_1 (x : Int × Int) : gIx (t2 x) (.int 1) = .ok (.int x.2) := rfl
theorem cutD_map {α : Type} (f : α → D) (xs : List α) (lo hi : Option Int) : cutD (xs.map f) lo hi = ((xs.drop (HT.sIx xs.length 0 lo)).take (HT.sIx xs.length xs.length hi - HT.sIx xs.length 0 lo)).map f := by simp [cutD]
theorem cutD_from {α : Type} (f : α → D) (xs : List α) (k : Nat) (h : k ≤ xs.length) : cutD (xs.map f) (some (k : Int)) none = (xs.drop k).map f := by
  rw [cutD_map, HT.sIx_nat, HT.sIx_none, Nat.min_eq_left h, List.take_of_length_le (by simp)]
theorem cutD_to {α : Type} (f : α → D) (xs : List α) (k : Nat) (h : k ≤ xs.length) : cutD (xs.map f) none (some (k : Int)) = (xs.take k).map f := by
  rw [cutD_map, HT.sIx_nat, HT.sIx_none, Nat.min_eq_left h]; simp
theorem lc_run {α : Type} {t : Nat → D → Mir.Env → Res Mir.Env} {me : Mir.Env → Res D} {mt : Mir.Env → Res Bool} {env : Mir.Env} (enc : α → D) (p : α → Bool) (f : α → D) : ∀ xs : List α, (∀ a ∈ xs, ∃ e1, t 0 (enc a) env = .ok e1 ∧ mt e1 = .ok (p a) ∧ (p a = true → me e1 = .ok (f a))) → lcLoop t mt me env (xs.map enc) = .ok ((xs.filter p).map f)
  | [], _ => rfl
  | x :: xs, h => by
    obtain ⟨e1, h1, h2, h3⟩ := h x List.mem_cons_self
    have ih := lc_run enc p f xs fun a ha => h a (List.mem_cons_of_mem _ ha)
    rw [List.filter_cons]
    simp only [List.map_cons, lcLoop, h1, ok_bind, h2]
    cases hp : p x with
    | true => simp [h3 hp, ih]
    | false => simp [ih]
theorem lc_all {α : Type} {t : Nat → D → Mir.Env → Res Mir.Env} {me : Mir.Env → Res D} {env : Mir.Env} (enc : α → D) (f : α → D) (xs : List α) (h : ∀ a ∈ xs, (t 0 (enc a) env >>= me) = .ok (f a)) : lcLoop t (fun _ => .ok true) me env (xs.map enc) = .ok (xs.map f) := by
  have := lc_run (mt := fun _ => .ok true) (me := me) (t := t) (env := env) enc (fun _ => true) f xs fun a ha => by
    obtain ⟨e1, h1, h2⟩ := bind_ok (h a ha)
    exact ⟨e1, h1, rfl, fun _ => h2⟩
  rw [this, List.filter_eq_self.mpr fun _ _ => rfl]
/-! ### loops, with what comes behind them -/
def stepc (fg : List Nat) : Ctl → Res Mir.Env
  | .nx e => .ok (clear e fg)
  | .ct e => .ok (clear e fg)
  | _ => .bad
@[simp] theorem stepc_nx (fg : List Nat) (e : Mir.Env) : stepc fg (.nx e) = .ok (clear e fg) := rfl
@[simp] theorem stepc_ct (fg : List Nat) (e : Mir.Env) : stepc fg (.ct e) = .ok (clear e fg) := rfl
theorem loop_step {t : Nat → D → Mir.Env → Res Mir.Env} {body : Mir.Env → Res Ctl} {fg : List Nat} {x : D} {xs : List D} {env env' : Mir.Env} (h : (t 0 x env >>= fun e => body e >>= stepc fg) = .ok env') : loop t body fg (x :: xs) env = loop t body fg xs env' := by
  obtain ⟨e1, h1, h2⟩ := bind_ok h
  obtain ⟨c, h3, h4⟩ := bind_ok h2
  show (t 0 x env >>= fun e1 => body e1 >>= fun c => match c with | .nx e => loop t body fg xs (clear e fg) | .ct e => loop t body fg xs (clear e fg) | .bk e => .ok (.nx (clear e fg)) | .rt d => .ok (.rt d)) = _
  rw [h1, ok_bind, h3, ok_bind]
  cases c with
  | nx e => cases h4; rfl
  | ct e => cases h4; rfl
  | bk e => cases h4
  | rt e => cases h4
theorem loop_run {σ α : Type} {t : Nat → D → Mir.Env → Res Mir.Env} {body : Mir.Env → Res Ctl} {fg : List Nat} (mk : σ → Mir.Env) (enc : α → D) (P : Nat → σ → Prop) : ∀ (xs : List α) (n : Nat) (s : σ), P n s →
    (∀ i s a, xs[i]? = some a → P (n + i) s → ∃ s', P (n + i + 1) s' ∧ (t 0 (enc a) (mk s) >>= fun e => body e >>= stepc fg) = .ok (mk s')) → ∃ s', loop t body fg (xs.map enc) (mk s) = .ok (.nx (mk s')) ∧ P (n + xs.length) s'
  | [], n, s, p, _ => ⟨s, rfl, p⟩
  | x :: xs, n, s, p, h => by
    obtain ⟨s', p2, h1⟩ := h 0 s x rfl p
    obtain ⟨s2, q1, q2⟩ := loop_run mk enc P xs (n + 1) s' p2 fun i s a ha hp => by
      have := h (i + 1) s a (by simpa using ha) (by rw [show n + (i + 1) = n + 1 + i by omega]; exact hp)
      rw [show n + (i + 1) + 1 = n + 1 + i + 1 by omega] at this
      exact this
    exact ⟨s2, by rw [List.map_cons, loop_step h1]; exact q1, by rw [List.length_cons, show n + (xs.length + 1) = n + 1 + xs.length by omega]; exact q2⟩
/-- it is told, and Q holds of it -/
def Tells {β : Type} (r : Res β) (Q : β → Prop) : Prop := ∃ b, r = .ok b ∧ Q b
theorem Tells.eq {β : Type} {r : Res β} {b : β} (h : Tells r (· = b)) : r = .ok b := by
  obtain ⟨_, h1, rfl⟩ := h
  exact h1
theorem Tells.of {β : Type} {r : Res β} {b : β} {Q : β → Prop} (h : r = .ok b) (q : Q b) : Tells r Q := ⟨b, h, q⟩
theorem Tells.ok {β : Type} {b : β} {Q : β → Prop} (q : Q b) : Tells (.ok b) Q := ⟨b, rfl, q⟩
theorem Tells.eqI {β : Type} {r : Res β} {b : β} (h : r = .ok b) : Tells r (· = b) := ⟨b, h, rfl⟩
/-- a loop that keeps P; then what comes behind it -/
theorem loop_then {σ α β : Type} {t : Nat → D → Mir.Env → Res Mir.Env} {body : Mir.Env → Res Ctl} {fg : List Nat} {k : Ctl → Res β} {Q : β → Prop} (mk : σ → Mir.Env) (enc : α → D) (P : Nat → σ → Prop) (xs : List α) {ds : List D} {env : Mir.Env} (s : σ) (hds : ds = xs.map enc) (henv : env = mk s) (h0 : P 0 s)
    (step : ∀ i s a, xs[i]? = some a → P i s → ∃ s', P (i + 1) s' ∧ (t 0 (enc a) (mk s) >>= fun e => body e >>= stepc fg) = .ok (mk s')) (hk : ∀ s', P xs.length s' → Tells (k (.nx (mk s'))) Q) : Tells (loop t body fg ds env >>= k) Q := by
  subst hds
  subst henv
  obtain ⟨s', h1, h2⟩ := loop_run mk enc P xs 0 s h0 fun i s a ha hp => by
    rw [Nat.zero_add] at hp ⊢
    exact step i s a ha hp
  rw [Nat.zero_add] at h2
  rw [h1, ok_bind]
  exact hk s' h2
/-- .. the state reckoned by f -/
theorem loop_thenF {σ α β : Type} {t : Nat → D → Mir.Env → Res Mir.Env} {body : Mir.Env → Res Ctl} {fg : List Nat} {k : Ctl → Res β} {Q : β → Prop} (mk : σ → Mir.Env) (enc : α → D) (f : σ → α → σ) (P : Nat → σ → Prop) (xs : List α) {ds : List D} {env : Mir.Env} (s : σ) (hds : ds = xs.map enc) (henv : env = mk s) (h0 : P 0 s)
    (step : ∀ i s a, xs[i]? = some a → P i s → P (i + 1) (f s a) ∧ (t 0 (enc a) (mk s) >>= fun e => body e >>= stepc fg) = .ok (mk (f s a))) (hk : P xs.length (xs.foldl f s) → Tells (k (.nx (mk (xs.foldl f s)))) Q) : Tells (loop t body fg ds env >>= k) Q := by
  refine loop_then mk enc (fun i s' => P i s' ∧ s' = (xs.take i).foldl f s) xs s hds henv ⟨h0, rfl⟩ (fun i s1 a ha hp => ?_) fun s' hs => ?_
  · obtain ⟨hp, e⟩ := hp
    obtain ⟨h1, h2⟩ := step i s1 a ha hp
    refine ⟨f s1 a, ⟨h1, ?_⟩, h2⟩
    rw [List.take_succ, ha, e]
    simp
  · obtain ⟨h1, e⟩ := hs
    rw [List.take_length] at e
    subst e
    exact hk h1
end Mir

namespace Mir
open PySem PySem.Spec L2
section
variable {X : Cx} {e a b tg it : Expr} {m ma mb : Env → Res D} {k kr : Nat} {cs : List Nat} {pos p : Pos} {m1 : Env → Res Ctl}
/-! ### names of the module -/
theorem sc_globI {x : Str} {i : Int} (hg : Gl X x) (hm : ∃ t, X.mg x = some (.int i t)) (hd : (x == ("__debug__" : Str)) = false := by decide) : SC X (.Name x pos) (mC (.int i)) := by
  obtain ⟨t, ht⟩ := hm
  exact sc_of (pe_glob (v := .int i) hg ht ⟨t, rfl⟩ hd) (fun _ => .int i) rfl
theorem sc_globS {x y : Str} (hg : Gl X x) (hm : ∃ t, X.mg x = some (.str y t)) (hd : (x == ("__debug__" : Str)) = false := by decide) : SC X (.Name x pos) (mC (.str y)) := by
  obtain ⟨t, ht⟩ := hm
  exact sc_of (pe_glob (v := .str y) hg ht ⟨t, rfl⟩ hd) (fun _ => .str y) rfl

/-! ### while -/
def wloop (t : Env → Res Bool) (body : Env → Res Ctl) (fg : List Nat) : Nat → Env → Res Ctl
  | 0, _ => .bad
  | n + 1, env => t env >>= fun b => if b then body env >>= fun c => match c with
      | .nx e => wloop t body fg n (clear e fg)
      | .ct e => wloop t body fg n (clear e fg)
      | .bk e => .ok (.nx (clear e fg))
      | .rt d => .ok (.rt d)
    else .ok (.nx env)
theorem s_while {c : Expr} {body : List Stmt} {t : Env → Res Bool} {fg : List Nat} {n : Nat} (hp : PassesOwn (model X.prog X.w) X.A X.env X.xe) (hc : ST X c t) (hb : SS X kr body m1) : S1 X kr (.While c body [] pos) (fun env => wloop t m1 fg n env) := fun B H env σ tm D r ok hm p => by
  refine wS_of (ps_while hp pt_sem pss_sem) ?_
  refine ⟨fun m σ H => ∃ env, EnvOk B H env σ tm ∧ wloop t m1 fg m env = .ok r, ⟨n, env, ok, hm⟩, ?_⟩
  rintro m σ2 H2 ⟨env2, ok2, hr⟩
  cases m with
  | zero => cases hr
  | succ m =>
    obtain ⟨b, hb', h2⟩ := bind_ok hr
    refine hc B H2 env2 σ2 tm b _ ok2 hb' fun H3 x3 ok3 => ?_
    cases b with
    | false =>
      cases h2
      exact p σ2 H3 ok3
    | true =>
      rw [if_pos rfl] at h2 ⊢
      obtain ⟨c', h5, h6⟩ := bind_ok h2
      refine ⟨fun σ' H' => ∃ env, EnvOk B H' env σ' tm ∧ wloop t m1 fg m env = .ok r, fun σ' H' h => ⟨m, by omega, h⟩, ?_⟩
      refine hb B H3 env2 σ2 tm _ c' ok3 h5 ?_
      cases c' with
      | nx e => exact fun σ5 H5 ok5 => ⟨_, ok5.clear fg, h6⟩
      | ct e => exact fun σ5 H5 ok5 => ⟨_, ok5.clear fg, h6⟩
      | bk e =>
        cases h6
        exact fun σ5 H5 ok5 => p σ5 H5 (ok5.clear fg)
      | rt d' =>
        cases h6
        exact p

/-! ### sum of whole numbers -/
def intsD? : List D → Option (List Int)
  | [] => some []
  | .int i :: ds => (intsD? ds).map fun is => i :: is
  | _ :: _ => none
/-! ### enumerate, zip -/
def zipD : List D → List D → List D
  | d :: ds, e :: es => .tup [d, e] :: zipD ds es
  | _, _ => []
theorem zipD_len : ∀ (ds es : List D), (zipD ds es).length = min ds.length es.length
  | [], _ => by simp [zipD]
  | _ :: _, [] => by simp [zipD]
  | _ :: ds, _ :: es => by simp [zipD, zipD_len ds es]
theorem zipD_get : ∀ (ds es : List D) (i : Nat) (d e : D), ds[i]? = some d → es[i]? = some e → (zipD ds es)[i]? = some (.tup [d, e])
  | d :: ds, e :: es, 0, _, _, h, h' => by cases h; cases h'; rfl
  | d :: ds, e :: es, i + 1, x, y, h, h' => by
    have := zipD_get ds es i x y (by simpa using h) (by simpa using h')
    simpa [zipD] using this
theorem si_zip {elts : List Expr} {kk : Nat} {tpos : Pos} {it2 : Expr} {m2 : Env → Res D} (hg : Gl X "zip") (hm0 : X.mg "zip" = none) (he : SE X 0 [] it m) (he2 : SE X 0 [] it2 m2) (hs : starEach [it, it2] X.env = (false, eval it X.env) :: starEach [it2] X.env := by rfl) (hs2 : starEach [it2] X.env = (false, eval it2 X.env) :: starEach [] X.env := by rfl) (hpl : (backTo pos (starEach [it2] X.env)).any (·.1) = false := by rfl) :
    SI X (.Tuple elts kk tpos) (.Call (.Name "zip" p) [it, it2] [] pos) (fun env => m env >>= itemsL >>= fun ds => m2 env >>= itemsL >>= fun es => .ok (zipD ds es)) := fun B H env σ tm ds R ok hm q => by
  obtain ⟨ds0, hd0, h3⟩ := bind_ok hm
  obtain ⟨d, hd, h2⟩ := bind_ok hd0
  obtain ⟨es0, he0, h5⟩ := bind_ok h3
  obtain ⟨d2, hd2, h4⟩ := bind_ok he0
  cases h5
  unfold itemsL at h2 h4
  split at h2
  · split at h4
    · rename_i xs _ ys
      cases h2
      cases h4
      refine wI_of (pi_zip hg hm0 (pa_cons pe_sem (pa_cons pe_sem pa_nil hs2) hs) hs hpl) (he B H env σ tm _ _ ok hd fun v H1 x1 ok1 => he2 B H1 env σ ((v, 0, .lst ds0) :: tm) _ _ ok1 hd2 fun u H2 x2 ok2 => ?_)
      have r1 := (ok2.perm (List.Perm.swap _ _ _)).rp
      have r2 := ok2.rp
      cases r1 with
      | @lst a vs _ hv ra =>
        cases r2 with
        | @lst b ws _ hw rb =>
          refine ⟨a, b, vs, ws, rfl, .inl (view_rd hv), .inl (view_rd hw), q _ H2 [(.ref b, 0, .lst es0), (.ref a, 0, .lst ds0)] (x1.trans x2) ok2 fun i H3 env3 σ3 tm3 ok3 => ?_⟩
          have ok3s := ok3.perm (List.Perm.swap _ _ _)
          have s1 := EnvOk.rp ok3s
          have s2 := EnvOk.rp ok3
          cases s1 with
          | @lst _ vs2 _ hv2 ra2 =>
            cases s2 with
            | @lst _ ws2 _ hw2 rb2 =>
              have sv : SqL X.K H3 a vs2 := .inl (view_rd hv2)
              have sw : SqL X.K H3 b ws2 := .inl (view_rd hw2)
              have l1 := ra2.length
              have l2 := rb2.length
              rw [zipD_len]
              refine ⟨fun ei => ⟨vs2, ws2, sv, sw, by omega⟩, fun hi => ?_⟩
              have hi1 : i < ds0.length := by omega
              have hi2 : i < es0.length := by omega
              obtain ⟨x, hx, rx⟩ := ra2.get (List.getElem?_eq_getElem hi1)
              obtain ⟨y, hy, ry⟩ := rb2.get (List.getElem?_eq_getElem hi2)
              refine ⟨⟨vs2, ws2, x, y, sv, sw, hx, hy⟩, fun z H4 hz => ?_⟩
              obtain ⟨T, x', y', rfl, hT, rfl, hx', hy'⟩ := hz
              have ex : x' = x := Option.some.inj ((hx' vs2 sv).symm.trans hx)
              have ey : y' = y := Option.some.inj ((hy' ws2 sw).symm.trans hy)
              subst ex
              subst ey
              have ok4 : EnvOk B H3 env3 σ3 ((y', 0, es0[i]) :: (.ref b, 0, .lst es0) :: (.ref a, 0, .lst ds0) :: tm3) := EnvOk.item ok3 (.inl rfl) rfl (.inl hw2) hy (List.getElem?_eq_getElem hi2)
              have ok5 : EnvOk B H3 env3 σ3 ((.ref a, 0, .lst ds0) :: (y', 0, es0[i]) :: (.ref b, 0, .lst es0) :: tm3) := ok4.perm ((List.Perm.cons _ (List.Perm.swap _ _ _)).trans (List.Perm.swap _ _ _))
              have ok6 := EnvOk.item ok5 (.inl rfl) rfl (.inl hv2) hx (List.getElem?_eq_getElem hi1)
              have ok7 : EnvOk B H3 env3 σ3 (lev 0 [x', y'] [ds0[i], es0[i]] ++ ((.ref b, 0, .lst es0) :: (.ref a, 0, .lst ds0) :: tm3)) := by
                refine ok6.perm ?_
                show ((x', 0, ds0[i]) :: (V.ref a, 0, D.lst ds0) :: (y', 0, es0[i]) :: (V.ref b, 0, D.lst es0) :: tm3).Perm ((x', 0, ds0[i]) :: (y', 0, es0[i]) :: (V.ref b, 0, D.lst es0) :: (V.ref a, 0, D.lst ds0) :: tm3)
                exact List.Perm.cons _ ((List.Perm.swap _ _ _).trans (List.Perm.cons _ (List.Perm.swap _ _ _)))
              have ok8 := ok7.newTup rfl hT
              exact ⟨_, zipD_get _ _ i _ _ (List.getElem?_eq_getElem hi1) (List.getElem?_eq_getElem hi2), Ext.upd hT, ok8.freeze⟩
    · cases h4
  · cases h2
end
end Mir

namespace Mir
open PySem PySem.Spec L2
section
variable {X : Cx} {e a b o i : Expr} {m ma mb mi mv : Env → Res D} {k kr : Nat} {cs : List Nat} {pos p : Pos} {m1 : Env → Res Ctl}
/-! ### [..] * n -/
/-! ### x[i] = e -/
def mPutI (j k : Nat) (cs : List Nat) (mv mi : Env → Res D) : Env → Res Ctl := fun env => mv env >>= fun d => mi (clear env cs) >>= fun y => atL (clear env cs) j (k + 1) >>= fun ds => match y with
  | .int n => (match ixN ds.length n with | some jj => .ok (.nx ((clear env cs).set j (some (k + 1, .lst (ds.set jj d))))) | none => .bad)
  | _ => .bad
theorem ixN_lt {n : Nat} {i : Int} {j : Nat} (h : ixN n i = some j) : j < n := by
  unfold ixN at h
  split at h
  · split at h
    · cases h; omega
    · cases h
  · split at h
    · cases h; omega
    · cases h
/-- one of a list's things, and the others -/
theorem lev_one {k : Nat} : ∀ {vs : List V} {ds : List Mir.D} {jj : Nat} {v : V} {d : Mir.D}, vs.length = ds.length → vs[jj]? = some v → ds[jj]? = some d → ∃ l, (lev k vs ds).Perm ((v, k, d) :: l) ∧ ∀ w e, (lev k (vs.set jj w) (ds.set jj e)).Perm ((w, k, e) :: l)
  | [], ds, jj, v, d, _, h, _ => by simp at h
  | x :: vs, [], jj, v, d, hl, _, _ => by simp at hl
  | x :: vs, y :: ds, 0, v, d, hl, h, h' => by
    cases h; cases h'
    exact ⟨lev k vs ds, .refl _, fun _ _ => .refl _⟩
  | x :: vs, y :: ds, jj + 1, v, d, hl, h, h' => by
    obtain ⟨l, h1, h2⟩ := lev_one (k := k) (vs := vs) (ds := ds) (jj := jj) (by simpa using hl) (by simpa using h) (by simpa using h')
    exact ⟨(x, k, y) :: l, (h1.cons _).trans (.swap _ _ _), fun w e => ((h2 w e).cons _).trans (.swap _ _ _)⟩
/-- x[i][j] = e, e without lists, dicts -/
def mPutII (j k : Nat) (mv mi mj : Env → Res D) : Env → Res Ctl := fun env => mv env >>= fun d => mi env >>= fun y => mj env >>= fun z => atL env j (k + 2) >>= fun ds => match y, z with
  | .int n, .int n2 => (match ixN ds.length n with
    | some jj => (match ds[jj]? with
      | some (.lst es) => (match ixN es.length n2 with
        | some j2 => if d.imm = true then .ok (.nx (env.set j (some (k + 2, .lst (ds.set jj (.lst (es.set j2 d))))))) else .bad
        | none => .bad)
      | _ => .bad)
    | none => .bad)
  | _, _ => .bad
end
end Mir

namespace Mir
open PySem PySem.Spec L2
/-! ### a list's item is taken by a name and changed: x = xs[i]; x.insert(p, v) -/
def Bs.lent (B : Bs) (q : Addr) (o : HO) : Bs := ⟨upd B.h q o, fun a => if a = q then none else B.g a⟩
section
variable {B : Bs} {H : Hp} {env : Env} {σ : St} {tm : List Hold} {k : Nat} {vs : List V} {ds : List D} {q : Addr}
theorem EnvOk.lend (h : EnvOk B H env σ ((.ref q, k + 1, .lst ds) :: tm)) : ∃ vs, H q = some (.lst vs) ∧ vs.length = ds.length ∧ B q = none ∧ EnvOk (B.lent q (.lst vs)) H env σ (lev k vs ds ++ tm) := by
  have h2 := h.len
  have h3 := h.has
  obtain ⟨G, f, g, hg, hf, hr, nd, hq⟩ := EnvOk.apart (l := [(.ref q, k + 1, D.lst ds)]) h
  cases hf with
  | @cons _ _ _ _ f1 g1 h1 hn =>
    cases hn
    have len : ∀ {k : Nat} {f : List Addr} {vs : List V} {ds : List D}, OdAll G H k f vs ds → vs.length = ds.length := fun {k f vs ds} r => by
      induction vs generalizing ds f with
      | nil => cases r; rfl
      | cons v vs ih => cases r with | cons _ r => simp [ih r]
    rw [List.append_nil] at nd hq
    cases h1 with
    | sh hz r => rcases hz with hz | hz
                 · cases hz
                 · simp [D.imm] at hz
    | @lst _ _ vs _ f2 e r =>
      have hq0 := hq q (List.mem_append_left _ List.mem_cons_self)
      refine ⟨vs, e, len r, hq0.1, ?_⟩
      rw [List.cons_append] at nd hq
      obtain ⟨nd1, nd2⟩ := List.nodup_cons.mp nd
      have hv : HoldAll G H (lev k vs ds ++ []) (f2 ++ []) := HoldAll.ofAll r .nil
      rw [List.append_nil, List.append_nil] at hv
      refine EnvOk.join h2 h3 ⟨fun a o ha => ?_, fun a ha => ?_, hg.gs, hg.gt, hg.nf⟩ hv hr nd2 fun p hm => ⟨?_, (hq p (List.mem_cons_of_mem _ hm)).2⟩
      · have ha' : upd B.h q (.lst vs) a = some o := ha
        by_cases z : a = q
        · subst z; rw [upd_same] at ha'; rw [← ha']; exact e
        · rw [upd_ne z] at ha'; exact hg.bs a o ha'
      · show G a = if a = q then none else B.g a
        by_cases z : a = q
        · subst z; rw [if_pos rfl]; exact hq0.2
        · rw [if_neg z]
          refine hg.g0 a fun z2 => ha ?_
          show upd B.h q (.lst vs) a = none
          rw [upd_ne z]; exact z2
      · have hp : p ≠ q := fun z => nd1 (z ▸ hm)
        show upd B.h q (.lst vs) p = none
        rw [upd_ne hp]; exact (hq p (List.mem_cons_of_mem _ hm)).1
theorem EnvOk.unlend (h : EnvOk (B.lent q (.lst vs)) H env σ (lev k vs ds ++ tm)) (hb : B q = none) (hl : vs.length = ds.length) : H q = some (.lst vs) ∧ EnvOk B H env σ ((.ref q, k + 1, .lst ds) :: tm) := by
  have h2 := h.len
  have h3 := h.has
  obtain ⟨G, f, g, hg, hf, hr, nd, hq⟩ := h.apart
  have hBq : (B.lent q (.lst vs)) q = some (.lst vs) := upd_same
  have hHq := hg.bs q _ hBq
  refine ⟨hHq, ?_⟩
  have hGq : G q = none := by
    have := hg.g0 q (by rw [hBq]; simp)
    rw [this]
    exact if_pos rfl
  have hf' : HoldAll G H (lev k vs ds ++ []) f := by rw [List.append_nil]; exact hf
  obtain ⟨f1, f2, e, ha, hn⟩ := HoldAll.toAll hl hf'
  cases hn
  rw [List.append_nil] at e
  subst e
  refine EnvOk.join (l := [(.ref q, k + 1, .lst ds)]) (f := (q :: f) ++ []) (g := g) h2 h3 ⟨fun a o ha => ?_, fun a ha => ?_, hg.gs, hg.gt, hg.nf⟩ (.cons (.lst hHq ha) .nil) hr ?_ ?_
  · have z : a ≠ q := fun z => by rw [z, hb] at ha; cases ha
    exact hg.bs a o (show upd B.h q (.lst vs) a = some o by rw [upd_ne z]; exact ha)
  · have z : a ≠ q := fun z => by rw [z] at ha; exact ha hb
    have := hg.g0 a (fun z2 => ha (by have z3 : upd B.h q (.lst vs) a = none := z2; rw [upd_ne z] at z3; exact z3))
    rw [this]
    exact if_neg z
  · rw [List.append_nil, List.cons_append]
    refine List.nodup_cons.mpr ⟨fun m => ?_, nd⟩
    have := (hq q m).1
    rw [hBq] at this; cases this
  · rw [List.append_nil, List.cons_append]
    intro p m
    rcases List.mem_cons.mp m with z | m
    · subst z; exact ⟨hb, hGq⟩
    · have z : p ≠ q := fun z => by rw [z] at m; have := (hq q m).1; rw [hBq] at this; cases this
      have h6 := hq p m
      refine ⟨?_, h6.2⟩
      have h7 : upd B.h q (.lst vs) p = none := h6.1
      rw [upd_ne z] at h7; exact h7
end
section
variable {X : Cx} {e ep o ix o2 : Expr} {mi mp mv : Env → Res D} {k kr : Nat} {pos p pos' pos2 spos apos cpos spos2 : Pos} {mr : Env → Res Ctl} {rest : List Stmt} {x : Str}
end
end Mir

namespace Mir
open PySem PySem.Spec L2
/-! ### sorted, of data that are alike -/
def dLe (a b : PyData) : Bool := !PySem.W.dataLt b a
def isTup1 : PyData → Bool
  | .tuple (_ :: _) => true
  | _ => false
def isOther : PyData → Bool
  | .none => false
  | .tuple _ => false
  | _ => true
def sortB (xs : List PyData) : Bool := xs.all isTup1 || xs.all isOther
theorem sortB_iff {xs : List PyData} (h : sortB xs = true) : PySem.W.Sortable xs := by
  unfold sortB at h
  rw [Bool.or_eq_true, List.all_eq_true, List.all_eq_true] at h
  rcases h with h | h
  · refine .inl fun d hd => ?_
    have := h d hd
    cases d with
    | tuple ys =>
      cases ys with
      | nil => cases this
      | cons y ys => exact ⟨y, ys, rfl⟩
    | _ => cases this
  · refine .inr fun d hd => ?_
    have := h d hd
    cases d with
    | none => cases this
    | tuple ys => cases this
    | _ => exact ⟨(fun z => nomatch z), (fun _ z => nomatch z)⟩
def sortable (ds : List D) : Bool := PyData.canLayAll0 (pyAll ds) && alikeB (pyAll ds) && sortB (pyAll ds) && decide (PyData.depthAll (pyAll ds) ≤ 60)
def srt (ds : List D) : List D := ds.mergeSort fun a b => dLe a.py b.py
abbrev VD := V × D
def srtP (l : List VD) : List VD := l.mergeSort fun a b => dLe a.2.py b.2.py
theorem srtP_snd (l : List VD) : (srtP l).map (·.2) = srt (l.map (·.2)) := List.map_mergeSort (f := fun p : VD => p.2) (r := fun a b : VD => dLe a.2.py b.2.py) (s := fun a b : D => dLe a.py b.py) (l := l) fun a _ b _ => rfl
theorem srtP_perm (l : List VD) : (srtP l).Perm l := List.mergeSort_perm _ _
def rSortDat (K : PySem.W.Frag) : List V → Hp → VK → Prop := fun xs H Q => ∃ (a : Addr) (l : List VD), xs = [.ref a] ∧ SqL K H a (l.map (·.1)) ∧ DpAll K H (l.map (·.1)) (pyAll (l.map (·.2))) ∧ alikeB (pyAll (l.map (·.2))) = true ∧ sortB (pyAll (l.map (·.2))) = true ∧ PyData.depthAll (pyAll (l.map (·.2))) ≤ 60 ∧
  ∀ p, H p = none → Q (.ref p) (upd H p (.lst ((srtP l).map (·.1))))
theorem each_of {l : List VD} : ∀ {us : List Value}, Vals (l.map (·.1)) us → PySem.W.EachIs (fun (v : Value) (p : VD) => RelV p.1 v) us l := by
  induction l with
  | nil => intro us r; cases r; exact .nil
  | cons p l ih => intro us r; cases r with | cons h r => exact .cons h (ih r)
theorem vals_of_each {l : List VD} : ∀ {us : List Value}, PySem.W.EachIs (fun (v : Value) (p : VD) => RelV p.1 v) us l → Vals (l.map (·.1)) us := by
  induction l with
  | nil => intro us r; cases r; exact .nil
  | cons p l ih => intro us r; cases r with | cons h r => exact .cons h (ih r)
theorem depthAll_mem {xs : List PyData} {d : PyData} (h : d ∈ xs) : d.depth ≤ PyData.depthAll xs := by
  induction xs with
  | nil => cases h
  | cons x xs ih =>
    simp only [PyData.depthAll]
    rcases List.mem_cons.mp h with rfl | h
    · exact Nat.le_max_left _ _
    · exact Nat.le_trans (ih h) (Nat.le_max_right _ _)
theorem cr_sortedDat {X : Cx} (hu : X.A.units + 65 < cLine) : CallR X (.builtin "sorted") (rSortDat X.K) := by
  intro pins s σ H xs us Q I r h
  obtain ⟨a, l, rfl, hs, hd, hal, hso, hdep, q⟩ := h
  obtain ⟨its, rv, hl, hz⟩ := I.list hs
  rw [Vals.ref1 r]
  obtain ⟨as, hr⟩ := Dp.readsAll I _ _ its hd rv
  have ep : pyAll (l.map (·.2)) = l.map fun p => p.2.py := by rw [pyAll_map, List.map_map]; rfl
  rw [ep] at hr hal hso hdep
  refine PySem.W.sorted_data (R := fun (v : Value) (p : VD) => RelV p.1 v) (bs := l) (enc := fun p => p.2.py) hl.isList (each_of rv) (PySem.W.readsAll_each (fun p : VD => p.2.py) hr) (fun d h1 d' h2 => (alikeB_iff hal).1 d h1 d' h2) (sortB_iff hso) (by rw [← List.length_map (f := fun p : VD => p.1)]; exact hz) (fun b hb => ?_) fun out ho eo => ?_
  · have := depthAll_mem (List.mem_map_of_mem (f := fun p : VD => p.2.py) hb)
    omega
  · rw [show PySem.W.dataLe false (fun p : VD => p.2.py) = (fun a b => dLe a.2.py b.2.py) from PySem.W.dataLe_eq false _] at eo
    obtain ⟨e, he'⟩ := PyProof.Rows.sortedAll_at s.heap its (List.toArray out)
    have hlen : ((srtP l).map (·.1)).length ≤ sizeLine := by
      rw [List.length_map, (srtP_perm l).length_eq]
      rw [List.length_map] at hz
      exact hz
    exact ⟨.ref _, upd H (s.heap.objs.size + 1) (.lst ((srtP l).map (·.1))), I.laid (t' := s.toks) (fun _ _ => PyProof.Rows.sortedAll_old) (Nat.le_succ _) ⟨hlen, out, e, vals_of_each eo, he'⟩, rfl, q _ (I.hok.fresh (Nat.le_succ _))⟩
theorem zip_fst {vs : List V} {ds : List D} (h : vs.length = ds.length) : (vs.zip ds).map (·.1) = vs := List.map_fst_zip (by omega)
theorem zip_snd {vs : List V} {ds : List D} (h : vs.length = ds.length) : (vs.zip ds).map (·.2) = ds := List.map_snd_zip (by omega)
theorem lev_map {k : Nat} : ∀ l : List VD, lev k (l.map (·.1)) (l.map (·.2)) = l.map fun p => (p.1, k, p.2)
  | [] => rfl
  | p :: l => congrArg (List.cons _) (lev_map l)
def gSort (d : D) : Res D := match d with
  | .lst ds => if sortable ds = true then .ok (.lst (srt ds)) else .bad
  | _ => .bad
section
variable {X : Cx} {e : Expr} {m : Env → Res D} {k : Nat} {cs : List Nat} {pos p : Pos}
theorem EnvOk.open1 {B : Bs} {H : Hp} {env : Env} {σ : St} {tm : List Hold} {ds : List D} {q : Addr} (h : EnvOk B H env σ ((.ref q, k + 1, .lst ds) :: tm)) : ∃ vs, H q = some (.lst vs) ∧ vs.length = ds.length ∧ EnvOk B H env σ (lev k vs ds ++ tm) := by
  obtain ⟨vs, h1, h2, h3, h4⟩ := h.lend
  refine ⟨vs, h1, h2, ?_⟩
  have h5 := h4.len
  have h6 := h4.has
  obtain ⟨G, f, g, hg, hf, hr, nd, hq⟩ := h4.apart
  have hb : ∀ a o, B a = some o → H a = some o := fun a o ha => by
    have z : a ≠ q := fun z => by rw [z, h3] at ha; cases ha
    exact hg.bs a o (show upd B.h q (.lst vs) a = some o by rw [upd_ne z]; exact ha)
  refine EnvOk.join h5 h6 ⟨hb, fun a ha => ?_, hg.gs, hg.gt, hg.nf⟩ hf hr nd fun p hm => ⟨?_, (hq p hm).2⟩
  · have z : a ≠ q := fun z => by rw [z] at ha; exact ha h3
    have := hg.g0 a (fun z2 => ha (by have z3 : upd B.h q (.lst vs) a = none := z2; rw [upd_ne z] at z3; exact z3))
    rw [this]
    exact if_neg z
  · have z : p ≠ q := fun z => by
      have := (hq p hm).1
      rw [z] at this
      have e : (B.lent q (.lst vs)) q = some (.lst vs) := upd_same
      rw [e] at this; cases this
    have h7 : upd B.h q (.lst vs) p = none := (hq p hm).1
    rw [upd_ne z] at h7; exact h7
/-- sorted(xs), xs a list of things without lists, dicts -/
theorem se_sortB (hu : X.A.units + 65 < cLine) (hg : Gl X "sorted") (hm0 : X.mg "sorted" = none) (h : SB X e m) (he : starEach [e] X.env = (false, eval e X.env) :: starEach [] X.env := by rfl) (hpl : (backTo pos (starEach [] X.env)).any (·.1) = false := by rfl) : SE X (k + 1) [] (.Call (.Name "sorted" p) [e] [] pos) (fun env => m env >>= itemsL >>= immL >>= fun ds => gSort (.lst ds)) := fun B H env σ tm d Q ok hm q => by
  obtain ⟨ds, h1, h2⟩ := bind_ok hm
  obtain ⟨ds', h1, h3⟩ := bind_ok h1
  obtain ⟨x, hx, h4⟩ := bind_ok h1
  unfold immL at h3
  split at h3
  · rename_i him
    cases h3
    unfold itemsL at h4
    split at h4
    · cases h4
      unfold gSort at h2
      dsimp only at h2
      split at h2
      · rename_i hs
        cases h2
        unfold sortable at hs
        simp only [Bool.and_eq_true, decide_eq_true_eq] at hs
        obtain ⟨⟨⟨s1, s2⟩, s3⟩, s4⟩ := hs
        refine wE_of (pe_callB (cr_sortedDat hu) hg hm0 (by decide +kernel) (pa_cons pe_sem pa_nil he) (by decide) (by decide) he hpl) (h B H env σ tm _ _ ok hx fun v H1 x1 ok1 r => ?_)
        cases r with
        | @lst a vs _ hv ra =>
          have hl := ra.length
          have e2 := zip_snd hl
          refine ⟨a, vs.zip ds, rfl, by rw [zip_fst hl]; exact .inl (view_rd hv), by rw [zip_fst hl, e2]; exact ra.dp s1, by rw [e2]; exact s2, by rw [e2]; exact s3, by rw [e2]; exact s4, fun p hp => ?_⟩
          have ok2 := ok1.levs (k := k) ra him
          have ok3 : EnvOk B H1 env σ (lev k ((srtP (vs.zip ds)).map (·.1)) ((srtP (vs.zip ds)).map (·.2)) ++ tm) := by
            refine ok2.perm (List.Perm.append_right _ ?_)
            have := lev_map (k := k) (vs.zip ds)
            rw [zip_fst hl, e2] at this
            rw [this, lev_map]
            exact ((srtP_perm _).map _).symm
          have ok4 := ok3.newLst (by simp) hp
          rw [srtP_snd, e2] at ok4
          exact q _ _ (x1.trans (Ext.upd hp)) ok4
      · cases h2
    · cases h4
  · cases h3
end
/-! what it is, for data with a Lean type -/
section
variable {α : Type} [DecidableEq α] [Dat α]
def sorted (xs : List α) : List α := xs.mergeSort fun a b => !Dat.lt b a
theorem srt_enc (xs : List α) : srt (xs.map Dat.enc) = (sorted xs).map Dat.enc := by
  unfold srt sorted
  refine (List.map_mergeSort (f := Dat.enc) (l := xs) fun a _ b _ => ?_).symm
  unfold dLe
  rw [Dat.dlt]
theorem sorted_perm (xs : List α) : (sorted xs).Perm xs := List.mergeSort_perm _ _
theorem sorted_pw (xs : List α) : (sorted xs).Pairwise fun a b => Dat.lt b a = false := by
  have := List.pairwise_mergeSort (le := fun a b : α => !Dat.lt b a) (fun a b c h1 h2 => ?_) (fun a b => ?_) xs
  · exact this.imp fun h => by simpa using h
  · simp only [Bool.not_eq_true'] at *
    cases h : Dat.lt c a with
    | false => rfl
    | true =>
      cases h3 : Dat.lt b c with
      | true => have := Dat.tr _ _ _ h3 h; rw [this] at h1; cases h1
      | false =>
        have := Dat.tot c b h2 h3
        subst this
        rw [h] at h1; cases h1
  · cases h : Dat.lt b a with
    | false => simp
    | true => simp [Dat.asy _ _ h]
theorem sorted_uniq {xs ys : List α} (h : xs.Perm ys) (h1 : xs.Pairwise fun a b => Dat.lt b a = false) (h2 : ys.Pairwise fun a b => Dat.lt b a = false) : xs = ys := by
  induction xs generalizing ys with
  | nil => exact h.nil_eq
  | cons x xs ih =>
    cases ys with
    | nil => exact h.symm.nil_eq.symm
    | cons y ys =>
      have p1 := List.pairwise_cons.mp h1
      have p2 := List.pairwise_cons.mp h2
      have e : x = y := by
        have m1 := h.mem_iff.mp (List.mem_cons_self (a := x) (l := xs))
        have m2 := h.mem_iff.mpr (List.mem_cons_self (a := y) (l := ys))
        rcases List.mem_cons.mp m1 with e | m1
        · exact e
        · rcases List.mem_cons.mp m2 with e | m2
          · exact e.symm
          · exact Dat.tot x y (p2.1 x m1) (p1.1 y m2)
      subst e
      rw [ih h.cons_inv p1.2 p2.2]
theorem gSort_enc (xs : List α) (h : Dat.dep α ≤ 60) (hs : sortB (pyAll (xs.map (Dat.enc (α := α)))) = true) : gSort (.lst (xs.map Dat.enc)) = .ok (.lst ((sorted xs).map Dat.enc)) := by
  unfold gSort sortable
  dsimp only
  rw [layAll_enc, alikeB_enc, hs, if_pos (by simpa using Nat.le_trans (depthAll_enc xs) h), srt_enc]
end
theorem sortB_int (xs : List Int) : sortB (pyAll (xs.map D.int)) = true := by
  unfold sortB
  rw [pyAll_map, List.map_map, Bool.or_eq_true]
  right
  rw [List.all_eq_true]
  intro d hd
  obtain ⟨x, _, rfl⟩ := List.mem_map.mp hd
  rfl
theorem sortB_lst (xs : List (List D)) : sortB (pyAll (xs.map D.lst)) = true := by
  unfold sortB
  rw [pyAll_map, List.map_map, Bool.or_eq_true]
  right
  rw [List.all_eq_true]
  intro d hd
  obtain ⟨x, _, rfl⟩ := List.mem_map.mp hd
  rfl
theorem gSort_int (xs : List Int) : gSort (.lst (xs.map D.int)) = .ok (.lst ((sorted xs).map D.int)) := gSort_enc xs (by decide) (sortB_int xs)
end Mir

namespace Mir
open PySem PySem.Spec L2
/-! ### sorted(d), list(d): a dict's keys, be they tuples or not -/
section
variable {prog : Program} {w : World} {A : Around} {E : Value → Shared → Prop} {s : Shared}
end
/-- the keys as they stand in the heap -/
structure KeysAt (X : Cx) (H : Hp) (s : Shared) (a : Addr) (l : List VD) : Prop where
  ex : ∃ es ep, s.heap.DictRaw a es ep ∧ es.size = l.length ∧ Vals (l.map (·.1)) (es.toList.map (·.key))
  lo : (a == sysModules) = false
  few : l.length ≤ sizeLine
  rp : RpAll (view H) (l.map (·.1)) (l.map (·.2))
section
variable {X : Cx} {e : Expr} {m : Env → Res D} {k : Nat} {pos p : Pos}
end
end Mir

namespace Mir
open PySem PySem.Spec L2
@[simp] theorem e_tNil (k : Nat) (env : Mir.Env) : Mir.tNil k [] env = .ok env := rfl
@[simp] theorem e_tCons (t : Nat → D → Mir.Env → Res Mir.Env) (u : Nat → List D → Mir.Env → Res Mir.Env) (k : Nat) (d : D) (ds : List D) (env : Mir.Env) : Mir.tCons t u k (d :: ds) env = (t k d env >>= fun e => u k ds e) := rfl
@[simp] theorem e_tTupT (n : Nat) (u : Nat → List D → Mir.Env → Res Mir.Env) (k : Nat) (ds : List D) (env : Mir.Env) : tTupT n u k (.tup ds) env = if ds.length = n then u (k - 1) ds env else .bad := rfl
@[simp] theorem e_tTup2 (u : Nat → List D → Mir.Env → Res Mir.Env) (k : Nat) (x : Int × Int) (env : Mir.Env) : tTupT 2 u k (t2 x) env = u (k - 1) [.int x.1, .int x.2] env := rfl
@[simp] theorem e_tTup3 (u : Nat → List D → Mir.Env → Res Mir.Env) (k : Nat) (x : T3) (env : Mir.Env) : tTupT 3 u k (t3 x) env = u (k - 1) [.int x.a, .int x.b, .int x.c] env := rfl
/-! ### dicts with a Lean type: rows of keys and values -/
section
variable {κ β α : Type} [DecidableEq κ]
def lk (p : List (κ × β)) (k : κ) : Option β := (p.find? fun x => decide (x.1 = k)).map (·.2)
def pt (p : List (κ × β)) (k : κ) (v : β) : List (κ × β) := if k ∈ p.map (·.1) then p.map (fun x => if x.1 = k then (x.1, v) else x) else p ++ [(k, v)]
theorem lk_nil (k : κ) : lk ([] : List (κ × β)) k = none := rfl
theorem lk_cons (x : κ × β) (p : List (κ × β)) (k : κ) : lk (x :: p) k = if x.1 = k then some x.2 else lk p k := by
  unfold lk
  rw [List.find?_cons]
  by_cases e : x.1 = k <;> simp [e]
theorem lk_none {p : List (κ × β)} {k : κ} : lk p k = none ↔ k ∉ p.map (·.1) := by
  induction p with
  | nil => simp [lk]
  | cons x p ih =>
    rw [lk_cons, List.map_cons, List.mem_cons]
    by_cases e : x.1 = k
    · simp [e]
    · have e2 : ¬ k = x.1 := fun z => e z.symm
      simp [e, e2, ih]
theorem lk_mem {p : List (κ × β)} (hn : (p.map (·.1)).Nodup) {x : κ × β} (h : x ∈ p) : lk p x.1 = some x.2 := by
  induction p with
  | nil => cases h
  | cons y p ih =>
    rw [List.map_cons, List.nodup_cons] at hn
    rw [lk_cons]
    rcases List.mem_cons.mp h with e | h
    · rw [e, if_pos rfl]
    · rw [if_neg fun e : y.1 = x.1 => hn.1 (e ▸ List.mem_map_of_mem h)]
      exact ih hn.2 h
theorem lk_app (p q : List (κ × β)) (k : κ) : lk (p ++ q) k = (lk p k).or (lk q k) := by
  induction p with
  | nil => rfl
  | cons x p ih =>
    rw [List.cons_append, lk_cons, lk_cons, ih]
    split <;> rfl
theorem pt_in {p : List (κ × β)} {k : κ} (v : β) (h : k ∈ p.map (·.1)) : pt p k v = p.map fun x => if x.1 = k then (x.1, v) else x := if_pos h
theorem pt_out {p : List (κ × β)} {k : κ} (v : β) (h : k ∉ p.map (·.1)) : pt p k v = p ++ [(k, v)] := if_neg h
theorem lk_pt (p : List (κ × β)) (k : κ) (v : β) (k2 : κ) : lk (pt p k v) k2 = if k2 = k then some v else lk p k2 := by
  by_cases h : k ∈ p.map (·.1)
  · rw [pt_in v h]
    induction p with
    | nil => simp at h
    | cons x p ih =>
      rw [List.map_cons, lk_cons, lk_cons]
      by_cases e : x.1 = k
      · rw [if_pos e]
        by_cases e2 : k2 = k
        · rw [if_pos e2, if_pos (by rw [e2]; exact e)]
        · rw [if_neg e2, if_neg (by rw [e]; exact fun z => e2 z.symm), if_neg (by rw [e]; exact fun z => e2 z.symm)]
          by_cases h4 : k ∈ p.map (·.1)
          · have := ih h4
            rw [if_neg e2] at this
            exact this
          · have h5 : (p.map fun x => if x.1 = k then (x.1, v) else x) = p := by
              conv => rhs; rw [← List.map_id p]
              refine List.map_congr_left fun y hy => ?_
              rw [if_neg fun z : y.1 = k => h4 (z ▸ List.mem_map_of_mem hy)]; rfl
            rw [h5]
      · have hk2 : k ∈ p.map (·.1) := by
          rcases List.mem_cons.mp h with h | h
          · exact absurd h.symm e
          · exact h
        rw [if_neg e]
        by_cases e2 : x.1 = k2
        · rw [if_pos e2, if_pos e2, if_neg fun z => e (e2.trans z)]
        · rw [if_neg e2, if_neg e2]
          exact ih hk2
  · rw [pt_out v h, lk_app, lk_cons, lk_nil]
    by_cases e2 : k2 = k
    · subst e2
      rw [lk_none.mpr h]; simp
    · have e3 : ¬ k = k2 := fun z => e2 z.symm
      simp [e2, e3]
theorem pt_keys (p : List (κ × β)) (k : κ) (v : β) : (pt p k v).map (·.1) = if k ∈ p.map (·.1) then p.map (·.1) else p.map (·.1) ++ [k] := by
  by_cases h : k ∈ p.map (·.1)
  · rw [pt_in v h, if_pos h, List.map_map]
    refine List.map_congr_left fun x _ => ?_
    by_cases e : x.1 = k <;> simp [e]
  · rw [pt_out v h, if_neg h]; simp
theorem pt_len (p : List (κ × β)) (k : κ) (v : β) : (pt p k v).length ≤ p.length + 1 := by
  by_cases h : k ∈ p.map (·.1)
  · rw [pt_in v h]; simp
  · rw [pt_out v h]; simp
theorem pt_nodup {p : List (κ × β)} (h : (p.map (·.1)).Nodup) (k : κ) (v : β) : ((pt p k v).map (·.1)).Nodup := by
  rw [pt_keys]
  split
  · exact h
  · rename_i hk
    refine List.nodup_append.mpr ⟨h, by simp, fun a ha b hb e => ?_⟩
    rw [List.mem_singleton.mp hb] at e
    exact hk (e ▸ ha)
theorem pt_mem (p : List (κ × β)) (k : κ) (v : β) (j : κ) : j ∈ (pt p k v).map (·.1) ↔ j ∈ p.map (·.1) ∨ j = k := by
  rw [pt_keys]
  split
  · rename_i h
    exact ⟨.inl, fun z => z.elim id fun z => z ▸ h⟩
  · simp
/-- many puts -/
def pts (key : α → κ) (val : α → β) (xs : List α) (p : List (κ × β)) : List (κ × β) := xs.foldl (fun p x => pt p (key x) (val x)) p
variable {key : α → κ} {val : α → β}
theorem pts_len (xs : List α) (p : List (κ × β)) : (pts key val xs p).length ≤ p.length + xs.length := by
  unfold pts
  induction xs generalizing p with
  | nil => exact Nat.le_refl _
  | cons x xs ih =>
    have := ih (pt p (key x) (val x))
    have := pt_len p (key x) (val x)
    rw [List.foldl_cons, List.length_cons]; omega
theorem pts_nodup (xs : List α) {p : List (κ × β)} (h : (p.map (·.1)).Nodup) : ((pts key val xs p).map (·.1)).Nodup := by
  unfold pts
  induction xs generalizing p with
  | nil => exact h
  | cons x xs ih => exact ih (pt_nodup h _ _)
theorem pts_mem (xs : List α) (p : List (κ × β)) (j : κ) : j ∈ (pts key val xs p).map (·.1) ↔ j ∈ p.map (·.1) ∨ ∃ x ∈ xs, key x = j := by
  unfold pts
  induction xs generalizing p with
  | nil => simp
  | cons x xs ih =>
    rw [List.foldl_cons, ih, pt_mem]
    constructor
    · rintro ((h | h) | ⟨y, hy, h⟩)
      · exact .inl h
      · exact .inr ⟨x, List.mem_cons_self, h.symm⟩
      · exact .inr ⟨y, List.mem_cons_of_mem _ hy, h⟩
    · rintro (h | ⟨y, hy, h⟩)
      · exact .inl (.inl h)
      · rcases List.mem_cons.mp hy with e | hy
        · exact .inl (.inr (by rw [← h, e]))
        · exact .inr ⟨y, hy, h⟩
theorem pts_in (xs : List α) (p : List (κ × β)) (k : κ) (v : β) (h : ∀ x ∈ xs, key x = k → val x = v) (hx : (∃ x ∈ xs, key x = k) ∨ lk p k = some v) : lk (pts key val xs p) k = some v := by
  unfold pts
  induction xs generalizing p with
  | nil =>
    rcases hx with ⟨x, hx, _⟩ | hx
    · cases hx
    · exact hx
  | cons x xs ih =>
    rw [List.foldl_cons]
    refine ih _ (fun y hy => h y (List.mem_cons_of_mem _ hy)) ?_
    by_cases e : key x = k
    · right
      rw [lk_pt, if_pos e.symm, h x List.mem_cons_self e]
    · rcases hx with ⟨y, hy, e2⟩ | hx
      · left
        rcases List.mem_cons.mp hy with e3 | hy
        · rw [e3] at e2; exact absurd e2 e
        · exact ⟨y, hy, e2⟩
      · right
        rw [lk_pt, if_neg fun z => e z.symm]; exact hx
theorem pts_app (xs ys : List α) (p : List (κ × β)) : pts key val (xs ++ ys) p = pts key val ys (pts key val xs p) := List.foldl_append
end
/-! ### as data -/
section
variable {κ κ' β : Type} [DecidableEq κ] [DecidableEq κ'] {g : κ → κ'} (hg : ∀ a b, g a = g b → a = b) (f : β → D)
include hg
theorem dFind_map (p : List (κ × β)) (k : κ) : dFind (p.map fun x => g x.1) (p.map fun x => f x.2) (g k) = (lk p k).map f := by
  induction p with
  | nil => rfl
  | cons x p ih =>
    rw [lk_cons]
    show (if g x.1 = g k then some (f x.2) else dFind _ _ _) = _
    by_cases e : x.1 = k
    · rw [if_pos (by rw [e]), if_pos e]; rfl
    · rw [if_neg fun z => e (hg _ _ z), if_neg e, ih]
theorem g_mem (p : List (κ × β)) (k : κ) : g k ∈ (p.map fun x => g x.1) ↔ k ∈ p.map (·.1) := by
  simp only [List.mem_map]
  constructor
  · rintro ⟨x, hx, e⟩
    exact ⟨x, hx, hg _ _ e⟩
  · rintro ⟨x, hx, e⟩
    exact ⟨x, hx, by rw [e]⟩
theorem dPutD_map (p : List (κ × β)) (k : κ) (v : β) : dPutD (p.map fun x => g x.1) (p.map fun x => f x.2) (g k) (f v) = (p.map fun x => if x.1 = k then (x.1, v) else x).map fun x => f x.2 := by
  induction p with
  | nil => rfl
  | cons x p ih =>
    show (if g x.1 = g k then f v else f x.2) :: dPutD _ _ _ _ = _
    rw [ih, List.map_cons, List.map_cons]
    by_cases e : x.1 = k
    · rw [if_pos (by rw [e]), if_pos e]
    · rw [if_neg fun z => e (hg _ _ z), if_neg e]
theorem dPut_map (p : List (κ × β)) (k : κ) (v : β) : dPutK (p.map fun x => g x.1) (g k) = (pt p k v).map (fun x => g x.1) ∧ dPutV (p.map fun x => g x.1) (p.map fun x => f x.2) (g k) (f v) = (pt p k v).map fun x => f x.2 := by
  unfold dPutK dPutV
  by_cases h : k ∈ p.map (·.1)
  · rw [if_pos ((g_mem hg p k).mpr h), if_pos ((g_mem hg p k).mpr h), pt_in v h, dPutD_map hg]
    refine ⟨?_, rfl⟩
    rw [List.map_map]
    refine List.map_congr_left fun x _ => ?_
    by_cases e : x.1 = k <;> simp [e]
  · rw [if_neg fun z => h ((g_mem hg p k).mp z), if_neg fun z => h ((g_mem hg p k).mp z), pt_out v h]
    simp
end
section
variable {β : Type} (f : β → D)
def encK (p : List (Int × β)) : D := .dk (p.map fun x => .inl x.1) (p.map fun x => f x.2)
def k2 (k : Int × Int) : List Key := [.inl k.1, .inl k.2]
theorem inl_inj (a b : Int) (h : (Sum.inl a : Key) = Sum.inl b) : a = b := Sum.inl.inj h
theorem encP_K (p : Pol) : encP p = encK D.int p := rfl
theorem dGet_K (p : List (Int × β)) (k : Int) : dGet (encK f p) (.int k) = some ((lk p k).map f) := congrArg some (dFind_map (g := fun i : Int => (Sum.inl i : Key)) inl_inj f p k)
theorem dSet_K (p : List (Int × β)) (k : Int) (v : β) (h : p.length < sizeLine) : dSet (encK f p) (.int k) (f v) = .ok (encK f (pt p k v)) := by
  show (if (p.map fun x => f x.2).length < sizeLine ∧ _ then _ else _) = _
  rw [if_pos ⟨by rw [List.length_map]; exact h, by simp⟩]
  obtain ⟨h1, h2⟩ := dPut_map (g := fun i : Int => (Sum.inl i : Key)) inl_inj f p k v
  show Res.ok (D.dk _ _) = _
  rw [h1, h2]; rfl
theorem gDGet_K {p : List (Int × β)} {k : Int} {v : β} (h : lk p k = some v) : gDGet (encK f p) (.int k) = .ok (f v) := by
  unfold gDGet; rw [dGet_K, h]; rfl
theorem gDNotIn_K (p : List (Int × β)) (k : Int) : gDNotIn (.int k) (encK f p) = .ok (.bl (!(lk p k).isSome)) := by
  unfold gDNotIn; rw [dGet_K]; cases lk p k <;> rfl
theorem immAt_K (h : ∀ b, (f b).imm = true) (p : List (Int × β)) : immAt 1 (encK f p) = true := by
  show immAt 1 (.dk _ _) = true
  unfold immAt
  simp [h]
end
theorem mem_intsOf (is : List Int) : intsOf (is.map Sum.inl) = some is := by
  induction is with
  | nil => rfl
  | cons i is ih => show (intsOf (is.map Sum.inl)).map _ = _; rw [ih]; rfl
theorem gSortD_K {β : Type} (f : β → D) (p : List (Int × β)) (h : p.length < 64) : gSortD (encK f p) = .ok (.lst ((sortI (p.map (·.1))).map D.int)) := by
  have e : (p.map fun x => (Sum.inl x.1 : Key)) = (p.map (·.1)).map Sum.inl := by rw [List.map_map]; rfl
  show (match intsOf (p.map fun x => (Sum.inl x.1 : Key)) with | some is => if is.length < 64 then Res.ok (D.lst ((sortI is).map D.int)) else .bad | none => Res.bad) = _
  rw [e, mem_intsOf]
  exact if_pos (by rw [List.length_map]; exact h)
/-- drawings -/
abbrev Drw := List (List T3)
def encR (r : List T3) : D := .lst (r.map t3)
def encD (ds : Drw) : D := .lst (ds.map encR)
theorem gLt_D (a b : Drw) : gLt (encD a) (encD b) = .ok (.bl (Dat.lt a b)) := gLt_enc a b (by decide)
theorem lift_perm {α β : Type} (f : α → β) : ∀ {ys : List β} {C : List α}, ys.Perm (C.map f) → ∃ L : List α, L.Perm C ∧ L.map f = ys := by
  intro ys C h
  generalize e : C.map f = zs at h
  induction h generalizing C with
  | nil => exact ⟨C, .refl _, e⟩
  | @cons x l1 l2 _ ih =>
    cases C with
    | nil => cases e
    | cons c C =>
      injection e with e1 e2
      obtain ⟨L, h1, h2⟩ := ih e2
      exact ⟨c :: L, h1.cons c, by rw [List.map_cons, e1, h2]⟩
  | swap x y l =>
    cases C with
    | nil => cases e
    | cons c C =>
      cases C with
      | nil => injection e with _ e; cases e
      | cons d C =>
        injection e with e1 e2
        injection e2 with e2 e3
        exact ⟨d :: c :: C, .swap c d C, by rw [List.map_cons, List.map_cons, e1, e2, e3]⟩
  | trans _ _ ih1 ih2 =>
    obtain ⟨L, h1, h2⟩ := ih2 e
    obtain ⟨L2, h3, h4⟩ := ih1 h2
    exact ⟨L2, h3.trans h1, h4⟩
end Mir

namespace Mir
open PySem PySem.Spec L2
/-! ### stores, reckoned -/
def putIm (j k : Nat) (cs : List Nat) (d y : D) (ds : List D) (env : Mir.Env) : Res Ctl := match y with
  | .int n => (match ixN ds.length n with | some jj => .ok (.nx ((clear env cs).set j (some (k + 1, .lst (ds.set jj d))))) | none => .bad)
  | _ => .bad
@[simp] theorem e_mPutI (j k : Nat) (cs : List Nat) (mv mi : Mir.Env → Res D) (env : Mir.Env) : mPutI j k cs mv mi env = (mv env >>= fun d => mi (clear env cs) >>= fun y => atL (clear env cs) j (k + 1) >>= fun ds => putIm j k cs d y ds env) := rfl
theorem ixN_nat {n i : Nat} (h : i < n) : ixN n (i : Int) = some i := by
  unfold ixN
  simp [h]
def putIIm (j k : Nat) (d y z : D) (ds : List D) (env : Mir.Env) : Res Ctl := match y, z with
  | .int n, .int n2 => (match ixN ds.length n with
    | some jj => (match ds[jj]? with
      | some (.lst es) => (match ixN es.length n2 with
        | some j2 => if d.imm = true then .ok (.nx (env.set j (some (k + 2, .lst (ds.set jj (.lst (es.set j2 d))))))) else .bad
        | none => .bad)
      | _ => .bad)
    | none => .bad)
  | _, _ => .bad
@[simp] theorem e_mPutII (j k : Nat) (mv mi mj : Mir.Env → Res D) (env : Mir.Env) : mPutII j k mv mi mj env = (mv env >>= fun d => mi env >>= fun y => mj env >>= fun z => atL env j (k + 2) >>= fun ds => putIIm j k d y z ds env) := rfl
abbrev Mat := List (List Int)
def encM (T : Mat) : D := .lst (T.map fun r => .lst (r.map D.int))
/-! ### a name that is free -/
theorem nodup_sub_len {α : Type} [DecidableEq α] : ∀ {l m : List α}, l.Nodup → (∀ x ∈ l, x ∈ m) → l.length ≤ m.length
  | [], _, _, _ => Nat.zero_le _
  | x :: l, m, h, hs => by
    have h2 := List.nodup_cons.mp h
    have hx := hs x List.mem_cons_self
    have := nodup_sub_len (l := l) (m := m.erase x) h2.2 fun y hy => (List.mem_erase_of_ne fun e : y = x => h2.1 (by rw [← e]; exact hy)).mpr (hs y (List.mem_cons_of_mem _ hy))
    rw [List.length_erase_of_mem hx] at this
    have hp := List.length_pos_of_mem hx
    rw [List.length_cons]; omega
theorem wloop_succ (t : Mir.Env → Res Bool) (body : Mir.Env → Res Ctl) (fg : List Nat) (n : Nat) (env : Mir.Env) : wloop t body fg (n + 1) env = (t env >>= fun b => if b then body env >>= fun c => match c with
      | .nx e => wloop t body fg n (clear e fg)
      | .ct e => wloop t body fg n (clear e fg)
      | .bk e => .ok (.nx (clear e fg))
      | .rt d => .ok (.rt d)
    else .ok (.nx env)) := rfl
theorem gIn_int (x : Int) (xs : List Int) : gIn (.int x) (.lst (xs.map D.int)) = .ok (.bl (decide (x ∈ xs))) := gIn_enc x xs (by decide)
theorem gNotIn_int (x : Int) (xs : List Int) : gNotIn (.int x) (.lst (xs.map D.int)) = .ok (.bl (!decide (x ∈ xs))) := gNotIn_enc x xs (by decide)
end Mir

namespace Mir
open PySem PySem.Spec L2
/-! ### drawings, rows, tables: the mirror's operations -/
@[simp] theorem D_items (ds : Drw) : itemsL (encD ds) = .ok (ds.map encR) := rfl
@[simp] theorem D_len (ds : Drw) : gLen (encD ds) = .ok (.int ds.length) := by unfold encD; simp
@[simp] theorem D_isi (ds : Drw) : isi .list (encD ds) = true := rfl
@[simp] theorem D_isOb (ds : Drw) : isOb (encD ds) = false := rfl
@[simp] theorem R_items (r : List T3) : itemsL (encR r) = .ok (r.map t3) := rfl
@[simp] theorem R_len (r : List T3) : gLen (encR r) = .ok (.int r.length) := by unfold encR; simp
@[simp] theorem R_isi (r : List T3) : isi .list (encR r) = true := rfl
@[simp] theorem R_isOb (r : List T3) : isOb (encR r) = false := rfl
@[simp] theorem R_tru (r : List T3) : gTru (encR r) = .ok (!r.isEmpty) := by unfold encR; simp
@[simp] theorem M_items (T : Mat) : itemsL (encM T) = .ok (T.map fun r => .lst (r.map D.int)) := rfl
@[simp] theorem M_len (T : Mat) : gLen (encM T) = .ok (.int T.length) := by unfold encM; simp
@[simp] theorem M_isi (T : Mat) : isi .list (encM T) = true := rfl
@[simp] theorem M_isOb (T : Mat) : isOb (encM T) = false := rfl
@[simp] theorem immAt_2D (ds : Drw) : immAt 2 (encD ds) = true := by
  unfold encD
  rw [show (2 : Nat) = 1 + 1 from rfl, immAt_l]
  induction ds with
  | nil => rfl
  | cons r ds ih =>
    rw [List.map_cons, immAtL, ih]
    show (immAt 1 (.lst (r.map t3)) && true) = true
    simp
@[simp] theorem immAt_2M (T : Mat) : immAt 2 (encM T) = true := by
  unfold encM
  rw [show (2 : Nat) = 1 + 1 from rfl, immAt_l]
  induction T with
  | nil => rfl
  | cons r T ih =>
    rw [List.map_cons, immAtL, ih]
    simp
@[simp] theorem immAt_1R (r : List T3) : immAt 1 (encR r) = true := by unfold encR; simp
@[simp] theorem imm_R (r : List T3) : (encR r).imm = false := by unfold encR; simp [D.imm]
@[simp] theorem atL_M (T : Mat) (env : Mir.Env) (j k : Nat) (h : env[j]? = some (some (k, encM T))) : atL env j k = .ok (T.map fun r => .lst (r.map D.int)) := by
  unfold atL; rw [h]; simp [encM]
@[simp] theorem atL_D (ds : Drw) (env : Mir.Env) (j k : Nat) (h : env[j]? = some (some (k, encD ds))) : atL env j k = .ok (ds.map encR) := by
  unfold atL; rw [h]; simp [encD]
theorem e_mLc (mi : Mir.Env → Res (List D)) (t : Nat → D → Mir.Env → Res Mir.Env) (mt : Mir.Env → Res Bool) (me : Mir.Env → Res D) (own : List Nat) (env : Mir.Env) : mLc mi t mt me own env = (chk (noOwn own env) >>= fun _ => mi env >>= fun ds => lcLoop t mt me env ds >>= fun ys => if ys.length ≤ sizeLine then .ok (.lst ys) else .bad) := rfl
@[simp] theorem noOwn_nil (env : Mir.Env) : noOwn [] env = true := rfl
@[simp] theorem noOwn_cons (i : Nat) (is : List Nat) (env : Mir.Env) : noOwn (i :: is) env = ((match env[i]? with | some none => true | _ => false) && noOwn is env) := rfl
end Mir

namespace Mir
open PySem PySem.Spec L2
section
variable {X : Cx} {e a b tg it o elt : Expr} {m ma mb me mk mx : Env → Res D} {k kr : Nat} {cs : List Nat} {pos p p2 cpos apos cpos2 apos2 lp : Pos}
/-! ### list(range(n)) -/
/-! ### [.. for x in d.values()] -/
end
end Mir

namespace Mir
open PySem PySem.Spec L2
/-! ### d.setdefault(k, []).append(x) -/
section
variable {X : Cx} {kr : Nat} {o e x : Expr} {pos apos cpos apos2 cpos2 lp : Pos} {mk mx : Env → Res D}
end
end Mir

namespace Mir
open PySem PySem.Spec PyProof.Rows L2
section
variable {P : Program} {w : World} {A : Around} {E : Value → Shared → Prop} {s : Shared}
end
end Mir
namespace Mir
open PySem PySem.Spec L2
section
variable {X : Cx} {e : Expr} {m : Env → Res D} {k : Nat} {pos p p2 pos2 : Pos}
end
end Mir

namespace Mir
open PySem PySem.Spec L2
/-! ### insert into a drawing's row; groups -/
end Mir

namespace Mir
open PySem PySem.Spec L2
/-! ### for a, b in call().items(): dicts of tuple keys -/
section
variable {P : Program} {w : World} {K : PySem.W.Frag} {tg : Expr} {d : Addr} {o : Obj} {es : Array DictEntry} {ep : Nat}
end
section
variable {X : Cx} {tg e : Expr} {td : TE} {apos cpos : Pos}
end
section
variable {X : Cx} {o : Expr} {m : Env → Res D} {kr : Nat} {pos cpos apos : Pos} {m1 : Env → Res Ctl}
end
end Mir

namespace Mir
open PySem PySem.Spec L2
/-! ### d.setdefault(k, []).append(x): keys that are tuples -/
section
variable {X : Cx} {pins : List (Addr × Obj)} {σ : St} {H : Hp} {s : Shared} {a b : Addr} {r : Value} {d : V} {k : List Key} {A : Around} {E : Value → Shared → Prop}
end
section
variable {X : Cx} {o e f : Expr} {td ty tx : TE} {apos cpos : Pos}
end
section
variable {X : Cx} {kr : Nat} {o e x : Expr} {pos apos cpos apos2 cpos2 lp : Pos} {mk mx : Env → Res D}
end
end Mir

namespace Mir
open PySem PySem.Spec L2
/-! ### [.. for x in d.values()]: dicts of tuple keys -/
section
variable {P : Program} {w : World} {K : PySem.W.Frag} {tg : Expr} {d : Addr} {o : Obj} {es : Array DictEntry} {ep : Nat}
end
section
variable {X : Cx} {tg e : Expr} {td : TE} {apos cpos : Pos}
end
section
variable {X : Cx} {e a b tg it o elt : Expr} {m ma mb me mk mx : Env → Res D} {k kr : Nat} {cs : List Nat} {pos p p2 cpos apos cpos2 apos2 lp : Pos}
/-! ### list(range(n)) -/
end
end Mir

namespace Mir
open PySem PySem.Spec L2
@[simp] theorem e_mExtend (j k : Nat) (m : Mir.Env → Res (List D)) (env : Mir.Env) : mExtend j k m env = (m env >>= fun es => atL env j (k + 1) >>= fun ds => if ds.length + es.length ≤ sizeLine then .ok (.nx (env.set j (some (k + 1, .lst (ds ++ es))))) else .bad) := rfl
/-! ### dicts whose keys are tuples of three whole numbers; groups of any keys -/
def k3 (k : T3) : List Key := [.inl k.a, .inl k.b, .inl k.c]
section
variable {β : Type} (f : β → D)
end
/-! groups -/
section
variable {κ τ : Type} [DecidableEq κ]
end
end Mir

namespace Mir
open PySem PySem.Spec L2
/-! ### t + u, tuples -/
section
variable {X : Cx} {a b : Expr} {ma mb : Env → Res D} {pos : Pos}
end
end Mir

namespace Mir
open PySem PySem.Spec L2
/-! ### == of dicts whose keys are tuples -/
section
variable {prog : Program} {w : World} {K : Type} [DecidableEq K] {knd : HeapKind prog w K} {A : Around} {E : Value → Shared → Prop} {s : Shared}
end
section
variable {X : Cx}
end
end Mir

namespace Mir
open PySem PySem.Spec L2
/-! ### sorted(set(pairs)) -/
def lp (p : Int × Int) : List Int := [p.1, p.2]
def fp (l : List Int) : Int × Int := (l.getD 0 0, l.getD 1 0)
section
variable {X : Cx} {e : Expr} {m : Env → Res D} {k : Nat} {pos p p2 pos2 : Pos}
/-- max(a, b), min(a, b) of whole numbers -/
def gMax2 : D → D → Res D
  | .int i, .int j => .ok (.int (if j > i then j else i))
  | _, _ => .bad
def gMin2 : D → D → Res D
  | .int i, .int j => .ok (.int (if j < i then j else i))
  | _, _ => .bad
variable {f : Expr} {m' : Env → Res D}
theorem sc_max2 (hc : X.calm = true) (hg : Gl X "max") (hm0 : X.mg "max" = none) (h : SB X e m) (h' : SB X f m')
    (he : starEach [e, f] X.env = (false, eval e X.env) :: starEach [f] X.env := by rfl) (he2 : starEach [f] X.env = (false, eval f X.env) :: starEach [] X.env := by rfl) (hpl : (backTo pos (starEach [f] X.env)).any (·.1) = false := by rfl) :
    SC X (.Call (.Name "max" p) [e, f] [] pos) (mOp gMax2 m m') := fun B H env σ tm d Q ok hm q => by
  obtain ⟨x, y, hx, hy, hgg⟩ := two hm
  refine wE_of (pe_callB (call_max2 hc) hg hm0 (by decide +kernel) (pa_cons pe_sem (pa_cons pe_sem pa_nil he2) he) (by decide) (by decide) he hpl) (sb2 h h' ok hx hy fun v u H' x' ok' r1 r2 => ?_)
  unfold gMax2 at hgg
  split at hgg
  · cases hgg
    cases r1
    cases r2
    exact ⟨_, _, rfl, q _ H' x' ok' (.int _) rfl⟩
  · cases hgg
theorem sc_min2 (hc : X.calm = true) (hg : Gl X "min") (hm0 : X.mg "min" = none) (h : SB X e m) (h' : SB X f m')
    (he : starEach [e, f] X.env = (false, eval e X.env) :: starEach [f] X.env := by rfl) (he2 : starEach [f] X.env = (false, eval f X.env) :: starEach [] X.env := by rfl) (hpl : (backTo pos (starEach [f] X.env)).any (·.1) = false := by rfl) :
    SC X (.Call (.Name "min" p) [e, f] [] pos) (mOp gMin2 m m') := fun B H env σ tm d Q ok hm q => by
  obtain ⟨x, y, hx, hy, hgg⟩ := two hm
  refine wE_of (pe_callB (call_min2 hc) hg hm0 (by decide +kernel) (pa_cons pe_sem (pa_cons pe_sem pa_nil he2) he) (by decide) (by decide) he hpl) (sb2 h h' ok hx hy fun v u H' x' ok' r1 r2 => ?_)
  unfold gMin2 at hgg
  split at hgg
  · cases hgg
    cases r1
    cases r2
    exact ⟨_, _, rfl, q _ H' x' ok' (.int _) rfl⟩
  · cases hgg
/-! ### list(d), list(d.values()): dicts of tuple keys -/
end
def valsO (p d : Addr) : HO := .ext fun h => h.IsValuesView p d
theorem valsO_ok {P : Program} {w : World} {H : Hp} {h : Heap} {p d : Addr} (e : h.get? p = some { cls := .type "dict_values", data := .fields #[.ref d] }) : ObjOk P w H h p (valsO p d) :=
  ⟨⟨_, e, rfl, rfl⟩, ⟨_, e⟩, fun h1 h2 x k => let ⟨o, ho, r⟩ := x; ⟨o, k o ho, r⟩⟩
section
variable {X : Cx} {e : Expr} {te : TE} {apos cpos : Pos}
end
section
variable {X : Cx} {e : Expr} {m : Env → Res D} {k : Nat} {pos p apos cpos : Pos}
end
end Mir

namespace Mir
open PySem PySem.Spec L2
/-! ### [.. for k in d]: dicts of tuple keys -/
section
variable {X : Cx} {e a b tg it o elt : Expr} {m ma mb me mk mx : Env → Res D} {k kr : Nat} {cs : List Nat} {pos p p2 cpos apos cpos2 apos2 lp : Pos}
/-! ### list(range(n)) -/
end
end Mir

namespace Mir
open PySem PySem.Spec L2
open PyProof.Rows (envOfC)

/-! ### exceptions -/
/-- what is known of an exception's own dict: its names, its values -/
def XAt (B : Bs) (H' : Hp) (dd : Option Addr) (ns : List Str) (as : List D) : Prop :=
  (ns = [] ∧ as = [] ∧ dd = none) ∨ ∃ dx kvs, dd = some dx ∧ B.h dx = none ∧ H' dx = some (.xd kvs) ∧ kvs.map (·.1) = ns ∧ RpAll (view H') (kvs.map (·.2)) as ∧ immAll as = true
def Kp (Z : List Nat) (σ σ' : St) : Prop := ∀ z ∈ Z, σ'[z]? = σ[z]?
theorem Kp.refl {Z : List Nat} {σ : St} : Kp Z σ σ := fun _ _ => rfl
theorem Kp.trans {Z : List Nat} {a b c : St} (h : Kp Z a b) (g : Kp Z b c) : Kp Z a c := fun z hz => (g z hz).trans (h z hz)
theorem Kp.set {Z : List Nat} {σ σ' : St} {i : Nat} {x : Option V} (h : Kp Z σ σ') (hi : Z.all (fun z => z != i) = true) : Kp Z σ (σ'.set i x) := fun z hz => by
  have := List.all_eq_true.mp hi z hz
  have ne : i ≠ z := fun e => by subst e; simp at this
  rw [List.getElem?_set_ne ne]; exact h z hz
/-- what a statement's mirror asks of what stands behind it -/
def PostK (κ : Str → Addr) (kr : Nat) (Z : List Nat) (W : WX) (B : Bs) (tm : List Hold) (σ : St) (D : Ends) : Res Ctl → Prop
  | .ok (.nx e) => ∀ σ' H', EnvOk B H' e σ' tm → Kp Z σ σ' → D.nx σ' H'
  | .ok (.bk e) => ∀ σ' H', EnvOk B H' e σ' tm → Kp Z σ σ' → D.bk σ' H'
  | .ok (.ct e) => ∀ σ' H', EnvOk B H' e σ' tm → Kp Z σ σ' → D.ct σ' H'
  | .ok (.rt d) => ∀ v H', EnvOk B H' [] [] ((v, kr, d) :: tm) → D.rt v H'
  | .exc c ns as => ∀ σ' H' dd, XAt B H' dd ns as → EnvOk B H' [] [] tm → Kp Z σ σ' → W (.ref (κ c)) dd σ' H'
  | .bad => False
def S1K (X : Cx) (κ : Str → Addr) (kr : Nat) (Z : List Nat) (W : WX) (st : Stmt) (m : Env → Res Ctl) : Prop := ∀ (B : Bs) (H : Hp) (env : Env) (σ : St) (tm : List Hold) (D : Ends), EnvOk B H env σ tm → PostK κ kr Z W B tm σ D (m env) → wS X st D σ H
def SSK (X : Cx) (κ : Str → Addr) (kr : Nat) (Z : List Nat) (W : WX) (ss : List Stmt) (m : Env → Res Ctl) : Prop := ∀ (B : Bs) (H : Hp) (env : Env) (σ : St) (tm : List Hold) (D : Ends), EnvOk B H env σ tm → PostK κ kr Z W B tm σ D (m env) → wB X ss D σ H
def PostE (κ : Str → Addr) (k : Nat) (cs : List Nat) (W : WX) (B : Bs) (H : Hp) (env : Env) (σ : St) (tm : List Hold) (Q : VK) : Res D → Prop
  | .ok d => ∀ v H', Ext H H' → EnvOk B H' (clear env cs) σ ((v, k, d) :: tm) → Q v H'
  | .exc c ns as => ∀ H' dd, XAt B H' dd ns as → EnvOk B H' [] [] tm → W (.ref (κ c)) dd σ H'
  | .bad => False
/-- an expression that may raise -/
def SEX (X : Cx) (κ : Str → Addr) (k : Nat) (cs : List Nat) (W : WX) (e : Expr) (m : Env → Res D) : Prop := ∀ (B : Bs) (H : Hp) (env : Env) (σ : St) (tm : List Hold) (Q : VK), EnvOk B H env σ tm → PostE κ k cs W B H env σ tm Q (m env) → wE X e σ H Q
/-- no exception -/
def nx {α : Type} : Res α → Res α
  | .exc _ _ _ => .bad
  | r => r
@[simp] theorem nx_ok {α : Type} (a : α) : nx (.ok a) = .ok a := rfl
def mN {α : Type} (m : Env → Res α) : Env → Res α := fun env => nx (m env)
section
variable {X : Cx} {κ : Str → Addr} {kr k : Nat} {Z : List Nat} {W : WX} {st : Stmt} {ss : List Stmt} {m m1 m2 : Env → Res Ctl} {me : Env → Res D} {e : Expr} {cs : List Nat} {pos : Pos}
theorem sx_se (h : SE X k cs e me) : SEX X κ k cs W e (mN me) := fun B H env σ tm Q ok p => by
  unfold mN at p
  cases hm : me env with
  | ok d => rw [hm] at p; exact h B H env σ tm d Q ok hm p
  | exc c ns as => rw [hm] at p; exact p.elim
  | bad => rw [hm] at p; exact p.elim
theorem s1_k (h : S1 X kr st m) : S1K X κ kr [] W st (mN m) := fun B H env σ tm D ok p => by
  unfold mN at p
  cases hm : m env with
  | ok r =>
    rw [hm] at p
    refine h B H env σ tm D r ok hm ?_
    cases r with
    | nx e => exact fun σ' H' ok' => p σ' H' ok' (fun _ z => nomatch z)
    | bk e => exact fun σ' H' ok' => p σ' H' ok' (fun _ z => nomatch z)
    | ct e => exact fun σ' H' ok' => p σ' H' ok' (fun _ z => nomatch z)
    | rt d => exact p
  | exc c ns as => rw [hm] at p; exact p.elim
  | bad => rw [hm] at p; exact p.elim
theorem ss_nilK : SSK X κ kr Z W [] mSkip := fun B H env σ tm D ok p => wB_of pss_nil (p σ H ok Kp.refl)
theorem PostK.from {B : Bs} {tm : List Hold} {σ σ1 : St} {D : Ends} : ∀ {r : Res Ctl}, Kp Z σ σ1 → PostK κ kr Z W B tm σ D r → PostK κ kr Z W B tm σ1 D r := fun {r} k p => by
  cases r with
  | ok c =>
    cases c with
    | nx e => exact fun σ' H' ok' k' => p σ' H' ok' (k.trans k')
    | bk e => exact fun σ' H' ok' k' => p σ' H' ok' (k.trans k')
    | ct e => exact fun σ' H' ok' k' => p σ' H' ok' (k.trans k')
    | rt d => exact p
  | exc c ns as => exact fun σ' H' dd x ok' k' => p σ' H' dd x ok' (k.trans k')
  | bad => exact p
theorem ss_consK (h1 : S1K X κ kr Z W st m1) (h2 : SSK X κ kr Z W ss m2) : SSK X κ kr Z W (st :: ss) (mSeq m1 m2) := fun B H env σ tm D ok p => by
  refine wB_of (pss_cons ps_sem pss_sem) (h1 B H env σ tm { D with nx := wB X ss D } ok ?_)
  unfold mSeq at p
  cases hm : m1 env with
  | ok c =>
    rw [hm] at p
    cases c with
    | nx e => exact fun σ' H' ok' k' => h2 B H' e σ' tm D ok' (PostK.from k' p)
    | bk e => exact p
    | ct e => exact p
    | rt d => exact p
  | exc c ns as => rw [hm] at p; exact p
  | bad => rw [hm] at p; exact p
theorem ss_oneK (h1 : S1K X κ kr Z W st m1) : SSK X κ kr Z W [st] m1 := fun B H env σ tm D ok p => wB_of (pss_one ps_sem) (h1 B H env σ tm D ok p)
theorem s_ifK {c : Expr} {as bs : List Stmt} {t : Env → Res Bool} (hc : ST X c t) (ha : SSK X κ kr Z W as m1) (hb : SSK X κ kr Z W bs m2) : S1K X κ kr Z W (.If c as bs pos) (mIf (mN t) m1 m2) := fun B H env σ tm D ok p => by
  unfold mIf mN at p
  cases hm : t env with
  | ok b =>
    rw [hm] at p
    refine wS_of (ps_if pt_sem pss_sem pss_sem) (hc B H env σ tm b _ ok hm fun H' x' ok' => ?_)
    cases b with
    | true => exact ha B H' env σ tm D ok' p
    | false => exact hb B H' env σ tm D ok' p
  | exc c ns as => rw [hm] at p; exact p.elim
  | bad => rw [hm] at p; exact p.elim
theorem s_setK {i : Nat} {x : Str} {pos' : Pos} (hN : X.N.Nodup) (hi : X.N[i]? = some x) (hx : Loc X.env.scope x) (hz : Z.all (fun z => z != i) = true) (he : SEX X κ k cs W e me) (hs : swapsWith e (some (.Name x pos')) pos.line X.env = pure false := by rfl)
    (hf : X.fn x = true ∨ X.env.scope.names.lookup x = some .local := by first | exact .inl rfl | exact .inr rfl | assumption) : S1K X κ kr Z W (.Assign [.Name x pos'] e pos) (mSet i k cs me) := fun B H env σ tm D ok p => by
  refine wS_of (ps_set hN hi hx pe_sem hs hf) (he B H env σ tm _ ok ?_)
  unfold mSet at p
  cases hm : me env with
  | ok d =>
    rw [hm] at p
    intro v H' x' ok'
    have p' : PostK κ kr Z W B tm σ D (tName i k d (clear env cs) >>= fun e => .ok (.nx e)) := p
    unfold tName at p'
    split at p'
    · rename_i hl
      exact p' _ _ (ok'.store hl) (Kp.refl.set hz)
    · exact p'.elim
  | exc c ns as => rw [hm] at p; exact fun H' dd x ok' => p σ H' dd x ok' Kp.refl
  | bad => rw [hm] at p; exact p
def mExpr (m : Env → Res D) : Env → Res Ctl := fun env => m env >>= fun _ => .ok (.nx env)
theorem s_exprK (he : SEX X κ k [] W e me) (hs : swapsWith e none pos.line X.env = pure false := by rfl) : S1K X κ kr Z W (.Expr e pos) (mExpr me) := fun B H env σ tm D ok p => by
  refine wS_of (ps_expr pe_sem hs) (he B H env σ tm _ ok ?_)
  unfold mExpr at p
  cases hm : me env with
  | ok d => rw [hm] at p; exact fun v H' x' ok' => p σ H' ok'.tail Kp.refl
  | exc c ns as => rw [hm] at p; exact fun H' dd x ok' => p σ H' dd x ok' Kp.refl
  | bad => rw [hm] at p; exact p
/-! ### raise -/
def mRaise (c : Str) : Env → Res Ctl := fun _ => .exc c [] []
theorem s_raiseK {x msg : Str} {j : Nat} {p p2 pos' : Pos} {C : Addr} {bmB : List Value} {Bn newId initId : String} (hc : X.calm = true) (tk : Takes X W) (F : ExcBaseFacts Bn newId initId bmB) (q : PySem.W.excIn X.K C bmB newId = true) (gC : X.mg x = some (.ref C)) (kC : PySem.W.keepIn X.K (.ref C) = true)
    (hR : Raises X (.ref C)) (hκ : κ x = C) (hg : Gl X x) (hdb : (x == ("__debug__" : Str)) = false := by decide) : S1K X κ kr Z W (.Raise (some (.Call (.Name x p) [.Constant (.str msg) j p2] [] pos')) none pos) (mRaise x) := fun B H env σ tm D ok pp => by
  refine wS_of (ps_raise hc tk (pmk_own F q gC kC hR hg hdb)) ?_
  have := pp σ H none (.inl ⟨rfl, rfl, rfl⟩) ok.noSlots Kp.refl
  rw [hκ] at this
  exact this
end
end Mir

namespace Mir
open PySem PySem.Spec L2
open PyProof.Rows (envOfC)
theorem Kp.off {Z is : List Nat} {σ σ1 σ2 : St} (h : Kp Z σ σ1) (o : Off is σ1 σ2) (hz : is.all (fun i => Z.all fun z => z != i) = true) : Kp Z σ σ2 := fun z hm => by
  have hn : z ∉ is := fun hi => by
    have := List.all_eq_true.mp (List.all_eq_true.mp hz z hi) z hm
    simp at this
  rw [o.2 z hn]; exact h z hm
section
variable {X : Cx} {κ : Str → Addr} {kr k : Nat} {Z : List Nat} {W : WX} {st : Stmt} {ss : List Stmt} {m m1 m2 : Env → Res Ctl} {me : Env → Res D} {e tg it : Expr} {cs : List Nat} {pos : Pos}
def nT (t : Nat → D → Env → Res Env) : Nat → D → Env → Res Env := fun k d e => nx (t k d e)
theorem s_forK {body : List Stmt} {mi : Env → Res (List D)} {t : Nat → D → Env → Res Env} {fg : List Nat} (hp : PassesOwn (model X.prog X.w) X.A X.env X.xe) (hc : X.calm = true) (hi : SI X tg it mi) {is : List Nat} (hg : STg X tg is t) (hb : SSK X κ kr Z W body m1)
    (hz : is.all (fun i => Z.all fun z => z != i) = true) (hs : ∀ x, foldedSetIterable it X.env x = pure x := by intro _; rfl) : S1K X κ kr Z W (.For tg it body [] pos) (mFor (mN mi) (nT t) m1 fg) := fun B H env σ tm D ok p => by
  unfold mFor mN at p
  cases hd : mi env with
  | exc c ns as => rw [hd] at p; exact p.elim
  | bad => rw [hd] at p; exact p.elim
  | ok ds =>
    rw [hd] at p
    have hl : PostK κ kr Z W B tm σ D (loop (nT t) m1 fg ds env) := p
    refine wS_of (ps_for hp hc pi_sem pg_sem pss_sem hs) (hi B H env σ tm ds _ ok hd fun J H1 ex x1 ok1 Y => ?_)
    refine ⟨fun i m σ' H => m = ds.length - i ∧ i ≤ ds.length ∧ ∃ env, EnvOk B H env σ' (ex ++ tm) ∧ Kp Z σ σ' ∧ PostK κ kr Z W B tm σ D (loop (nT t) m1 fg (ds.drop i) env), ⟨ds.length, by simp, Nat.zero_le _, env, ok1, Kp.refl, by simpa using hl⟩, ?_⟩
    rintro i n σ2 H2 ⟨rfl, hi2, env2, ok2, hk, hr⟩
    obtain ⟨y1, y2⟩ := Y i H2 env2 σ2 tm ok2
    by_cases hlt : i < ds.length
    · obtain ⟨go, yl⟩ := y2 hlt
      refine .inr ⟨go, fun σ' H' => i + 1 ≤ ds.length ∧ ∃ env, EnvOk B H' env σ' (ex ++ tm) ∧ Kp Z σ σ' ∧ PostK κ kr Z W B tm σ D (loop (nT t) m1 fg (ds.drop (i + 1)) env), fun σ' H' ⟨h1, h2⟩ => ⟨ds.length - (i + 1), by omega, rfl, h1, h2⟩, fun x H3 hy => ?_⟩
      obtain ⟨d, hd2, x3, ok3⟩ := yl x H3 hy
      have hdr : ds.drop i = d :: ds.drop (i + 1) := by
        obtain ⟨h1, h2⟩ := List.getElem?_eq_some_iff.mp hd2
        rw [← h2]
        exact List.drop_eq_getElem_cons h1
      rw [hdr] at hr
      unfold loop at hr
      cases ht : t 0 d env2 with
      | exc c ns as => rw [show nT t 0 d env2 = nx (t 0 d env2) from rfl, ht] at hr; exact hr.elim
      | bad => rw [show nT t 0 d env2 = nx (t 0 d env2) from rfl, ht] at hr; exact hr.elim
      | ok e1 =>
        rw [show nT t 0 d env2 = nx (t 0 d env2) from rfl, ht] at hr
        refine hg 0 B H3 env2 σ2 (ex ++ tm) d x e1 _ ok3 ht fun σ4 hoff ok4 => ?_
        have hk4 := hk.off hoff hz
        refine hb B H3 e1 σ4 (ex ++ tm) _ ok4 ?_
        have hr2 : PostK κ kr Z W B tm σ D (m1 e1 >>= fun c => match c with | .nx e => loop (nT t) m1 fg (ds.drop (i + 1)) (clear e fg) | .ct e => loop (nT t) m1 fg (ds.drop (i + 1)) (clear e fg) | .bk e => .ok (.nx (clear e fg)) | .rt d => .ok (.rt d)) := hr
        cases hm : m1 e1 with
        | bad => rw [hm] at hr2; exact hr2
        | exc c ns as =>
          rw [hm] at hr2
          exact fun σ5 H5 dd xa ok5 k5 => hr2 σ5 H5 dd xa ok5.less (hk4.trans k5)
        | ok c =>
          rw [hm] at hr2
          cases c with
          | nx e => exact fun σ5 H5 ok5 k5 => ⟨hlt, _, ok5.clear fg, hk4.trans k5, hr2⟩
          | ct e => exact fun σ5 H5 ok5 k5 => ⟨hlt, _, ok5.clear fg, hk4.trans k5, hr2⟩
          | bk e => exact fun σ5 H5 ok5 k5 => hr2 σ5 H5 ((ok5.clear fg).less) (hk4.trans k5)
          | rt d' => exact fun v H5 ok5 => hr2 v H5 (EnvOk.less (l := ex) (ok5.perm List.perm_middle.symm))
    · have ei : i = ds.length := by omega
      refine .inl ⟨y1 ei, ?_⟩
      rw [ei, List.drop_length] at hr
      exact hr σ2 H2 ok2.less hk
end
/-! ### what a def promises -/
def XRet (G H H' : Hp) (dd : Option Addr) (ns : List Str) (as : List D) : Prop := (∃ G', Good ⟨H, G⟩ G' H') ∧ XAt ⟨H, G⟩ H' dd ns as
def PostF (κ : Str → Addr) (kr : Nat) (G H : Hp) (Q : VK) (E : XK) : Res D → Prop
  | .ok d => ∀ v H', RetOk kr G H H' v d → Q v H'
  | .exc c ns as => ∀ H' dd, XRet G H H' dd ns as → E (.ref (κ c)) dd H'
  | .bad => False
def spX (kr n : Nat) (κ : Str → Addr) (F : List D → Res D) : Sp := fun vs H Q E => vs.length = n ∧ ∃ (G : Hp) (ds : List D), Good ⟨H, G⟩ G H ∧ RpAll G vs ds ∧ PostF κ kr G H Q E (F ds)
section
variable {P : Program} {w : World} {K : PySem.W.Frag} {mg : Str → Option Value} {base : Heap}
theorem env_start {N : List Str} {vs : List V} {ds : List D} {G H : Hp} (hg : Good ⟨H, G⟩ G H) (ra : RpAll G vs ds) : EnvOk ⟨H, G⟩ H (ds.map (fun d => some (0, d)) ++ List.replicate (N.length - ds.length) none) (L2.start N vs) [] := by
  have hlen := ra.length
  unfold L2.start
  rw [hlen]
  refine ⟨⟨G, [], hg, by rw [slots_start _ _ _ hlen, List.append_nil]; exact hold_lev ra, List.nodup_nil, fun p hp => by cases hp⟩, by simp [hlen], fun i kd e => ?_⟩
  by_cases hi : i < ds.length
  · have hv : i < (vs.map some).length := by rw [List.length_map]; omega
    rw [List.getElem?_append_left hv, List.getElem?_map, List.getElem?_eq_getElem (by omega)]
    exact ⟨_, rfl⟩
  · rw [List.getElem?_append_right (by simpa using hi), List.getElem?_replicate] at e
    split at e <;> cases e
/-- THE RULE for a def that may raise -/
theorem def_okX {κ : Str → Addr} {x qual : Str} {st : Stmt} {f : Addr} {fd : FuncData} {N ps : List Str} {k kr : Nat} {m : Env → Res Ctl} {n : Nat} {FF : List D → Res D} (F : Fun K x qual st f fd) (S : FnScope N ps (defScope st)) (hn : ps.length = n) (hFF : FF = runD N.length m)
    (hb : ∀ (cdv : Value) (A : Around) (outer : List PySem.Env) (s : Shared) (H : Hp) (E : XK), Room k (A.deeper (envOfC qual (defScope st) s.heap.objs.size f cdv)) → Takes (cxOf (L2.CX P w) P w K mg base N qual (defScope st) f cdv A outer s H E) (fun cls d _ H' => E cls d H') →
      SSK (cxOf (L2.CX P w) P w K mg base N qual (defScope st) f cdv A outer s H E) κ kr [] (fun cls d _ H' => E cls d H') (defBody st) m) :
    FnOk P w K mg base (L2.CX P w) (k + 1) f fd ps (spX kr n κ FF) := by
  subst hn hFF
  refine F.okX S (fun vs H Q E h => h.1) (fun cdv A outer s H vs Q E hr h => ?_)
  obtain ⟨hl, G, ds, hg, ra, hF⟩ := h
  refine ⟨_, pss_sem, ?_⟩
  refine hb cdv A outer s H E hr (takes_of rfl rfl rfl rfl) ⟨H, G⟩ H _ _ [] _ (env_start hg ra) ?_
  unfold runD at hF
  cases hc : m (ds.map (fun d => some (0, d)) ++ List.replicate (N.length - ds.length) none) with
  | bad => rw [hc] at hF; exact hF
  | exc c ns as =>
    rw [hc] at hF
    refine fun σ' H' dd xa ok' _ => hF H' dd ⟨?_, xa⟩
    obtain ⟨⟨G', fp, g, _⟩, _⟩ := ok'
    exact ⟨G', g⟩
  | ok c =>
    rw [hc] at hF
    have fin : ∀ {v : V} {H' : Hp} {e : Env} {σ : St} {d : D}, EnvOk ⟨H, G⟩ H' e σ [(v, kr, d)] → RetOk kr G H H' v d := fun {v H' e σ d} ok' => by
      obtain ⟨⟨G', fp, g, hh, nd, hp⟩, _⟩ := ok'.noSlots
      have hh' : HoldAll G' H' [(v, kr, d)] fp := hh
      cases hh' with
      | @cons _ _ _ _ f1 g1 h1 h2 =>
        cases h2
        rw [List.append_nil] at nd hp
        exact ⟨G', f1, g, h1, nd, hp⟩
    cases c with
    | nx e => exact fun σ' H' ok' _ => hF .non H' (fin (ok'.imm (k := kr) .non rfl))
    | rt d' => exact fun v H' ok' => hF v H' (fin ok')
    | bk e => exact hF.elim
    | ct e => exact hF.elim
end
/-- behind a call that raised -/
theorem EnvOk.raisedB {B : Bs} {H H' : Hp} {env : Env} {σ : St} {tm : List Hold} {dd : Option Addr} {ns : List Str} {as : List D} (ok : EnvOk B H env σ tm) (r : XRet (view H) H H' dd ns as) : Ext H H' ∧ EnvOk B H' env σ tm ∧ XAt B H' dd ns as := by
  obtain ⟨⟨G', g⟩, xa⟩ := r
  have x : Ext H H' := g.bs
  refine ⟨x, ?_, ?_⟩
  · have := ok.grow (H' := H') x ok.bnone [] fun G1 g1 => ⟨fun a => if H a = none then G' a else G1 a, [], fun a u e => ?_, fun a e => if_neg e, ⟨fun a o e => x a o (g1.bs a o e), fun a e => ?_, fun a u e => ?_, fun a xs im e => ?_, g.nf⟩, .nil, List.nodup_nil, fun p hp => nomatch hp⟩
    · exact this
    · show (if H a = none then G' a else G1 a) = some u
      rw [if_neg (g1.ne e)]; exact e
    · show (if H a = none then G' a else G1 a) = _
      have : H a ≠ none := fun z => e (ok.bnone a z)
      rw [if_neg this]; exact g1.g0 a e
    · have e' : (if H a = none then G' a else G1 a) = some u := e
      split at e'
      · exact g.gs a u e'
      · exact view_ext x a u (g1.gs a u e')
    · show (if H a = none then G' a else G1 a) = _
      split
      · exact g.gt a xs im e
      · rename_i hn
        have e1 : G' a = view H a := g.g0 a hn
        exact g1.gt a xs im (e1.symm.trans (g.gt a xs im e))
  · rcases xa with h | ⟨dx, kvs, h1, h2, h3⟩
    · exact .inl h
    · exact .inr ⟨dx, kvs, h1, ok.bnone dx h2, h3⟩
structure CalX (P : Program) (w : World) (K : PySem.W.Frag) (mg : Str → Option Value) (base : Heap) (x : Str) (j n kr : Nat) (κ : Str → Addr) (F : List D → Res D) : Prop where
  ex : ∃ f fd ps, mg x = some (.ref f) ∧ PySem.W.keepIn K (.ref f) = true ∧ Binds K fd ps [] ∧ FnOk P w K mg base (L2.CX P w) j f fd ps (spX kr n κ F)
section
variable {X : Cx} {κ : Str → Addr} {kr k n j : Nat} {W : WX} {e : Expr} {es : List Expr} {ms : Env → Res (List D)} {F : List D → Res D} {x : Str} {p pos : Pos}
def mCallX (kr : Nat) (F : List D → Res D) (ms : Env → Res (List D)) : Env → Res D := fun env => nx (ms env) >>= fun ds => F ds >>= fun d => if immAt kr d then .ok d else .bad
theorem sx_cal (C : CalX X.prog X.w X.K X.mg X.base x j n kr κ F) (hr : Room j X.A) (hg : Gl X x) (tk : Takes X W)
    (ha : SAB X (e :: es) ms) (hl : ∀ env ds, ms env = .ok ds → ds.length = n) (hdb : (x == ("__debug__" : Str)) = false := by decide) (he : starEach (e :: es) X.env = (false, eval e X.env) :: starEach es X.env := by rfl) (hpl : (backTo pos (starEach es X.env)).any (·.1) = false := by rfl) :
    SEX X κ kr [] W (.Call (.Name x p) (e :: es) [] pos) (mCallX kr F ms) := fun B H env σ tm Q ok pp => by
  obtain ⟨f, fd, ps, hm, hk, hb, Fo⟩ := C.ex
  unfold mCallX at pp
  cases hds : ms env with
  | exc c ns as => rw [hds] at pp; exact pp.elim
  | bad => rw [hds] at pp; exact pp.elim
  | ok ds =>
    rw [hds] at pp
    refine wE_of (pe_callS (E := WE W) Fo hr hg hm hk hb (passAt tk) pa_sem hdb he hpl) (ha B H env σ tm ds _ ok hds fun vs H1 x1 ok1 ra => ?_)
    refine ⟨by rw [ra.length]; exact hl _ _ hds, view H1, ds, ⟨fun _ _ e => e, fun _ _ => rfl, fun _ _ e => e, fun _ _ _ e => e, fun a xs im e => ok1.imAt im e⟩, ra, ?_⟩
    have pp' : PostE κ kr [] W B H env σ tm Q (F ds >>= fun d => if immAt kr d then .ok d else .bad) := pp
    cases hF : F ds with
    | bad => rw [hF] at pp'; exact pp'.elim
    | exc c ns as =>
      rw [hF] at pp'
      intro H' dd xr
      obtain ⟨x2, ok2, xa⟩ := ok1.raisedB xr
      exact pp' H' dd xa ok2.noSlots
    | ok d =>
      rw [hF] at pp'
      have pp2 : PostE κ kr [] W B H env σ tm Q (if immAt kr d then .ok d else .bad) := pp'
      split at pp2
      · rename_i hi
        intro v H' r
        obtain ⟨x2, ok2⟩ := ok1.retB r hi
        exact pp2 v H' (x1.trans x2) ok2
      · exact pp2.elim
end
end Mir

namespace L2
open PySem PySem.Spec PyProof.Rows
theorem exH_ok {P : Program} {w : World} {H : Hp} {h : Heap} {a : Addr} {cls : Value} {d : Option Addr} {oe : Obj} (e : h.get? a = some oe) (z : Zc cls d oe) (dt : ∃ vs, oe.data = .fields vs) : ObjOk P w H h a (Mir.ExH cls d a) := by
  obtain ⟨vs, dt⟩ := dt
  exact ⟨⟨oe, vs, e, z, dt⟩, ⟨oe, e⟩, fun h1 h2 ⟨o, v, q, r⟩ k => ⟨o, v, k o q, r⟩⟩
section
variable {X : Cx} {pins : List (Addr × Obj)} {σ : St} {H : Hp} {s sI s' : Shared} {B : Heap}
/-- back on the ground, the exception's object tracked -/
theorem Inv.landedT {a : Addr} {o : HO} (I : Inv X pins σ H sI) (nb : ∀ b o, sI.heap.get? b = some o → b ∉ frs X.stack → B.get? b = some o) (st : B.StaysIn s'.heap) (up : sI.heap.UpToSlots s'.heap) (os : s'.os = sI.os) (ag : AllBare s'.gens)
    (hn : sI.heap.get? a = none) (na : H a = none) (new : ObjOk X.prog X.w (upd H a o) s'.heap a o) : Inv X pins σ (upd H a o) s' := by
  have nf : ∀ b ∈ frs X.stack, ∀ o, sI.heap.get? b = some o → ∃ sl, s'.heap.get? b = some { o with slots := sl } := fun b hb o e => by
    obtain ⟨_, o', e', hd⟩ := I.stack.mem hb
    rw [e] at e'; cases e'
    exact up b o e hd
  have nea : ∀ b o, sI.heap.get? b = some o → b ≠ a := fun b o e z => by rw [z, hn] at e; cases e
  have J := I.call (ch := []) (h' := s'.heap) (g' := s'.gens) (t' := s'.toks) (d' := s'.drawn) (H' := upd H a o)
    ⟨fun b o e _ hb _ => st b o (nb b o e hb), fun b o e _ hb _ => nf b hb o e, fun b o e n _ => by rw [upd_ne (nea b o e)]; exact n, fun b o e _ => by
      by_cases hb : b ∈ frs X.stack
      · obtain ⟨sl, q⟩ := nf b hb o e
        exact ⟨_, q⟩
      · exact ⟨o, st b o (nb b o e hb)⟩, fun b xs e => by rw [upd_ne (ne_of_none e na)]; exact e, fun b o u e => by rw [upd_ne (ne_of_none e na)]; exact e, fun b ps e => ⟨#[], by rw [upd_ne (ne_of_none e na), e]; simp⟩⟩
    (fun b u e => by
      by_cases hb : b = a
      · subst hb; rw [upd_same] at e; cases e; exact new
      · rw [upd_ne hb] at e
        exact (((I.inGround nb).kept st) b u e).stay (fun _ _ _ q => q) (fun c q => by rw [upd_ne (ne_of_none q na)]; exact q) fun c xs q => by rw [upd_ne (ne_of_none q na)]; exact q) ag (fun _ z => nomatch z)
  obtain ⟨a1, a2, a3, a4, a5⟩ := s'
  have e5 : a5 = sI.os := os
  subst e5
  exact J
theorem Inv.suiteT (I : Inv X pins σ H s) (a : Addr) : Inv (X.suite a (X.pn ++ pins)) [] σ H s :=
  ⟨I.ok.suite _ _, I.os, I.bare, I.base, I.loc, I.cell, I.free, I.freeC, fun p hp => I.pin p (by rw [List.append_nil] at hp; exact hp), I.hok, I.len⟩
theorem Inv.unsuiteT {a : Addr} {pn' : List (Addr × Obj)} (I : Inv (X.suite a (X.pn ++ pins)) pn' σ H s) (ok : X.Ok) : Inv X pins σ H s :=
  ⟨ok, I.os, I.bare, I.base, I.loc, I.cell, I.free, I.freeC, fun p hp => I.pin p (List.mem_append_left _ hp), I.hok, I.len⟩
end
/-- what the clause 'except x as n' wishes of an exception of the body, its object tracked: slot i is n's -/
def wAsT (K : PySem.W.Frag) (n0 : Nat) (c : Value) (i : Nat) (ts : Addr → TS) (Wout : WX) (D : Ends) : WX := fun cls d σ H => σ.length = n0 →
  ∃ b, PySem.W.exmOne K cls c = some b ∧ (b = true → ∀ a, H a = none → ts a { nx := fun σ' H' => D.nx (σ'.set i none) H', rt := D.rt, bk := fun σ' H' => D.bk (σ'.set i none) H', ct := fun σ' H' => D.ct (σ'.set i none) H' } (σ.set i (some (.ref a))) (upd H a (Mir.ExH cls d a))) ∧
    (b = false → Wout cls d σ H)
section
variable {X : Cx} {x n : Str} {c : Value} {i : Nat} {body suite : List Stmt} {b₀ : Stmt} {np pos pos' : Pos} {tb : WX → TS} {ts : Addr → TS} {Wout : WX}
theorem ps_tryT (hs : X.stack = X.env :: X.outer) (hf : X.env.frame = some X.env.locals) (hN : X.N.Nodup) (hi : X.N[i]? = some n) (hln : X.env.kindOf n = some .local) (hc : Names X x c) (tk : Takes X Wout)
    (hb : ∀ (W : WX) (pn : List (Addr × Obj)) (xe : Value → Shared → Prop), Takes (X.tr pn xe) W → PassesOwn (model X.prog X.w) X.A X.env xe → PSs (X.tr pn xe) body (tb W))
    (hsu : ∀ (a : Addr) (pn : List (Addr × Obj)), PSs (X.suite a pn) (b₀ :: suite) (ts a)) :
    PS X (.Try body [.ExceptHandler (some (.Name x np)) (some n) (b₀ :: suite) pos'] [] [] pos) (fun D σ H => tb (wAsT X.K σ.length c i ts Wout D) D σ H) := by
  refine ⟨fun pins s σ H D I h => ?_⟩
  have ok := I.ok
  have hfr : X.A.frames = some (X.env :: X.outer) := by rw [ok.frames, hs]
  have hloc : Loc X.env.scope n := .inl hln
  refine wpAny_Try_except ?_
  refine wpAny_mono ((hb (wAsT X.K σ.length c i ts Wout D) (X.pn ++ pins) (fun e s₁ => wpAny (model X.prog X.w) X.A (noteFrame e X.env) (fun _ s₂ => wpAny (model X.prog X.w) X.A (setFlight e none) (fun _ s₃ =>
    wpAny (model X.prog X.w) X.A (handleBy e X.env [.ExceptHandler (some (.Name x np)) (some n) (b₀ :: suite) pos']) (SP X pins D) X.xe s₃) X.xe s₂) X.xe s₁) (fun u s' xx => ?_) PassesOwn.looking).run [] s σ H D (I.toTry _) h) (fun f s1 hsp => ?_) (fun e s1 he => he)
  · -- the catch
    obtain ⟨a, B, sI, pins', σ', H', cls, d, rfl, J', nb, up, sky, na, os, ag, w⟩ := xx
    have J : Inv X pins σ' H' sI := J'.ofTry ok
    obtain ⟨b, hb1, hyes, hno⟩ := w (J.len.trans I.len.symm)
    have sky' : Sky B (X.env :: X.outer) a (Zc cls d) X.env.locals s'.heap := by rw [← hs]; exact sky
    show wpAny (model X.prog X.w) X.A (noteFrame (.ref a) X.env) _ _ _
    refine Sky.land Zc.steady hfr hf sky' fun h3 fl3 up3 => ?_
    have J3 : Inv X pins σ' H' { s' with heap := h3 } := J.landed nb fl3.1 (up.trans up3) os ag
    obtain ⟨oe3, vs3, he3, hz3, hd3⟩ := fl3.there
    have notFr : ∀ {h : Heap} {o : Obj} {vs : Array Value}, h.FunFrames B (X.env :: X.outer) → h.get? a = some o → o.data = .fields vs → a ∉ frs (X.env :: X.outer) := fun {h o vs} ff e dd hm => by
      obtain ⟨_, o', e', hnf⟩ := ff.mem hm
      rw [e] at e'; cases e'
      exact hnf _ dd
    have nfr := notFr fl3.2.2.1 he3 hd3
    have hnI : sI.heap.get? a = none := by
      cases q : sI.heap.get? a with
      | none => rfl
      | some o =>
        have z := nb a o q (by rw [hs]; exact nfr)
        rw [fl3.2.1] at z; cases z
    have nL : a ≠ X.env.locals := fun z => nfr (List.mem_filterMap.mpr ⟨X.env, List.mem_cons_self, by rw [hf, z]⟩)
    have nF : a ∉ X.fs := fun hm => by
      obtain ⟨e, he, q⟩ := List.mem_filterMap.mp hm
      exact nfr (List.mem_filterMap.mpr ⟨e, List.mem_cons_of_mem _ he, q⟩)
    have S3 := J3.suite he3 hd3 na nL nF
    refine wpAny_handleBy_cons (codeAny_handlers_test ?_) (by intro q; cases q)
    have LT : PySem.W.Looks (model X.prog X.w) h3 (typeOf (.ref a)) cls := fun A Q E s k q => wpAny_typeOf_ref (k _ _ he3) (by rw [hz3.1]; exact q)
    have LM := PySem.W.exm_one (M := model X.prog X.w) (J3.kIn) LT hb1
    have test : ∀ {Q : Value → Shared → Prop} {E : Value → Shared → Prop}, Q c { s' with heap := h3 } → wpAny (model X.prog X.w) (X.A.mark (some (.ref a))) (eval (.Name x np) X.env) Q E { s' with heap := h3 } := fun {Q E} q => by
      obtain ⟨hg, hdbg, hm | ⟨hm, hv, hnn⟩⟩ := hc
      · exact ld_glob (X := X.suite a ((a, oe3) :: (X.pn ++ pins))) S3 hg hm q hdbg
      · exact ld_blt (X := X.suite a ((a, oe3) :: (X.pn ++ pins))) S3 hg hm hv q hnn hdbg
    refine test (LM.here ?_)
    cases b with
    | true =>
      refine codeAny_handlers_suite_as ?_
      refine HandSPX.lands_againZ fl3 fun h4 fl4 up4 => ?_
      obtain ⟨oe4, vs4, he4, hz4, hd4⟩ := fl4.there
      have J4 : Inv X pins σ' (upd H' a (Mir.ExH cls d a)) { s' with heap := h4 } := J.landedT nb fl4.1 ((up.trans up3).trans up4) os ag hnI na (exH_ok he4 hz4 ⟨_, hd4⟩)
      have S4 := J4.suiteT a
      refine store_ok (X := X.suite a (X.pn ++ pins)) (v := .ref a) S4 hN hi hloc rfl (fun s5 S5 => ?_) (.inr hln)
      refine wpAny_mono ((hsu a (X.pn ++ pins)).run [] s5 _ _ _ S5 (hyes rfl a na)) (fun f s6 hsp => ?_) (fun _ _ z => False.elim z)
      have end_ : ∀ {σ6 : St} {H6 : Hp} {Q : Shared → Prop}, Inv (X.suite a (X.pn ++ pins)) [] σ6 H6 s6 → (∀ s7, Inv X pins (σ6.set i none) H6 s7 → Q s7) →
          wpAny (model X.prog X.w) X.A (do bindName X.env n .none; unbindBehindTheSuite X.env n pos') (fun _ s7 => Q s7) X.xe s6 := fun {σ6 H6 Q} S6 hq => gone_ok (S6.unsuiteT ok) hN hi hln hq
      cases f with
      | next =>
        obtain ⟨σ6, H6, S6, q6⟩ := hsp
        exact end_ S6 fun s7 J7 => ⟨_, _, J7, q6⟩
      | brk =>
        obtain ⟨σ6, H6, S6, q6⟩ := hsp
        exact end_ S6 fun s7 J7 => ⟨_, _, J7, q6⟩
      | cont =>
        obtain ⟨σ6, H6, S6, q6⟩ := hsp
        exact end_ S6 fun s7 J7 => ⟨_, _, J7, q6⟩
      | ret u =>
        obtain ⟨v6, σ6, H6, S6, r6, q6⟩ := hsp
        exact end_ S6 fun s7 J7 => ⟨_, _, _, J7, r6, q6⟩
    | false =>
      show wpAny _ X.A (handleBy (.ref a) X.env []) _ _ _
      refine wpAny_handleBy_nil ?_
      obtain ⟨k1, k2, k3, oe, vs, T, oT, ts', he, hz, hd, h1, hr⟩ := id fl3
      unfold PySem.passOn
      refine wpAny_bind (wpAny_field he hd h1 ?_)
      rw [if_neg (show ¬ ((Value.ref T == Value.none) = true) from by simp)]
      have fin : wpAny (model X.prog X.w) X.A (setFlight (.ref a) X.env.frame) (fun _ s4 => wpAny (model X.prog X.w) X.A (throw (.ref a) : Sem Flow) (SP X pins D) X.xe s4) X.xe { s' with heap := h3 } := by
        rw [hf]
        refine HandSPX.setFlight_upZ fl3 fun h4 hh4 up4 => wpAny_throw (tk _ _ ?_)
        exact ⟨a, B, sI, pins, σ', H', cls, d, rfl, J, nb, (up.trans up3).trans up4, .inr (.inr (by rw [hs]; exact hh4)), na, os, ag, hno rfl⟩
      first
        | exact wpAny_bind (wpAny_pure (wpAny_bind fin))
        | exact wpAny_bind fin
  · cases f with
    | next =>
      obtain ⟨σ', H', J', q⟩ := hsp
      exact wpAny_execs_nil ⟨σ', H', J'.ofTry ok, q⟩
    | brk =>
      obtain ⟨σ', H', J', q⟩ := hsp
      exact ⟨σ', H', J'.ofTry ok, q⟩
    | cont =>
      obtain ⟨σ', H', J', q⟩ := hsp
      exact ⟨σ', H', J'.ofTry ok, q⟩
    | ret u =>
      obtain ⟨v, σ', H', J', r, q⟩ := hsp
      exact ⟨v, σ', H', J'.ofTry ok, r, q⟩
end
end L2

namespace Mir
open PySem PySem.Spec L2
/-! ### what is shared stays in its slots where a body raises -/
def onlyF (Z : List Nat) : Nat → Env → Env
  | _, [] => []
  | j, x :: e => (if Z.contains j = true then (match x with | some (0, d) => some (0, d) | _ => none) else none) :: onlyF Z (j + 1) e
def only (Z : List Nat) (env : Env) : Env := onlyF Z 0 env
theorem onlyF_length (Z : List Nat) : ∀ (env : Env) (j : Nat), (onlyF Z j env).length = env.length
  | [], _ => rfl
  | _ :: e, j => by simp [onlyF, onlyF_length Z e (j + 1)]
theorem onlyF_slots (Z : List Nat) : ∀ (env : Env) (σ : St) (j : Nat), ∀ x ∈ slots (onlyF Z j env) σ, x.2.1 = 0 ∧ x ∈ slots env σ
  | [], _, _, x, h => by simp [onlyF, slots] at h
  | y :: e, [], j, x, h => by
    unfold onlyF at h
    generalize (if Z.contains j = true then _ else _ : Option (Nat × D)) = z at h
    cases z <;> simp [slots] at h
  | y :: e, s :: σ, j, x, h => by
    have ih := onlyF_slots Z e σ (j + 1)
    have sub : ∀ w ∈ slots e σ, w ∈ slots (y :: e) (s :: σ) := fun w hw => by
      cases y with
      | none => cases s <;> exact hw
      | some kd =>
        obtain ⟨k, d⟩ := kd
        cases s with
        | none => exact hw
        | some v => exact List.mem_cons_of_mem _ hw
    unfold onlyF at h
    by_cases hz : Z.contains j = true
    · rw [if_pos hz] at h
      match y, s, h with
      | some (0, d), some v, h =>
        have h' : x ∈ (v, 0, d) :: slots (onlyF Z (j + 1) e) σ := h
        rcases List.mem_cons.mp h' with rfl | h'
        · exact ⟨rfl, List.mem_cons_self⟩
        · exact ⟨(ih x h').1, sub x (ih x h').2⟩
      | some (0, d), none, h => exact ⟨(ih x h).1, sub x (ih x h).2⟩
      | some (k + 1, d), some v, h => exact ⟨(ih x h).1, sub x (ih x h).2⟩
      | some (k + 1, d), none, h => exact ⟨(ih x h).1, sub x (ih x h).2⟩
      | none, some v, h => exact ⟨(ih x h).1, sub x (ih x h).2⟩
      | none, none, h => exact ⟨(ih x h).1, sub x (ih x h).2⟩
    · rw [if_neg hz] at h
      have h' : x ∈ slots (onlyF Z (j + 1) e) σ := by cases s <;> exact h
      exact ⟨(ih x h').1, sub x (ih x h').2⟩
theorem onlyF_same (Z : List Nat) : ∀ (env : Env) (σ σ' : St) (j : Nat), σ'.length = σ.length → (∀ z ∈ Z, j ≤ z → σ'[z - j]? = σ[z - j]?) → slots (onlyF Z j env) σ' = slots (onlyF Z j env) σ
  | [], σ, σ', _, _, _ => by simp [onlyF, slots]
  | y :: e, [], [], j, _, _ => rfl
  | y :: e, [], _ :: _, j, hl, _ => by simp at hl
  | y :: e, _ :: _, [], j, hl, _ => by simp at hl
  | y :: e, s :: σ, s' :: σ', j, hl, h => by
    have ih := onlyF_same Z e σ σ' (j + 1) (by simpa using hl) fun z hz hj => by
      have := h z hz (by omega)
      have e1 : z - j = (z - (j + 1)) + 1 := by omega
      rw [e1] at this
      simpa using this
    unfold onlyF
    by_cases hz : Z.contains j = true
    · have hs : s' = s := by
        have hm : j ∈ Z := by simpa using hz
        have := h j hm (Nat.le_refl _)
        simpa using this
      subst hs
      rw [if_pos hz]
      match y, s' with
      | some (0, d), some v => exact congrArg (List.cons (v, 0, d)) ih
      | some (0, d), none => exact ih
      | some (k + 1, d), some v => exact ih
      | some (k + 1, d), none => exact ih
      | none, some v => exact ih
      | none, none => exact ih
    · rw [if_neg hz]
      show slots (onlyF Z (j + 1) e) σ' = slots (onlyF Z (j + 1) e) σ
      exact ih
theorem onlyF_get (Z : List Nat) : ∀ (env : Env) (j i : Nat) (kd : Nat × D), (onlyF Z j env)[i]? = some (some kd) → Z.contains (j + i) = true ∧ env[i]? = some (some kd)
  | [], _, _, _, h => by simp [onlyF] at h
  | y :: e, j, 0, kd, h => by
    unfold onlyF at h
    by_cases hz : Z.contains j = true
    · rw [if_pos hz] at h
      refine ⟨by simpa using hz, ?_⟩
      match y, h with
      | some (0, d), h => simpa using h
      | some (k + 1, d), h => simp at h
      | none, h => simp at h
    · rw [if_neg hz] at h; simp at h
  | y :: e, j, i + 1, kd, h => by
    unfold onlyF at h
    obtain ⟨h1, h2⟩ := onlyF_get Z e (j + 1) i kd (by simpa using h)
    exact ⟨by rw [show j + (i + 1) = j + 1 + i by omega]; exact h1, by simpa using h2⟩
theorem HoldAll.zeroMem {G H : Hp} : ∀ {hs : List Hold} {fp : List Addr}, HoldAll G H hs fp → ∀ x ∈ hs, x.2.1 = 0 → Rp G x.1 x.2.2
  | _, _, .nil, x, h, _ => by cases h
  | _, _, .cons (k := k) h r, x, hx, e => by
    rcases List.mem_cons.mp hx with rfl | hx
    · have e' : k = 0 := e
      subst e'
      exact h.zero.2
    · exact HoldAll.zeroMem r x hx e
theorem HoldAll.zeros {G H : Hp} : ∀ {hs : List Hold}, (∀ x ∈ hs, x.2.1 = 0 ∧ Rp G x.1 x.2.2) → HoldAll G H hs []
  | [], _ => .nil
  | (v, k, d) :: hs, h => by
    obtain ⟨e, r⟩ := h (v, k, d) List.mem_cons_self
    have e' : k = 0 := e
    subst e'
    exact HoldAll.cons (f := []) (g := []) (.of r) (HoldAll.zeros fun x hx => h x (List.mem_cons_of_mem _ hx))
section
variable {B : Bs} {H H' : Hp} {env : Env} {σ σ' : St} {tm : List Hold}
theorem EnvOk.dupZ (Z : List Nat) (h : EnvOk B H env σ tm) : EnvOk B H env σ (slots (only Z env) σ ++ tm) := by
  obtain ⟨⟨G, fp, g, hs, nd, hp⟩, h2, h3⟩ := h
  have hz : HoldAll G H (slots (only Z env) σ) [] := HoldAll.zeros fun x hx => by
    obtain ⟨e, hm⟩ := onlyF_slots Z env σ 0 x hx
    exact ⟨e, hs.zeroMem x (List.mem_append_left _ hm) e⟩
  have app : ∀ {l : List Hold} {f : List Addr} {m : List Hold} {g : List Addr}, HoldAll G H l f → HoldAll G H m g → HoldAll G H (l ++ m) (f ++ g) := by
    intro l
    induction l with
    | nil => intro f m g a b; cases a; exact b
    | cons x l ih =>
      intro f m g a b
      cases a with
      | cons a1 a2 =>
        rw [List.append_assoc]
        exact .cons a1 (ih a2 b)
  obtain ⟨fp', hs', q⟩ := (app hz hs).perm (hs' := slots env σ ++ (slots (only Z env) σ ++ tm)) (by
    rw [← List.append_assoc, ← List.append_assoc]
    exact List.Perm.append_right _ List.perm_append_comm)
  rw [List.nil_append] at q
  exact ⟨⟨G, fp', g, hs', q.nodup_iff.mp nd, fun p hm => hp p (q.mem_iff.mpr hm)⟩, h2, h3⟩
theorem EnvOk.backZ {Z : List Nat} (h : EnvOk B H env σ tm) (h' : EnvOk B H' [] [] (slots (only Z env) σ ++ tm)) (hl : σ'.length = σ.length) (k : Kp Z σ σ') : EnvOk B H' (only Z env) σ' tm := by
  obtain ⟨⟨G, fp, g, hs, nd, hp⟩, _, _⟩ := h'
  refine ⟨⟨G, fp, g, ?_, nd, hp⟩, ?_, fun i kd e => ?_⟩
  · rw [show slots (only Z env) σ' = slots (only Z env) σ from onlyF_same Z env σ σ' 0 hl fun z hz _ => by simpa using k z hz]
    exact hs
  · rw [show (only Z env).length = env.length from onlyF_length Z env 0, h.len, hl]
  · obtain ⟨h1, h2⟩ := onlyF_get Z env 0 i kd e
    obtain ⟨v, hv⟩ := h.has i kd h2
    exact ⟨v, by rw [k i (by simpa using h1)]; exact hv⟩
/-- an exception's object, as a thing that is shared -/
theorem EnvOk.addExn {a C : Addr} {dd : Option Addr} {ns : List Str} {as : List D} {c : Str} (ok : EnvOk B H env σ tm) (na : H a = none) (xa : XAt B H dd ns as) : EnvOk B (upd H a (ExH (.ref C) dd a)) env σ ((.ref a, 0, .exn c C ns as) :: tm) := by
  obtain ⟨⟨G, fp, g, hs, nd, hp⟩, h2, h3⟩ := ok
  have fin : ∀ (G1 : Hp), Good B G1 H → (∀ b u, G b = some u → G1 b = some u) → (∀ p ∈ fp, G1 p = none) → Rp (upd G1 a (ExH (.ref C) dd a)) (.ref a) (.exn c C ns as) → EnvOk B (upd H a (ExH (.ref C) dd a)) env σ ((.ref a, 0, .exn c C ns as) :: tm) := fun G1 g1 hG hp1 r => by
    have g2 := g1.newSh na (o := ExH (.ref C) dd a) rfl
    have gn := g1.gnone na
    have hG2 : ∀ b u, G b = some u → upd G1 a (ExH (.ref C) dd a) b = some u := fun b u e => up_keep gn b u (hG b u e)
    have hm := hs.mu
    have hs1 : HoldAll (upd G1 a (ExH (.ref C) dd a)) (upd H a (ExH (.ref C) dd a)) (slots env σ ++ tm) fp := hs.frame hG2 fun b u e _ => up_keep na b u e
    obtain ⟨fp2, hs2, q2⟩ := (HoldAll.cons (Od.of r) hs1).perm (hs' := slots env σ ++ (.ref a, 0, .exn c C ns as) :: tm) List.perm_middle.symm
    rw [List.nil_append] at q2
    refine ⟨⟨_, fp2, g2, hs2, q2.nodup_iff.mp nd, fun p hpm => ?_⟩, h2, h3⟩
    have hpf := q2.mem_iff.mpr hpm
    obtain ⟨u, e, _⟩ := hm p hpf
    have pa : p ≠ a := fun z => by rw [z, na] at e; cases e
    exact ⟨(hp p hpf).1, by rw [upd_ne pa]; exact hp1 p hpf⟩
  rcases xa with ⟨rfl, rfl, rfl⟩ | ⟨dx, kvs, rfl, h4, h5, h6, h7, h8⟩
  · exact fin G g (fun _ _ e => e) (fun p hm => (hp p hm).2) (.exn0 upd_same)
  · have hv : view H dx = some (.xd kvs) := by unfold view; rw [h5]; rfl
    have hG : ∀ b u, G b = some u → upd G dx (.xd kvs) b = some u := fun b u e => by
      by_cases z : b = dx
      · subst z
        rw [upd_same, ← hv]; exact g.gs b u e
      · rw [upd_ne z]; exact e
    have dxa : dx ≠ a := fun z => by rw [z, na] at h5; cases h5
    have g1 : Good B (upd G dx (.xd kvs)) H := ⟨g.bs, fun b e => by
      have z : b ≠ dx := fun z => by rw [z] at e; exact e h4
      rw [upd_ne z]; exact g.g0 b e, fun b u e => by
      by_cases z : b = dx
      · subst z; rw [upd_same] at e; rw [hv]; exact e
      · rw [upd_ne z] at e; exact g.gs b u e, fun b u im e => hG b u (g.gt b u im e), g.nf⟩
    refine fin _ g1 hG (fun p hm => ?_) (.exn (dx := dx) upd_same (by rw [upd_ne dxa, upd_same]) h6 ?_)
    · obtain ⟨u, e, mu⟩ := hs.mu p hm
      have z : p ≠ dx := fun z => by rw [z, h5] at e; cases e; exact mu
      rw [upd_ne z]; exact (hp p hm).2
    · have r1 : RpAll (upd G dx (.xd kvs)) (kvs.map (·.2)) as := h7.immTo g1.gt h8
      exact r1.mono (up_keep (g1.gnone na))
end
theorem EnvOk.gone {B : Bs} {H : Hp} {e : Env} {σ : St} {tm : List Hold} (h : EnvOk B H e σ tm) (i : Nat) : EnvOk B H (e.set i none) (σ.set i none) tm := by
  by_cases hi : i < e.length
  · exact (h.forget i).blank (List.getElem?_set_self hi)
  · rw [List.set_eq_of_length_le (by omega), List.set_eq_of_length_le (by rw [← h.len]; omega)]
    exact h
/-! ### try: .. except X as e: .. -/
def mTry (i : Nat) (tab : Str → Option Bool) (Z : List Nat) (κ : Str → Addr) (mb ms : Env → Res Ctl) : Env → Res Ctl := fun env => match mb env with
  | .exc c ns as => (match tab c with
    | some true => (if i < env.length then nx (ms ((only Z env).set i (some (0, .exn c (κ c) ns as)))) else .bad) >>= fun r => (match r with
      | .nx e => .ok (.nx (e.set i none))
      | .bk e => .ok (.bk (e.set i none))
      | .ct e => .ok (.ct (e.set i none))
      | .rt d => .ok (.rt d))
    | some false => .exc c ns as
    | none => .bad)
  | .ok r => .ok r
  | .bad => .bad
theorem s1_of {X : Cx} {κ : Str → Addr} {kr : Nat} {W : WX} {st : Stmt} {m : Env → Res Ctl} (h : S1K X κ kr [] W st m) : S1 X kr st m := fun B H env σ tm D r ok hm p => by
  refine h B H env σ tm D ok ?_
  rw [hm]
  cases r with
  | nx e => exact fun σ' H' ok' _ => p σ' H' ok'
  | bk e => exact fun σ' H' ok' _ => p σ' H' ok'
  | ct e => exact fun σ' H' ok' _ => p σ' H' ok'
  | rt d => exact p
section
variable {X : Cx} {κ : Str → Addr} {kr : Nat} {Z : List Nat} {x n : Str} {c : Value} {i : Nat} {body suite : List Stmt} {b₀ : Stmt} {np pos pos' : Pos} {Wout : WX} {mb ms : Env → Res Ctl} {tab : Str → Option Bool}
theorem s_tryK (hs : X.stack = X.env :: X.outer) (hf : X.env.frame = some X.env.locals) (hN : X.N.Nodup) (hi : X.N[i]? = some n) (hln : X.env.kindOf n = some .local) (hc : Names X x c) (tk : Takes X Wout)
    (htab : ∀ s b, tab s = some b → PySem.W.exmOne X.K (.ref (κ s)) c = some b)
    (hb : ∀ (W : WX) (pn : List (Addr × Obj)) (xe : Value → Shared → Prop), Takes (X.tr pn xe) W → PassesOwn (model X.prog X.w) X.A X.env xe → SSK (X.tr pn xe) κ kr Z W body mb)
    (hsu : ∀ (a : Addr) (pn : List (Addr × Obj)), SS (X.suite a pn) kr (b₀ :: suite) ms) :
    S1K X κ kr [] Wout (.Try body [.ExceptHandler (some (.Name x np)) (some n) (b₀ :: suite) pos'] [] [] pos) (mTry i tab Z κ mb ms) := fun B H env σ tm D ok p => by
  refine wS_of (ps_tryT (tb := fun W D σ H => ∀ (pn : List (Addr × Obj)) (xe : Value → Shared → Prop), Takes (X.tr pn xe) W → PassesOwn (model X.prog X.w) X.A X.env xe → wB (X.tr pn xe) body D σ H)
    (ts := fun a D σ H => ∀ pn, wB (X.suite a pn) (b₀ :: suite) D σ H) hs hf hN hi hln hc tk (fun W pn xe t1 t2 => ⟨fun pins s σ H D I h => h pn xe t1 t2 pins s I⟩) fun a pn => ⟨fun pins s σ H D I h => h pn pins s I⟩) ?_
  intro pn xe t1 t2
  refine hb _ pn xe t1 t2 B H env σ (slots (only Z env) σ ++ tm) D (ok.dupZ Z) ?_
  have lenEq := ok.len
  unfold mTry at p
  cases hm : mb env with
  | bad => rw [hm] at p; exact p.elim
  | ok r =>
    rw [hm] at p
    cases r with
    | nx e => exact fun σ' H' ok' k' => p σ' H' ok'.less (fun _ z => nomatch z)
    | bk e => exact fun σ' H' ok' k' => p σ' H' ok'.less (fun _ z => nomatch z)
    | ct e => exact fun σ' H' ok' k' => p σ' H' ok'.less (fun _ z => nomatch z)
    | rt d =>
      refine fun v H' ok' => p v H' (EnvOk.less (l := slots (only Z env) σ) (ok'.perm ?_))
      exact List.perm_middle.symm
  | exc cc ns as =>
    rw [hm] at p
    intro σ' H' dd xa ok' k' hlen
    dsimp only at p
    cases ht : tab cc with
    | none => rw [ht] at p; exact p.elim
    | some b =>
      rw [ht] at p
      refine ⟨b, htab cc b ht, fun eb => ?_, fun eb => ?_⟩
      · subst eb
        dsimp only at p
        intro a na pn2
        have hi2 : i < env.length := by
          by_cases z : i < env.length
          · exact z
          · rw [if_neg z] at p; exact p.elim
        rw [if_pos hi2] at p
        have hl : σ'.length = σ.length := hlen
        have ok1 := EnvOk.backZ ok ok' hl k'
        have ok2 : EnvOk B (upd H' a (ExH (.ref (κ cc)) dd a)) (only Z env) σ' ((.ref a, 0, .exn cc (κ cc) ns as) :: tm) := ok1.addExn na xa
        have ok3 := ok2.store (i := i) (by rw [show (only Z env).length = env.length from onlyF_length Z env 0]; exact hi2)
        cases hms : ms ((only Z env).set i (some (0, .exn cc (κ cc) ns as))) with
        | bad => rw [hms] at p; exact p.elim
        | exc c2 ns2 as2 => rw [hms] at p; exact p.elim
        | ok r =>
          rw [hms] at p
          refine hsu a pn2 B _ _ _ tm _ r ok3 hms ?_
          cases r with
          | nx e => exact fun σ5 H5 ok5 => p _ H5 (ok5.gone i) (fun _ z => nomatch z)
          | bk e => exact fun σ5 H5 ok5 => p _ H5 (ok5.gone i) (fun _ z => nomatch z)
          | ct e => exact fun σ5 H5 ok5 => p _ H5 (ok5.gone i) (fun _ z => nomatch z)
          | rt d => exact fun v H5 ok5 => p v H5 ok5
      · subst eb
        dsimp only at p
        exact p σ' H' dd xa ok'.less (fun _ z => nomatch z)
end
end Mir

namespace Mir
open PySem PySem.Spec L2
open PyProof.Rows (envOfC)
/-! ### own exception classes -/
def xisB (K : PySem.W.Frag) (C : Addr) : Bool := (PySem.W.clsIn K C).isSome && (decide (PySem.W.findIn K (.ref C) "__getattribute__" = some (some (.builtin "BaseException.__getattribute__"))) && (decide (PySem.W.findIn K (.ref C) "__getattr__" = some none) && (decide (PySem.W.subIn K (.ref C) (.type "BaseException") = some true)
  && (decide (PySem.W.findIn K (.ref C) "__class__" = some (some (.builtin "object.__class__"))) && (decide (PySem.W.specialIn K (.builtin "object.__class__") "__get__" = some (some (.builtin "getset_descriptor.__get__"))) && (decide (PySem.W.takesIn K (.builtin "object.__class__") = some true)
  && (decide (PySem.W.mroIn K C (.type "object") = some true) && (PySem.W.hasDictIn K C && (decide (PySem.W.typeIn K (.ref C) = some (.type "type")) && PySem.W.keepIn K (.ref C))))))))))
structure XIs (K : PySem.W.Frag) (C : Addr) : Prop where
  hcl : (PySem.W.clsIn K C).isSome = true
  ga : PySem.W.findIn K (.ref C) "__getattribute__" = some (some (.builtin "BaseException.__getattribute__"))
  gg : PySem.W.findIn K (.ref C) "__getattr__" = some none
  sub : PySem.W.subIn K (.ref C) (.type "BaseException") = some true
  ca : PySem.W.findIn K (.ref C) "__class__" = some (some (.builtin "object.__class__"))
  hn : PySem.W.specialIn K (.builtin "object.__class__") "__get__" = some (some (.builtin "getset_descriptor.__get__"))
  ht : PySem.W.takesIn K (.builtin "object.__class__") = some true
  hm : PySem.W.mroIn K C (.type "object") = some true
  hd : PySem.W.hasDictIn K C = true
  ty : PySem.W.typeIn K (.ref C) = some (.type "type")
  kp : PySem.W.keepIn K (.ref C) = true
theorem xisB_ok {K : PySem.W.Frag} {C : Addr} (h : xisB K C = true) : XIs K C := by
  unfold xisB at h
  simp only [Bool.and_eq_true, decide_eq_true_eq] at h
  obtain ⟨h1, h2, h3, h4, h5, h6, h7, h8, h9, h10, h11⟩ := h
  exact ⟨h1, h2, h3, h4, h5, h6, h7, h8, h9, h10, h11⟩
def xmkB (K : PySem.W.Frag) (C : Addr) : Bool := PySem.W.excIn K C [.type "ValueError", .type "Exception", .type "BaseException", .type "object"] "ValueError.__new__"
/-- the class named c stands at κ c -/
structure XCl (K : PySem.W.Frag) (mg : Str → Option Value) (κ : Str → Addr) (c : Str) : Prop where
  g : mg c = some (.ref (κ c))
  is : xisB K (κ c) = true
structure XMk (K : PySem.W.Frag) (mg : Str → Option Value) (κ : Str → Addr) (c : Str) : Prop where
  cl : XCl K mg κ c
  mkx : xmkB K (κ c) = true
section
variable {X : Cx} {κ : Str → Addr} {kr : Nat} {Z : List Nat} {W : WX} {pos : Pos}
theorem s_raiseC {x msg : Str} {j : Nat} {p p2 pos' : Pos} (M : XMk X.K X.mg κ x) (hc : X.calm = true) (tk : Takes X W) (hg : Gl X x) (hdb : (x == ("__debug__" : Str)) = false := by decide) :
    S1K X κ kr Z W (.Raise (some (.Call (.Name x p) [.Constant (.str msg) j p2] [] pos')) none pos) (mRaise x) :=
  have I := xisB_ok M.cl.is
  s_raiseK (C := κ x) hc tk F.excBase_ValueError M.mkx M.cl.g I.kp (raises_own I.sub I.ty) rfl hg hdb
theorem rd_exn {P : Program} {w : World} {K : PySem.W.Frag} {H : Hp} {h : Heap} {a C : Addr} {dd : Option Addr} (hok : HOk P w H h) (e : view H a = some (ExH (.ref C) dd a)) : ∃ oe vs, h.get? a = some oe ∧ Zc (.ref C) dd oe ∧ oe.data = .fields vs := by
  have := (view_rd e).ok hok
  exact this.1
/-- what an exception's object is to the library -/
theorem inst_exn {K : PySem.W.Frag} {P : Program} {w : World} {H : Hp} {h : Heap} {a : Addr} {c : Str} {C : Addr} {ns : List Str} {as : List D} (hok : HOk P w H h) (r : Rp (view H) (.ref a) (.exn c C ns as)) :
    ∃ oe od, PySem.W.InstAt h a oe C od ∧ (ns = [] ∨ ∃ dx kvs o, od = some o ∧ h.get? dx = some o ∧ view H dx = some (.xd kvs) ∧ kvs.map (·.1) = ns ∧ RpAll (view H) (kvs.map (·.2)) as) := by
  cases r with
  | exn0 e =>
    obtain ⟨oe, vs, h1, h2, h3⟩ := rd_exn (K := K) hok e
    exact ⟨oe, none, ⟨h1, h2.1, by unfold PySem.W.notCls; rw [h3] <;> rfl, by rw [h2.2]; exact True.intro⟩, .inl rfl⟩
  | @exn _ _ dx kvs _ _ _ e e2 e3 ra =>
    obtain ⟨oe, vs, h1, h2, h3⟩ := rd_exn (K := K) hok e
    obtain ⟨mA, ⟨od, es, ep, q, r2⟩, hr⟩ := (show ObjOk P w H h dx (.xd kvs) from (view_rd e2).ok hok)
    exact ⟨oe, some od, ⟨h1, h2.1, by unfold PySem.W.notCls; rw [h3] <;> rfl, by rw [h2.2]; exact q⟩, .inr ⟨dx, kvs, od, rfl, q, e2, e3, ra⟩⟩
/-- isinstance(e, C): e an exception or None -/
def mIsO (κ : Str → Addr) (tab : Str → Option Bool) (m : Env → Res D) : Env → Res D := fun env => m env >>= fun d => match d with
  | .non => .ok (.bl false)
  | .exn c C _ _ => if C = κ c then (match tab c with | some b => .ok (.bl b) | none => .bad) else .bad
  | _ => .bad
def rIsO (K : PySem.W.Frag) (κ : Str → Addr) (tab : Str → Option Bool) (cv : Value) : List V → Hp → VK → Prop := fun xs H Q => ∃ (x c : V) (d : D) (b : Bool), xs = [x, c] ∧ RelV c cv ∧ Rp (view H) x d ∧ (d = .non ∧ b = false ∨ ∃ s ns as, d = .exn s (κ s) ns as ∧ tab s = some b) ∧ Q (.bl b) H
theorem call_isO {tab : Str → Option Bool} {cv : Value} (hcv : ∀ c u, RelV c cv → RelV c u → u = cv) (hnon : PySem.W.kitOne X.K (.type "NoneType") cv = some false) (htab : ∀ s b, tab s = some b → PySem.W.kitOne X.K (.ref (κ s)) cv = some b ∧ XIs X.K (κ s)) : CallR X (.builtin "isinstance") (rIsO X.K κ tab cv) := by
  intro pins s σ H xs us Q I r h
  obtain ⟨x, c, d, b, rfl, rc, rp, hd, q⟩ := h
  obtain ⟨u1, u2, rfl, r1, r2⟩ := vals2 r
  have e2 : u2 = cv := hcv c u2 rc r2
  subst e2
  rcases hd with ⟨rfl, rfl⟩ | ⟨sn, ns, as, rfl, ht⟩
  · cases rp
    cases (show u1 = Value.none from r1)
    exact PySem.W.kia_one PySem.W.kitx_none I.kIn True.intro hnon (fun z => nomatch z) fun tk => ⟨.bl false, H, I.tok tk, rfl, q⟩
  · obtain ⟨hk, Y⟩ := htab sn b ht
    have : ∃ a, x = .ref a := by cases rp <;> exact ⟨_, rfl⟩
    obtain ⟨a, rfl⟩ := this
    cases (show u1 = Value.ref a from r1)
    obtain ⟨oe, od, J, _⟩ := inst_exn (K := X.K) I.hok rp
    exact PySem.W.kia_one (PySem.W.kitx_exc Y.hcl Y.ga Y.gg Y.sub Y.ca Y.hn Y.ht Y.hm) I.kIn J hk (fun z => nomatch z) fun tk => ⟨.bl b, H, I.tok tk, rfl, q⟩
variable {a b : Expr} {m : Env → Res D} {p : Pos}
theorem sc_isO {tab : Str → Option Bool} {cv : Value} {c : V} (hg : Gl X "isinstance") (hm0 : X.mg "isinstance" = none) (h : SB X a m) (hT : PE X b (tC c)) (rc : RelV c cv) (hcv : ∀ c u, RelV c cv → RelV c u → u = cv) (hnon : PySem.W.kitOne X.K (.type "NoneType") cv = some false) (htab : ∀ s b, tab s = some b → PySem.W.kitOne X.K (.ref (κ s)) cv = some b ∧ XIs X.K (κ s))
    (he : starEach [a, b] X.env = (false, eval a X.env) :: starEach [b] X.env := by rfl) (he2 : starEach [b] X.env = (false, eval b X.env) :: starEach [] X.env := by rfl) (hpl : (backTo pos (starEach [b] X.env)).any (·.1) = false := by rfl) :
    SC X (.Call (.Name "isinstance" p) [a, b] [] pos) (mIsO κ tab m) := fun B H env σ tm d Q ok hm q => by
  obtain ⟨x, hx, h2⟩ := bind_ok hm
  have key : ∃ bb, d = .bl bb ∧ (x = .non ∧ bb = false ∨ ∃ s ns as, x = .exn s (κ s) ns as ∧ tab s = some bb) := by
    split at h2
    · cases h2; exact ⟨false, rfl, .inl ⟨rfl, rfl⟩⟩
    · rename_i s C ns as
      split at h2
      · rename_i hC
        subst hC
        split at h2
        · rename_i bb ht
          cases h2
          exact ⟨bb, rfl, .inr ⟨s, ns, as, rfl, ht⟩⟩
        · cases h2
      · cases h2
    · cases h2
  obtain ⟨bb, rfl, hk⟩ := key
  refine wE_of (pe_callB (call_isO hcv hnon htab) hg hm0 (by decide +kernel) (pa_cons pe_sem (pa_cons hT pa_nil he2) he) (by decide) (by decide) he hpl) (h B H env σ tm _ _ ok hx fun v H1 x1 ok1 r => ?_)
  exact ⟨v, c, x, bb, rfl, rc, r, hk, q _ H1 x1 ok1 (.bl _) rfl⟩
theorem rel_ref {C : Addr} : ∀ c u, RelV c (.ref C) → RelV c u → u = .ref C := fun c u h1 h2 => by
  cases c with
  | ref a => cases (show Value.ref C = Value.ref a from h1); exact h2
  | non => cases (show Value.ref C = Value.none from h1)
  | bl b => cases (show Value.ref C = Value.bool b from h1)
  | int i => obtain ⟨t, e⟩ := (show ∃ t, Value.ref C = Value.int i t from h1); cases e
  | str i => obtain ⟨t, e⟩ := (show ∃ t, Value.ref C = Value.str i t from h1); cases e
  | byt i => obtain ⟨t, e⟩ := (show ∃ t, Value.ref C = Value.bytes i t from h1); cases e
  | flt i => obtain ⟨t, e⟩ := (show ∃ t, Value.ref C = Value.float i t from h1); cases e
  | ty n => cases (show Value.ref C = Value.type n from h1)
/-- .. an own class -/
theorem sc_isOwn {tab : Str → Option Bool} {x : Str} {p2 : Pos} (Y : XCl X.K X.mg κ x) (hg : Gl X "isinstance") (hm0 : X.mg "isinstance" = none) (hx : Gl X x) (h : SB X a m) (hnon : PySem.W.kitOne X.K (.type "NoneType") (.ref (κ x)) = some false) (htab : ∀ s b, tab s = some b → PySem.W.kitOne X.K (.ref (κ s)) (.ref (κ x)) = some b ∧ XIs X.K (κ s))
    (hd : (x == ("__debug__" : Str)) = false := by decide)
    (he : starEach [a, .Name x p2] X.env = (false, eval a X.env) :: starEach [.Name x p2] X.env := by rfl) (he2 : starEach [.Name x p2] X.env = (false, eval (.Name x p2) X.env) :: starEach [] X.env := by rfl) (hpl : (backTo pos (starEach [.Name x p2] X.env)).any (·.1) = false := by rfl) :
    SC X (.Call (.Name "isinstance" p) [a, .Name x p2] [] pos) (mIsO κ tab m) :=
  sc_isO (cv := .ref (κ x)) (c := .ref (κ x)) hg hm0 h (pe_glob hx Y.g rfl hd) rfl rel_ref hnon htab he he2 hpl
/-- e.f, e an exception -/
def mXf (κ : Str → Addr) (c f : Str) (m : Env → Res D) : Env → Res D := fun env => m env >>= fun d => match d with
  | .exn s C ns as => if s = c ∧ C = κ c ∧ ns.length = as.length then (match (ns.zip as).lookup f with | some d => .ok d | none => .bad) else .bad
  | _ => .bad
end
/-! ### the end, with the classes' places -/
def kOf (K : PySem.W.Frag) (c : Str) : Addr := match PySem.W.nsIn K mainGlobals c with
  | some (some (.ref a)) => a
  | _ => 0
theorem kOf_eq {K : PySem.W.Frag} {c : Str} {a : Addr} (h : PySem.W.nsIn K mainGlobals c = some (some (.ref a))) : kOf K c = a := by unfold kOf; rw [h]
theorem xcl_of {K : PySem.W.Frag} {mg : Str → Option Value} {h : Heap} {c : Str} {a : Addr} (X : K.In h) (G : h.Ns mainGlobals mg) (z : PySem.W.nsIn K mainGlobals c = some (some (.ref a))) (i : xisB K a = true) : XCl K mg (kOf K) c :=
  ⟨by rw [kOf_eq z]; exact PySem.W.mg_of X G z, by rw [kOf_eq z]; exact i⟩
end Mir
namespace Mir
open PySem PySem.Spec L2
/-! ### tables of classes -/
def tb (l : List (Str × Bool)) : Str → Option Bool := fun c => l.lookup c
def TabK (K : PySem.W.Frag) (κ : Str → Addr) (cv : Value) : List (Str × Bool) → Prop
  | [] => True
  | (s, b) :: l => (PySem.W.kitOne K (.ref (κ s)) cv = some b ∧ XIs K (κ s)) ∧ TabK K κ cv l
def TabE (K : PySem.W.Frag) (κ : Str → Addr) (cv : Value) : List (Str × Bool) → Prop
  | [] => True
  | (s, b) :: l => PySem.W.exmOne K (.ref (κ s)) cv = some b ∧ TabE K κ cv l
theorem tabK_ok {K : PySem.W.Frag} {κ : Str → Addr} {cv : Value} : ∀ {l : List (Str × Bool)}, TabK K κ cv l → ∀ s b, tb l s = some b → PySem.W.kitOne K (.ref (κ s)) cv = some b ∧ XIs K (κ s)
  | [], _, s, b, h => by simp [tb] at h
  | (t, c) :: l, h, s, b, e => by
    unfold tb at e
    rw [List.lookup_cons] at e
    split at e
    · rename_i z
      have : s = t := by simpa using z
      subst this
      cases e
      exact h.1
    · exact tabK_ok h.2 s b e
theorem tabE_ok {K : PySem.W.Frag} {κ : Str → Addr} {cv : Value} : ∀ {l : List (Str × Bool)}, TabE K κ cv l → ∀ s b, tb l s = some b → PySem.W.exmOne K (.ref (κ s)) cv = some b
  | [], _, s, b, h => by simp [tb] at h
  | (t, c) :: l, h, s, b, e => by
    unfold tb at e
    rw [List.lookup_cons] at e
    split at e
    · rename_i z
      have : s = t := by simpa using z
      subst this
      cases e
      exact h.1
    · exact tabE_ok h.2 s b e
theorem names_own {X : Cx} {κ : Str → Addr} {x : Str} (hg : Gl X x) (Y : XCl X.K X.mg κ x) (hd : (x == ("__debug__" : Str)) = false := by decide) : Names X x (.ref (κ x)) := ⟨hg, hd, .inl Y.g⟩
end Mir

namespace Mir
open PySem PySem.Spec L2
open PyProof.Rows (is_bool isnot_bool)
section
variable {X : Cx} {e a b c : Expr} {m ma mb mc : Env → Res D} {pos p : Pos} {k : Nat}
/-! ### is True, is False -/
def gIsB : D → D → Res D
  | .bl x, .bl y => .ok (.bl (x == y))
  | _, _ => .bad
def gIsnB : D → D → Res D
  | .bl x, .bl y => .ok (.bl (x != y))
  | _, _ => .bad
/-! ### a < b < c -/
def mChain (g g' : D → D → Res D) (ma mb mc : Env → Res D) : Env → Res D := fun env => ma env >>= fun x => mb env >>= fun y => g x y >>= toB >>= fun k => if k then mc env >>= fun z => g' y z else .ok (.bl false)
/-! ### abs, int -/
def gAbs : D → Res D
  | .int i => .ok (.int (if i < 0 then -i else i))
  | _ => .bad
def gInt : D → Res D
  | .int i => .ok (.int i)
  | .bl k => .ok (.int (if k then 1 else 0))
  | _ => .bad
end
/-! ### raising within an expression -/
section
variable {X : Cx} {κ : Str → Addr} {W : WX} {e : Expr} {es : List Expr} {m : Env → Res D} {ms : Env → Res (List D)} {pos p : Pos} {k kr j n : Nat} {x : Str} {F : List D → Res D}
end
end Mir

namespace Mir
open PySem PySem.Spec L2
/-! ### in a tuple of numbers -/
def gInT : D → D → Res D
  | .int i, .tup ds => match intsD? ds with | some is => .ok (.bl (decide (i ∈ is))) | none => .bad
  | _, _ => .bad
def gNotInT : D → D → Res D
  | .int i, .tup ds => match intsD? ds with | some is => .ok (.bl (!decide (i ∈ is))) | none => .bad
  | _, _ => .bad
section
variable {X : Cx}
end
end Mir

namespace Mir
open PySem PySem.Spec L2
/-! ### equations of the mirrors that may raise -/
section
variable {α : Type} {m mb ms : Mir.Env → Res Ctl} {me : Mir.Env → Res D} {msA : Mir.Env → Res (List D)} {env : Mir.Env} {κ : Str → Addr}
@[simp] theorem nx_bad : nx (.bad : Res α) = .bad := rfl
@[simp] theorem nx_exc (c : Str) (ns : List Str) (as : List D) : nx (.exc c ns as : Res α) = .bad := rfl
@[simp] theorem e_mN (f : Mir.Env → Res α) : mN f env = nx (f env) := rfl
@[simp] theorem e_mExpr : mExpr me env = (me env >>= fun _ => .ok (.nx env)) := rfl
@[simp] theorem e_mRaise (c : Str) : mRaise c env = .exc c [] [] := rfl
@[simp] theorem e_mCallX (k : Nat) (F : List D → Res D) : mCallX k F msA env = (nx (msA env) >>= fun ds => F ds >>= fun d => if immAt k d then .ok d else .bad) := rfl
@[simp] theorem e_nT (t : Nat → D → Mir.Env → Res Mir.Env) (k : Nat) (d : D) : nT t k d env = nx (t k d env) := rfl
@[simp] theorem e_only (Z : List Nat) : only Z env = onlyF Z 0 env := rfl
@[simp] theorem e_onlyF_nil (Z : List Nat) (j : Nat) : onlyF Z j [] = [] := rfl
@[simp] theorem e_onlyF_cons (Z : List Nat) (j : Nat) (x : Option (Nat × D)) (e : Mir.Env) : onlyF Z j (x :: e) = (if Z.contains j = true then (match x with | some (0, d) => some (0, d) | _ => none) else none) :: onlyF Z (j + 1) e := rfl
theorem e_mTry_exc {i : Nat} {tab : Str → Option Bool} {Z : List Nat} {c : Str} {ns : List Str} {as : List D} (h : mb env = .exc c ns as) (ht : tab c = some true) (hi : i < env.length) : mTry i tab Z κ mb ms env = (nx (ms ((only Z env).set i (some (0, .exn c (κ c) ns as)))) >>= fun r => (match r with
      | .nx e => .ok (.nx (e.set i none))
      | .bk e => .ok (.bk (e.set i none))
      | .ct e => .ok (.ct (e.set i none))
      | .rt d => .ok (.rt d))) := by unfold mTry; rw [h]; dsimp only; rw [ht]; dsimp only; rw [if_pos hi] <;> rfl
@[simp] theorem e_mIsO (tab : Str → Option Bool) : mIsO κ tab me env = (me env >>= fun d => match d with
  | .non => .ok (.bl false)
  | .exn c C _ _ => if C = κ c then (match tab c with | some b => .ok (.bl b) | none => .bad) else .bad
  | _ => .bad) := rfl
@[simp] theorem e_mChain (g g' : D → D → Res D) (ma mb mc : Mir.Env → Res D) : mChain g g' ma mb mc env = (ma env >>= fun x => mb env >>= fun y => g x y >>= toB >>= fun k => if k then mc env >>= fun z => g' y z else .ok (.bl false)) := rfl
@[simp] theorem e_mXf (c f : Str) : mXf κ c f me env = (me env >>= fun d => match d with
  | .exn s C ns as => if s = c ∧ C = κ c ∧ ns.length = as.length then (match (ns.zip as).lookup f with | some d => .ok d | none => .bad) else .bad
  | _ => .bad) := rfl
@[simp] theorem e_gIsB (a b : Bool) : gIsB (.bl a) (.bl b) = .ok (.bl (a == b)) := rfl
@[simp] theorem e_gIsnB (a b : Bool) : gIsnB (.bl a) (.bl b) = .ok (.bl (a != b)) := rfl
@[simp] theorem e_gAbs (i : Int) : gAbs (.int i) = .ok (.int (if i < 0 then -i else i)) := rfl
@[simp] theorem e_gIntI (i : Int) : gInt (.int i) = .ok (.int i) := rfl
@[simp] theorem e_gIntB (k : Bool) : gInt (.bl k) = .ok (.int (if k then 1 else 0)) := rfl
@[simp] theorem e_intsD_nil : intsD? [] = some [] := rfl
@[simp] theorem e_intsD_cons (i : Int) (ds : List D) : intsD? (.int i :: ds) = (intsD? ds).map fun is => i :: is := rfl
@[simp] theorem e_gInT (i : Int) (ds : List D) : gInT (.int i) (.tup ds) = (match intsD? ds with | some is => .ok (.bl (decide (i ∈ is))) | none => .bad) := rfl
@[simp] theorem e_gNotInT (i : Int) (ds : List D) : gNotInT (.int i) (.tup ds) = (match intsD? ds with | some is => .ok (.bl (!decide (i ∈ is))) | none => .bad) := rfl
@[simp] theorem e_gIsN_exn (c : Str) (C : Addr) (ns : List Str) (ds : List D) : gIsN (.exn c C ns ds) = .ok (.bl false) := rfl
@[simp] theorem e_gNotN_exn (c : Str) (C : Addr) (ns : List Str) (ds : List D) : gNotN (.exn c C ns ds) = .ok (.bl true) := rfl
end
/-! ### a long body, step by step -/
section
variable {β : Type} {m1 m2 : Mir.Env → Res Ctl} {env e : Mir.Env} {k : Ctl → Res β} {Q : β → Prop} {t : Mir.Env → Res Bool} {d : D}
theorem t_seq (h : m1 env = .ok (.nx e)) (h2 : Tells (m2 e >>= k) Q) : Tells (mSeq m1 m2 env >>= k) Q := by
  unfold mSeq
  rw [h]; exact h2
end
end Mir

namespace Mir
open PySem PySem.Spec L2
section
variable {X : Cx} {e o i2 ep : Expr} {mv mi mp m : Env → Res D} {k kr : Nat} {pos apos cpos pos2 : Pos} {cs : List Nat}
/-! ### xs[i].append(e), e without lists, dicts -/
/-! ### xs.insert(i, e) -/
/-! ### xs.clear(), xs.reverse() -/
end
end Mir

namespace Mir
open PySem PySem.Spec L2
open PyProof.Rows (envOfC)
/-! ### x = xs[i]; ..; x.insert(p, v), told with what stays -/
/-- a Post of a bind over a result that raises nothing -/
theorem post_bind {κ : Str → Addr} {kr : Nat} {Z : List Nat} {W : WX} {B : Bs} {tm : List Hold} {σ : St} {D : Ends} {α : Type} {x : Res α} {f : α → Res Ctl} (p : PostK κ kr Z W B tm σ D (nx x >>= f)) : ∃ a, x = .ok a ∧ PostK κ kr Z W B tm σ D (f a) := by
  cases x with
  | ok a => exact ⟨a, rfl, p⟩
  | exc c ns as => exact p.elim
  | bad => exact p.elim
def SIN (X : Cx) (κ : Str → Addr) (kr : Nat) (Z : List Nat) (W : WX) (j i k : Nat) (ss : List Stmt) (m : Nat → List D → Env → Res Ctl) : Prop := ∀ (B : Bs) (H : Hp) (e : Env) (σ : St) (tm : List Hold) (D : Ends) (q a : Addr) (vs : List V) (ds : List Mir.D) (jj : Nat) (l : List Hold),
  B q = none → vs.length = ds.length → vs[jj]? = some (.ref a) → (∀ w d, (lev (k + 1) (vs.set jj w) (ds.set jj d)).Perm ((w, k + 1, d) :: l)) → EnvOk (B.lent q (.lst vs)) H e σ (l ++ tm) → i ≠ j → e[j]? = some none → σ[j]? = some (some (.ref q)) → σ[i]? = some (some (.ref a)) →
    PostK κ kr Z W B tm σ D (m jj ds e) → wB X ss D σ H
section
variable {X : Cx} {κ : Str → Addr} {Z : List Nat} {W : WX} {e ep o ix o2 : Expr} {mi mp mv : Env → Res D} {i j k kr : Nat} {pos p pos' pos2 spos apos cpos spos2 : Pos} {mr m1 : Env → Res Ctl} {m2 : Nat → List D → Env → Res Ctl} {rest ss : List Stmt} {st : Stmt} {x : Str}
def mIns (j i k : Nat) (mp mv : Env → Res D) (mr : Env → Res Ctl) : Nat → List D → Env → Res Ctl := fun jj ds e => match e[i]? with
  | some (some (k', .lst es)) => if k' = k + 1 then nx (mp e) >>= fun z => nx (mv e) >>= fun d => (match z with
    | .int pz => if 0 ≤ pz ∧ pz < 2 ^ 62 ∧ es.length < sizeLine ∧ d.imm = true then mr ((e.set i none).set j (some (k + 2, .lst (ds.set jj (.lst (es.take pz.toNat ++ [d] ++ es.drop pz.toNat)))))) else .bad
    | _ => .bad) else .bad
  | _ => .bad
theorem sin_ins (hx2 : PE X o2 (tVar i)) (hp : SB X ep mp) (hv : SB X e mv) (hr : SSK X κ kr Z W rest mr)
    (hbase : attributeBase o2 "insert" X.env (eval o2 X.env) = eval o2 X.env := by rfl)
    (hfew : ((backTo cpos (starEach [ep, e] X.env)).all (fun x => !x.1) && (backToKw cpos (keywordEach [] X.env)).all (fun x => x.1.isSome)
      && decide ([ep, e].length + ([] : List Keyword).length + (if ([] : List Keyword).isEmpty then 0 else 1) < 30)) = true := by rfl)
    (hline : (apos.endLine == cpos.line) = true := by rfl) (hst : starEach [ep, e] X.env = (false, eval ep X.env) :: starEach [e] X.env := by rfl) (hst2 : starEach [e] X.env = (false, eval e X.env) :: starEach [] X.env := by rfl) (hplain : (backTo cpos (starEach [e] X.env)).any (·.1) = false := by rfl)
    (hsw : swapsWith (.Call (.Attribute o2 "insert" apos) [ep, e] [] cpos) none spos2.line X.env = pure false := by rfl) :
    SIN X κ kr Z W j i k (.Expr (.Call (.Attribute o2 "insert" apos) [ep, e] [] cpos) spos2 :: rest) (mIns j i k mp mv mr) := fun B H env σ tm D q a vs ds jj l hBq hvl hvj l2 ok6 hij hej hsj hsi pp => by
  unfold mIns at pp
  split at pp
  · rename_i k' es hei
    split at pp
    · rename_i ek
      subst ek
      obtain ⟨z, hz, p2⟩ := post_bind pp
      obtain ⟨d, hd, p3⟩ := post_bind p2
      split at p3
      · rename_i pz
        split at p3
        · rename_i hh
          obtain ⟨hp0, hp1, hel, hdi⟩ := hh
          refine wB_of (pss_cons (ps_expr (pe_bm F.plainAttrs_list F.slot_list_insert F.type_list_insert mt_insert hx2 (pa_cons pe_sem (pa_cons pe_sem pa_nil hst2) hst) hbase hfew hline hst hplain) hsw) pss_sem) ?_
          obtain ⟨w0, hw0, rw0⟩ := ok6.slot hei
          rw [hsi] at hw0
          cases hw0
          refine ⟨.ref a, hsi, ?_⟩
          cases rw0 with
          | @lst _ ws0 _ hq0 ra0 =>
            refine ⟨.inl ⟨rfl, _, .inl (view_rd hq0)⟩, hp _ H _ _ (l ++ tm) _ _ ok6 hz fun u3 H3 x3 ok7 r7 => hv _ H3 _ _ (l ++ tm) _ _ ok7 hd fun w H4 x4 ok8 r8 => ?_⟩
            cases r7
            obtain ⟨a2, ha2, ok9⟩ := ok8.slotMu hei rfl
            rw [hsi] at ha2
            cases ha2
            obtain ⟨ws, hA, hwl, ok10⟩ := ok9.takeLst
            refine ⟨a, ws, pz, w, rfl, rfl, hA, by omega, hp0, by omega, ?_⟩
            have rw2 : Rp (view (del H4 a)) w d := r8.immTo (fun b xs im hb => by
              unfold view at hb ⊢
              have b1 : b ≠ a := fun z => by rw [z, hA] at hb; cases hb; cases im
              rw [del_ne b1]; exact hb) hdi
            have ok11 := ok10.imm (k := k) rw2 hdi
            have pm : (lev k (ws.take pz.toNat ++ [w] ++ ws.drop pz.toNat) (es.take pz.toNat ++ [d] ++ es.drop pz.toNat)).Perm ((w, k, d) :: lev k ws es) := by
              have ht : (ws.take pz.toNat).length = (es.take pz.toNat).length := by simp [hwl]
              rw [lev_append _ _ (by simp [hwl]), lev_append _ _ ht]
              show (lev k (ws.take pz.toNat) (es.take pz.toNat) ++ [(w, k, d)] ++ lev k (ws.drop pz.toNat) (es.drop pz.toNat)).Perm _
              have e0 : lev k ws es = lev k (ws.take pz.toNat) (es.take pz.toNat) ++ lev k (ws.drop pz.toNat) (es.drop pz.toNat) := by
                rw [← lev_append _ _ ht, List.take_append_drop, List.take_append_drop]
              rw [e0, List.append_assoc]
              exact List.perm_middle
            have ok12 := (ok11.perm (pm.symm.append_right _)).newLst (p := a) (by simp [hwl]) del_self
            rw [upd_del] at ok12
            have ok13 := ok12.perm ((l2 (.ref a) (.lst (es.take pz.toNat ++ [d] ++ es.drop pz.toNat))).symm.append_right tm)
            have evs : vs.set jj (.ref a) = vs := set_self hvj
            rw [evs] at ok13
            obtain ⟨_, ok14⟩ := ok13.unlend hBq (by simp [hvl])
            have hjl : j < (env.set i none).length := by
              rw [List.length_set]; exact (List.getElem?_eq_some_iff.mp hej).1
            have ok15 := ok14.store (i := j) hjl
            rw [set_self hsj] at ok15
            exact hr B _ _ _ tm D ok15 p3
        · exact p3.elim
      · exact p3.elim
    · exact pp.elim
  · exact pp.elim
def mAlias (j i k : Nat) (mi : Env → Res D) (m : Nat → List D → Env → Res Ctl) : Env → Res Ctl := fun env => nx (mi env) >>= fun y => nx (atL env j (k + 2)) >>= fun ds => match y with
  | .int n => (match ixN ds.length n with
    | some jj => (match ds[jj]? with
      | some (.lst es) => if i < env.length ∧ i ≠ j then m jj ds ((env.set j none).set i (some (k + 1, .lst es))) else .bad
      | _ => .bad)
    | none => .bad)
  | _ => .bad
theorem ss_aliasK (hN : X.N.Nodup) (hi0 : X.N[i]? = some x) (hxl : Loc X.env.scope x) (hx : PE X o (tVar j)) (hi : SB X ix mi) (hix : PlainIx ix) (hz : Z.all (fun z => z != i) = true) (hr : SIN X κ kr Z W j i k ss m2)
    (hs : swapsWith (.Subscript o ix pos2) (some (.Name x pos')) spos.line X.env = pure false := by rfl) (hf : X.fn x = true ∨ X.env.scope.names.lookup x = some .local := by first | exact .inl rfl | exact .inr rfl | assumption) :
    SSK X κ kr Z W (.Assign [.Name x pos'] (.Subscript o ix pos2) spos :: ss) (mAlias j i k mi m2) := fun B H env σ tm D ok pp => by
  obtain ⟨y, hy, h2⟩ := post_bind pp
  obtain ⟨ds, hds, h3⟩ := post_bind h2
  have he1 := atL_ok hds
  split at h3
  · rename_i n
    split at h3
    · rename_i jj hjj
      split at h3
      · rename_i es hes
        split at h3
        · rename_i hil
          obtain ⟨hil, hij⟩ := hil
          refine wB_of (pss_cons (ps_set hN hi0 hxl (pe_ix ix_seq hx pe_sem hix) hs hf) pss_sem) ?_
          obtain ⟨v, hv', rv⟩ := ok.slot he1
          refine ⟨v, hv', hi B H env σ _ _ _ ok hy fun u H2 x2 ok2 r2 => ?_⟩
          cases r2
          obtain ⟨q, hq, ok3⟩ := ok2.slotMu he1 rfl
          rw [hv'] at hq
          cases hq
          obtain ⟨vs, hL, hvl, hBq, ok4⟩ := ok3.lend
          have hjl := ixN_lt hjj
          have hjv : jj < vs.length := by omega
          refine .inl ⟨q, vs, n, vs[jj], rfl, rfl, .inl (.inl hL), ?_, ?_⟩
          · unfold atI
            rw [hvl, hjj]
            exact List.getElem?_eq_getElem hjv
          obtain ⟨l, l1, l2⟩ := lev_one (k := k + 1) hvl (List.getElem?_eq_getElem hjv) hes
          have ok5 : EnvOk (B.lent q (.lst vs)) H2 (env.set j none) σ ((vs[jj], k + 1, .lst es) :: (l ++ tm)) := ok4.perm (l1.append_right _)
          obtain ⟨a, ha⟩ := ok5.isRef rfl
          rw [ha] at ok5 ⊢
          have ok6 := ok5.store (i := i) (by simpa using hil)
          have hsi : (σ.set i (some (.ref a)))[i]? = some (some (.ref a)) := by
            have := ok2.len
            exact List.getElem?_set_self (by omega)
          have hsj : (σ.set i (some (.ref a)))[j]? = some (some (.ref q)) := by
            rw [List.getElem?_set_ne hij]; exact hv'
          have hej : ((env.set j none).set i (some (k + 1, Mir.D.lst es)))[j]? = some none := by
            rw [List.getElem?_set_ne hij]
            exact List.getElem?_set_self (List.getElem?_eq_some_iff.mp he1).1
          exact hr B H2 _ _ tm D q a vs ds jj l hBq hvl (by rw [List.getElem?_eq_getElem hjv, ha]) l2 ok6 hij hej hsj hsi (PostK.from (Kp.refl.set hz) h3)
        · exact h3.elim
      · exact h3.elim
    · exact h3.elim
  · exact h3.elim
end
end Mir

namespace Mir
open PySem PySem.Spec L2
open PyProof.Rows (envOfC)
/-! ### a def that changes its first argument -/
def wo (H : Hp) (f : List Addr) : Hp := fun a => if a ∈ f then none else H a
theorem wo_in {H : Hp} {f : List Addr} {a : Addr} (h : a ∈ f) : wo H f a = none := if_pos h
theorem wo_out {H : Hp} {f : List Addr} {a : Addr} (h : a ∉ f) : wo H f a = H a := if_neg h
theorem wo_some {H : Hp} {f : List Addr} {a : Addr} {o : HO} (h : wo H f a = some o) : a ∉ f ∧ H a = some o := by
  by_cases q : a ∈ f
  · rw [wo_in q] at h; cases h
  · rw [wo_out q] at h; exact ⟨q, h⟩
theorem view_wo {H : Hp} {f : List Addr} {a : Addr} {u : HO} : view (wo H f) a = some u ↔ a ∉ f ∧ view H a = some u := by
  unfold view
  by_cases q : a ∈ f
  · rw [wo_in q]; simp [q]
  · rw [wo_out q]; simp [q]
def spM (k0 n : Nat) (F : List D → Res D) : Sp := fun vs H Q _ => vs.length = n ∧ ∃ (G : Hp) (v0 : V) (vs' : List V) (d0 : D) (ds' : List D) (f : List Addr) (d1 : D), vs = v0 :: vs' ∧ Good ⟨wo H f, G⟩ G H ∧ Od G H k0 f v0 d0 ∧ f.Nodup ∧ (∀ p ∈ f, G p = none) ∧ RpAll G vs' ds' ∧ F (d0 :: ds') = .ok d1 ∧
  ∀ H', RetOk k0 G (wo H f) H' v0 d1 → Q .non H'
def runM (k0 n : Nat) (m : Env → Res Ctl) : List D → Res D
  | [] => .bad
  | d0 :: ds => m (some (k0, d0) :: (ds.map (fun d => some (0, d)) ++ List.replicate (n - (ds.length + 1)) none)) >>= fun c => match c with
    | .nx e => (match e[0]? with | some (some (k', d')) => if k' = k0 then .ok d' else .bad | _ => .bad)
    | _ => .bad
section
variable {P : Program} {w : World} {K : PySem.W.Frag} {mg : Str → Option Value} {base : Heap}
theorem def_okM {κ : Str → Addr} {x qual : Str} {st : Stmt} {f : Addr} {fd : FuncData} {N ps : List Str} {k k0 : Nat} {m : Env → Res Ctl} {n : Nat} {FF : List D → Res D} (F : Fun K x qual st f fd) (S : FnScope N ps (defScope st)) (hn : ps.length = n) (hFF : FF = runM k0 N.length m)
    (hb : ∀ (cdv : Value) (A : Around) (outer : List PySem.Env) (s : Shared) (H : Hp) (E : XK), Room k (A.deeper (envOfC qual (defScope st) s.heap.objs.size f cdv)) → SSK (cxOf CX0 P w K mg base N qual (defScope st) f cdv A outer s H E).nox κ 0 [0] (fun _ _ _ _ => False) (defBody st) m) :
    FnOk P w K mg base CX0 (k + 1) f fd ps (spM k0 n FF) := by
  subst hn hFF
  refine F.ok S (fun vs H Q E h => h.1) (fun cdv A outer s H vs Q E hr h => ?_)
  obtain ⟨hl, G, v0, vs', d0, ds', fp, d1, rfl, hg, od, nd, hfg, ra, hF, q⟩ := h
  have hlen := ra.length
  refine ⟨_, pss_sem, ?_⟩
  have ok : EnvOk ⟨wo H fp, G⟩ H (some (k0, d0) :: (ds'.map (fun d => some (0, d)) ++ List.replicate (N.length - (ds'.length + 1)) none)) (L2.start N (v0 :: vs')) [] := by
    unfold L2.start
    have e1 : N.length - (v0 :: vs').length = N.length - (ds'.length + 1) := by rw [List.length_cons, hlen]
    rw [e1]
    refine ⟨⟨G, fp, hg, ?_, nd, fun p hp => ⟨wo_in hp, hfg p hp⟩⟩, by simp [hlen], fun i kd e => ?_⟩
    · rw [List.append_nil]
      have e2 : slots (some (k0, d0) :: (ds'.map (fun d => some (0, d)) ++ List.replicate (N.length - (ds'.length + 1)) none)) ((v0 :: vs').map some ++ List.replicate (N.length - (ds'.length + 1)) none) = (v0, k0, d0) :: lev 0 vs' ds' := congrArg (List.cons (v0, k0, d0)) (slots_start vs' ds' _ hlen)
      rw [e2]
      have := HoldAll.cons od (hold_lev ra) (H := H)
      rw [List.append_nil] at this
      exact this
    · match i, e with
      | 0, _ => exact ⟨v0, rfl⟩
      | i + 1, e =>
        have e' : (ds'.map (fun d => some (0, d)) ++ List.replicate (N.length - (ds'.length + 1)) none)[i]? = some (some kd) := by simpa using e
        show ∃ v, ((vs'.map some ++ List.replicate (N.length - (ds'.length + 1)) none))[i]? = some (some v)
        by_cases hi : i < ds'.length
        · have hv : i < (vs'.map some).length := by rw [List.length_map]; omega
          rw [List.getElem?_append_left hv, List.getElem?_map, List.getElem?_eq_getElem (by omega)]
          exact ⟨_, rfl⟩
        · rw [List.getElem?_append_right (by simpa using hi), List.getElem?_replicate] at e'
          split at e' <;> cases e'
  refine hb cdv A outer s H E hr ⟨wo H fp, G⟩ H _ _ [] _ ok ?_
  unfold runM at hF
  obtain ⟨c, hc, hd⟩ := bind_ok hF
  rw [hc]
  cases c with
  | nx e =>
    intro σ' H' ok' kk
    dsimp only at hd
    split at hd
    · rename_i k' d' he0
      split at hd
      · rename_i ek
        subst ek
        cases hd
        have hs0 : σ'[0]? = some (some v0) := (kk 0 List.mem_cons_self).trans rfl
        have ok2 := (ok'.move he0 hs0).noSlots
        refine q H' ?_
        obtain ⟨⟨G', f2, g, hh, nd2, hp⟩, _⟩ := ok2
        have hh' : HoldAll G' H' [(v0, k', d1)] f2 := hh
        cases hh' with
        | @cons _ _ _ _ f1 g1 h1 h2 =>
          cases h2
          rw [List.append_nil] at nd2 hp
          exact ⟨G', f1, g, h1, nd2, hp⟩
      · cases hd
    · cases hd
  | bk e => cases hd
  | ct e => cases hd
  | rt d => cases hd
end
structure CalM (P : Program) (w : World) (K : PySem.W.Frag) (mg : Str → Option Value) (base : Heap) (x : Str) (j n k0 : Nat) (F : List D → Res D) : Prop where
  ex : ∃ f fd ps, mg x = some (.ref f) ∧ PySem.W.keepIn K (.ref f) = true ∧ Binds K fd ps [] ∧ FnOk P w K mg base CX0 j f fd ps (spM k0 n F)
section
variable {X : Cx} {e o : Expr} {es : List Expr} {ms : Env → Res (List D)} {F : List D → Res D} {x : Str} {p pos cpos : Pos} {n k0 kr jl : Nat}
def mCallM (j k0 : Nat) (F : List D → Res D) (ms : Env → Res (List D)) : Env → Res Ctl := fun env => ms env >>= fun ds => match env[j]? with
  | some (some (k, d0)) => if k = k0 ∧ immAll ds = true then F (d0 :: ds) >>= fun d1 => if immAt k0 d1 = true then .ok (.nx (env.set j (some (k0, d1)))) else .bad else .bad
  | _ => .bad
theorem s_callM {j : Nat} (C : CalM X.prog X.w X.K X.mg X.base x jl n k0 F) (hr : Room jl X.A) (hg : Gl X x) (hx : PE X o (tVar j)) (ha : SAB X es ms) (hl : ∀ env ds, ms env = .ok ds → ds.length + 1 = n)
    (hdb : (x == ("__debug__" : Str)) = false := by decide) (he : starEach (o :: es) X.env = (false, eval o X.env) :: starEach es X.env := by rfl) (hpl : (backTo cpos (starEach es X.env)).any (·.1) = false := by rfl)
    (hs : swapsWith (.Call (.Name x p) (o :: es) [] cpos) none pos.line X.env = pure false := by rfl) :
    S1 X kr (.Expr (.Call (.Name x p) (o :: es) [] cpos) pos) (mCallM j k0 F ms) := fun B H env σ tm D r ok hm pp => by
  obtain ⟨f, fd, ps, hmg, hk, hb, Fo⟩ := C.ex
  obtain ⟨ds, hds, h2⟩ := bind_ok hm
  split at h2
  · rename_i k d0 hej
    split at h2
    · rename_i hh
      obtain ⟨rfl, hi⟩ := hh
      obtain ⟨d1, hF, h3⟩ := bind_ok h2
      split at h3
      · rename_i hi1
        cases h3
        refine wS_of (ps_expr (pe_call Fo hr hg hmg hk hb .nil pass0 (pa_cons hx pa_sem he) hdb he hpl) hs) ?_
        obtain ⟨v0, hv0⟩ := ok.has j _ hej
        refine ⟨v0, hv0, ha B H env σ tm ds _ ok hds fun vs H1 x1 ok1 ra => ?_⟩
        show spM k n F ((v0 :: vs) ++ []) H1 _ _
        rw [List.append_nil]
        have okm := ok1.move hej hv0
        have hlen := okm.len
        have hhas := okm.has
        obtain ⟨G, fq, g, hg0, hf, hrst, nd, hq⟩ := EnvOk.apart (l := [(v0, k, d0)]) okm
        cases hf with
        | @cons _ _ _ _ f1 g1 h1 hn =>
          cases hn
          rw [List.append_nil] at nd hq
          have hmu := h1.mu
          have hmf : ∀ p ∈ f1, ∀ u, isIm u = true → view H1 p ≠ some u := fun p hp u im e => by
            obtain ⟨o, e1, mu⟩ := hmu p hp
            unfold view at e
            rw [e1] at e
            have e2 : unf o = u := Option.some.inj e
            rw [mu.unf] at e2
            subst e2
            exact im_mu im mu
          have hGv : ∀ a u, G a = some u → view (wo H1 f1) a = some u := fun a u e => view_wo.mpr ⟨fun hm => (by rw [(hq a (List.mem_append_left _ hm)).2] at e; cases e), hg0.gs a u e⟩
          have gt0 : ∀ a u, isIm u = true → view H1 a = some u → view (wo H1 f1) a = some u := fun a u im e => view_wo.mpr ⟨fun hm => hmf a hm u im e, e⟩
          refine ⟨by rw [List.length_cons, ra.length]; exact hl _ _ hds, view (wo H1 f1), v0, vs, d0, ds, f1, d1, rfl, ⟨fun a o e => (wo_some e).2, fun _ _ => rfl, fun a u e => (view_wo.mp e).2, gt0, fun a u im e => ok1.imAt im e⟩, h1.frame hGv fun _ _ e _ => e, (List.nodup_append.mp nd).1, fun p hp => ?_, ra.immTo gt0 hi, hF, fun H' rr => ?_⟩
          · show view (wo H1 f1) p = none
            exact view_none (wo_in hp)
          · have okr : EnvOk B (wo H1 f1) (env.set j none) σ tm := by
              refine ⟨⟨G, g, ⟨fun a o e => ?_, hg0.g0, hGv, fun a u im e => hg0.gt a u im (view_wo.mp e).2, fun a u im e => ?_⟩, hrst.frame (fun _ _ e => e) fun a u e q => ?_, (List.nodup_append.mp nd).2.1, fun p hp => hq p (List.mem_append_right _ hp)⟩, hlen, hhas⟩
              · have : a ∉ f1 := fun hm => by rw [(hq a (List.mem_append_left _ hm)).1] at e; cases e
                rw [wo_out this]; exact hg0.bs a o e
              · obtain ⟨h5, h6⟩ := view_wo.mp e
                rw [wo_out h5]; exact hg0.nf a u im h6
              · have : a ∉ f1 := fun hm => by
                  rcases q with q | ⟨xs, rfl⟩
                  · exact (List.nodup_append.mp nd).2.2 a hm a q rfl
                  · exact hmf a hm (.tup xs) rfl (by unfold view; rw [e]; rfl)
                rw [wo_out this]; exact e
            obtain ⟨x2, ok2⟩ := okr.retB rr hi1
            have hjl : j < (env.set j none).length := by rw [List.length_set]; exact (List.getElem?_eq_some_iff.mp hej).1
            have ok3 := ok2.store (i := j) hjl
            rw [List.set_set, set_self hv0] at ok3
            exact pp σ H' ok3
      · cases h3
    · cases h2
  · cases h2
end
end Mir
namespace Mir
theorem lenM {ms : Env → Res (List D)} {n : Nat} (h : ∀ env ds, ms env = .ok ds → ds.length = n) : ∀ env ds, ms env = .ok ds → ds.length + 1 = n + 1 := fun env ds e => by rw [h env ds e]
end Mir

namespace Mir
open PySem PySem.Spec L2
/-! ### calls whose arguments are shared: what they tell may be shared too -/
section
variable {X : Cx} {e a b o i : Expr} {es : List Expr} {m ma mb md mk : Env → Res D} {ms : Env → Res (List D)} {k kr n : Nat} {cs : List Nat} {pos p cpos apos : Pos} {x : Str} {F : List D → Res D} {j : Nat}
def mCall0 (F : List D → Res D) (ms : Env → Res (List D)) : Env → Res D := fun env => ms env >>= fun ds => F ds
theorem se_cal0 (C : Cal X.prog X.w X.K X.mg X.base x j n kr F) (hr : Room j X.A) (hg : Gl X x)
    (ha : SAE X 0 [] (e :: es) ms) (hl : ∀ env ds, ms env = .ok ds → ds.length = n) (hdb : (x == ("__debug__" : Str)) = false := by decide) (he : starEach (e :: es) X.env = (false, eval e X.env) :: starEach es X.env := by rfl) (hpl : (backTo pos (starEach es X.env)).any (·.1) = false := by rfl) :
    SE X kr [] (.Call (.Name x p) (e :: es) [] pos) (mCall0 F ms) := fun B H env σ tm d Q ok hm' q => by
  obtain ⟨f, fd, ps, hm, hk, hb, Fo⟩ := C.ex
  obtain ⟨ds, hds, hF⟩ := bind_ok hm'
  refine wE_of (pe_call Fo hr hg hm hk hb .nil pass0 pa_sem hdb he hpl) (ha B H env σ tm ds _ ok hds fun vs H1 x1 hvl ok1 => ?_)
  rw [List.append_nil]
  obtain ⟨G, g, ra, rt⟩ := EnvOk.ret0 (H' := H1) hvl ok1
  refine ⟨by rw [hvl]; exact hl _ _ hds, G, ds, _, g, ra, hF, fun v H' r => ?_⟩
  obtain ⟨x2, ok2⟩ := rt H' v d r
  exact q v H' (x1.trans x2) ok2
theorem sae_len0 : ∀ env ds, mNilA env = .ok ds → ds.length = 0 := fun env ds h => by cases h; rfl
theorem sae_len {ms : Env → Res (List D)} : ∀ {n : Nat}, (∀ env ds, ms env = .ok ds → ds.length = n) → ∀ {m : Env → Res D} {cs : List Nat}, ∀ env ds, mConsE m cs ms env = .ok ds → ds.length = n + 1 := fun {n} h {m cs} env ds hm => by
  obtain ⟨y, _, h2⟩ := bind_ok hm
  obtain ⟨ys, h3, h4⟩ := bind_ok h2
  cases h4
  simp [h _ ys h3]
end
/-! ### dicts with nested keys -/
mutual
theorem hash_plain (w w' : World) : ∀ k : NestedKey, plainK k = true → k.hash w = k.hash w'
  | .none, _ => rfl
  | .num _, _ => rfl
  | .text _, h => by simp [plainK] at h
  | .tup ks, h => by rw [plainK] at h; rw [NestedKey.hash, NestedKey.hash, hashes_plain w w' ks h]
theorem hashes_plain (w w' : World) : ∀ ks : List NestedKey, plainKs ks = true → NestedKey.hashes w ks = NestedKey.hashes w' ks
  | [], _ => rfl
  | k :: ks, h => by
    rw [plainKs, Bool.and_eq_true] at h
    rw [NestedKey.hashes, NestedKey.hashes, hash_plain w w' k h.1, hashes_plain w w' ks h.2]
end
mutual
theorem kN_is {P : Program} {w : World} {H : Hp} {h : Heap} (ok : HOk P w H h) : ∀ (k : NestedKey) (v : V) (u : Value), Rp (view H) v (kN k) → RelV v u → NestedIs h k u
  | .none, _, _, r, q => by
    rw [kN] at r; cases r
    cases (show _ = Value.none from q); exact .none
  | .num i, _, _, r, q => by
    rw [kN] at r; cases r
    obtain ⟨t, q⟩ := (show ∃ t, _ = Value.int i t from q); cases q; exact .int _ _
  | .text x, _, _, r, q => by
    rw [kN] at r; cases r
    obtain ⟨t, q⟩ := (show ∃ t, _ = Value.str x t from q); cases q; exact .text _ _
  | .tup ks, _, _, r, q => by
    rw [kN] at r
    cases r with
    | @tup a vs _ hv ra =>
      cases (show _ = Value.ref a from q)
      obtain ⟨_, its, rv, o, h1, h2, n, h3⟩ := (show ObjOk P w H h a (.tup vs) from (view_rd hv).ok ok)
      exact .tup h1 h2 h3 (by simpa using kNs_is ok ks vs its ra rv)
theorem kNs_is {P : Program} {w : World} {H : Hp} {h : Heap} (ok : HOk P w H h) : ∀ (ks : List NestedKey) (vs : List V) (us : List Value), RpAll (view H) vs (kNs ks) → Vals vs us → NestedAll h ks us
  | [], _, _, r, q => by rw [kNs] at r; cases r; cases q; exact .nil
  | k :: ks, _, _, r, q => by
    rw [kNs] at r
    cases r with
    | cons r1 r2 =>
      cases q with
      | cons q1 q2 => exact .cons (kN_is ok k _ _ r1 q1) (kNs_is ok ks _ _ r2 q2)
end
/-- the dict's keys, addresses, values -/
def KE3 : List (NestedKey × Addr × V) → List (NestedKey × Addr × Value) → Prop := Paired (fun (p : NestedKey × Addr × V) (q : NestedKey × Addr × Value) => p.1 = q.1 ∧ p.2.1 = q.2.1 ∧ RelV p.2.2 q.2.2)
def valN {β : Type} (es : List (NestedKey × Addr × β)) (k : NestedKey) : Option β := (es.find? fun e => decide (e.1 = k)).map (·.2.2)
def putN {β : Type} (es : List (NestedKey × Addr × β)) (k : NestedKey) (b : Addr) (v : β) : List (NestedKey × Addr × β) := if (valN es k).isSome then es.map (fun e => if e.1 = k then (e.1, e.2.1, v) else e) else es ++ [(k, b, v)]
theorem KE3.val {es : List (NestedKey × Addr × V)} {xs : List (NestedKey × Addr × Value)} (r : KE3 es xs) (k : NestedKey) : RelO (valN es k) (valN xs k) := by
  unfold KE3 at r
  induction r with
  | nil => exact trivial
  | @cons p q ps qs h t ih =>
    unfold valN at ih ⊢
    rw [List.find?_cons, List.find?_cons, h.1]
    by_cases e : q.1 = k
    · rw [decide_eq_true e]; exact h.2.2
    · rw [decide_eq_false e]; exact ih
theorem KE3.keys {es : List (NestedKey × Addr × V)} {xs : List (NestedKey × Addr × Value)} (r : KE3 es xs) : xs.map (·.1) = es.map (·.1) := by
  unfold KE3 at r
  induction r with
  | nil => rfl
  | @cons p q ps qs h t ih => rw [List.map_cons, List.map_cons, ih, h.1]
theorem KE3.put {es : List (NestedKey × Addr × V)} {xs : List (NestedKey × Addr × Value)} (r : KE3 es xs) (k : NestedKey) (b : Addr) {v : V} {u : Value} (rv : RelV v u) : KE3 (putN es k b v) (putN xs k b u) := by
  have e := (r.val k).isSome_eq
  unfold putN
  rw [e]
  unfold KE3 at r
  split
  · rename_i hc
    clear e hc
    induction r with
    | nil => exact .nil
    | @cons p q ps qs h t ih =>
      rw [List.map_cons, List.map_cons]
      refine .cons ?_ ih
      obtain ⟨p1, p2, p3⟩ := p; obtain ⟨q1, q2, q3⟩ := q
      obtain ⟨h1, h2, h3⟩ := h
      dsimp only at h1 h2 h3
      subst h1 h2
      by_cases z : p1 = k
      · dsimp only; rw [if_pos z, if_pos z]; exact ⟨rfl, rfl, rv⟩
      · dsimp only; rw [if_neg z, if_neg z]; exact ⟨rfl, rfl, h3⟩
  · exact Paired.snoc r ⟨rfl, rfl, rv⟩
section
variable {X : Cx} {pins : List (Addr × Obj)} {σ : St} {H : Hp} {s : Shared} {a : Addr} {es : List (NestedKey × Addr × V)} {ks : List NestedKey}
end
/-! a datum as a key -/
mutual
def keyN : Nat → D → Option NestedKey
  | _, .non => some .none
  | _, .int i => some (.num i)
  | f + 1, .tup ds => (keysN f ds).map .tup
  | _, _ => none
def keysN : Nat → List D → Option (List NestedKey)
  | _, [] => some []
  | f, d :: ds => match keyN f d, keysN f ds with
    | some k, some ks => some (k :: ks)
    | _, _ => none
end
mutual
theorem keyN_ok : ∀ (f : Nat) (d : D) (k : NestedKey), keyN f d = some k → kN k = d ∧ k.depth ≤ f ∧ plainK k = true
  | _, .non, _, h => by unfold keyN at h; cases h; exact ⟨rfl, Nat.zero_le _, rfl⟩
  | _, .int i, _, h => by unfold keyN at h; cases h; exact ⟨rfl, Nat.zero_le _, rfl⟩
  | f + 1, .tup ds, _, h => by
    rw [keyN] at h
    obtain ⟨ks, h1, rfl⟩ := Option.map_eq_some_iff.mp h
    obtain ⟨q1, q2, q3⟩ := keysN_ok f ds ks h1
    exact ⟨by rw [kN, q1], by rw [NestedKey.depth]; omega, by rw [plainK]; exact q3⟩
  | 0, .tup _, _, h => by simp [keyN] at h
  | _, .bl _, _, h => by simp [keyN] at h
  | _, .str _, _, h => by simp [keyN] at h
  | _, .lst _, _, h => by simp [keyN] at h
  | _, .dk _ _, _, h => by simp [keyN] at h
  | _, .dt _ _, _, h => by simp [keyN] at h
  | _, .dn _ _, _, h => by simp [keyN] at h
  | _, .ob _ _ _ _, _, h => by simp [keyN] at h
  | _, .exn _ _ _ _, _, h => by simp [keyN] at h
theorem keysN_ok : ∀ (f : Nat) (ds : List D) (ks : List NestedKey), keysN f ds = some ks → kNs ks = ds ∧ NestedKey.depthAll ks ≤ f ∧ plainKs ks = true
  | _, [], _, h => by unfold keysN at h; cases h; exact ⟨rfl, Nat.zero_le _, rfl⟩
  | f, d :: ds, _, h => by
    unfold keysN at h
    split at h
    · rename_i k ks h1 h2
      cases h
      obtain ⟨a1, a2, a3⟩ := keyN_ok f d k h1
      obtain ⟨b1, b2, b3⟩ := keysN_ok f ds ks h2
      exact ⟨by rw [kNs, a1, b1], by rw [NestedKey.depthAll]; omega, by rw [plainKs, a3, b3]; rfl⟩
    · cases h
end
end Mir

namespace Mir
open PySem PySem.Spec L2
/-! ### dicts with nested keys: what is read and written -/
section
variable {X : Cx} {pins : List (Addr × Obj)} {σ : St} {H : Hp} {s : Shared} {a b : Addr} {es : List (NestedKey × Addr × V)} {ks : List NestedKey} {k : NestedKey} {v d : V} {u r : Value} {A : Around} {E : Value → Shared → Prop}
structure NAt (H : Hp) (a : Addr) (es : List (NestedKey × Addr × V)) (k : NestedKey) (b : Addr) : Prop where
  n : NkOk (es.map (·.1)) (es.map (·.1))
  r : RpAll (view H) (es.map fun e => V.ref e.2.1) (kNs (es.map (·.1)))
  key : Rp (view H) (.ref b) (kN k)
  d : k.depth ≤ 8 ∧ plainK k = true
end
section
variable {X : Cx} {o e f i value : Expr} {apos cpos pos pos' : Pos} {td ty tx tv tk : TE}
end
end Mir

namespace Mir
open PySem PySem.Spec L2
/-! ### dicts with nested keys in the mirror -/
section
variable {B : Bs} {H : Hp} {env : Env} {σ : St} {tm : List Hold}
end
section
variable {X : Cx} {e o i a b kx vx : Expr} {m ma mb md mk mv : Env → Res D} {k kr : Nat} {cs : List Nat} {pos cpos apos : Pos}
end
end Mir

namespace Mir
open PySem PySem.Spec L2
/-! ### min(a, b), max(a, b) of alike data -/
section
open Sem (wp)
open PySem.W
variable {prog : Program} {w : World} {A : Around} {E : Value → Shared → Prop} {s : Shared}
end
section
variable {X : Cx} {e f : Expr} {m m' : Env → Res D} {pos p : Pos}
/-! ### tuple(x), list(x): a list, a tuple of what never changes -/
end
end Mir

namespace Mir
open PySem PySem.Spec L2
/-! ### for a, b in d.items(): dicts of nested keys -/
theorem EnvOk.dupMem {B : Bs} {H : Hp} {env : Env} {σ : St} {tm : List Hold} {v : V} {d : D} (h : EnvOk B H env σ tm) (hm : (v, 0, d) ∈ tm) : EnvOk B H env σ ((v, 0, d) :: tm) := by
  obtain ⟨a, b, rfl⟩ := List.append_of_mem hm
  have h1 := (h.perm (List.perm_middle (a := (v, 0, d)) (l₁ := a) (l₂ := b))).dup
  exact h1.perm (List.Perm.cons _ List.perm_middle.symm)
section
variable {P : Program} {w : World} {K : PySem.W.Frag} {tg : Expr} {d : Addr} {o : Obj} {des : Array DictEntry} {ep : Nat}
end
section
variable {X : Cx} {tg e : Expr} {td : TE} {apos cpos : Pos}
end
section
variable {X : Cx} {e a b tg it o : Expr} {m ma mb md : Env → Res D} {k kr : Nat} {cs : List Nat} {pos cpos apos : Pos} {m1 : Env → Res Ctl}
end
end Mir

namespace Mir
open PySem PySem.Spec L2
/-! ### a dict of whole numbers of the module's own: dict(NAME) -/
section
variable {X : Cx} {k : Nat} {pos p p2 : Pos} {x : Str}
end
/-! ### len(d): a dict of nested keys -/
end Mir

namespace Mir
open PySem PySem.Spec L2 PyProof.Rows
/-! ### x in a tuple of data -/
section
variable {X : Cx}
end
end Mir

namespace Mir
open PySem PySem.Spec L2
/-! ### an item of a list whose items are shared -/
theorem OdAll.get0 {G H : Hp} : ∀ {f : List Addr} {vs : List V} {ds : List D}, OdAll G H 0 f vs ds → vs.length = ds.length ∧ ∀ (i : Nat) (z : V) (d : D), vs[i]? = some z → ds[i]? = some d → Rp G z d
  | _, _, _, .nil => ⟨rfl, fun i z d h => by simp at h⟩
  | _, _, _, .cons h r => by
    obtain ⟨l, g⟩ := OdAll.get0 r
    refine ⟨by simp [l], fun i z d h1 h2 => ?_⟩
    cases i with
    | zero =>
      simp at h1 h2
      subst h1 h2
      exact h.zero.2
    | succ i => exact g i z d (by simpa using h1) (by simpa using h2)
/-- a slot's own list, its items shared -/
def mVarL (j : Nat) : Env → Res D := fun env => match env[j]? with
  | some (some (1, .lst ds)) => .ok (.lst ds)
  | _ => .bad
section
variable {X : Cx} {a b : Expr} {mb : Env → Res D} {pos : Pos}
@[simp] theorem e_mVarL {j : Nat} {env : Env} : mVarL j env = (match env[j]? with
  | some (some (1, .lst ds)) => .ok (.lst ds)
  | _ => .bad) := rfl
end
end Mir

namespace Mir
open PySem PySem.Spec L2
/-! ### for v in rows: v.append(e), the rows given away -/
def appAll (d : D) : List D → Res (List D)
  | [] => .ok []
  | .lst rs :: ds => if rs.length < sizeLine then appAll d ds >>= fun es => .ok (.lst (rs ++ [d]) :: es) else .bad
  | _ :: _ => .bad
def mForApp (i : Nat) (cs : List Nat) (m me : Env → Res D) : Env → Res Ctl := fun env => m env >>= fun x => match x with
  | .lst ds => if i < env.length then me ((clear env cs).set i none) >>= fun d => if d.imm then appAll d ds >>= fun _ => .ok (.nx ((clear env cs).set i none)) else .bad else .bad
  | _ => .bad
section
variable {X : Cx} {kr : Nat} {pos p2 p3 pos1 apos cpos : Pos} {e it : Expr} {v : Str} {m me : Env → Res D}
end
end Mir

namespace Mir
open PySem PySem.Spec L2
/-! ### two lists given away, one after the other -/
theorem OdAll.len {G H : Hp} : ∀ {k : Nat} {f : List Addr} {vs : List V} {ds : List D}, OdAll G H k f vs ds → vs.length = ds.length
  | _, _, _, _, .nil => rfl
  | _, _, _, _, .cons _ r => by rw [List.length_cons, List.length_cons, OdAll.len r]
def mCatM (i j k : Nat) : Env → Res D := fun env => match env[i]?, env[j]? with
  | some (some (a, .lst xs)), some (some (b, .lst ys)) => if a = k + 1 ∧ b = k + 1 ∧ i ≠ j ∧ xs.length + ys.length ≤ sizeLine then .ok (.lst (xs ++ ys)) else .bad
  | _, _ => .bad
section
variable {X : Cx} {pos : Pos} {a b : Expr}
@[simp] theorem e_mCatM {i j k : Nat} {env : Env} : mCatM i j k env = (match env[i]?, env[j]? with
  | some (some (a, .lst xs)), some (some (b, .lst ys)) => if a = k + 1 ∧ b = k + 1 ∧ i ≠ j ∧ xs.length + ys.length ≤ sizeLine then .ok (.lst (xs ++ ys)) else .bad
  | _, _ => .bad) := rfl
@[simp] theorem e_mForApp {i : Nat} {cs : List Nat} {m me : Env → Res D} {env : Env} : mForApp i cs m me env = (m env >>= fun x => match x with
  | .lst ds => if i < env.length then me ((clear env cs).set i none) >>= fun d => if d.imm then appAll d ds >>= fun _ => .ok (.nx ((clear env cs).set i none)) else .bad else .bad
  | _ => .bad) := rfl
end
end Mir

namespace Mir
open PySem PySem.Spec L2
/-! ### calls that tell a dict made anew: what is read holds none -/
mutual
def noDk : D → Bool
  | .lst ds => noDkL ds
  | .tup ds => noDkL ds
  | .non => true
  | .bl _ => true
  | .int _ => true
  | .str _ => true
  | _ => false
def noDkL : List D → Bool
  | [] => true
  | d :: ds => noDk d && noDkL ds
end
def noK (H : Hp) : Hp := fun a => match view H a with
  | some (.dK _) => none
  | x => x
theorem noK_some {H : Hp} {a : Addr} {u : HO} (h : view H a = some u) (hu : ∀ kvs, u ≠ .dK kvs) : noK H a = some u := by
  unfold noK
  rw [h]
  cases u <;> first | rfl | exact absurd rfl (hu _)
theorem noK_view {H : Hp} {a : Addr} {u : HO} (h : noK H a = some u) : view H a = some u ∧ ∀ kvs, u ≠ .dK kvs := by
  unfold noK at h
  split at h
  · cases h
  · rename_i hn
    exact ⟨h, fun kvs e => hn kvs (by rw [h, e])⟩
mutual
theorem Rp.noK {H : Hp} : ∀ {v : V} {d : D}, Rp (view H) v d → noDk d = true → Rp (noK H) v d
  | _, _, .non, _ => .non
  | _, _, .bl b, _ => .bl b
  | _, _, .int i, _ => .int i
  | _, _, .str x, _ => .str x
  | _, _, .lst h r, q => .lst (noK_some h fun _ z => nomatch z) (RpAll.noK r (by simpa [noDk] using q))
  | _, _, .tup h r, q => .tup (noK_some h fun _ z => nomatch z) (RpAll.noK r (by simpa [noDk] using q))
  | _, _, .dk _ _ _, q => by simp [noDk] at q
  | _, _, .dt _ _ _, q => by simp [noDk] at q
  | _, _, .ob _ _ _, q => by simp [noDk] at q
  | _, _, .exn0 _, q => by simp [noDk] at q
  | _, _, .exn _ _ _ _, q => by simp [noDk] at q
  | _, _, .dn _ _ _ _, q => by simp [noDk] at q
theorem RpAll.noK {H : Hp} : ∀ {vs : List V} {ds : List D}, RpAll (view H) vs ds → noDkL ds = true → RpAll (noK H) vs ds
  | _, _, .nil, _ => .nil
  | _, _, .cons h r, q => by
    rw [noDkL, Bool.and_eq_true] at q
    exact .cons (Rp.noK h q.1) (RpAll.noK r q.2)
end
theorem OdAll.ofImm {G H : Hp} {k : Nat} : ∀ {vs : List V} {ds : List D}, RpAll G vs ds → immAll ds = true → OdAll G H k [] vs ds
  | _, _, .nil, _ => .nil
  | _, _, .cons h r, q => by
    rw [immAll, Bool.and_eq_true] at q
    exact OdAll.cons (f := []) (g := []) (Od.im h q.1) (OdAll.ofImm r q.2)
section
variable {X : Cx} {e : Expr} {es : List Expr} {ms : Env → Res (List D)} {n : Nat} {pos p : Pos} {x : Str} {F : List D → Res D} {j : Nat}
/-- a dict that is told and is new may be owned -/
theorem RetOk.own {H H' : Hp} {v : V} {ks : List Key} {ds : List D} (r : RetOk 0 (noK H) H H' v (.dk ks ds)) (hi : immAll ds = true) : ∃ p, v = .ref p ∧ H p = none ∧ ((∃ o u, H' p = some (.frz o u) ∧ RetOk 1 (view H) H (upd H' p u) v (.dk ks ds)) ∨ RetOk 1 (view H) H H' v (.dk ks ds)) := by
  obtain ⟨G', fp, g, od, _, _⟩ := r.ex
  obtain ⟨_, rp⟩ := od.zero
  cases rp with
  | @dk p kvs _ _ hp hk ra =>
    have hn : H p = none := by
      refine Classical.byContradiction fun hn => ?_
      have e : G' p = noK H p := g.g0 p hn
      rw [hp] at e
      exact (noK_view e.symm).2 kvs rfl
    have hv := g.gs p _ hp
    have fin : ∀ H'' : Hp, H'' p = some (.dK kvs) → (∀ a, a ≠ p → H'' a = H' a) → RetOk 1 (view H) H H'' (.ref p) (.dk ks ds) := fun H'' h1 h2 => by
      have nep : ∀ {a : Addr} {o : HO}, H a = some o → a ≠ p := fun e z => by rw [z, hn] at e; cases e
      have vw : ∀ a, a ≠ p → view H'' a = view H' a := fun a ha => by unfold view; rw [h2 a ha]
      have bs : ∀ a o, H a = some o → H'' a = some o := fun a o e => by rw [h2 a (nep e)]; exact g.bs a o e
      have gt : ∀ a u, isIm u = true → view H'' a = some u → (if H a = none then (match view H'' a with | some u => if isIm u = true then some u else none | none => none) else view H a) = some u := fun a u im e => by
        split
        · rw [e]; dsimp only; rw [if_pos im]
        · rename_i ha
          cases q : H a with
          | none => exact absurd q ha
          | some o =>
            have := bs a o q
            unfold view at e ⊢
            rw [this] at e
            rw [q]; exact e
      refine ⟨⟨fun a => if H a = none then (match view H'' a with | some u => if isIm u = true then some u else none | none => none) else view H a, [p], ⟨bs, fun a ha => if_neg ha, fun a u e => ?_, gt, fun a u im e => ?_⟩, ?_, by simp, fun q hq => ?_⟩⟩
      · have e' : (if H a = none then (match view H'' a with | some u => if isIm u = true then some u else none | none => none) else view H a) = some u := e
        split at e'
        · split at e'
          · split at e'
            · cases e'; assumption
            · cases e'
          · cases e'
        · exact view_ext bs a u e'
      · by_cases z : a = p
        · subst z
          have : view H'' a = some (.dK kvs) := by unfold view; rw [h1]; rfl
          rw [this] at e
          cases e
          cases im
        · rw [h2 a z]
          exact g.nf a u im (by rw [← vw a z]; exact e)
      · refine Od.dk (f := []) h1 hk (OdAll.ofImm ?_ hi)
        have : ∀ a u, isIm u = true → G' a = some u → (if H a = none then (match view H'' a with | some u => if isIm u = true then some u else none | none => none) else view H a) = some u := fun a u im e => by
          refine gt a u im ?_
          have z : a ≠ p := fun z => by
            subst z
            rw [hp] at e
            cases e
            cases im
          rw [vw a z]
          exact g.gs a u e
        exact ra.immTo this hi
      · rw [List.mem_singleton.mp hq]
        refine ⟨hn, ?_⟩
        show (if H p = none then (match view H'' p with | some u => if isIm u = true then some u else none | none => none) else view H p) = none
        have : view H'' p = some (.dK kvs) := by unfold view; rw [h1]; rfl
        rw [if_pos hn, this]
        rfl
    refine ⟨p, rfl, hn, ?_⟩
    cases q : H' p with
    | none => rw [view_none q] at hv; cases hv
    | some o =>
      have hu : unf o = .dK kvs := by
        unfold view at hv
        rw [q] at hv
        exact Option.some.inj hv
      by_cases hz : ∃ od w, o = .frz od w
      · obtain ⟨od, w, rfl⟩ := hz
        have ew : w = .dK kvs := hu
        subst ew
        exact .inl ⟨od, _, rfl, fin _ upd_same fun a ha => upd_ne ha⟩
      · have eo : o = .dK kvs := by
          cases o with
          | frz od w => exact absurd ⟨od, w, rfl⟩ hz
          | _ => exact hu
        subst eo
        exact .inr (fin _ q fun a _ => rfl)
def gNew (d : D) : Res D := match d with
  | .dk ks es => if immAll es = true then .ok (.dk ks es) else .bad
  | _ => .bad
def mCallN (F : List D → Res D) (ms : Env → Res (List D)) : Env → Res D := fun env => ms env >>= fun ds => if noDkL ds = true then F ds >>= gNew else .bad
@[simp] theorem e_mCallN {F : List D → Res D} {ms : Env → Res (List D)} {env : Env} : mCallN F ms env = (ms env >>= fun ds => if noDkL ds = true then F ds >>= gNew else .bad) := rfl
@[simp] theorem gNew_enc (p : Pol) : gNew (encP p) = .ok (encP p) := by
  unfold encP gNew
  simp
end
end Mir

namespace Mir
open PySem PySem.Spec L2
/-! ### x.extend(e), the items of e owned -/
section
variable {X : Cx} {kr k : Nat} {e o : Expr} {m : Env → Res D} {pos cpos apos : Pos}
end
end Mir

namespace Mir
open PySem PySem.Spec L2
/-! ### len of an owned dict -/
def mLenD (j : Nat) : Env → Res D := fun env => match env[j]? with
  | some (some (1, .dk ks ds)) => .ok (.int ds.length)
  | _ => .bad
@[simp] theorem e_mLenD {j : Nat} {env : Env} : mLenD j env = (match env[j]? with
  | some (some (1, .dk ks ds)) => .ok (.int ds.length)
  | _ => .bad) := rfl
theorem sc_lenD {X : Cx} {e : Expr} {pos p : Pos} {j : Nat} (hg : Gl X "len") (hm0 : X.mg "len" = none) (h : PE X e (tVar j)) (he : starEach [e] X.env = (false, eval e X.env) :: starEach [] X.env := by rfl) (hpl : (backTo pos (starEach [] X.env)).any (·.1) = false := by rfl) :
    SC X (.Call (.Name "len" p) [e] [] pos) (mLenD j) := fun B H env σ tm d Q ok hm q => by
  unfold mLenD at hm
  split at hm
  · rename_i ks ds e1
    cases hm
    obtain ⟨a, ha, ok1⟩ := ok.slotMu e1 rfl
    obtain ⟨kvs, h1, _, hl, _⟩ := ok1.takeDk
    refine wE_of (pe_callB call_lenD hg hm0 (by decide +kernel) (pa_cons h pa_nil he) (by decide) (by decide) he hpl) ⟨.ref a, ha, a, kvs, rfl, h1, ?_⟩
    rw [hl]
    exact q _ H (Ext.refl _) ok (.int _) rfl
  · cases hm
end Mir

namespace Mir
open PySem PySem.Spec L2
/-! ### xs.count(k); a comparison whose left side may raise -/
section
variable {X : Cx} {o e a b : Expr} {mo m ma mb : Env → Res D} {pos cpos apos : Pos} {κ : Str → Addr} {W : WX} {k : Nat}
def mOpX (g : D → D → Res D) (ma mb : Env → Res D) : Env → Res D := fun env => ma env >>= fun x => nx (mb env >>= fun y => g x y)
@[simp] theorem e_mOpX (g : D → D → Res D) (ma mb : Env → Res D) (env : Env) : mOpX g ma mb env = (ma env >>= fun x => nx (mb env >>= fun y => g x y)) := rfl
end
end Mir

namespace Mir
open PySem PySem.Spec L2
/-! ### a name that is bound is forgotten ahead of a comprehension with this name -/
section
variable {X : Cx} {st : Stmt} {ss : List Stmt} {m1 : Env → Res Ctl} {kr : Nat}
def mDr (i : Nat) (m : Env → Res Ctl) : Env → Res Ctl := fun env => m (env.set i none)
@[simp] theorem e_mDr (i : Nat) (m : Env → Res Ctl) (env : Env) : mDr i m env = m (env.set i none) := rfl
end
end Mir

namespace Mir
open PySem PySem.Spec L2
/-! ### a list, taken apart -/
section
variable {X : Cx} {pos : Pos} {k : Nat}
def tTupL (n : Nat) (u : Nat → List D → Env → Res Env) : Nat → D → Env → Res Env := fun _ d env => match d with
  | .lst ds => if ds.length = n then u 0 ds env else .bad
  | _ => .bad
@[simp] theorem e_tTupL (n : Nat) (u : Nat → List D → Env → Res Env) (k : Nat) (ds : List D) (env : Env) : tTupL n u k (.lst ds) env = (if ds.length = n then u 0 ds env else .bad) := rfl
end
end Mir

namespace Mir
open PySem PySem.Spec L2
/-! ### len(set(pairs)) -/
section
variable {X : Cx} {e : Expr} {m : Env → Res D} {k : Nat} {pos p p2 pos2 : Pos}
end
end Mir

namespace Mir
open PySem PySem.Spec L2
/-! ### NAME == d: a dict of the module's own -/
section
variable {X : Cx}
variable {ps : List (Int × Int)} {x : Str} {b : Expr} {mb : Env → Res D} {pos p2 : Pos}
end
end Mir

namespace Mir
open PySem PySem.Spec L2
/-! ### list(d): a dict of numbers or texts -/
def gListK : D → Res D
  | .dk ks _ => .ok (.lst (ks.map kD))
  | _ => .bad
section
variable {X : Cx} {e : Expr} {m : Env → Res D} {k : Nat} {pos p : Pos}
@[simp] theorem gListK_enc (p : Pol) : gListK (encP p) = .ok (.lst ((p.map (·.1)).map D.int)) := by
  unfold encP gListK
  dsimp only
  rw [List.map_map, List.map_map]; rfl
end
end Mir

namespace Mir
open PySem PySem.Spec L2
/-! ### a call that may raise but does not, its arguments shared -/
section
variable {X : Cx} {e : Expr} {es : List Expr} {ms : Env → Res (List D)} {kr n : Nat} {κ : Str → Addr} {pos p : Pos} {x : Str} {F : List D → Res D} {j : Nat}
theorem se_cal0X (C : CalX X.prog X.w X.K X.mg X.base x j n kr κ F) (hr : Room j X.A) (hg : Gl X x)
    (ha : SAE X 0 [] (e :: es) ms) (hl : ∀ env ds, ms env = .ok ds → ds.length = n) (hdb : (x == ("__debug__" : Str)) = false := by decide) (he : starEach (e :: es) X.env = (false, eval e X.env) :: starEach es X.env := by rfl) (hpl : (backTo pos (starEach es X.env)).any (·.1) = false := by rfl) :
    SE X kr [] (.Call (.Name x p) (e :: es) [] pos) (mCall0 F ms) := fun B H env σ tm d Q ok hm' q => by
  obtain ⟨f, fd, ps, hm, hk, hb, Fo⟩ := C.ex
  obtain ⟨ds, hds, hF⟩ := bind_ok hm'
  refine wE_of (pe_callS (E := WE _) Fo hr hg hm hk hb (passAt (takes0 (X := X))) pa_sem hdb he hpl) (ha B H env σ tm ds _ ok hds fun vs H1 x1 hvl ok1 => ?_)
  obtain ⟨G, g, ra, rt⟩ := EnvOk.ret0 (H' := H1) hvl ok1
  refine ⟨by rw [hvl]; exact hl _ _ hds, G, ds, g, ra, ?_⟩
  rw [hF]
  intro v H' r
  obtain ⟨x2, ok2⟩ := rt H' v d r
  exact q v H' (x1.trans x2) ok2
end
end Mir

namespace Mir
open PySem PySem.Spec L2
/-! ### d == e: dicts of numbers, alike or not -/
section
variable {X : Cx}
end
end Mir

namespace Mir
open PySem PySem.Spec L2
/-! ### d[k] of a dict with nested keys -/
section
variable {X : Cx} {o i : Expr} {md mk : Env → Res D} {pos : Pos}
end
end Mir

namespace Mir
open PySem PySem.Spec L2
/-! ### d != e: dicts of numbers, alike or not -/
section
variable {X : Cx}
end
end Mir

namespace Mir
open PySem PySem.Spec L2
/-! ### what is owned to depth one and holds nothing that could be written is owned to any depth -/
def lowD : D → Bool
  | .lst ds => immAll ds
  | .dk _ ds => immAll ds
  | d => d.imm
theorem OdAll.rise {G H : Hp} {k : Nat} : ∀ {f : List Addr} {vs : List V} {ds : List D}, OdAll G H 0 f vs ds → immAll ds = true → OdAll G H k f vs ds
  | _, _, _, .nil, _ => .nil
  | _, _, _, .cons h r, e => by
    rw [immAll, Bool.and_eq_true] at e
    obtain ⟨rfl, rp⟩ := h.zero
    exact .cons (Od.im rp e.1) (OdAll.rise r e.2)
theorem Od.rise {G H : Hp} {k : Nat} {f : List Addr} {v : V} {d : D} (h : Od G H 1 f v d) (e : lowD d = true) : Od G H (k + 1) f v d := by
  cases h with
  | sh hk r =>
    rcases hk with hk | hk
    · cases hk
    · exact .sh (.inr hk) r
  | lst h r => exact .lst h (r.rise (by simpa [lowD] using e))
  | tup h r => exact .tup h (r.rise (by simpa [lowD, D.imm] using e))
  | dk h q r => exact .dk h q (r.rise (by simpa [lowD] using e))
  | dt h q r => simp [lowD, D.imm] at e
  | dn h q p r => simp [lowD, D.imm] at e
theorem EnvOk.rise {B : Bs} {H : Hp} {env : Env} {σ : St} {tm : List Hold} {v : V} {d : D} {k : Nat} (h : EnvOk B H env σ ((v, 1, d) :: tm)) (e : lowD d = true) : EnvOk B H env σ ((v, k + 1, d) :: tm) := by
  have h2 := h.len
  have h3 := h.has
  obtain ⟨G, f, g, hg, hf, hr, nd, hq⟩ := EnvOk.apart (l := [(v, 1, d)]) h
  cases hf with
  | @cons _ _ _ _ f1 g1 h1 hn =>
    cases hn
    exact EnvOk.join (l := [(v, k + 1, d)]) h2 h3 hg (.cons (h1.rise e) .nil) hr nd hq
def gUp : D → Res D := fun d => if lowD d = true then .ok d else .bad
section
variable {X : Cx} {e a b : Expr} {m ma mb : Env → Res D} {cs : List Nat} {pos : Pos} {k : Nat}
theorem se_up (h : SE X 1 cs e m) : SE X (k + 1) cs e (fun env => m env >>= gUp) := fun B H env σ tm d Q ok hm q => by
  obtain ⟨x, hx, hg⟩ := bind_ok hm
  unfold gUp at hg
  split at hg
  · rename_i hf
    cases hg
    exact h B H env σ tm _ Q ok hx fun v H' x' ok' => q v H' x' (ok'.rise hf)
  · cases hg
/-! ### an item of an owned tuple, the others let go -/
def gIxT : D → D → Res D
  | .tup ds, .int i => match atI ds i with
    | some d => .ok d
    | none => .bad
  | _, _ => .bad
theorem se_ixT (ha : SE X (k + 1) [] a ma) (hb : SB X b mb) (hs : PlainIx b) : SE X k [] (.Subscript a b pos) (mOp gIxT ma mb) := fun B H env σ tm d Q ok hm q => by
  obtain ⟨x, y, hx, hy, hg⟩ := two hm
  refine wE_of (pe_ix ix_seq pe_sem pe_sem hs) (ha B H env σ tm x _ ok hx fun v H1 x1 ok1 => hb B H1 env σ _ y _ ok1 hy fun u H2 x2 ok2 r2 => ?_)
  unfold gIxT at hg
  split at hg
  · rename_i ds i
    split at hg
    · rename_i d' hd
      cases hg
      cases r2
      obtain ⟨p, vs, rfl, hp, hl, ok3⟩ := ok2.opTup
      obtain ⟨j, hj, hdj⟩ := atI_some hd
      have hjv : j < vs.length := by
        have := (List.getElem?_eq_some_iff.mp hdj).1
        omega
      have hz' : atI vs i = some vs[j] := by
        unfold atI
        rw [hl, hj]
        exact List.getElem?_eq_getElem hjv
      obtain ⟨l, l1, l2⟩ := lev_one (k := k) hl (List.getElem?_eq_getElem hjv) hdj
      have ok4 : EnvOk B H2 (clear env []) σ (l ++ ((vs[j], k, d) :: tm)) := (ok3.perm (l1.append_right _)).perm List.perm_middle.symm
      exact .inr (.inl ⟨_, _, _, _, rfl, rfl, .inl (view_rd hp), hz', q _ H2 (x1.trans x2) ok4.less⟩)
    · cases hg
  · cases hg
/-! ### list(range(a, b)) -/
def gLRg : D → D → Res D
  | .int i, .int j => if 0 ≤ i ∧ j ≤ 4096 ∧ i ≤ 4096 ∧ 0 ≤ j then .ok (.lst (intsD i (j - i).toNat)) else .bad
  | _, _ => .bad
end
@[simp] theorem e_gLRg {i j : Int} : gLRg (.int i) (.int j) = if 0 ≤ i ∧ j ≤ 4096 ∧ i ≤ 4096 ∧ 0 ≤ j then .ok (.lst (intsD i (j - i).toNat)) else .bad := rfl
@[simp] theorem e_gUp {d : D} : gUp d = if lowD d = true then .ok d else .bad := rfl
@[simp] theorem e_gIxT {ds : List D} {i : Int} : gIxT (.tup ds) (.int i) = (match atI ds i with
    | some d => .ok d
    | none => .bad) := rfl
end Mir

namespace Mir
open PySem PySem.Spec L2
/-! ### d[k] = v, the names kept -/
section
variable {X : Cx} {κ : Str → Addr} {Z : List Nat} {W : WX} {e o i : Expr} {m mk : Env → Res D} {cs : List Nat} {kr : Nat} {pos : Pos}
end
end Mir

namespace Mir
open PySem PySem.Spec L2
/-! ### len of an owned dict with tuple keys -/
def mLenDT (j : Nat) : Env → Res D := fun env => match env[j]? with
  | some (some (1, .dt ks ds)) => .ok (.int ds.length)
  | _ => .bad
@[simp] theorem e_mLenDT {j : Nat} {env : Env} : mLenDT j env = (match env[j]? with
  | some (some (1, .dt ks ds)) => .ok (.int ds.length)
  | _ => .bad) := rfl
end Mir

namespace Mir
open PySem PySem.Spec L2
/-! ### x = y op len(rows), a row of rows being lent -/
section
variable {X : Cx} {κ : Str → Addr} {Z : List Nat} {W : WX} {o a : Expr} {ma : Env → Res D} {i j k kr : Nat} {pos pos' pos2 p p2 spos : Pos} {m2 : Nat → List D → Env → Res Ctl} {ss : List Stmt} {x : Str}
end
end Mir

namespace Mir
open PySem PySem.Spec L2
/-! ### x = xs[i]; ..; x.insert(p, v); .. with x still read behind it -/
section
variable {X : Cx} {κ : Str → Addr} {Z : List Nat} {W : WX} {e o ep : Expr} {mp mv : Env → Res D} {k kr : Nat} {pos apos cpos : Pos}
end
end Mir

namespace Mir
open PySem PySem.Spec L2
/-! ### try: x = f(..): where it raises, x is as it was -/
section
variable {X : Cx} {κ : Str → Addr} {kr k : Nat} {Z : List Nat} {W : WX} {me : Env → Res D} {e : Expr} {cs : List Nat} {pos : Pos}
end
section
variable {X : Cx} {κ : Str → Addr} {kr : Nat} {Z : List Nat} {x n : Str} {c : Value} {i : Nat} {body suite : List Stmt} {b₀ : Stmt} {np pos pos' : Pos} {Wout : WX} {mb ms : Env → Res Ctl} {tab : Str → Option Bool}
end
end Mir

namespace Mir
open PySem PySem.Spec L2
/-! ### a list that is gone through is lent, not given away -/
section
variable {X : Cx} {e a b tg it elt : Expr} {m ma mb me : Env → Res D} {k : Nat} {cs : List Nat} {pos : Pos}
end
section
variable {X : Cx} {κ : Str → Addr} {kr k : Nat} {Z : List Nat} {W : WX} {m1 : Env → Res Ctl} {tg it : Expr} {pos : Pos}
theorem Kp.sub {j : Nat} {Z : List Nat} {σ σ' : St} (h : Kp (j :: Z) σ σ') : Kp Z σ σ' := fun z hz => h z (List.mem_cons_of_mem _ hz)
end
/-! ### d.clear(): a dict of tuple keys -/
end Mir

namespace Mir
open PySem PySem.Spec L2
/-! ### d == e, d != e of two dicts of tuple keys that are alike, as a test -/
end Mir

namespace Mir
open PySem PySem.Spec L2
/-! ### int(text), text.split(sep), text.index(sign) -/
section
variable {X : Cx} {e o : Expr} {m mo : Env → Res D} {k : Nat} {pos p apos : Pos}
end
end Mir

namespace Mir
open PySem PySem.Spec L2
/-! ### the signs of a text; a sign in a text -/
section
variable {X : Cx} {tg it : Expr} {m : Env → Res D}
end
end Mir

namespace Mir
open PySem PySem.Spec L2
open PyProof.Rows (envOfC)
/-! ### objects of own classes, not written once they are made -/
structure OIs (K : PySem.W.Frag) (C : Addr) : Prop where
  cl : Cls K C
  ha : PySem.W.findIn K (.ref C) "__class__" = some (some (.builtin "object.__class__"))
  hn : PySem.W.specialIn K (.builtin "object.__class__") "__get__" = some (some (.builtin "getset_descriptor.__get__"))
  ht : PySem.W.takesIn K (.builtin "object.__class__") = some true
  hm : PySem.W.mroIn K C (.type "object") = some true
/-- the class named c stands at κ c -/
structure OCl (K : PySem.W.Frag) (mg : Str → Option Value) (κ : Str → Addr) (c : Str) : Prop where
  g : mg c = some (.ref (κ c))
  is : OIs K (κ c)
section
variable {X : Cx} {κ : Str → Addr} {a b o e : Expr} {es : List Expr} {m mo : Env → Res D} {ms : Env → Res (List D)} {pos p apos : Pos} {B : Bs} {H : Hp} {env : Env} {σ : St} {tm : List Hold}
/-! #### e.f -/
def OTab (K : PySem.W.Frag) (κ : Str → Addr) (f : Str) : List Str → Prop
  | [] => True
  | c :: cs => (OIs K (κ c) ∧ NoAttr K (κ c) f) ∧ OTab K κ f cs
theorem OTab.get {K : PySem.W.Frag} {f c : Str} : ∀ {cs : List Str}, OTab K κ f cs → c ∈ cs → OIs K (κ c) ∧ NoAttr K (κ c) f
  | _ :: _, h, hc => by
    rcases List.mem_cons.mp hc with rfl | hc
    · exact h.1
    · exact h.2.get hc
/-! #### C(..) -/
def spI (C : Addr) (ns : List Str) : Sp := fun vs H Q _ => vs.length = ns.length + 1 ∧ ∃ x dx as, vs = .ref x :: as ∧ H x = some (.ins C dx []) ∧ Q .non (upd H x (.ins C dx (ns.zip as)))
structure MkC (P : Program) (w : World) (K : PySem.W.Frag) (mg : Str → Option Value) (base : Heap) (C : Addr) (j : Nat) (ns : List Str) : Prop where
  ex : ∃ f fd ps, Mk K C f ∧ Binds K fd ps [] ∧ FnOk P w K mg base CX0 j f fd ps (spI C ns)
/-! #### the def __init__ that only stores what it is given -/
/-! #### o.m(..) -/
structure MetC (P : Program) (w : World) (K : PySem.W.Frag) (mg : Str → Option Value) (base : Heap) (C : Addr) (m : Str) (j n kr : Nat) (F : List D → Res D) : Prop where
  ex : ∃ f fd ps, Meth K C m f ∧ Binds K fd ps [] ∧ FnOk P w K mg base CX0 j f fd ps (spF kr n F)
def MTab (X : Cx) (κ : Str → Addr) (m : Str) (n kr : Nat) : List (Str × (List D → Res D)) → Prop
  | [] => True
  | (c, F) :: r => (OIs X.K (κ c) ∧ ∃ j, Room j X.A ∧ MetC X.prog X.w X.K X.mg X.base (κ c) m j n kr F) ∧ MTab X κ m n kr r
theorem MTab.get {m : Str} {n kr : Nat} {c : Str} {F : List D → Res D} : ∀ {t : List (Str × (List D → Res D))}, MTab X κ m n kr t → t.lookup c = some F → OIs X.K (κ c) ∧ ∃ j, Room j X.A ∧ MetC X.prog X.w X.K X.mg X.base (κ c) m j n kr F
  | [], _, h => by cases h
  | (c', F') :: r, h, e => by
    rw [List.lookup_cons] at e
    split at e
    · rename_i hc
      cases e
      rw [show c = c' from by simpa using hc]
      exact h.1
    · exact h.2.get e
def gMeth (κ : Str → Addr) (t : List (Str × (List D → Res D))) (m : Str) (kr : Nat) (o : D) (ds : List D) : Res D := match o with
  | .ob c C ns as => (match t.lookup c with
    | some F => if C = κ c ∧ m ∉ ns then F (.ob c C ns as :: ds) >>= fun d => if immAt kr d then .ok d else .bad else .bad
    | none => .bad)
  | _ => .bad
def mMeth (κ : Str → Addr) (t : List (Str × (List D → Res D))) (m : Str) (kr : Nat) (mo : Env → Res D) (ms : Env → Res (List D)) : Env → Res D := fun env => mo env >>= fun o => ms env >>= fun ds => gMeth κ t m kr o ds
@[simp] theorem e_mMeth {t : List (Str × (List D → Res D))} {m : Str} {kr : Nat} : mMeth κ t m kr mo ms env = (mo env >>= fun o => ms env >>= fun ds => gMeth κ t m kr o ds) := rfl
/-! #### isinstance(o, C) -/
def ITab (K : PySem.W.Frag) (κ : Str → Addr) (x : Str) : List (Str × Bool) → Prop
  | [] => True
  | (c, b) :: r => (OIs K (κ c) ∧ PySem.W.kitOne K (.ref (κ c)) (.ref (κ x)) = some b) ∧ ITab K κ x r
theorem ITab.get {K : PySem.W.Frag} {x c : Str} {b : Bool} : ∀ {t : List (Str × Bool)}, ITab K κ x t → t.lookup c = some b → OIs K (κ c) ∧ PySem.W.kitOne K (.ref (κ c)) (.ref (κ x)) = some b
  | [], _, h => by cases h
  | (c', F') :: r, h, e => by
    rw [List.lookup_cons] at e
    split at e
    · rename_i hc
      cases e
      rw [show c = c' from by simpa using hc]
      exact h.1
    · exact h.2.get e
end
end Mir

namespace Mir
open PySem PySem.Spec L2
open PyProof.Rows (envOfC)
/-! ### methods as they stand; __init__; d.clear() of a dict with int or text keys -/
structure AtM (K : PySem.W.Frag) (C : Addr) (m qual : Str) (st : Stmt) : Prop where
  ex : ∃ f fd, Fun K m qual st f fd ∧ Meth K C m f
theorem AtM.mk' {K : PySem.W.Frag} {C : Addr} {m qual : Str} {st : Stmt} {f : Addr} {oc : Value} {od an : Option Addr} {osl : Array (Option Value)} {kV doc pm cdv ct : Value} (a : PySem.W.findIn K (.ref C) m = some (some (.ref f)))
    (l : K.lookup f = some ⟨oc, od, .func (PySem.W.fnOf m qual (defArgs st) (defBody st) (defScope st) .none kV doc pm an cdv ct), osl⟩) (c : PySem.W.codeIn K cdv qual = true) (k : PySem.W.keepIn K (.ref f) = true) (n : PySem.W.isFn K (.ref f) = true) : AtM K C m qual st :=
  ⟨f, _, fun_mk l c k, ⟨a, n, k⟩⟩
section
variable {X : Cx} {o : Expr} {pos : Pos} {H : Hp} {σ : St}
end
end Mir

namespace Mir
open PySem PySem.Spec L2 RT
/-! ### for x in reversed(list) -/
section
variable {X : Cx} {tg it : Expr} {m : Env → Res D} {p pos : Pos}
end
end Mir

namespace L2
open PySem PySem.Spec PyProof.Rows
section
variable {X : Cx} {CX : CXT} {k : Nat} {f C : Addr} {fd : FuncData} {ps : List Str} {sp : Sp} {E : St → XK} {x m : Str} {p pos apos : Pos} {e o : Expr} {es : List Expr} {ta : TE} {t : TA}
end
end L2
namespace Mir
open PySem PySem.Spec L2
open PyProof.Rows (envOfC)
/-! ### methods that may raise; [.. for x in a call that may raise]; try .. except X: without a name -/
section
variable {X : Cx} {κ : Str → Addr} {W : WX} {a b o e : Expr} {es : List Expr} {m mo : Env → Res D} {ms : Env → Res (List D)} {pos p apos : Pos} {B : Bs} {H : Hp} {env : Env} {σ : St} {tm : List Hold}
structure MetX (P : Program) (w : World) (K : PySem.W.Frag) (mg : Str → Option Value) (base : Heap) (C : Addr) (m : Str) (j n kr : Nat) (κ : Str → Addr) (F : List D → Res D) : Prop where
  ex : ∃ f fd ps, Meth K C m f ∧ Binds K fd ps [] ∧ FnOk P w K mg base (L2.CX P w) j f fd ps (spX kr n κ F)
def MTabX (X : Cx) (κ : Str → Addr) (m : Str) (n kr : Nat) : List (Str × (List D → Res D)) → Prop
  | [] => True
  | (c, F) :: r => (OIs X.K (κ c) ∧ ∃ j, Room j X.A ∧ MetX X.prog X.w X.K X.mg X.base (κ c) m j n kr κ F) ∧ MTabX X κ m n kr r
theorem MTabX.get {m : Str} {n kr : Nat} {c : Str} {F : List D → Res D} : ∀ {t : List (Str × (List D → Res D))}, MTabX X κ m n kr t → t.lookup c = some F → OIs X.K (κ c) ∧ ∃ j, Room j X.A ∧ MetX X.prog X.w X.K X.mg X.base (κ c) m j n kr κ F
  | [], _, h => by cases h
  | (c', F') :: r, h, e => by
    rw [List.lookup_cons] at e
    split at e
    · rename_i hc
      cases e
      rw [show c = c' from by simpa using hc]
      exact h.1
    · exact h.2.get e
def mMethX (κ : Str → Addr) (t : List (Str × (List D → Res D))) (m : Str) (kr : Nat) (mo : Env → Res D) (ms : Env → Res (List D)) : Env → Res D := fun env => nx (mo env) >>= fun o => nx (ms env) >>= fun ds => gMeth κ t m kr o ds
/-- what is told is shared from here on -/
theorem sx_0 {k : Nat} {cs : List Nat} {me : Env → Res D} (h : SEX X κ k cs W e me) : SEX X κ 0 cs W e me := fun B H env σ tm Q ok pp => by
  refine h B H env σ tm Q ok ?_
  cases hm : me env with
  | bad => rw [hm] at pp; exact pp.elim
  | exc c ns as => rw [hm] at pp; exact pp
  | ok d => rw [hm] at pp; exact fun v H' x ok' => pp v H' x ok'.freeze
/-- [elt for tg in it ..], it may raise -/
def mLcX (mx : Env → Res D) (t : Nat → D → Env → Res Env) (mt : Env → Res Bool) (me : Env → Res D) (own : List Nat) : Env → Res D := fun env =>
  mx env >>= fun d => nx (mLc (fun _ => itemsL d) t mt me own env)
end
/-! #### try: .. except X: .. -/
section
variable {X : Cx} {κ : Str → Addr} {kr : Nat} {Z : List Nat} {x : Str} {c : Value} {body suite : List Stmt} {b₀ : Stmt} {np pos pos' : Pos} {Wout : WX} {mb ms : Env → Res Ctl} {tab : Str → Option Bool}
end
end Mir

namespace Mir
open PySem PySem.Spec L2
/-! ### equations of methods that may raise -/
section
variable {κ : Str → Addr} {mo : Mir.Env → Res D} {ms : Mir.Env → Res (List D)} {env : Mir.Env}
@[simp] theorem e_mMethX {t : List (Str × (List D → Res D))} {m : Str} {kr : Nat} : mMethX κ t m kr mo ms env = (nx (mo env) >>= fun o => nx (ms env) >>= fun ds => gMeth κ t m kr o ds) := rfl
@[simp] theorem e_mLcX (mx : Mir.Env → Res D) (t : Nat → D → Mir.Env → Res Mir.Env) (mt : Mir.Env → Res Bool) (me : Mir.Env → Res D) (own : List Nat) : mLcX mx t mt me own env = (mx env >>= fun d => nx (mLc (fun _ => itemsL d) t mt me own env)) := rfl
end
end Mir

namespace Mir
open PySem PySem.Spec L2
/-! ### a shared thing put into an inner list -/
section
variable {X : Cx} {a b e o : Expr} {m : Env → Res D} {ma mb : Nat → Env → Res D} {j : Nat} {pos p pos2 : Pos}
end
section
variable {X : Cx} {e ep o ix o2 : Expr} {mi mv : Env → Res D} {mp : Nat → Env → Res D} {kr : Nat} {pos p pos' pos2 spos apos cpos spos2 : Pos} {mr : Env → Res Ctl} {rest : List Stmt} {x : Str}
end
end Mir

namespace Mir
open PySem PySem.Spec L2
/-! ### xs.remove(x), x in xs -/
section
variable {X : Cx} {e o : Expr} {m : Env → Res D} {kr : Nat} {pos apos cpos : Pos}
end
end Mir

namespace Mir
open PySem PySem.Spec L2
end Mir

namespace Mir
open PySem PySem.Spec L2
/-! ### try: .. except X: .. except Y: .. -/
section
variable {X : Cx} {κ : Str → Addr} {kr : Nat} {Z : List Nat} {x y : Str} {c c2 : Value} {body suite suite2 : List Stmt} {b₀ b₂ : Stmt} {np pos pos' np2 pos2 : Pos} {Wout : WX} {mb ms ms2 : Env → Res Ctl} {tab tab2 : Str → Option Bool}
end
end Mir

namespace Mir
open PySem PySem.Spec L2
/-! ### [.. for k in d]: dicts of plain keys -/
section
variable {X : Cx} {e a b tg it o elt : Expr} {m ma mb me mk mx : Env → Res D} {k kr : Nat} {cs : List Nat} {pos p p2 cpos apos cpos2 apos2 lp : Pos}
end
end Mir

namespace Mir
open PySem PySem.Spec L2
/-! ### len(set(whole numbers)) -/
section
variable {X : Cx} {e : Expr} {m : Env → Res D} {k : Nat} {pos p p2 pos2 : Pos}
end
end Mir

namespace Mir
/-! ### lists of a length (one pattern for all defs) -/
theorem lst1 {α : Type} {P : List α → Prop} (h : ∀ a0, P [a0]) : ∀ us : List α, us.length = 1 → P us
  | [a0], _ => h a0
theorem lst2 {α : Type} {P : List α → Prop} (h : ∀ a0 a1, P [a0, a1]) : ∀ us : List α, us.length = 2 → P us
  | [a0, a1], _ => h a0 a1
theorem lst3 {α : Type} {P : List α → Prop} (h : ∀ a0 a1 a2, P [a0, a1, a2]) : ∀ us : List α, us.length = 3 → P us
  | [a0, a1, a2], _ => h a0 a1 a2
theorem lst4 {α : Type} {P : List α → Prop} (h : ∀ a0 a1 a2 a3, P [a0, a1, a2, a3]) : ∀ us : List α, us.length = 4 → P us
  | [a0, a1, a2, a3], _ => h a0 a1 a2 a3
end Mir

namespace Mir
open PySem PySem.Spec L2
/-! ### a dict of whole numbers that is gone through by a comprehension, and owned still behind it -/
section
variable {X : Cx} {e a b tg it elt : Expr} {m ma mb me : Env → Res D} {k : Nat} {cs : List Nat} {pos : Pos}
end
section
variable {B : Bs} {H H' : Hp} {env : Env} {σ : St} {tm : List Hold} {k : Nat} {q : Addr} {o : HO}
theorem EnvOk.lentAt (h : EnvOk (B.lent q o) H env σ tm) : H q = some o := by
  obtain ⟨⟨G, fp, g, _⟩, _⟩ := h
  exact g.bs q o upd_same
theorem rpInts {G : Hp} : ∀ is : List Int, RpAll G (is.map V.int) (is.map D.int)
  | [] => .nil
  | i :: is => .cons (.int i) (rpInts is)
/-- a dict of whole numbers, seen alone -/
theorem EnvOk.alone (h : EnvOk (B.lent q o) H env σ tm) {kvs : List (Key × V)} (ho : unf o = .dK kvs) {is : List Int} (hv : kvs.map (·.2) = is.map V.int) : EnvOk ⟨fun _ => none, fun _ => none⟩ H [] [] [(.ref q, 0, .dk (kvs.map (·.1)) (is.map D.int))] := by
  have hq := h.lentAt
  obtain ⟨⟨G, fp, g, _⟩, _⟩ := h
  have hvq : view H q = some (.dK kvs) := by
    show (H q).map unf = _
    rw [hq, ← ho]; rfl
  refine ⟨⟨upd G q (.dK kvs), [], ⟨(fun a w ha => by cases ha), (fun a ha => absurd rfl ha), fun a u e => ?_, fun a u iu e => ?_, g.nf⟩, .cons (.sh (.inl rfl) (.dk (upd_same) rfl ?_)) .nil, List.nodup_nil, fun p hm => nomatch hm⟩, rfl, fun i kd e => by simp at e⟩
  · by_cases z : a = q
    · subst z
      rw [upd_same] at e
      rw [hvq]; exact e
    · rw [upd_ne z] at e; exact g.gs a u e
  · have z : a ≠ q := fun z => by
      rw [z, hvq] at e
      have e3 : HO.dK kvs = u := Option.some.inj e
      rw [← e3] at iu; cases iu
    rw [upd_ne z]; exact g.gt a u iu e
  · rw [hv]; exact rpInts is
theorem slots_rep : ∀ (n : Nat) (σ : St), slots (List.replicate n none) σ = []
  | 0, [] => rfl
  | 0, _ :: _ => rfl
  | n + 1, [] => rfl
  | n + 1, x :: s => by
    rw [List.replicate_succ]
    cases x <;> exact slots_rep n s
theorem EnvOk.bare {n : Nat} (h : EnvOk B H [] [] tm) (hn : n = σ.length) : EnvOk B H (List.replicate n none) σ tm := by
  obtain ⟨⟨G, fp, g, hs, nd, hp⟩, _, _⟩ := h
  refine ⟨⟨G, fp, g, ?_, nd, hp⟩, by rw [List.length_replicate]; exact hn, fun i kd e => ?_⟩
  · rw [slots_rep]; exact hs
  · rw [List.getElem?_replicate] at e
    split at e
    · cases e
    · cases e
end
section
variable {X : Cx} {tg o elt : Expr} {me : Env → Res D} {pos : Pos}
end
end Mir

namespace Mir
open PySem PySem.Spec L2
open PyProof.Rows (envOfC)
/-! ### raise C(e, ..), C's own __init__ storing what it is given -/
def spXI (C : Addr) (ns : List Str) : Sp := fun vs H Q _ => vs.length = ns.length + 1 ∧ ∃ x as, vs = .ref x :: as ∧ H x = some (exo x C none) ∧ ∀ dx, H dx = none → dx ≠ x → Q .non (upd (upd H dx (exd dx (ns.zip as).reverse)) x (exo x C (some dx)))
structure MkX (P : Program) (w : World) (K : PySem.W.Frag) (mg : Str → Option Value) (base : Heap) (C : Addr) (j : Nat) (ns : List Str) : Prop where
  ex : ∃ f fd ps, PySem.W.findIn K (.ref C) "__init__" = some (some (.ref f)) ∧ PySem.W.typeIn K (.ref f) = some (.type "function") ∧ Binds K fd ps [] ∧ FnOk P w K mg base CX0 j f fd ps (spXI C ns)
structure XIni (K : PySem.W.Frag) (C : Addr) (qual : Str) (st : Stmt) : Prop where
  ex : ∃ f fd, Fun K "__init__" qual st f fd ∧ PySem.W.findIn K (.ref C) "__init__" = some (some (.ref f)) ∧ PySem.W.typeIn K (.ref f) = some (.type "function")
theorem XIni.mk' {K : PySem.W.Frag} {C : Addr} {qual : Str} {st : Stmt} {f : Addr} {oc : Value} {od an : Option Addr} {osl : Array (Option Value)} {kV doc pm cdv ct : Value} (a : PySem.W.findIn K (.ref C) "__init__" = some (some (.ref f)))
    (l : K.lookup f = some ⟨oc, od, .func (PySem.W.fnOf "__init__" qual (defArgs st) (defBody st) (defScope st) .none kV doc pm an cdv ct), osl⟩) (c : PySem.W.codeIn K cdv qual = true) (k : PySem.W.keepIn K (.ref f) = true) (n : PySem.W.typeIn K (.ref f) = some (.type "function")) : XIni K C qual st :=
  ⟨f, _, fun_mk l c k, a, n⟩
section
variable {X : Cx} {κ : Str → Addr} {kr : Nat} {Z : List Nat} {W : WX} {e : Expr} {es : List Expr} {o : Expr} {ms : Env → Res (List D)} {pos p pos' : Pos} {H : Hp} {σ : St}
def mRaiseF (c : Str) (ns : List Str) (ms : Env → Res (List D)) : Env → Res Ctl := fun env => nx (ms env) >>= fun ds => if immAll ds = true ∧ ds.length = ns.length then .exc c ns.reverse ds.reverse else .bad
@[simp] theorem e_mRaiseF (c : Str) (ns : List Str) (env : Mir.Env) : mRaiseF c ns ms env = (nx (ms env) >>= fun ds => if immAll ds = true ∧ ds.length = ns.length then .exc c ns.reverse ds.reverse else .bad) := rfl
/-! #### the def __init__ of such a class -/
end
/-! ### the rows of an owned list become shared, the list stays owned -/
theorem odAll0 {G H : Hp} : ∀ {vs : List V} {ds : List D}, RpAll G vs ds → OdAll G H 0 [] vs ds
  | _, _, .nil => .nil
  | _, _, .cons h r => .cons (f := []) (g := []) (.of h) (odAll0 r)
section
variable {B : Bs} {H : Hp} {env : Env} {σ : St} {tm : List Hold}
theorem EnvOk.freeze1 {k : Nat} {ds : List D} {v : V} (h : EnvOk B H env σ ((v, k + 1, .lst ds) :: tm)) : EnvOk B H env σ ((v, 1, .lst ds) :: tm) := by
  have h2 := h.len
  have h3 := h.has
  obtain ⟨G, f, g, hg, hl, hr, nd, hp⟩ := EnvOk.apart (l := [(v, k + 1, .lst ds)]) h
  cases hl with
  | @cons _ _ _ _ f0 g1 h1 hn =>
    cases hn
    rw [List.append_nil] at nd hp
    cases h1 with
    | sh hh r =>
      rcases hh with hh | hh
      · omega
      · cases hh
    | @lst _ a vs _ f1 ha h1 =>
    have m1 := h1.mu
    obtain ⟨nd1, nd2, nd3⟩ := List.nodup_append.mp nd
    have ndc := List.nodup_cons.mp nd1
    let G' : Hp := fun a => if a ∈ f1 then H a else G a
    have out : ∀ a, a ∉ f1 → G' a = G a := fun a ha => if_neg ha
    have inn : ∀ a, a ∈ f1 → G' a = H a := fun a ha => if_pos ha
    have mem : ∀ q, q ∈ f1 → q ∈ a :: f1 ++ g := fun q hq => List.mem_append_left _ (List.mem_cons_of_mem _ hq)
    have e1 : ∀ a u, G a = some u → G' a = some u := fun a u e => by
      by_cases q : a ∈ f1
      · rw [(hp a (mem _ q)).2] at e; cases e
      · rw [out a q]; exact e
    have hg' : Good B G' H := ⟨hg.bs, fun a e => by
      rw [out a fun q => e (hp a (mem _ q)).1]
      exact hg.g0 a e, fun a u e => by
      by_cases q : a ∈ f1
      · rw [inn a q] at e
        obtain ⟨u', e', m'⟩ := m1 a q
        rw [e] at e'; cases e'
        unfold view; rw [e]; exact congrArg some m'.unf
      · rw [out a q] at e; exact hg.gs a u e, fun a xs im e => by
      by_cases q : a ∈ f1
      · obtain ⟨u', e', m'⟩ := m1 a q
        unfold view at e; rw [e'] at e
        have e2 : unf u' = xs := Option.some.inj e
        rw [m'.unf] at e2
        rw [e2] at m'
        exact (im_mu im m').elim
      · rw [out a q]; exact hg.gt a xs im e, hg.nf⟩
    have r : RpAll G' vs ds := h1.frozen e1 (fun a xs e => hg'.gt a _ rfl (by unfold view; rw [e]; rfl)) fun a u e m => by rw [inn a m]; exact e
    have hna : a ∉ f1 := ndc.1
    refine EnvOk.join (l := [(.ref a, 1, .lst ds)]) (G := G') (f := [a]) (g := g) h2 h3 hg' (HoldAll.cons (f := [a]) (g := []) (.lst ha (odAll0 r)) .nil) (hr.frame e1 fun _ _ e _ => e) ?_ fun p hm => ?_
    · exact List.nodup_append.mpr ⟨by simp, nd2, fun x hx y hy => nd3 x (by rw [List.mem_singleton.mp hx]; exact List.mem_cons_self ..) y hy⟩
    · rcases List.mem_append.mp hm with hm' | hm'
      · rw [List.mem_singleton.mp hm']
        refine ⟨(hp a (by simp)).1, ?_⟩
        rw [out a hna]; exact (hp a (by simp)).2
      · refine ⟨(hp p (List.mem_append_right _ hm')).1, ?_⟩
        rw [out p fun q => nd3 p (List.mem_cons_of_mem _ q) p hm' rfl]
        exact (hp p (List.mem_append_right _ hm')).2
def fz1 (i : Nat) (env : Env) : Env := match env[i]? with
  | some (some (_ + 1, .lst ds)) => env.set i (some (1, .lst ds))
  | _ => env
theorem EnvOk.fz1 (h : EnvOk B H env σ tm) (i : Nat) : EnvOk B H (fz1 i env) σ tm := by
  unfold Mir.fz1
  split
  · rename_i k d e
    obtain ⟨v, hv⟩ := h.has i _ e
    have hi : i < env.length := (List.getElem?_eq_some_iff.mp e).1
    have h1 := ((h.move e hv).freeze1).store (i := i) (by simpa using hi)
    rw [List.set_set, set_self hv] at h1
    exact h1
  · exact h
def mFz1 (i : Nat) (m : Env → Res Ctl) : Env → Res Ctl := fun env => m (Mir.fz1 i env)
@[simp] theorem e_mFz1 (i : Nat) (m : Env → Res Ctl) (env : Env) : mFz1 i m env = m (Mir.fz1 i env) := rfl
end
end Mir

namespace Mir
open PySem PySem.Spec L2
open PyProof.Rows (envOfC)
/-! ### more statements in defs that may raise or change what they are handed -/
section
variable {X : Cx} {κ : Str → Addr} {kr k : Nat} {Z : List Nat} {W : WX} {st : Stmt} {ss : List Stmt} {m m1 m2 : Env → Res Ctl} {me : Env → Res D} {e tg it : Expr} {cs : List Nat} {pos : Pos}
/-- any target, the value may raise -/
def mAsgX (t : Nat → D → Env → Res Env) (k : Nat) (cs : List Nat) (m : Env → Res D) : Env → Res Ctl := fun env => m env >>= fun d => nx (t k d (clear env cs)) >>= fun e => .ok (.nx e)
@[simp] theorem e_mAsgX (t : Nat → D → Env → Res Env) (k : Nat) (cs : List Nat) (m : Env → Res D) (env : Env) : mAsgX t k cs m env = (m env >>= fun d => nx (t k d (clear env cs)) >>= fun e => .ok (.nx e)) := rfl
end
/-! ### a dict of plain things, owned deeper than need be -/
section
variable {B : Bs} {H : Hp} {env : Env} {σ : St} {tm : List Hold}
theorem EnvOk.levLow {k : Nat} : ∀ {vs : List V} {ds : List D} {tm : List Hold}, EnvOk B H env σ (lev k vs ds ++ tm) → vs.length = ds.length → EnvOk B H env σ (lev 0 vs ds ++ tm)
  | [], [], tm, h, _ => h
  | [], _ :: _, _, _, e => by simp at e
  | _ :: _, [], _, _, e => by simp at e
  | v :: vs, d :: ds, tm, h, e => by
    have h0 : EnvOk B H env σ ((v, k, d) :: (lev k vs ds ++ tm)) := h
    have h1 := h0.freeze
    have h2 : EnvOk B H env σ (lev k vs ds ++ ((v, 0, d) :: tm)) := h1.perm List.perm_middle.symm
    have h3 := EnvOk.levLow (vs := vs) (ds := ds) h2 (by simpa using e)
    exact h3.perm List.perm_middle
theorem EnvOk.low {k : Nat} {ks : List Key} {ds : List D} {v : V} (h : EnvOk B H env σ ((v, k + 1, .dk ks ds) :: tm)) : EnvOk B H env σ ((v, 1, .dk ks ds) :: tm) := by
  obtain ⟨p, rfl⟩ := h.isRef rfl
  obtain ⟨kvs, hp, hk, hl, h'⟩ := h.takeDk
  have h1 := EnvOk.levLow h' (by rw [List.length_map]; exact hl)
  have h2 := h1.newDk hl hk del_self
  rw [upd_del] at h2
  have e : upd H p (.dK kvs) = H := by
    funext a
    by_cases q : a = p
    · subst q; rw [upd_same, hp]
    · rw [upd_ne q]
  rw [e] at h2
  exact h2
def lw (i : Nat) (env : Env) : Env := match env[i]? with
  | some (some (_ + 1, .dk ks ds)) => env.set i (some (1, .dk ks ds))
  | _ => env
theorem EnvOk.lw (h : EnvOk B H env σ tm) (i : Nat) : EnvOk B H (lw i env) σ tm := by
  unfold Mir.lw
  split
  · rename_i k ks ds e
    obtain ⟨v, hv⟩ := h.has i _ e
    have hi : i < env.length := (List.getElem?_eq_some_iff.mp e).1
    have h1 := ((h.move e hv).low).store (i := i) (by simpa using hi)
    rw [List.set_set, set_self hv] at h1
    exact h1
  · exact h
def mLw (i : Nat) (m : Env → Res Ctl) : Env → Res Ctl := fun env => m (Mir.lw i env)
@[simp] theorem e_mLw (i : Nat) (m : Env → Res Ctl) (env : Env) : mLw i m env = m (Mir.lw i env) := rfl
end
end Mir

namespace Mir
open PySem PySem.Spec L2
open PyProof.Rows
/-! ### t[lo:hi].count(k): the slice is a new tuple of which all is known -/
section
variable {X : Cx} {o e : Expr} {to te : TE} {apos cpos : Pos}
end
def gCountT : D → D → Res D
  | .tup ds, .int k => match intsD? ds with | some ns => .ok (.int (ns.count k : Nat)) | none => .bad
  | _, _ => .bad
def mCountT (m : Env → Res D) (ml mu : Env → Res (Option Int)) (me : Env → Res D) : Env → Res D := fun env => m env >>= itemsT >>= fun ds => ml env >>= fun lo => mu env >>= fun hi => gCutT ds lo hi >>= fun t => me env >>= fun y => gCountT t y
@[simp] theorem e_mCountT (m : Env → Res D) (ml mu : Env → Res (Option Int)) (me : Env → Res D) (env : Env) : mCountT m ml mu me env = (m env >>= itemsT >>= fun ds => ml env >>= fun lo => mu env >>= fun hi => gCutT ds lo hi >>= fun t => me env >>= fun y => gCountT t y) := rfl
section
variable {X : Cx} {a e o : Expr} {m me : Env → Res D} {ml mu : Env → Res (Option Int)} {lo hi : Option Expr} {p2 pos2 apos cpos pos : Pos}
variable {κ : Str → Addr} {Z : List Nat} {W : WX} {k kr : Nat} {cs : List Nat}
end
end Mir

namespace Mir
open PySem PySem.Spec L2
/-! ### try: if c: x = f(..) else: x = g(..) -/
section
variable {X : Cx} {κ : Str → Addr} {kr : Nat} {Z : List Nat} {W : WX} {pos : Pos} {m1 m2 : Env → Res Ctl}
end
end Mir

namespace Mir
open PySem PySem.Spec L2 RT
/-! ### for x in reversed(tuple) -/
section
variable {X : Cx} {tg it : Expr} {m : Env → Res D} {p pos : Pos}
end
end Mir

namespace L2
open PySem PySem.Spec PyProof.Rows
section
variable {X : Cx} {m : Str} {p pos apos : Pos} {e o : Expr} {es : List Expr} {ta : TE}
end
end L2
namespace Mir
open PySem PySem.Spec L2
open PyProof.Rows (envOfC)
/-! ### f(..).m(..), both may raise -/
section
variable {X : Cx} {κ : Str → Addr} {W : WX} {a b o e : Expr} {es : List Expr} {m mo : Env → Res D} {ms : Env → Res (List D)} {pos p apos : Pos} {B : Bs} {H : Hp} {env : Env} {σ : St} {tm : List Hold}
def mMethO (κ : Str → Addr) (t : List (Str × (List D → Res D))) (m : Str) (kr : Nat) (mo : Env → Res D) (ms : Env → Res (List D)) : Env → Res D := fun env => mo env >>= fun o => nx (ms env) >>= fun ds => gMeth κ t m kr o ds
@[simp] theorem e_mMethO {t : List (Str × (List D → Res D))} {m : Str} {kr : Nat} : mMethO κ t m kr mo ms env = (mo env >>= fun o => nx (ms env) >>= fun ds => gMeth κ t m kr o ds) := rfl
end
end Mir

namespace Mir
open PySem PySem.Spec L2
open PyProof.Rows (get?_update_seq size_push' seqObj ksk_rest ksk_s1 ksk_l1 ksk_t1 ksk_tree ksk_fold listItems_at listUpdate_at seqEpoch_at)
/-! ### sorted(xs, key=f), f a def; the keys may be lists -/
def gap (h : Heap) (k : Addr) : Heap := h.update k fun o => { o with data := .freed }
theorem gap_ne {h : Heap} {k b : Addr} (hb : b ≠ k) : (gap h k).get? b = h.get? b := (Heap.SameBut.update h k _).2 b hb
theorem gap_at {h : Heap} {k : Addr} : (gap h k).get? k = none := by
  obtain ⟨os, l⟩ := h
  unfold gap Heap.update Heap.get?
  dsimp only
  rw [Array.getElem?_modify, if_pos rfl]
  cases os[k]? <;> rfl
section
variable {X : Cx} {pins : List (Addr × Obj)} {σ : St} {H : Hp} {s : Shared}
theorem sortby_rest {f a kS : Addr} {e1 : Nat} {us : List Value} {kz : List PyData} {A : Around} {E' : Value → Shared → Prop} {J : Nat → List V → Hp → Prop} {R : PySem.Fin → Shared → Prop}
    (hka : kS ≠ a) (fk : FpOk X pins H kS) (fa : FpOk X pins H a) (I : Inv X ((kS, seqObj "list" #[] 0) :: (a, seqObj "list" #[] e1) :: pins) σ H s) (hz : us.length ≤ sizeLine) (hlen : kz.length = us.length)
    (hal : PySem.W.AllAlike kz) (hsk : PySem.W.Sortable kz) (hu : ∀ d, d ∈ kz → A.units + d.depth < cLine) (j0 : J 0 [] H)
    (turn : ∀ (i : Nat) (u : Value) (ws : List V) (H1 : Hp) (ps : List (Addr × Obj)) (s1 : Shared), us[i]? = some u → J i ws H1 → Inv X ps σ H1 s1 →
      wpAny (model X.prog X.w) A (call (.ref f) [u]) (fun v s2 => ∃ z H2, Inv X ps σ H2 s2 ∧ RelV z v ∧ J (i + 1) (ws ++ [z]) H2) (fun _ _ => False) s1)
    (read : ∀ (ws : List V) (H1 : Hp) (ps : List (Addr × Obj)) (s1 : Shared) (vs : List Value), J us.length ws H1 → Inv X ps σ H1 s1 → Vals ws vs → PySem.W.EachIs (fun v d => ∃ as, Reads s1.heap v d as) vs kz)
    (fin : ∀ (ws : List V) (H1 : Hp) (s1 : Shared) (h' : Heap) (tk c : Nat) (out : List Value), J us.length ws H1 → Inv X ((kS, s1.heap.get? kS |>.getD default) :: (a, seqObj "list" #[] e1) :: pins) σ H1 s1 → PySem.W.KeyedOut false kz us out → (∀ b o, b ≠ a → b ≠ kS → s1.heap.get? b = some o → h'.get? b = some o) →
      h'.get? a = some (seqObj "list" out.toArray c) → R (.done (.ret .none)) { s1 with heap := h', toks := tk }) :
    wpAny (model X.prog X.w) A (ksk_rest a (.ref f) false us.toArray e1 (.ref kS)) R E' s := by
  unfold ksk_rest
  refine wpAny_bind (wpAny_rule ?_)
  first
    | rw [List.forIn_toArray]
    | (rw [← Array.forIn_toList]; simp only [List.toList_toArray])
  refine wpAny_bind (ksk_fold (fun i s' => ∃ (H1 : Hp) (ka : Array Value) (n : Nat) (ws : List V), ka.size = i ∧ H1 kS = none ∧ H1 a = none ∧ Inv X ((kS, seqObj "list" ka n) :: (a, seqObj "list" #[] e1) :: pins) σ H1 s' ∧ Vals ws ka.toList ∧ J i ws H1) us 0 s
    ⟨H, #[], 0, [], rfl, fk.1, fa.1, I, .nil, j0⟩ ?one ?all)
  case one =>
    rintro i u s1 hi ⟨H1, ka, n, ws, hsz, nk, na, I1, rv, hj⟩
    simp only [Nat.zero_add] at hsz hj ⊢
    have hi2 : i < us.length := (List.getElem?_eq_some_iff.mp hi).1
    refine wpAny_bind (wpAny_attempt (wpAny_mono (turn i u ws H1 _ s1 hi hj I1) (fun v s2 hq => ?_) fun _ _ z => z.elim))
    obtain ⟨z, H2, I2, rz, hj2⟩ := hq
    dsimp only
    have mk := I2.pin (kS, seqObj "list" ka n) (List.mem_append_right _ List.mem_cons_self)
    have ma := I2.pin (a, seqObj "list" #[] e1) (List.mem_append_right _ (List.mem_cons_of_mem _ List.mem_cons_self))
    refine wpAny_bind (listUpdate_at mk.1 rfl ?_ (by omega) (by rw [Array.size_push]; omega))
    obtain ⟨c2, hc2⟩ : ∃ c2, (s2.heap.update kS (Obj.mapSeq (·.push v))).get? kS = some (seqObj "list" (ka.push v) c2) := ⟨_, get?_update_seq mk.1 (·.push v)⟩
    have sb := Heap.SameBut.update s2.heap kS (Obj.mapSeq (·.push v))
    refine wpAny_pure ⟨rfl, H2, ka.push v, c2, ws ++ [z], by rw [Array.size_push, hsz], mk.2.1, ma.2.1, ?_, ?_, hj2⟩
    · have I3 : Inv X ((a, seqObj "list" #[] e1) :: pins) σ H2 s2 := I2.pins_of fun p hp => I2.pin p (List.mem_append_right _ (List.mem_cons_of_mem _ hp))
      have I4 : Inv X ((a, seqObj "list" #[] e1) :: pins) σ H2 { s2 with heap := s2.heap.update kS (Obj.mapSeq (·.push v)), toks := s2.toks } :=
        I3.turned (it := kS) (fun b o hb e => (sb.2 b hb).trans e) mk.2.1 fk.2.1 fk.2.2.2.1 fk.2.2.2.2.1 fun p hp z => by
          rcases List.mem_append.mp hp with hp | hp
          · exact fk.2.2.2.2.2 p (List.mem_append_left _ hp) z
          · rcases List.mem_cons.mp hp with rfl | hp
            · exact hka z.symm
            · exact fk.2.2.2.2.2 p (List.mem_append_right _ hp) z
      exact I4.pins_of fun p hp => by
        rcases List.mem_cons.mp hp with rfl | hp
        · exact ⟨hc2, mk.2.1, fk.2.1, fk.2.2.1, fun v z => nomatch z⟩
        · exact I4.pin p (List.mem_append_right _ hp)
    · rw [Array.toList_push]
      exact rv.append (.cons rz .nil)
  case all =>
    rintro s1 ⟨H1, ka, n, ws, hsz, nk, na, I1, rv, hj⟩
    simp only [Nat.zero_add] at hsz hj
    have mk := I1.pin (kS, seqObj "list" ka n) (List.mem_append_right _ List.mem_cons_self)
    have ma := I1.pin (a, seqObj "list" #[] e1) (List.mem_append_right _ (List.mem_cons_of_mem _ List.mem_cons_self))
    have hr := read ws H1 _ s1 ka.toList hj I1 rv
    refine wpAny_bind (listItems_at mk.1 rfl ?_)
    refine PySem.W.keyH_end (κ := PySem.W.dataKind s1.heap kz) (h₁ := gap s1.heap kS) (b := false) (fun b o _ e => ?_) gap_at mk.1 ma.1 hka (PySem.W.SortsAt.data (s := s1) hr hal hsk hu) hsz hz fun h3 tk c k3 n3 => ?_
    · by_cases hb : b = kS
      · rw [hb, gap_at] at e; cases e
      · rwa [gap_ne hb] at e
    · refine fin ws H1 s1 h3 tk c _ hj ?_ ⟨s1.heap, ka.toList, hal, rfl, hr⟩ (fun b o h1 h2 e => k3 b o h1 (by rw [gap_ne h2]; exact e)) n3
      rw [mk.1]; exact I1
theorem sortby_run {f l : Addr} {xs : List V} {us : List Value} {kz : List PyData} {J : Nat → List V → Hp → Prop} {Q : VK} (I : Inv X pins σ H s) (hl : s.heap.IsList l us.toArray) (rx : Vals xs us) (hz : us.length ≤ sizeLine) (hlen : kz.length = us.length)
    (hal : PySem.W.AllAlike kz) (hsk : PySem.W.Sortable kz) (hu : ∀ d, d ∈ kz → X.A.units + 2 + d.depth < cLine) (j0 : J 0 [] H)
    (turn : ∀ (i : Nat) (u : Value) (ws : List V) (H1 : Hp) (ps : List (Addr × Obj)) (s1 : Shared), us[i]? = some u → J i ws H1 → Inv X ps σ H1 s1 →
      wpAny (model X.prog X.w) X.A.in1.in1 (call (.ref f) [u]) (fun v s2 => ∃ z H2, Inv X ps σ H2 s2 ∧ RelV z v ∧ J (i + 1) (ws ++ [z]) H2) (fun _ _ => False) s1)
    (read : ∀ (ws : List V) (H1 : Hp) (ps : List (Addr × Obj)) (s1 : Shared) (vs : List Value), J us.length ws H1 → Inv X ps σ H1 s1 → Vals ws vs → PySem.W.EachIs (fun v d => ∃ as, Reads s1.heap v d as) vs kz)
    (fin : ∀ (ws : List V) (H1 : Hp) (p : Addr), J us.length ws H1 → H1 p = none → Q (.ref p) (upd H1 p (.lst (((xs.zip kz).mergeSort (PySem.W.dataLe false (·.2))).map (·.1))))) :
    wpAny (model X.prog X.w) X.A (call (.builtin "sorted") [.ref l] [(Str.ofString "key", .ref f)]) (EP X pins σ Q) X.xe s := by
  refine PySem.W.sorted_of_sort hl hz (ksk_s1 _ _) (fun _ => ksk_l1 _ _) fun E' => ?_
  rw [ksk_t1]
  have ho := PySem.W.copyHeap_at s.heap us
  have ha := Heap.lt_size ho
  have hone : (PySem.W.copyHeap s.heap us).objs.size = s.heap.objs.size + 2 := by
    unfold PySem.W.copyHeap
    rw [size_push', Heap.size_update, size_push']
  obtain ⟨e1, ho1⟩ : ∃ e1, ((PySem.W.copyHeap s.heap us).update (s.heap.objs.size + 1) (Obj.mapSeq fun _ => (#[] : Array Value))).get? (s.heap.objs.size + 1) = some (seqObj "list" #[] e1) := ⟨_, get?_update_seq ho fun _ => #[]⟩
  have hkS : (((PySem.W.copyHeap s.heap us).update (s.heap.objs.size + 1) (Obj.mapSeq fun _ => (#[] : Array Value))).push (seqObj "tuple" us.toArray 0)).objs.size = s.heap.objs.size + 3 := by rw [size_push', Heap.size_update, hone]
  unfold ksk_tree
  refine wpAny_bind (listItems_at ho rfl ?_)
  refine wpAny_bind (listUpdate_at ho rfl ?_ (by rw [List.size_toArray]; exact hz) (Nat.zero_le _))
  refine wpAny_bind (seqEpoch_at ho1 rfl ?_)
  refine wpAny_bind (wpAny_newTuple ?_ (by show us.length ≤ _; exact hz))
  refine wpAny_bind (wpAny_newList ?_ (Nat.zero_le _))
  refine wpAny_holding ?_
  have old : ∀ b o, s.heap.get? b = some o → ((((PySem.W.copyHeap s.heap us).update (s.heap.objs.size + 1) (Obj.mapSeq fun _ => (#[] : Array Value))).push (seqObj "tuple" us.toArray 0)).push (seqObj "list" #[] 0)).get? b = some o := fun b o e => by
    refine Heap.get?_push_of_some _ (Heap.get?_push_of_some _ ?_)
    rw [Heap.get?_update_ne _ _ _ _ (Nat.ne_of_lt (Nat.lt_succ_of_lt (Heap.lt_size e)))]
    exact PySem.W.copyHeap_old e
  have I1 := I.kept (t' := s.toks) old
  have fa : FpOk X pins H (s.heap.objs.size + 1) := I.fpOk (Nat.le_succ _) (I.hok.fresh (Nat.le_succ _))
  have fk : FpOk X pins H (s.heap.objs.size + 3) := I.fpOk (by omega) (I.hok.fresh (by omega))
  have ek : (((PySem.W.copyHeap s.heap us).update (s.heap.objs.size + 1) (Obj.mapSeq fun _ => (#[] : Array Value))).push (seqObj "tuple" us.toArray 0)).objs.size = s.heap.objs.size + 3 := hkS
  have gk := Heap.get?_push_size (((PySem.W.copyHeap s.heap us).update (s.heap.objs.size + 1) (Obj.mapSeq fun _ => (#[] : Array Value))).push (seqObj "tuple" us.toArray 0)) (o := seqObj "list" #[] 0) rfl
  have ga : ((((PySem.W.copyHeap s.heap us).update (s.heap.objs.size + 1) (Obj.mapSeq fun _ => (#[] : Array Value))).push (seqObj "tuple" us.toArray 0)).push (seqObj "list" #[] 0)).get? (s.heap.objs.size + 1) = some (seqObj "list" #[] e1) := Heap.get?_push_of_some _ (Heap.get?_push_of_some _ ho1)
  rw [ek] at gk
  show wpAny _ _ (ksk_rest _ _ _ _ _ (.ref (((PySem.W.copyHeap s.heap us).update (s.heap.objs.size + 1) (Obj.mapSeq fun _ => (#[] : Array Value))).push (seqObj "tuple" us.toArray 0)).objs.size)) _ _ _
  rw [ek]
  have I2 : Inv X ((s.heap.objs.size + 3, seqObj "list" #[] 0) :: (s.heap.objs.size + 1, seqObj "list" #[] e1) :: pins) σ H { s with heap := (((PySem.W.copyHeap s.heap us).update (s.heap.objs.size + 1) (Obj.mapSeq fun _ => (#[] : Array Value))).push (seqObj "tuple" us.toArray 0)).push (seqObj "list" #[] 0), toks := s.toks } :=
    I1.pins_of fun p hp => by
      rcases List.mem_cons.mp hp with rfl | hp
      · exact ⟨gk, fk.1, fk.2.1, fk.2.2.1, fun v z => nomatch z⟩
      · rcases List.mem_cons.mp hp with rfl | hp
        · exact ⟨ga, fa.1, fa.2.1, fa.2.2.1, fun v z => nomatch z⟩
        · exact I1.pin p (List.mem_append_right _ hp)
  refine sortby_rest (X := X) (pins := pins) (σ := σ) (H := H) (J := J) (kz := kz) (kS := s.heap.objs.size + 3) (a := s.heap.objs.size + 1) (fun z => by have z' : (s.heap.objs.size + 3 : Nat) = s.heap.objs.size + 1 := z; omega) fk fa I2 hz hlen hal hsk (fun d hd => by have := hu d hd; show X.A.units + 1 + 1 + d.depth < cLine; omega) j0 turn read fun ws H1 s1 h' tk c out hj I3 ko k3 n3 => ⟨rfl, ?_⟩
  have ma := I3.pin (s.heap.objs.size + 1, seqObj "list" #[] e1) (List.mem_append_right _ (List.mem_cons_of_mem _ List.mem_cons_self))
  have mk := I3.pin _ (List.mem_append_right _ List.mem_cons_self)
  have I4 : Inv X pins σ H1 s1 := I3.pins_of fun p hp => I3.pin p (List.mem_append_right _ (List.mem_cons_of_mem _ (List.mem_cons_of_mem _ hp)))
  have hb : (xs.zip kz).map (·.2) = kz := List.map_snd_zip (by rw [hlen, ← rx.length]; exact Nat.le_refl _)
  have hx : (xs.zip kz).map (·.1) = xs := List.map_fst_zip (by rw [hlen, ← rx.length]; exact Nat.le_refl _)
  have each : ∀ {xs : List V} {us : List Value} {kz : List PyData}, Vals xs us → kz.length = us.length → PySem.W.EachIs (fun (v : Value) (p : V × PyData) => RelV p.1 v) us (xs.zip kz) := by
    intro xs us kz r
    induction r generalizing kz with
    | nil => intro _; exact .nil
    | cons h _ ih =>
      intro e
      cases kz with
      | nil => simp at e
      | cons d kz => exact .cons h (ih (by simpa using e))
  have back : ∀ {l : List (V × PyData)} {us : List Value}, PySem.W.EachIs (fun (v : Value) (p : V × PyData) => RelV p.1 v) us l → Vals (l.map (·.1)) us := by
    intro l us r
    induction r with
    | nil => exact .nil
    | cons h _ ih => exact .cons h ih
  have ko' : PySem.W.KeyedOut false ((xs.zip kz).map (·.2)) us out := by rw [hb]; exact ko
  have eo := PySem.W.keyedOut_each (R := fun (v : Value) (p : V × PyData) => RelV p.1 v) (fun p : V × PyData => p.2) ko' (each rx hlen)
  have ho2 : out.length ≤ sizeLine := by rw [ko.length hlen]; exact hz
  have hvo := back eo
  have hlv : (((xs.zip kz).mergeSort (PySem.W.dataLe false (·.2))).map (·.1)).length ≤ sizeLine := by rw [hvo.length]; exact ho2
  have nca : ∀ p ∈ X.pn ++ pins, p.1 ≠ s.heap.objs.size + 1 := fa.2.2.2.2.2
  have nck : ∀ p ∈ X.pn ++ pins, p.1 ≠ s.heap.objs.size + 3 := fk.2.2.2.2.2
  have nH : ∀ b u, H1 b = some u → b ≠ s.heap.objs.size + 1 ∧ b ≠ s.heap.objs.size + 3 := fun b u e => ⟨fun z => (by
    have e' : H1 (s.heap.objs.size + 1) = some u := z ▸ e
    have := ma.2.1
    dsimp only at this
    rw [this] at e'; cases e'), fun z => (by
    have e' : H1 (s.heap.objs.size + 3) = some u := z ▸ e
    have := mk.2.1
    dsimp only at this
    rw [this] at e'; cases e')⟩
  refine ⟨.ref (s.heap.objs.size + 1), _, ?_, rfl, fin ws H1 (s.heap.objs.size + 1) hj ma.2.1⟩
  have kk : ∀ b o, b ∉ [s.heap.objs.size + 3, s.heap.objs.size + 1] → s1.heap.get? b = some o → h'.get? b = some o := fun b o hb e => k3 b o (fun z => hb (by simp [z])) (fun z => hb (by simp [z])) e
  refine I4.step (g' := s1.gens) (d' := s1.drawn) (ch := [s.heap.objs.size + 3, s.heap.objs.size + 1]) (fun b hb => ?_) (fun b o _ _ hc e _ => kk b o hc e) (fun b o _ _ hc e _ => ⟨o.slots, kk b o hc e⟩)
    (fun b o hc e n => ?_) (fun b o hc e => ⟨o, kk b o hc e⟩) (fun b zs e => ?_) (fun b o u e => ?_) (fun b ps e => ⟨#[], by rw [upd_ne (nH b _ e).1, e]; simp⟩) (fun m hm => ?_) (fun b u e => ?_) I4.bare
  · rcases List.mem_cons.mp hb with rfl | hb
    · exact ⟨fk.2.2.2.1, fun z => fk.2.1 z, fk.2.2.2.2.1, nck⟩
    · have e : b = s.heap.objs.size + 1 := by simpa using hb
      subst e
      exact ⟨fa.2.2.2.1, fun z => fa.2.1 z, fa.2.2.2.2.1, nca⟩
  · rw [upd_ne fun z => hc (by simp [z])]; exact n
  · rw [upd_ne (nH b _ e).1]; exact e
  · rw [upd_ne (nH b _ e).1]; exact e
  · obtain ⟨o, es, ep, h1, r⟩ := hm
    refine ⟨o, es, ep, kk _ o (fun z => ?_) h1, r⟩
    rcases List.mem_cons.mp z with z | z
    · exact fk.2.1 z.symm
    · have e : X.env.locals = s.heap.objs.size + 1 := by simpa using z
      exact fa.2.1 e.symm
  · by_cases hb : b = s.heap.objs.size + 1
    · subst hb
      rw [upd_same] at e; cases e
      exact ⟨hlv, out, c, hvo, n3⟩
    · rw [upd_ne hb] at e
      refine (I4.hok b u e).stay (fun d v hc q => ?_) (fun d q => by rw [upd_ne (nH d _ q).1]; exact q) fun d zs q => by rw [upd_ne (nH d _ q).1]; exact q
      rcases hc with rfl | hc
      · exact k3 _ v (nH _ _ e).1 (nH _ _ e).2 q
      · exact k3 _ v (nH _ _ hc).1 (nH _ _ hc).2 q
end
end Mir

namespace Mir
open PySem PySem.Spec L2
/-! ### sorted(xs, key=f): the rule -/
def rKey (X : Cx) : List V → List V → Hp → VK → Prop := fun xs zs H Q => ∃ (a f : Addr) (fd : FuncData) (ps : List Str) (k : Nat) (sp : Sp) (vs : List V) (kz : List PyData) (J : Nat → List V → Hp → Prop),
  xs = [.ref a] ∧ zs = [.ref f] ∧ FnOk X.prog X.w X.K X.mg X.base CX0 k f fd ps sp ∧ Binds X.K fd ps [] ∧ Room k X.A.in1.in1 ∧ SqL X.K H a vs ∧ kz.length = vs.length ∧ PySem.W.AllAlike kz ∧ PySem.W.Sortable kz ∧ (∀ d, d ∈ kz → X.A.units + 2 + d.depth < cLine) ∧ J 0 [] H ∧
  (∀ (i : Nat) (v : V) (ws : List V) (H1 : Hp), vs[i]? = some v → J i ws H1 → sp [v] H1 (fun z H2 => J (i + 1) (ws ++ [z]) H2) fun _ _ _ => False) ∧
  (∀ (ws : List V) (H1 : Hp), J vs.length ws H1 → DpAll X.K H1 ws kz) ∧
  ∀ (ws : List V) (H1 : Hp) (p : Addr), J vs.length ws H1 → H1 p = none → Q (.ref p) (upd H1 p (.lst (((vs.zip kz).mergeSort (PySem.W.dataLe false (·.2))).map (·.1))))
theorem reads_each {h : Heap} : ∀ {vs : List Value} {ds : List PyData} {as : List Addr}, ReadsAll h vs ds as → PySem.W.EachIs (fun v d => ∃ as, Reads h v d as) vs ds := fun {vs ds as} r =>
  PySem.W.readsAll_each (fun d : PyData => d) (by rw [List.map_id']; exact r)
theorem cr_sortKey {X : Cx} : CallRK X (.builtin "sorted") ["key"] (rKey X) := by
  intro pins s σ H xs zs us ws Q I r1 r2 h
  obtain ⟨a, f, fd, ps, k, sp, vs, kz, J, rfl, rfl, Fo, hb, hr, hs, hlen, hal, hsk, hu, j0, hstep, hread, q⟩ := h
  obtain ⟨its, rv, hl, hz⟩ := I.list hs
  rw [Vals.ref1 r1, Vals.ref1 r2]
  have hvl := rv.length
  refine sortby_run (J := J) (kz := kz) I hl.isList rv (by rw [← hvl]; exact hz) (by rw [hlen, hvl]) hal hsk hu j0 (fun i u ws H1 ps1 s1 hi hj I1 => ?_) (fun ws H1 ps1 s1 vs1 hj I1 rw1 => ?_) fun ws H1 p hj hp => q ws H1 p (by rw [hvl]; exact hj) hp
  · obtain ⟨v, hv, ru⟩ : ∃ v, vs[i]? = some v ∧ RelV v u := by
      obtain ⟨v, hv⟩ : ∃ v, vs[i]? = some v := ⟨_, List.getElem?_eq_getElem (by have := (List.getElem?_eq_some_iff.mp hi).1; omega)⟩
      obtain ⟨u', h1, h2⟩ := rv.get hv
      rw [hi] at h1; cases h1
      exact ⟨v, hv, h2⟩
    have hsp := hstep i v ws H1 hv hj
    have hl1 : [u].length = ps.length := (Fo.len _ _ _ _ hsp)
    refine wpAny_call (codeAny_mono (Fo.run X.A.in1.in1 X.stack s1 H1 ⟨[u], []⟩ [u] [v] _ _ hr I1.env0.in1.in1 (by have := hb s1 [u] I1.kIn (by simpa using hl1); simpa using this) (.cons ru .nil) hsp) fun r s' hq => ?_)
    cases r with
    | error e => exact hq.elim
    | ok fl =>
      cases fl with
      | ret w =>
        obtain ⟨z, H2, I2, rz, hj2⟩ := I1.after hq
        exact ⟨z, H2, I2, rz, hj2⟩
      | next => exact False.elim hq
      | brk => exact False.elim hq
      | cont => exact False.elim hq
  · obtain ⟨as, hra⟩ := Dp.readsAll I1 _ _ vs1 (hread ws H1 (by rw [hvl]; exact hj)) rw1
    exact reads_each hra
/-! data -/
def keysBy (F : List D → Res D) : List D → Res (List D)
  | [] => .ok []
  | d :: ds => F [d] >>= fun k => keysBy F ds >>= fun ks => .ok (k :: ks)
theorem keysBy_get {F : List D → Res D} : ∀ {ds ks : List D}, keysBy F ds = .ok ks → ks.length = ds.length ∧ ∀ (i : Nat) (d : D), ds[i]? = some d → ∃ k, F [d] = .ok k ∧ ks[i]? = some k
  | [], ks, h => by cases h; exact ⟨rfl, fun i d h => by simp at h⟩
  | d :: ds, ks, h => by
    unfold keysBy at h
    obtain ⟨k, h1, h⟩ := bind_ok h
    obtain ⟨ks', h2, h⟩ := bind_ok h
    cases h
    obtain ⟨h3, h4⟩ := keysBy_get h2
    refine ⟨by simp [h3], fun i x hx => ?_⟩
    cases i with
    | zero => cases hx; exact ⟨k, h1, rfl⟩
    | succ i => exact h4 i x hx
def gSortK (F : List D → Res D) : D → Res D
  | .lst ds => keysBy F ds >>= fun ks => if sortable ks = true then .ok (.lst (((ds.zip ks).mergeSort fun a b => dLe a.2.py b.2.py).map (·.1))) else .bad
  | _ => .bad
theorem EnvOk.rpLev {B : Bs} {H : Hp} {env : Env} {σ : St} : ∀ {vs : List V} {ds : List D} {tm : List Hold}, vs.length = ds.length → EnvOk B H env σ (lev 0 vs ds ++ tm) → RpAll (view H) vs ds
  | [], [], _, _, _ => .nil
  | [], _ :: _, _, e, _ => by simp at e
  | _ :: _, [], _, e, _ => by simp at e
  | v :: vs, d :: ds, tm, e, h => by
    have h' : EnvOk B H env σ ((v, 0, d) :: (lev 0 vs ds ++ tm)) := h
    exact .cons h'.rp (EnvOk.rpLev (by simpa using e) h'.tail)
theorem srt3 {vs : List V} {ds ks : List D} (h1 : vs.length = ds.length) (h2 : ks.length = ds.length) : ∃ T : List (V × D × D), T.Perm (vs.zip (ds.zip ks)) ∧
    ((vs.zip (pyAll ks)).mergeSort (PySem.W.dataLe false (·.2))).map (·.1) = T.map (·.1) ∧ ((ds.zip ks).mergeSort fun a b => dLe a.2.py b.2.py).map (·.1) = T.map (·.2.1) := by
  have e1 : (vs.zip (ds.zip ks)).map (fun t : V × D × D => (t.1, t.2.2.py)) = vs.zip (pyAll ks) := by
    rw [pyAll_map]
    have : ∀ {vs : List V} {ds ks : List D}, vs.length = ds.length → ks.length = ds.length → (vs.zip (ds.zip ks)).map (fun t : V × D × D => (t.1, t.2.2.py)) = vs.zip (ks.map D.py) := by
      intro vs ds ks h1 h2
      induction vs generalizing ds ks with
      | nil => rfl
      | cons v vs ih =>
        cases ds with
        | nil => simp at h1
        | cons d ds =>
          cases ks with
          | nil => simp at h2
          | cons k ks => exact congrArg (List.cons _) (ih (by simpa using h1) (by simpa using h2))
    exact this h1 h2
  have e2 : (vs.zip (ds.zip ks)).map (·.2) = ds.zip ks := List.map_snd_zip (by rw [List.length_zip]; omega)
  refine ⟨(vs.zip (ds.zip ks)).mergeSort fun a b => dLe a.2.2.py b.2.2.py, List.mergeSort_perm _ _, ?_, ?_⟩
  · rw [← e1, ← List.map_mergeSort (f := fun t : V × D × D => (t.1, t.2.2.py)) (r := fun a b : V × D × D => dLe a.2.2.py b.2.2.py) fun a _ b _ => by rw [PySem.W.dataLe_eq]; rfl, List.map_map]
    rfl
  · have e3 := List.map_mergeSort (f := fun t : V × D × D => t.2) (r := fun a b : V × D × D => dLe a.2.2.py b.2.2.py) (s := fun a b : D × D => dLe a.2.py b.2.py) (l := vs.zip (ds.zip ks)) fun a _ b _ => rfl
    rw [e2] at e3
    rw [← e3, List.map_map]
    rfl
theorem lev3 {k : Nat} : ∀ {vs : List V} {ds ks : List D}, vs.length = ds.length → ks.length = ds.length → lev k vs ds = (vs.zip (ds.zip ks)).map fun t => (t.1, k, t.2.1)
  | [], [], _, _, _ => rfl
  | [], _ :: _, _, h, _ => by simp at h
  | _ :: _, [], _, h, _ => by simp at h
  | _ :: _, _ :: _, [], _, h => by simp at h
  | v :: vs, d :: ds, k' :: ks, h1, h2 => congrArg (List.cons _) (lev3 (by simpa using h1) (by simpa using h2))
theorem lev3' {k : Nat} : ∀ (T : List (V × D × D)), lev k (T.map (·.1)) (T.map (·.2.1)) = T.map fun t => (t.1, k, t.2.1)
  | [] => rfl
  | _ :: T => congrArg (List.cons _) (lev3' T)
section
variable {X : Cx} {e : Expr} {m : Env → Res D} {cs : List Nat} {pos p p2 kpos : Pos} {fx : Str} {F : List D → Res D} {j : Nat}
theorem se_sortK (C : Cal X.prog X.w X.K X.mg X.base fx j 1 0 F) (hr : Room (j + 2) X.A) (hgf : Gl X fx) (hu : X.A.units + 65 < cLine) (hg : Gl X "sorted") (hm0 : X.mg "sorted" = none) (h : SE X 1 cs e m) (hdf : (fx == ("__debug__" : Str)) = false := by decide)
    (he : backTo pos (starEach (e :: []) X.env) = (false, eval e X.env) :: backTo pos (starEach [] X.env) := by rfl) (hpl : (backTo pos (starEach (e :: []) X.env)).any (·.1) = false := by rfl)
    (hall : (backToKw pos (keywordEach [⟨some "key", .Name fx p2, kpos⟩] X.env)).all (·.1.isSome) = true := by rfl) (hnone : (backToKw pos (keywordEach [⟨some "key", .Name fx p2, kpos⟩] X.env)).any (·.1.isNone) = false := by rfl) (hks : (backToKw pos (keywordEach [⟨some "key", .Name fx p2, kpos⟩] X.env)).filterMap (·.1) = (["key"] : List Str) := by rfl)
    (he1 : starEach [e] X.env = (false, eval e X.env) :: starEach [] X.env := by rfl) :
    SE X 1 cs (.Call (.Name "sorted" p) [e] [⟨some "key", .Name fx p2, kpos⟩] pos) (fun env => m env >>= gSortK F) := fun B H env σ tm d Q ok hm q => by
  obtain ⟨f, fd, ps, hmg, hk, hb, Fo⟩ := C.ex
  obtain ⟨x, hx, h2⟩ := bind_ok hm
  unfold gSortK at h2
  split at h2
  · rename_i ds
    obtain ⟨ks, hks2, h2⟩ := bind_ok h2
    split at h2
    · rename_i hso
      cases h2
      obtain ⟨kl, kget⟩ := keysBy_get hks2
      unfold sortable at hso
      simp only [Bool.and_eq_true, decide_eq_true_eq] at hso
      obtain ⟨⟨⟨s1, s2⟩, s3⟩, s4⟩ := hso
      refine wE_of (pe_callBK cr_sortKey hg hm0 (by decide +kernel) (pa_cons pe_sem pa_nil he1) (pk_cons (pe_glob (v := .ref f) hgf hmg rfl hdf) pk_nil) (by decide) (by decide) he hpl hall hnone hks) (h B H env σ tm _ _ ok hx fun v H1 x1 ok1 => ?_)
      obtain ⟨a, rfl⟩ := ok1.isRef rfl
      obtain ⟨vs, hL, hl, ok2⟩ := ok1.open1
      refine ⟨a, f, fd, ps, j, _, vs, pyAll ks, fun i ws H2 => ws.length = i ∧ Ext H1 H2 ∧ EnvOk B H2 (clear env cs) σ (lev 0 ws (ks.take i) ++ (lev 0 vs ds ++ tm)), rfl, rfl, Fo, hb, hr.in1.in1, .inl (.inl hL), by rw [pyAll_map, List.length_map]; omega, (alikeB_iff s2).1, sortB_iff s3, fun d hd => ?_, ⟨rfl, Ext.refl _, ok2⟩, fun i v ws H2 hv hj => ?_, fun ws H2 hj => ?_, fun ws H2 p hj hp => ?_⟩
      · have := depthAll_mem hd
        omega
      · obtain ⟨hwl, xx, okj⟩ := hj
        have hi : i < ds.length := by have := (List.getElem?_eq_some_iff.mp hv).1; omega
        obtain ⟨k, hF, hki⟩ := kget i ds[i] (List.getElem?_eq_getElem hi)
        have okd : EnvOk B H2 (clear env cs) σ (lev 0 [v] [ds[i]] ++ (lev 0 ws (ks.take i) ++ (lev 0 vs ds ++ tm))) := by
          refine okj.dupMem (v := v) (d := ds[i]) (List.mem_append_right _ (List.mem_append_left _ ?_))
          obtain ⟨l, hp⟩ := lev_get (k := 0) hv (List.getElem?_eq_getElem hi)
          exact hp.mem_iff.mpr List.mem_cons_self
        obtain ⟨G, g, ra, rt⟩ := EnvOk.ret0 (H' := H2) (kr := 0) (vs := [v]) (ds := [ds[i]]) rfl okd
        refine ⟨rfl, G, [ds[i]], k, g, ra, hF, fun z H3 rr => ?_⟩
        obtain ⟨x3, ok3⟩ := rt H3 z k rr
        refine ⟨by simp [hwl], xx.trans x3, ?_⟩
        rw [List.take_add_one, hki]
        show EnvOk B H3 (clear env cs) σ (lev 0 (ws ++ [z]) (ks.take i ++ [k]) ++ (lev 0 vs ds ++ tm))
        rw [lev_append [z] [k] (by rw [hwl, List.length_take]; omega), List.append_assoc]
        exact ok3.perm List.perm_middle.symm
      · obtain ⟨hwl, xx, okj⟩ := hj
        have et : ks.take vs.length = ks := List.take_of_length_le (by omega)
        rw [et] at okj
        have hra := EnvOk.rpLev (by omega) okj
        exact hra.dp s1
      · obtain ⟨hwl, xx, okj⟩ := hj
        obtain ⟨T, tp, t1, t2⟩ := srt3 hl kl
        have ok3 := okj.less
        rw [t1]
        have ok4 : EnvOk B H2 (clear env cs) σ (lev 0 (T.map (·.1)) (T.map (·.2.1)) ++ tm) := by
          refine ok3.perm (List.Perm.append_right _ ?_)
          rw [lev3 hl kl, lev3']
          exact (tp.map _).symm
        have ok5 := ok4.newLst (by simp) hp
        rw [← t2] at ok5
        exact q _ _ ((x1.trans xx).trans (Ext.upd hp)) ok5
    · cases h2
  · cases h2
end
end Mir

namespace Mir
open PySem PySem.Spec L2
/-! ### dicts that hold shared things: {k: v}, d[k], list(d.values()) -/
def tValsK (to : TE) : TE := fun σ H Q => to σ H fun x H1 => ∃ a kvs, x = .ref a ∧ Rd H1 a (.dK kvs) ∧ ∀ p, H1 p = none → Q (.ref p) (upd H1 p (valsO p a))
theorem pairs_get {P : Program} {w : World} : ∀ {es : List DictEntry} {vs : List (Key × Value)} {j : Nat} {e : DictEntry}, Pairs (mixKind P w) es vs → es[j]? = some e → ∃ kv, vs[j]? = some kv ∧ e.val = kv.2
  | _, _, _, _, .nil, h => by simp at h
  | _, _, 0, _, .cons h1 h2 _, h => by cases h; exact ⟨_, rfl, h2⟩
  | _, _, j + 1, _, .cons _ _ t, h => pairs_get (j := j) t h
theorem kv_get : ∀ {kvs : List (Key × V)} {vs : List (Key × Value)} {j : Nat} {kv : Key × V} {kw : Key × Value}, KV kvs vs → kvs[j]? = some kv → vs[j]? = some kw → RelV kv.2 kw.2
  | _, _, _, _, _, .nil, h, _ => by simp at h
  | _, _, 0, _, _, .cons h1 _, h, g => by cases h; cases g; exact h1.2
  | _, _, j + 1, _, _, .cons _ t, h, g => kv_get (j := j) t h g
section
variable {X : Cx} {e : Expr} {te : TE} {apos cpos : Pos}
theorem pe_valsK (he : PE X e te) (hbase : attributeBase e "values" X.env (eval e X.env) = eval e X.env := by rfl) (hline : (apos.endLine == cpos.line) = true := by rfl) : PE X (.Call (.Attribute e "values" apos) [] [] cpos) (tValsK te) := by
  refine ⟨fun pins s σ H R I h => ?_⟩
  refine wpAny_Call_method (T := "dict") (id := "dict.values") hbase rfl hline F.plainAttrs_dict F.slot_dict_values F.type_dict_values (thn (he.run pins s σ H _ I h) fun u s1 ⟨x, H1, I1, rx, d, kvs, ex, hd, q⟩ => ?_)
  subst ex
  obtain rfl : u = Value.ref d := rx
  obtain ⟨hs, z, xs, rel, o, es, ep, hgd, hx, hdt, _, _, _⟩ := dk_rd I1.hok hd
  have hraw : s1.heap.DictRaw d es ep := ⟨o, hgd, hx, hdt⟩
  refine ⟨hraw.typeIs, fun a ea => by cases ea; exact ⟨o, hgd, hx.2.1⟩, ?_⟩
  show wpAny _ _ (callWith cpos (.builtin "dict.values") [.ref d] [] []) _ X.xe s1
  have hf : H1 s1.heap.objs.size = none := I1.hok.fresh (Nat.le_refl _)
  refine method_meetsIn F.slot_dict_values F.entry_dict_values rfl (PySem.evalArgs_none ⟨rfl, hraw.typeIs, F.args_dict_values_1 _, _, meets_dict_values_raw d z, ⟨es, ep, hraw⟩, ?_⟩)
  exact ⟨.ref s1.heap.objs.size, upd H1 s1.heap.objs.size (valsO s1.heap.objs.size d), I1.laid (t' := s1.toks) (fun b u e => Heap.get?_push_of_some _ e) (Nat.le_refl _) (valsO_ok (Heap.get?_push_size _ rfl)), rfl, q _ hf⟩
theorem call_list_valsK (hc : X.calm = true) : CallR X (.type "list") (fun xs H Q => ∃ v d kvs, xs = [V.ref v] ∧ H v = some (valsO v d) ∧ Rd H d (.dK kvs) ∧ ∀ p, H p = none → Q (.ref p) (upd H p (.lst (kvs.map (·.2))))) := by
  intro pins s σ H xs us Q I r h
  obtain ⟨v, d, kvs, rfl, hv, hd, q⟩ := h
  obtain ⟨u, rfl, rx⟩ := r.one
  cases rx
  obtain ⟨z, hs, xs, rel, o, es, ep, ho, hx, hdt, _, hp, _⟩ := dk_rd I.hok hd
  have hraw : s.heap.DictRaw d es ep := ⟨o, ho, hx, hdt⟩
  have hvw : s.heap.IsValuesView v d := (I.hok v _ hv).1
  have l1 : es.size = xs.length := by have := hp.length; simpa using this
  have l2 : kvs.length = xs.length := Paired.length rel
  refine PySem.W.kdl_call (PySem.KdlSrc.rawValues (r := v) (d := d) (es := es) (ep := ep)) (I.ok.hd hc) ⟨hvw, hraw⟩ (by omega) fun h' tk acc' c' kp e it => ?_
  have rv : Vals (kvs.map (·.2)) acc'.toList := by
    have hl : acc'.toList.length = kvs.length := by rw [Array.length_toList, it.1]; omega
    refine vals_of_at (by rw [List.length_map, hl]) fun j x w h1 h2 => ?_
    rw [List.getElem?_map] at h1
    cases hk : kvs[j]? with
    | none => rw [hk] at h1; cases h1
    | some kv =>
      rw [hk] at h1
      cases h1
      obtain ⟨hj, hw⟩ := it.2 j w (by rw [← Array.getElem?_toList]; exact h2)
      obtain ⟨kw, hkw, ev⟩ := pairs_get (j := j) hp (e := es[j]) (by rw [Array.getElem?_toList]; exact Array.getElem?_eq_getElem hj)
      rw [hw, ev]
      exact kv_get rel hk hkw
  refine ⟨.ref s.heap.objs.size, _, I.laid (t' := tk) (o := .lst (kvs.map (·.2))) kp (Nat.le_refl _) ?_, rfl, q _ (I.hok.fresh (Nat.le_refl _))⟩
  exact ⟨by rw [List.length_map]; omega, acc'.toList, c', rv, by rw [Array.toArray_toList]; exact e⟩
end
/-- a slot's own dict, its values shared -/
def mVarD (j : Nat) : Env → Res D := fun env => match env[j]? with
  | some (some (1, .dk ks ds)) => .ok (.dk ks ds)
  | _ => .bad
@[simp] theorem e_mVarD {j : Nat} {env : Env} : mVarD j env = (match env[j]? with
  | some (some (1, .dk ks ds)) => .ok (.dk ks ds)
  | _ => .bad) := rfl
theorem EnvOk.peekD {B : Bs} {H : Hp} {env : Env} {σ : St} {tm : List Hold} {j : Nat} {ks : List Key} {ds : List D} {v : V} (h : EnvOk B H env σ tm) (e : env[j]? = some (some (1, .dk ks ds))) (s : σ[j]? = some (some v)) :
    ∃ (p : Addr) (kvs : List (Key × V)), v = .ref p ∧ H p = some (.dK kvs) ∧ kvs.map (·.1) = ks ∧ (kvs.map (·.2)).length = ds.length ∧ EnvOk B H env σ (lev 0 (kvs.map (·.2)) ds ++ tm) := by
  obtain ⟨⟨G, fp, g, hs, nd, hp⟩, h2, h3⟩ := h
  obtain ⟨fp', hs', q⟩ := hs.perm (hs' := (v, 1, .dk ks ds) :: (slots (env.set j none) σ ++ tm)) ((slots_take e s).append_right _)
  cases hs' with
  | cons h1 h4 =>
    cases h1 with
    | sh hk r =>
      rcases hk with hk | hk
      · cases hk
      · cases hk
    | @dk _ a kvs _ _ f ha ek ra =>
      obtain ⟨l, gg⟩ := ra.get0
      have all : ∀ {vs : List V} {ds : List D} {tm : List Hold} {fp : List Addr}, vs.length = ds.length → (∀ (i : Nat) (z : V) (d : D), vs[i]? = some z → ds[i]? = some d → Rp G z d) → HoldAll G H tm fp → HoldAll G H (lev 0 vs ds ++ tm) fp := by
        intro vs
        induction vs with
        | nil => intro ds tm fp _ _ h; exact h
        | cons z vs ih =>
          intro ds tm fp hl hg h
          cases ds with
          | nil => simp at hl
          | cons d ds => exact HoldAll.cons (f := []) (.of (hg 0 z d rfl rfl)) (ih (by simpa using hl) (fun i z' d' h1 h2 => hg (i + 1) z' d' h1 h2) h)
      refine ⟨a, kvs, rfl, ha, ek, l, ?_⟩
      have hh := all l gg hs
      obtain ⟨fp2, hs2, q2⟩ := hh.perm (hs' := slots env σ ++ (lev 0 (kvs.map (·.2)) ds ++ tm)) (by
        rw [← List.append_assoc, ← List.append_assoc]
        exact List.Perm.append_right _ List.perm_append_comm)
      exact ⟨⟨G, fp2, g, hs2, q2.nodup_iff.mp nd, fun p hm => hp p (q2.mem_iff.mpr hm)⟩, h2, h3⟩
section
variable {X : Cx} {e o i kx vx : Expr} {m mk mv : Env → Res D} {pos p apos cpos : Pos} {j : Nat}
/-- d[k], d a slot's own dict: the worth is shared -/
theorem se_dgo (hu : X.A.units + 1 < cLine) (ho : PE X o (tVar j)) (hi : SB X i mk) (hs : NoSl i) : SE X 0 [] (.Subscript o i pos) (mOp gDGet (mVarD j) mk) := fun B H env σ tm d Q ok hm q => by
  obtain ⟨x, y, hx, hy, hg⟩ := two hm
  unfold mVarD at hx
  split at hx
  · rename_i ks ds e1
    cases hx
    obtain ⟨v, hv⟩ := ok.has j _ e1
    refine wE_of (pe_dget hu ho pe_sem hs) ⟨v, hv, hi B H env σ tm y _ ok hy fun u H2 x2 ok2 r2 => ?_⟩
    obtain ⟨a, kvs, rfl, ha, ek, hl, ok3⟩ := ok2.peekD e1 hv
    subst ek
    unfold gDGet at hg
    split at hg
    · rename_i z0 hz
      cases hg
      unfold dGet at hz
      obtain ⟨k, hk, hz⟩ := Option.map_eq_some_iff.mp hz
      have ra := EnvOk.rpLev hl ok3
      obtain ⟨w, hw, hin⟩ : ∃ w, valV kvs k = some w ∧ (w, 0, d) ∈ lev 0 (kvs.map (·.2)) ds := by
        have key : ∀ {kvs : List (Key × V)} {ds : List D}, (kvs.map (·.2)).length = ds.length → dFind (kvs.map (·.1)) ds k = some d → ∃ w, valV kvs k = some w ∧ (w, 0, d) ∈ lev 0 (kvs.map (·.2)) ds := by
          intro kvs
          induction kvs with
          | nil => intro ds _ h; simp [dFind] at h
          | cons kv kvs ih =>
            intro ds hl h
            cases ds with
            | nil => simp at hl
            | cons d0 ds =>
              rw [List.map_cons, dFind] at h
              unfold valV
              rw [List.find?_cons]
              by_cases hkk : kv.1 = k
              · rw [if_pos hkk] at h; cases h
                rw [decide_eq_true hkk]
                exact ⟨kv.2, rfl, List.mem_cons_self⟩
              · rw [if_neg hkk] at h
                rw [decide_eq_false hkk]
                obtain ⟨w, h1, h2⟩ := ih (by simpa using hl) h
                exact ⟨w, h1, List.mem_cons_of_mem _ h2⟩
        exact key hl hz
      have ok4 := ok3.dupMem (v := w) (d := d) (List.mem_append_left _ hin)
      have ok5 : EnvOk B H2 env σ ((w, 0, d) :: tm) := EnvOk.less (l := lev 0 (kvs.map (·.2)) ds) (ok4.perm List.perm_middle.symm)
      exact ⟨a, w, rfl, .inl ⟨kvs, k, .inl ha, keyOf_rp r2 hk, hw.symm⟩, q w H2 x2 ok5⟩
    · cases hg
  · cases hx
/-- {k: v}, v shared -/
def mDisp1 (mk mv : Env → Res D) : Env → Res D := fun env => mk env >>= fun y => mv env >>= fun d => match keyOf y with
  | some k => .ok (.dk [k] [d])
  | none => .bad
@[simp] theorem e_mDisp1 (env : Env) : mDisp1 mk mv env = (mk env >>= fun y => mv env >>= fun d => match keyOf y with
  | some k => .ok (.dk [k] [d])
  | none => .bad) := rfl
theorem se_disp1 (hk : SB X kx mk) (hv : SE X 0 [] vx mv) : SE X 1 [] (.Dict [some kx] [vx] pos) (mDisp1 mk mv) := fun B H env σ tm d Q ok hm q => by
  obtain ⟨y, hy, h2⟩ := bind_ok hm
  obtain ⟨z, hz, h3⟩ := bind_ok h2
  split at h3
  · rename_i k hkk
    cases h3
    refine wE_of (pe_disp (pps_cons pe_sem pe_sem pps_nil) rfl rfl (by simp) (by simp)) fun p hpn => ?_
    have ok1 : EnvOk B (upd H p (.dK [])) env σ ((.ref p, 1, .dk [] []) :: tm) := EnvOk.newDk (k := 0) (kvs := []) (ds := []) ok rfl rfl hpn
    refine hk B _ env σ _ y _ ok1 hy fun u H1 x1 ok2 r2 => hv B H1 env σ _ z _ ok2 hz fun w H2 x2 ok3 => ?_
    have ok3' : EnvOk B H2 env σ ((.ref p, 1, .dk [] []) :: (w, 0, z) :: tm) := EnvOk.perm ok3 (List.Perm.swap _ _ _)
    obtain ⟨kvs0, hq0, ek, hlen, ok4⟩ := ok3'.takeDk
    have e0 : kvs0 = [] := List.map_eq_nil_iff.mp ek
    subst e0
    have eu := keyOf_rp r2 hkk
    subst eu
    refine ⟨hq0, [(k, w)], rfl, by simp, ?_⟩
    have ok5 : EnvOk B (del H2 p) env σ (lev 0 ([(k, w)].map (·.2)) [z] ++ tm) := ok4
    have ok6 := EnvOk.newDk (p := p) (kvs := [(k, w)]) (ks := [k]) (ds := [z]) (k := 0) ok5 rfl rfl del_self
    rw [upd_del] at ok6
    refine q _ _ (fun a o ha => ?_) ok6
    have hap : a ≠ p := fun e => by rw [e, hpn] at ha; cases ha
    show upd H2 p (.dK [(k, w)]) a = some o
    rw [upd_ne hap]
    exact x2 a o (x1 a o (by rw [upd_ne hap]; exact ha))
  · cases h3
/-- list(d.values()), d a slot's own dict: the items are shared -/
def dValsO : D → Res D
  | .dk ks ds => .ok (.lst ds)
  | _ => .bad
theorem se_listVO (hc : X.calm = true) (hg : Gl X "list") (hm0 : X.mg "list" = none) (ho : PE X o (tVar j))
    (hbase : attributeBase o "values" X.env (eval o X.env) = eval o X.env := by rfl) (hline : (apos.endLine == cpos.line) = true := by rfl)
    (he : starEach [.Call (.Attribute o "values" apos) [] [] cpos] X.env = (false, eval (.Call (.Attribute o "values" apos) [] [] cpos) X.env) :: starEach [] X.env := by rfl) (hpl : (backTo pos (starEach [] X.env)).any (·.1) = false := by rfl) :
    SE X 1 [] (.Call (.Name "list" p) [.Call (.Attribute o "values" apos) [] [] cpos] [] pos) (fun env => mVarD j env >>= dValsO) := fun B H env σ tm d Q ok hm q => by
  obtain ⟨x, hx, h2⟩ := bind_ok hm
  unfold mVarD at hx
  split at hx
  · rename_i ks ds e1
    cases hx
    cases h2
    obtain ⟨v, hv⟩ := ok.has j _ e1
    refine wE_of (pe_callTy (call_list_valsK hc) hg hm0 (by decide +kernel) (pa_cons (pe_valsK ho hbase hline) pa_nil he) (by decide) (by decide) he hpl) ⟨v, hv, ?_⟩
    obtain ⟨a, kvs, rfl, ha, ek, hl, ok3⟩ := ok.peekD e1 hv
    refine ⟨a, kvs, rfl, .inl ha, fun pv hpv => ?_⟩
    have hpa : a ≠ pv := fun z => by rw [z, hpv] at ha; cases ha
    refine ⟨pv, a, kvs, rfl, upd_same, .inl (by rw [upd_ne hpa]; exact ha), fun p' hp' => ?_⟩
    have ok2 : EnvOk B (upd H pv (valsO pv a)) env σ (lev 0 (kvs.map (·.2)) ds ++ tm) := by
      have := EnvOk.grow (H' := upd H pv (valsO pv a)) ok3 (up_keep hpv) ok3.bnone [] fun G g => ⟨G, [], fun _ _ e => e, fun _ _ => rfl, g.newMu hpv rfl rfl, .nil, List.nodup_nil, fun p hm => nomatch hm⟩
      exact this
    exact q _ _ ((Ext.upd hpv).trans (Ext.upd hp')) (ok2.newLst hl hp')
  · cases hx
end
end Mir

namespace Mir
open PySem PySem.Spec L2
open PyProof.Rows (envOfC)
/-! ### for .. in what may raise -/
theorem se_nx {X : Cx} {κ : Str → Addr} {k : Nat} {cs : List Nat} {W : WX} {e : Expr} {mx : Env → Res D} (h : SEX X κ k cs W e mx) : SE X k cs e (fun env => nx (mx env)) := fun B H env σ tm d Q ok hm q => by
  have hm : nx (mx env) = .ok d := hm
  refine h B H env σ tm Q ok ?_
  cases hx : mx env with
  | bad => rw [hx] at hm; cases hm
  | exc c ns as => rw [hx] at hm; cases hm
  | ok d' => rw [hx] at hm; cases hm; exact fun v H' x ok' => q v H' x ok'
def mForX (mx : Env → Res D) (t : Nat → D → Env → Res Env) (m1 : Env → Res Ctl) (fg : List Nat) : Env → Res Ctl := fun env => mx env >>= fun d => mFor (fun _ => nx (itemsL d)) t m1 fg env
section
variable {X : Cx} {κ : Str → Addr} {kr k : Nat} {Z : List Nat} {W : WX} {m1 : Env → Res Ctl} {e tg it : Expr} {pos : Pos}
theorem s_forKX {body : List Stmt} {mx : Env → Res D} {t : Nat → D → Env → Res Env} {fg : List Nat} (hp : PassesOwn (model X.prog X.w) X.A X.env X.xe) (hc : X.calm = true) (hi : SEX X κ 0 [] W it mx) {is : List Nat} (hg : STg X tg is t) (hb : SSK X κ kr Z W body m1)
    (hz : is.all (fun i => Z.all fun z => z != i) = true) (hs : ∀ x, foldedSetIterable it X.env x = pure x := by intro _; rfl) : S1K X κ kr Z W (.For tg it body [] pos) (mForX mx (nT t) m1 fg) := fun B H env σ tm D ok p => by
  unfold mForX at p
  cases hx : mx env with
  | bad => rw [hx] at p; exact p.elim
  | exc c ns as =>
    rw [hx] at p
    refine wS_of (ps_for hp hc (pi_list (tg := tg) pe_sem) pg_sem pss_sem hs) (hi B H env σ tm _ ok ?_)
    rw [hx]
    exact fun H' dd xa ok' => p σ H' dd xa ok' Kp.refl
  | ok d =>
    rw [hx] at p
    refine s_forK hp hc (si_list (tg := tg) (se_nx hi)) hg hb hz hs (fg := fg) B H env σ tm D ok ?_
    show PostK κ kr Z W B tm σ D (nx (nx (mx env) >>= itemsL) >>= fun ds => loop (nT t) m1 fg ds env)
    rw [hx]
    exact p
end
/-! ### a def with defaults, all parameters given or the last left out -/
structure AtD (K : PySem.W.Frag) (mg : Str → Option Value) (x : Str) (st : Stmt) (dvs : List V) : Prop where
  ex : ∃ f fd, FunD K x x (defArgs st) (defBody st) (defScope st) dvs [] f fd ∧ mg x = some (.ref f)
section
variable {P : Program} {w : World} {K : PySem.W.Frag} {mg : Str → Option Value} {base : Heap}
theorem AtD.mk' {h : Heap} {x : Str} {st : Stmt} {dvs : List V} {f : Addr} {oc dV : Value} {od an : Option Addr} {osl : Array (Option Value)} {kV doc pm cdv ct : Value} (X : K.In h) (G : h.Ns mainGlobals mg) (a : PySem.W.nsIn K mainGlobals x = some (some (.ref f)))
    (l : K.lookup f = some ⟨oc, od, .func (PySem.W.fnOf x x (defArgs st) (defBody st) (defScope st) dV kV doc pm an cdv ct), osl⟩) (c : PySem.W.codeIn K cdv x = true) (k : PySem.W.keepIn K (.ref f) = true) (hd : DflV K dV dvs) : AtD K mg x st dvs :=
  ⟨f, _, ⟨⟨oc, od, dV, kV, doc, pm, an, cdv, ct, osl, rfl, l, c, hd, .inl rfl⟩, k⟩, PySem.W.mg_of X G a⟩
theorem dflI {dT : Addr} {n : Nat} {o : Obj} {i : Int} {t : Tok} (l : K.lookup dT = some o) (e : o.data = .seq [Value.int i t].toArray n) : DflV K (.ref dT) [.int i] :=
  .inr ⟨by simp, dT, o, [.int i t], n, rfl, l, e, .cons ⟨t, rfl⟩ .nil⟩
theorem def_okXD {κ : Str → Addr} {x qual : Str} {ar : Arguments} {bd : List Stmt} {sc : Scope} {dvs : List V} {f : Addr} {fd : FuncData} {N ps : List Str} {k kr : Nat} {m : Env → Res Ctl} {n : Nat} {FF : List D → Res D} (F : FunD K x qual ar bd sc dvs [] f fd) (S : FnScope N ps sc) (hn : ps.length = n) (hFF : FF = runD N.length m)
    (hb : ∀ (cdv : Value) (A : Around) (outer : List PySem.Env) (s : Shared) (H : Hp) (E : XK), Room k (A.deeper (envOfC qual sc s.heap.objs.size f cdv)) → Takes (cxOf (L2.CX P w) P w K mg base N qual sc f cdv A outer s H E) (fun cls d _ H' => E cls d H') →
      SSK (cxOf (L2.CX P w) P w K mg base N qual sc f cdv A outer s H E) κ kr [] (fun cls d _ H' => E cls d H') bd m) :
    FnOk P w K mg base (L2.CX P w) (k + 1) f fd ps (spX kr n κ FF) := by
  subst hn hFF
  refine F.ok S (fun vs H Q E h => h.1) (fun cdv A outer s H vs Q E hr h => ?_)
  obtain ⟨hl, G, ds, hg, ra, hF⟩ := h
  refine ⟨_, pss_sem, ?_⟩
  refine hb cdv A outer s H E hr (takes_of rfl rfl rfl rfl) ⟨H, G⟩ H _ _ [] _ (env_start hg ra) ?_
  unfold runD at hF
  cases hc : m (ds.map (fun d => some (0, d)) ++ List.replicate (N.length - ds.length) none) with
  | bad => rw [hc] at hF; exact hF
  | exc c ns as =>
    rw [hc] at hF
    refine fun σ' H' dd xa ok' _ => hF H' dd ⟨?_, xa⟩
    obtain ⟨⟨G', fp, g, _⟩, _⟩ := ok'
    exact ⟨G', g⟩
  | ok c =>
    rw [hc] at hF
    have fin : ∀ {v : V} {H' : Hp} {e : Env} {σ : St} {d : D}, EnvOk ⟨H, G⟩ H' e σ [(v, kr, d)] → RetOk kr G H H' v d := fun {v H' e σ d} ok' => by
      obtain ⟨⟨G', fp, g, hh, nd, hp⟩, _⟩ := ok'.noSlots
      have hh' : HoldAll G' H' [(v, kr, d)] fp := hh
      cases hh' with
      | @cons _ _ _ _ f1 g1 h1 h2 =>
        cases h2
        rw [List.append_nil] at nd hp
        exact ⟨G', f1, g, h1, nd, hp⟩
    cases c with
    | nx e => exact fun σ' H' ok' _ => hF .non H' (fin (ok'.imm (k := kr) .non rfl))
    | rt d' => exact fun v H' ok' => hF v H' (fin ok')
    | bk e => exact hF.elim
    | ct e => exact hF.elim
/-- every parameter is given though there is a default -/
theorem FunD.bindsF {x qual : Str} {ar : Arguments} {bd : List Stmt} {sc : Scope} {d : V} {f : Addr} {fd : FuncData} {ps : List Str} (F : FunD K x qual ar bd sc [d] [] f fd)
    (h : ∀ (T : Addr) (kV doc pm : Value) (an : Option Addr) (cdv ct : Value) (us its : List Value), us.length = ps.length → its.length = 1 →
      ∃ k, bindArgs (PySem.W.fnOf x qual ar bd sc (.ref T) kV doc pm an cdv ct) ⟨us, []⟩ = seqItems? (.ref T) >>= k ∧ k (some its.toArray) = pure (ps.zip (us ++ its.drop 1))) : Binds K fd ps [] := by
  obtain ⟨ds, r, b⟩ := F.binds1 ps.length 1 (by simp) (by simp) h
  cases r
  exact b
end
end Mir

namespace Mir
open PySem PySem.Spec L2
/-! ### a call that may raise, its arguments shared: what it tells may be shared too -/
theorem EnvOk.retX0 {B : Bs} {H : Hp} {env : Env} {σ : St} {tm : List Hold} {vs : List V} {ds : List D} (hl : vs.length = ds.length) (ok : EnvOk B H env σ (lev 0 vs ds ++ tm)) (kr : Nat) :
    ∃ G, Good ⟨H, G⟩ G H ∧ RpAll G vs ds ∧ (∀ H' v d, RetOk kr G H H' v d → Ext H H' ∧ EnvOk B H' env σ ((v, kr, d) :: tm)) ∧
      ∀ H' dd ns as, XRet G H H' dd ns as → Ext H H' ∧ EnvOk B H' env σ tm ∧ XAt B H' dd ns as := by
  have h2 := ok.len
  have h3 := ok.has
  obtain ⟨G, g, ra, rt⟩ := EnvOk.ret0 (H' := H) (kr := kr) hl ok
  -- the heap that was handed in is the same for both ends
  obtain ⟨G1, f, g1, hg, hf, hr, nd, hq⟩ := ok.apart
  have hf' : HoldAll G1 H (lev 0 vs ds ++ []) f := by rw [List.append_nil]; exact hf
  obtain ⟨f1, f2, e, ha, hn⟩ := HoldAll.toAll hl hf'
  cases hn
  rw [List.append_nil] at e
  subst e
  have ra1 : ∀ {f : List Addr} {vs : List V} {ds : List D}, OdAll G1 H 0 f vs ds → RpAll G1 vs ds := fun {f vs ds} r => by
    induction vs generalizing ds f with
    | nil => cases r; exact .nil
    | cons v vs ih => cases r with | cons h r => exact .cons h.zero.2 (ih r)
  have step : ∀ (H' : Hp) (l : List Hold) (G' : Hp) (fr : List Addr), Good ⟨H, G1⟩ G' H' → HoldAll G' H' l fr → fr.Nodup → (∀ p ∈ fr, H p = none ∧ G' p = none) → Ext H H' ∧ EnvOk B H' env σ (l ++ tm) := fun H' l G' fr gr od ndr hfr => by
    have x : Ext H H' := gr.bs
    refine ⟨x, ?_⟩
    have hG : ∀ a u, G1 a = some u → G' a = some u := fun a u e => (gr.g0 a (hg.ne e)).trans e
    have hrm := hr.mu
    refine EnvOk.join (l := l) (G := G') (f := fr) (g := g1) h2 h3 ⟨fun a o e => x a o (hg.bs a o e), fun a e => ?_, gr.gs, gr.gt, gr.nf⟩ od (hr.frame hG fun a u e _ => x a u e) ?_ ?_
    · have : H a ≠ none := fun z => e (ok.bnone a z)
      exact (gr.g0 a this).trans (hg.g0 a e)
    · refine List.nodup_append.mpr ⟨ndr, (List.nodup_append.mp nd).2.1, fun a m1 b m2 e => ?_⟩
      subst e
      obtain ⟨u, e, _⟩ := hrm a m2
      rw [(hfr a m1).1] at e; cases e
    · intro p m
      rcases List.mem_append.mp m with m | m
      · exact ⟨ok.bnone p (hfr p m).1, (hfr p m).2⟩
      · obtain ⟨u, e, _⟩ := hrm p m
        refine ⟨(hq p (List.mem_append_right _ m)).1, ?_⟩
        have : H p ≠ none := by rw [e]; simp
        exact (gr.g0 p this).trans (hq p (List.mem_append_right _ m)).2
  refine ⟨G1, ⟨fun _ _ e => e, fun _ _ => rfl, hg.gs, hg.gt, hg.nf⟩, ra1 ha, fun H' v d r => ?_, fun H' dd ns as r => ?_⟩
  · obtain ⟨G', fr, gr, od, ndr, hfr⟩ := r.ex
    have hh := HoldAll.cons od (.nil (G := G') (H := H'))
    rw [List.append_nil] at hh
    exact step H' [(v, kr, d)] G' fr gr hh ndr hfr
  · obtain ⟨⟨G', gr⟩, xa⟩ := r
    obtain ⟨x, ok2⟩ := step H' [] G' [] gr .nil List.nodup_nil fun p hp => nomatch hp
    refine ⟨x, ok2, ?_⟩
    rcases xa with h | ⟨dx, kvs, a1, a2, a3⟩
    · exact .inl h
    · exact .inr ⟨dx, kvs, a1, ok.bnone dx a2, a3⟩
section
variable {X : Cx} {κ : Str → Addr} {kr n j : Nat} {W : WX} {e : Expr} {es : List Expr} {ms : Env → Res (List D)} {F : List D → Res D} {x : Str} {p pos : Pos}
def mCallX0 (F : List D → Res D) (ms : Env → Res (List D)) : Env → Res D := fun env => nx (ms env) >>= fun ds => F ds
@[simp] theorem e_mCallX0 (env : Env) : mCallX0 F ms env = (nx (ms env) >>= fun ds => F ds) := rfl
theorem sx_cal0 (C : CalX X.prog X.w X.K X.mg X.base x j n kr κ F) (hr : Room j X.A) (hg : Gl X x) (tk : Takes X W)
    (ha : SAE X 0 [] (e :: es) ms) (hl : ∀ env ds, ms env = .ok ds → ds.length = n) (hdb : (x == ("__debug__" : Str)) = false := by decide) (he : starEach (e :: es) X.env = (false, eval e X.env) :: starEach es X.env := by rfl) (hpl : (backTo pos (starEach es X.env)).any (·.1) = false := by rfl) :
    SEX X κ kr [] W (.Call (.Name x p) (e :: es) [] pos) (mCallX0 F ms) := fun B H env σ tm Q ok pp => by
  obtain ⟨f, fd, ps, hm, hk, hb, Fo⟩ := C.ex
  unfold mCallX0 at pp
  cases hds : ms env with
  | exc c ns as => rw [hds] at pp; exact pp.elim
  | bad => rw [hds] at pp; exact pp.elim
  | ok ds =>
    rw [hds] at pp
    have pp' : PostE κ kr [] W B H env σ tm Q (F ds) := pp
    refine wE_of (pe_callS (E := WE W) Fo hr hg hm hk hb (passAt tk) pa_sem hdb he hpl) (ha B H env σ tm ds _ ok hds fun vs H1 x1 hvl ok1 => ?_)
    obtain ⟨G, g, ra, rt, rx⟩ := EnvOk.retX0 hvl ok1 kr
    refine ⟨by rw [hvl]; exact hl _ _ hds, G, ds, g, ra, ?_⟩
    cases hF : F ds with
    | bad => rw [hF] at pp'; exact pp'.elim
    | exc c ns as =>
      rw [hF] at pp'
      intro H' dd xr
      obtain ⟨x2, ok2, xa⟩ := rx H' dd ns as xr
      exact pp' H' dd xa ok2.noSlots
    | ok d =>
      rw [hF] at pp'
      intro v H' r
      obtain ⟨x2, ok2⟩ := rt H' v d r
      exact pp' v H' (x1.trans x2) ok2
end
end Mir

namespace Mir
open PySem PySem.Spec L2
/-! ### the head by one run of the kernel: what is asked of the written part, as truth values -/
/-- what an object names that is looked at: a def's text and defaults, a class's own names, a dict's values -/
def rf1 (o : Obj) : List Addr := match o.data with
  | .func fd => He.refV fd.code ++ He.refV fd.defaults
  | .cls cd => [cd.ns]
  | .dict es _ => es.toList.flatMap fun e => He.refV e.val
  | _ => []
def stF (g : Addr → Option Obj) (p : PySem.W.Frag) : PySem.W.Frag := He.frG g (p.flatMap fun x => rf1 x.2)
def colM (g : Addr → Option Obj) : PySem.W.Frag := (fun p0 => (fun p1 => (fun p2 => (fun p3 => p0 ++ (p1 ++ (p2 ++ (p3 ++ stF g p3)))) (stF g p2)) (stF g p1)) (stF g p0)) (He.frG g [mainGlobals])
theorem colM_in {h : Heap} : PySem.W.Frag.In (colM h.get?) h := by
  unfold colM stF
  dsimp only
  unfold He.frG
  rw [← List.filterMap_append, ← List.filterMap_append, ← List.filterMap_append, ← List.filterMap_append]
  exact He.frG_in
/-- the run's equation in three -/
theorem map3 {α β γ δ : Type} {o : Option α} {f : α → β} {g : α → γ} {h : α → δ} {a : β} {b : γ} {c : δ} (h1 : o.map f = some a) (h2 : o.map g = some b) (h3 : o.map h = some c) : o.map (fun s => (f s, g s, h s)) = some (a, b, c) := by
  cases o with
  | none => cases h1
  | some x => cases h1; cases h2; cases h3; rfl
open HandSHeadRun PyProof.Rows in
def RunA (r : PySem.W.OpenRow) (M : Nat) (w : World) : Prop := ∀ os : OsState, (endF (stepQ (denQ tabQ) r.prog w) M r.prog w os).map (fun s => looksF r.prog (PySem.W.boot_heap w.params) s.abs) = some true
open HandSHeadRun PyProof.Rows in
def RunB (r : PySem.W.OpenRow) (q : Program) (M : Nat) (loose : List Str) (w : World) : Prop := ∀ os : OsState, (endF (stepQ (denQ tabQ) r.prog w) M r.prog w os).map (fun s => seenQ q loose (importedModules r.prog.main.body) (fun s => PySem.W.xlAt q [] s && PySem.W.recOk r.toRowW.records s) s.abs) = some (PySem.W.openGood q loose)
open HandSHeadRun PyProof.Rows in
def RunC (r : PySem.W.OpenRow) (H : PySem.W.Hook) (ob : PySem.W.SharedT → H.α) (M : Nat) (w : World) : Prop := ∀ os : OsState, (endF (stepQ (denQ tabQ) r.prog w) M r.prog w os).map (fun s => ob s) = some (H.val w)
theorem run3 {r : PySem.W.OpenRow} {q : Program} {H : PySem.W.Hook} {ob : PySem.W.SharedT → H.α} {M : Nat} {loose : List Str} {w : World} (a : RunA r M w) (b : RunB r q M loose w) (c : RunC r H ob M w) : HandSHeadRun.RunEq r q H ob M loose w := fun os => map3 (a os) (b os) (c os)
abbrev FnO : Type := Option (Str × Str × Arguments × FuncBody × Scope × Addr × List (Str × Addr) × Addr)
def fnO (K : PySem.W.Frag) (a : Addr) : FnO := match K.lookup a with
  | some ⟨_, _, .func u, _⟩ => some (u.name, u.qualname, u.params, u.body, u.scope, u.globals, u.closure, u.builtins)
  | _ => none
/-- a method's place -/
def mOf (K : PySem.W.Frag) (C m : Str) : Addr := match PySem.W.findIn K (.ref (kOf K C)) m with
  | some (some (.ref a)) => a
  | _ => 0
theorem kOf_nz {K : PySem.W.Frag} {x : Str} (h : Nat.blt 0 (kOf K x) = true) : PySem.W.nsIn K mainGlobals x = some (some (.ref (kOf K x))) := by
  unfold kOf at h ⊢
  split at h
  · rename_i a e; rw [e]
  · cases h
/-- a def: its class or none, its names, its text, its default (one whole number or none) -/
structure FnM where
  cl : Option Str
  nm : Str
  ql : Str
  st : Stmt
  df : Option Int := none
def FnM.ad (K : PySem.W.Frag) (x : FnM) : Addr := match x.cl with
  | none => kOf K x.nm
  | some C => mOf K C x.nm
def FnM.obj (x : FnM) : Bool × FnO := (true, some (x.nm, x.ql, defArgs x.st, .stmts (defBody x.st), defScope x.st, mainGlobals, [], builtinsNs))
def dfB (K : PySem.W.Frag) : Value → Option Int → Bool
  | .none, none => true
  | .ref t, some i => (match K.lookup t with
    | some ⟨_, _, .seq its _, _⟩ => (match its.toList with | [.int j _] => decide (j = i) | _ => false)
    | _ => false)
  | _, _ => false
def fnC (K : PySem.W.Frag) (a : Addr) (x : FnM) : Bool := Nat.blt 0 a && (PySem.W.keepIn K (.ref a) && (match K.lookup a with
  | some ⟨_, _, .func u, _⟩ => PySem.W.codeIn K u.code x.ql && dfB K u.defaults x.df
  | _ => false))
def FnM.see (K : PySem.W.Frag) (x : FnM) : Bool × FnO := HandSHeadRun.frNat (x.ad K) fun a => (fnC K a x, fnO K a)
theorem FnM.raw {K : PySem.W.Frag} {x : FnM} (s : x.see K = x.obj) : Nat.blt 0 (x.ad K) = true ∧ PySem.W.keepIn K (.ref (x.ad K)) = true ∧ ∃ oc od osl dV kV doc pm an cdv ct, K.lookup (x.ad K) = some ⟨oc, od, .func (PySem.W.fnOf x.nm x.ql (defArgs x.st) (defBody x.st) (defScope x.st) dV kV doc pm an cdv ct), osl⟩ ∧ PySem.W.codeIn K cdv x.ql = true ∧ dfB K dV x.df = true := by
  unfold FnM.see at s
  rw [HandSHeadRun.frNat_eq] at s
  have c : fnC K (x.ad K) x = true := congrArg (fun z : Bool × FnO => z.1) s
  have e : fnO K (x.ad K) = x.obj.2 := congrArg (fun z : Bool × FnO => z.2) s
  unfold fnC at c
  rw [Bool.and_eq_true, Bool.and_eq_true] at c
  obtain ⟨nz, kp, c⟩ := c
  refine ⟨nz, kp, ?_⟩
  unfold fnO at e
  cases q : K.lookup (x.ad K) with
  | none => rw [q] at c; cases c
  | some o =>
    obtain ⟨oc, od, dt, osl⟩ := o
    rw [q] at c e
    cases dt with
    | func u =>
      obtain ⟨u1, u2, u3, u4, u5, u6, u7, u8, u9, u10, u11, u12, u13, u14, u15⟩ := u
      have e' : (some (u1, u2, u3, u4, u5, u6, u7, u15) : FnO) = some (x.nm, x.ql, defArgs x.st, .stmts (defBody x.st), defScope x.st, mainGlobals, [], builtinsNs) := e
      simp only [Option.some.injEq, Prod.mk.injEq] at e'
      obtain ⟨rfl, rfl, rfl, rfl, rfl, rfl, rfl, rfl⟩ := e'
      have c' : (PySem.W.codeIn K u13 x.ql && dfB K u8 x.df) = true := c
      rw [Bool.and_eq_true] at c'
      exact ⟨oc, od, osl, u8, u9, u10, u11, u12, u13, u14, rfl, c'.1, c'.2⟩
    | _ => cases c
/-- the places of some names, forced -/
def frL {α : Type} (K : PySem.W.Frag) : List Str → (List Addr → α) → α
  | [], k => k []
  | c :: cs, k => HandSHeadRun.frNat (kOf K c) fun a => frL K cs fun as => k (a :: as)
theorem frL_eq {α : Type} {K : PySem.W.Frag} : ∀ (cs : List Str) (k : List Addr → α), frL K cs k = k (cs.map (kOf K))
  | [], k => rfl
  | c :: cs, k => by rw [frL, HandSHeadRun.frNat_eq, frL_eq cs]; rfl
abbrev FcM : Type := PySem.W.Frag → List Addr → Bool
abbrev AlM : Type := Bool × List (Bool × FnO)
def obsM (cn : List Str) (fs : List FcM) (fn : List FnM) (K : PySem.W.Frag) : AlM := (frL K cn fun as => fs.all (fun f => f K as), fn.map (FnM.see K))
def valM (fn : List FnM) : AlM := (true, fn.map FnM.obj)
def SaysM (cn : List Str) (fs : List FcM) (fn : List FnM) (K : PySem.W.Frag) : Prop := obsM cn fs fn K = valM fn
def obsMG (_n : Nat) (cn : List Str) (fs : List FcM) (fn : List FnM) (g : Addr → Option Obj) : AlM := obsM cn fs fn (colM g)
def hookM (n : Nat) (cn : List Str) (fs : List FcM) (fn : List FnM) : PySem.W.Hook :=
  { α := AlM, obs := fun t => obsMG n cn fs fn t.heap.get?, val := fun _ => valM fn, says := fun _ hp => ∃ K : PySem.W.Frag, K.In hp ∧ SaysM cn fs fn K,
    of := fun _ _ q => ⟨_, colM_in, q⟩, keeps := fun _ _ _ ⟨K, i, s⟩ up => ⟨K, PySem.W.Frag.In.keeps i up, s⟩ }
theorem obsMG_eq {n : Nat} {cn : List Str} {fs : List FcM} {fn : List FnM} {g : Addr → Option Obj} {t : Shared} (h : ∀ a, g a = t.heap.get? a) : obsMG n cn fs fn g = (hookM n cn fs fn).obs t := by
  rw [show g = t.heap.get? from funext h]; rfl
section
variable {cn : List Str} {fs : List FcM} {fn : List FnM} {K : PySem.W.Frag}
theorem SaysM.fact (c : SaysM cn fs fn K) (i : Nat) {f : FcM} (h : fs[i]? = some f) : f K (cn.map (kOf K)) = true := by
  have e : (frL K cn fun as => fs.all (fun f => f K as)) = true := congrArg (fun z : AlM => z.1) c
  rw [frL_eq] at e
  exact List.all_eq_true.mp e f (List.mem_of_getElem? h)
theorem SaysM.fn0 (c : SaysM cn fs fn K) (i : Nat) {x : FnM} (h : fn[i]? = some x) : Nat.blt 0 (x.ad K) = true ∧ PySem.W.keepIn K (.ref (x.ad K)) = true ∧ ∃ oc od osl dV kV doc pm an cdv ct, K.lookup (x.ad K) = some ⟨oc, od, .func (PySem.W.fnOf x.nm x.ql (defArgs x.st) (defBody x.st) (defScope x.st) dV kV doc pm an cdv ct), osl⟩ ∧ PySem.W.codeIn K cdv x.ql = true ∧ dfB K dV x.df = true := by
  have e : fn.map (FnM.see K) = fn.map FnM.obj := congrArg (fun z : AlM => z.2) c
  have e' : (fn.map (FnM.see K))[i]? = (fn.map FnM.obj)[i]? := by rw [e]
  rw [List.getElem?_map, List.getElem?_map, h] at e'
  exact FnM.raw (Option.some.inj e')
/-- a def without defaults -/
theorem SaysM.fn1 (c : SaysM cn fs fn K) (i : Nat) {x : FnM} (h : fn[i]? = some x) (hd : x.df = none) : Nat.blt 0 (x.ad K) = true ∧ PySem.W.keepIn K (.ref (x.ad K)) = true ∧ ∃ oc od osl kV doc pm an cdv ct, K.lookup (x.ad K) = some ⟨oc, od, .func (PySem.W.fnOf x.nm x.ql (defArgs x.st) (defBody x.st) (defScope x.st) .none kV doc pm an cdv ct), osl⟩ ∧ PySem.W.codeIn K cdv x.ql = true := by
  obtain ⟨nz, kp, oc, od, osl, dV, kV, doc, pm, an, cdv, ct, l, cd, b⟩ := c.fn0 i h
  rw [hd] at b
  cases dV with
  | none => exact ⟨nz, kp, oc, od, osl, kV, doc, pm, an, cdv, ct, l, cd⟩
  | _ => cases b
/-- a def with one default, a whole number -/
theorem SaysM.fn2 (c : SaysM cn fs fn K) (i : Nat) {x : FnM} {z : Int} (h : fn[i]? = some x) (hd : x.df = some z) : Nat.blt 0 (x.ad K) = true ∧ PySem.W.keepIn K (.ref (x.ad K)) = true ∧ ∃ oc od osl dT kV doc pm an cdv ct, K.lookup (x.ad K) = some ⟨oc, od, .func (PySem.W.fnOf x.nm x.ql (defArgs x.st) (defBody x.st) (defScope x.st) (.ref dT) kV doc pm an cdv ct), osl⟩ ∧ PySem.W.codeIn K cdv x.ql = true ∧
    ∃ tc td tn tk ts, K.lookup dT = some ⟨tc, td, .seq [Value.int z tk].toArray tn, ts⟩ := by
  obtain ⟨nz, kp, oc, od, osl, dV, kV, doc, pm, an, cdv, ct, l, cd, b⟩ := c.fn0 i h
  rw [hd] at b
  cases dV with
  | ref t =>
    refine ⟨nz, kp, oc, od, osl, t, kV, doc, pm, an, cdv, ct, l, cd, ?_⟩
    replace b : (match K.lookup t with
      | some ⟨_, _, .seq its _, _⟩ => (match its.toList with | [.int j _] => decide (j = z) | _ => false)
      | _ => false) = true := b
    split at b
    · rename_i tc td its tn ts hq
      split at b
      · rename_i j tk hi
        have ej : j = z := of_decide_eq_true b
        subst ej
        refine ⟨tc, td, tn, tk, ts, ?_⟩
        rw [hq, ← hi]
      · cases b
    · cases b
  | _ => cases b
end
/-- names -/
def noG (x : Str) (K : PySem.W.Frag) (_ : List Addr) : Bool := decide (PySem.W.nsIn K mainGlobals x = some none)
theorem noG_ok {x : Str} {K : PySem.W.Frag} {as : List Addr} (h : noG x K as = true) : PySem.W.nsIn K mainGlobals x = some none := of_decide_eq_true h
def iG (x : Str) (i : Int) (K : PySem.W.Frag) (_ : List Addr) : Bool := match PySem.W.nsIn K mainGlobals x with
  | some (some (.int j _)) => decide (j = i)
  | _ => false
theorem iG_ok {x : Str} {i : Int} {K : PySem.W.Frag} {as : List Addr} (h : iG x i K as = true) : ∃ t, PySem.W.nsIn K mainGlobals x = some (some (.int i t)) := by
  unfold iG at h
  split at h
  · rename_i j t e
    have ej : j = i := of_decide_eq_true h
    subst ej
    exact ⟨t, e⟩
  · cases h
def sG (x z : Str) (K : PySem.W.Frag) (_ : List Addr) : Bool := match PySem.W.nsIn K mainGlobals x with
  | some (some (.str y _)) => decide (y = z)
  | _ => false
theorem sG_ok {x z : Str} {K : PySem.W.Frag} {as : List Addr} (h : sG x z K as = true) : ∃ t, PySem.W.nsIn K mainGlobals x = some (some (.str z t)) := by
  unfold sG at h
  split at h
  · rename_i y t e
    have ej : y = z := of_decide_eq_true h
    subst ej
    exact ⟨t, e⟩
  · cases h
theorem walk_mirE {l : PySem.W.OpenLaw} {k n : Nat} {cn : List Str} {fs : List FcM} {fn : List FnM} {q : Program} {loose : List Str} {XP : (Str → Option Value) → Heap → Prop} {d : DefRec} {x : Str} {F : (Str → Addr) → List D → Res D}
    (hn : l.most = some 63) (hdf : d.params.defaults = []) (hr : Room k callerA) (hF : ∀ (κ : Str → Addr) (ns : List Int), ns.length ≤ 63 → F κ [.lst (ns.map D.int)] = .ok (.bl true))
    (Fo : ∀ (w : World) (K : PySem.W.Frag) (mg : Str → Option Value) (fa : Addr) (h : Heap), SaysM cn fs fn K → K.In h → h.Ns mainGlobals mg → mg d.name = some (.ref fa) →
      noLists K = true ∧ ∃ fd : FuncData, (∀ (s : Shared) (u : Value), BindsTo s fd ⟨[u], []⟩ [(x, u)]) ∧ ∀ base : Heap, K.In base → base.Ns mainGlobals mg → FnOk l.prog w K mg base CX0 k fa fd [x] (spF 0 1 (F (kOf K)))) :
    PySem.W.WalkO q loose XP (hookM n cn fs fn).says l.row.toRowW d [] (fun f vs => PySem.call f vs) := by
  refine walk_ofE (n := 63) (k := k) (x := x) (CX := CX0) hn (by decide) hdf hr (fun w mg fa h Y G hmg => ?_) fun _ _ _ _ z => z
  obtain ⟨K, KX, c⟩ := Y
  obtain ⟨nl, fd, hb, hFo⟩ := Fo w K mg fa h c KX G hmg
  exact ⟨K, fd, spF 0 1 (F (kOf K)), KX, hb, fun H a ns hl hO hS => law_sp nl hO hS (hF _ ns hl), hFo⟩
end Mir

namespace Mir
open PySem PySem.Spec L2
open PyProof.Rows (envOfC)
/-! ### a def that changes its last argument and tells something -/
structure Ret2 (kr k0 : Nat) (G H H' : Hp) (v : V) (d : D) (v0 : V) (d1 : D) : Prop where
  ex : ∃ (G' : Hp) (fp : List Addr), Good ⟨H, G⟩ G' H' ∧ HoldAll G' H' [(v, kr, d), (v0, k0, d1)] fp ∧ fp.Nodup ∧ ∀ p ∈ fp, H p = none ∧ G' p = none
def spML (k0 kr n : Nat) (F : List D → D → Res (D × D)) : Sp := fun vs H Q _ => vs.length = n + 1 ∧ ∃ (G : Hp) (v0 : V) (vs' : List V) (d0 : D) (ds' : List D) (f : List Addr) (d d1 : D), vs = vs' ++ [v0] ∧ ds'.length = n ∧ Good ⟨wo H f, G⟩ G H ∧ Od G H k0 f v0 d0 ∧ f.Nodup ∧ (∀ p ∈ f, G p = none) ∧ RpAll G vs' ds' ∧ F ds' d0 = .ok (d, d1) ∧
  ∀ v H', Ret2 kr k0 G (wo H f) H' v d v0 d1 → Q v H'
section
variable {X : Cx} {κ : Str → Addr} {kr k : Nat} {Z : List Nat} {W : WX} {st : Stmt} {ss : List Stmt} {m1 : Env → Res Ctl} {m2 : Env → Res (Env × D)} {me : Env → Res D} {e : Expr} {cs : List Nat} {pos : Pos}
end
section
variable {P : Program} {w : World} {K : PySem.W.Frag} {mg : Str → Option Value} {base : Heap}
end
structure CalL (P : Program) (w : World) (K : PySem.W.Frag) (mg : Str → Option Value) (base : Heap) (x : Str) (j n k0 kr : Nat) (F : List D → D → Res (D × D)) : Prop where
  ex : ∃ f fd ps, mg x = some (.ref f) ∧ PySem.W.keepIn K (.ref f) = true ∧ Binds K fd ps [] ∧ FnOk P w K mg base CX0 j f fd ps (spML k0 kr n F)
section
variable {X : Cx} {kr k0 jl : Nat} {e1 e2 o od : Expr} {ma mb : Env → Res D} {pos cpos apos p0 cp2 : Pos} {Fc : List D → D → Res (D × D)} {x : Str}
end
end Mir
namespace L_k77
open PySem PySem.Spec L2 Mir
/-- _law_rows:0, _law_used:1, _law_row:2, _law_passing:3 -/
def m__law_names : Mir.Env → Res Ctl :=
  (mSeq (mSet 1 1 [] (mLst mNilA)) (mSeq (mFor (fun env => (mVarK 0 0) env >>= itemsL) (tName 2) (mFor (fun env => (mVarK 2 0) env >>= itemsL) (tName 3) (mIf (mTb (mOp gNotIn (mOp gIx (mVar 3) (mC (.int 0))) (mVar 1))) (mAppend 1 0 [] (mImm (mOp gIx (mVar 3) (mC (.int 0))))) mSkip) [3]) [2, 3]) (mRet (fun env => (mVar 1) env >>= itemsL >>= immL >>= fun ds => gSort (.lst ds)))))
def F__law_names : List D → Res D := runD 4 m__law_names
/-- _law_rows:0, _law_cell_here:1, _law_name_here:2 -/
def m__law_name : Mir.Env → Res Ctl :=
  (mSeq (mSet 2 0 [] (mOp gAdd (mC (.int 1)) (mOp gMod (mOp gMod (mOp gMul (mVar 1) (mC (.int 48271))) (mC (.int 1000003))) (mC (.int 999))))) (mSeq (fun env => wloop (mTb (mOp gIn (mVar 2) (mCall 1 F__law_names (mConsA (mVar 0) mNilA)))) (mSet 2 0 [] (mOp gAdd (mOp gMod (mVar 2) (mC (.int 999))) (mC (.int 1)))) [] 4096 env) (mRet (mImm (mVar 2)))))
def F__law_name : List D → Res D := runD 3 m__law_name
/-- _law_rows:0, _law_cell_here:1, _law_name_here:2, _law_hand:3, _law_over:4, _law_under:5 -/
def m__law_cross : Mir.Env → Res Ctl :=
  (mSeq (mSet 2 0 [] (mN (mCall 0 F__law_name (mConsA (mVar 0) (mConsA (mVar 1) mNilA))))) (mSeq (mSet 3 0 [] (mN (mOp gSub (mOp gMul (mC (.int 2)) (mOp gMod (mVar 1) (mC (.int 2)))) (mC (.int 1))))) (mAlias 0 4 0 (mOp gMod (mOp gFdv (mVar 1) (mC (.int 2))) (mUn gLen (mVar 0))) (mIns 0 4 0 (mOp gMod (mOp gMod (mOp gMul (mVar 1) (mC (.int 69621))) (mC (.int 999983))) (mOp gAdd (mUn gLen (mVar 4)) (mC (.int 1)))) (mImm (mTup (mConsE (mImm (mVar 2)) [] (mConsE (mC (.int 0)) [] (mConsE (mImm (mVar 3)) [] mNilA))))) (mAlias 0 5 0 (mOp gMod (mOp gFdv (mVar 1) (mC (.int 6))) (mUn gLen (mVar 0))) (mIns 0 5 0 (mOp gMod (mOp gMod (mOp gMul (mVar 1) (mC (.int 40692))) (mC (.int 999979))) (mOp gAdd (mUn gLen (mVar 5)) (mC (.int 1)))) (mImm (mTup (mConsE (mImm (mVar 2)) [] (mConsE (mC (.int 1)) [] (mConsE (mImm (mVar 3)) [] mNilA))))) mSkip))))))
def F__law_cross : List D → Res D := runM 2 6 m__law_cross
/-- _law_script:0, _law_k:1 -/
def m__law_cell : Mir.Env → Res Ctl :=
  (mSeq (mIf (mTb (mOp gLt (mVar 1) (mUn gLen (mVar 0)))) (mRet (mImm (mOp gIx (mVar 0) (mVar 1)))) mSkip) (mRet (mC (.int 0))))
def F__law_cell : List D → Res D := runD 2 m__law_cell
/-- _law_script:0, _law_first:1, _law_edge:2, _law_at:3, _law_many:4, _law_strings:5, _law_rows:6, _law_k:7 -/
def m__law_drawn : Mir.Env → Res Ctl :=
  (mSeq (mSet 4 0 [] (mImm (mVar 2))) (mSeq (mIf (mTb (mOp gNe (mOp gMod (mVar 1) (mC (.int 3))) (mC (.int 2)))) (mSet 4 0 [] (mOp gMod (mOp gFdv (mVar 1) (mC (.int 3))) (mC (.int 13)))) mSkip) (mSeq (mSet 5 0 [] (mOp gAdd (mC (.int 1)) (mOp gMod (mOp gFdv (mVar 1) (mC (.int 39))) (mC (.int 3))))) (mSeq (mIf (mTb (mOp gGt (mVar 4) (mC (.int 5)))) (mSet 5 0 [] (mOp gMin2 (mVar 5) (mC (.int 2)))) mSkip) (mSeq (mSet 6 2 [] (mLc (fun env => (mVar 5) env >>= gRng1) (tName 7) (fun _ => .ok true) (mLst mNilA) [7])) (mSeq (mFor (fun env => (mVar 4) env >>= gRng1) (tName 7) (mCallM 6 2 F__law_cross (mConsA (mOp gAdd (mCall 0 F__law_cell (mConsA (mVar 0) (mConsA (mOp gAdd (mVar 3) (mVar 7)) mNilA))) (mOp gMul (mOp gMul (mC (.int 7919)) (mVar 7)) (mVar 7))) mNilA)) [7]) (mRet (mVarK 6 2))))))))
def F__law_drawn : List D → Res D := runD 8 m__law_drawn
/-- _law_cell_here:0 -/
def m__law_length : Mir.Env → Res Ctl :=
  (mSeq (mIf (mTb (mOp gEq (mOp gMod (mVar 0) (mC (.int 3))) (mC (.int 0)))) (mRet (mOp gSub (mOp gMod (mOp gFdv (mVar 0) (mC (.int 3))) (mC (.int 7))) (mC (.int 1)))) mSkip) (mSeq (mIf (mTb (mOp gEq (mOp gMod (mVar 0) (mC (.int 3))) (mC (.int 1)))) (mRet (mC (.int 0))) mSkip) (mRet (mOp gSub (mOp gMod (mOp gFdv (mVar 0) (mC (.int 3))) (mOp gAdd (mOp gMul (mC (.int 2)) (mOp gPow (mC (.int 10)) (mC (.int 20)))) (mC (.int 1)))) (mOp gPow (mC (.int 10)) (mC (.int 20)))))))
def F__law_length : List D → Res D := runD 1 m__law_length
/-- _law_crossings:0, _law_length_here:1 -/
def m__law_due : Mir.Env → Res Ctl :=
  (mSeq (mIf (mOrB (mTb (mOp gLt (mVar 1) (mC (.int 0)))) (mTb (mOp gGt (mVar 1) (mC (.int 4))))) (mRet (mC (.str "length"))) mSkip) (mSeq (mIf (mTb (mOp gGt (mVar 0) (mC (.int 8)))) (mRet (mC (.str "many"))) mSkip) (mRet (mC (.str "")))))
def F__law_due : List D → Res D := runD 2 m__law_due
/-- _law_error:0 -/
def m__law_word (κ : Str → Addr) : Mir.Env → Res Ctl :=
  (mSeq (mIf (mAndB (mTb (mIsO κ (tb [("NoLength", true), ("TooMany", false)]) (mVar 0))) (mNotB (mTb (mIsO κ (tb [("NoLength", false), ("TooMany", true)]) (mVar 0))))) (mRet (mC (.str "length"))) mSkip) (mSeq (mIf (mAndB (mTb (mIsO κ (tb [("NoLength", false), ("TooMany", true)]) (mVar 0))) (mNotB (mTb (mIsO κ (tb [("NoLength", true), ("TooMany", false)]) (mVar 0))))) (mRet (mC (.str "many"))) mSkip) (mRet (mC (.str "none")))))
def F__law_word (κ : Str → Addr) : List D → Res D := runD 1 (m__law_word κ)
/-- drawing:0, hands:1, row:2, passing:3 -/
def m_hands_of : Mir.Env → Res Ctl :=
  (mSeq (mSet 1 1 [] (mC (.dk [] []))) (mSeq (mFor (fun env => (mVarK 0 0) env >>= itemsL) (tName 2) (mFor (fun env => (mVarK 2 0) env >>= itemsL) (tName 3) (mDput 1 [] (mImm (mOp gIx (mVar 3) (mC (.int 2)))) (mOp gIx (mVar 3) (mC (.int 0)))) [3]) [2, 3]) (mRet (mVarK 1 1))))
def F_hands_of : List D → Res D := runD 4 m_hands_of
/-- drawing:0 -/
def m_names_of : Mir.Env → Res Ctl :=
  (mRet (fun env => (mCall 1 F_hands_of (mConsA (mVar 0) mNilA)) env >>= gSortD))
def F_names_of : List D → Res D := runD 1 m_names_of
/-- drawings:0, length:1, drawing:2 -/
def m_look_at_bounds : Mir.Env → Res Ctl :=
  (mSeq (mIf (mN (mOrB (mTb (mOp gLt (mVar 1) (mC (.int 0)))) (mTb (mOp gGt (mVar 1) (mC (.int 4)))))) (mRaise "NoLength") mSkip) (mFor (mN (fun env => (mVarK 0 0) env >>= itemsL)) (nT (tName 2)) (mIf (mN (mTb (mOp gGt (mUn gLen (mCall 1 F_names_of (mConsA (mVar 2) mNilA))) (mC (.int 8))))) (mRaise "TooMany") mSkip) [2]))
def F_look_at_bounds : List D → Res D := runD 3 m_look_at_bounds
/-- drawing:0, found:1, row:2, longer:3, one:4, at:5 -/
def m_beginnings : Mir.Env → Res Ctl :=
  (mSeq (mSet 1 1 [] (mLst (mConsE (mLst mNilA) [] mNilA))) (mSeq (mFor (fun env => (mVarK 0 0) env >>= itemsL) (tName 2) (mSeq (mSet 3 1 [] (mLst mNilA)) (mSeq (mFz 1 (mFor (fun env => (mVarK 1 0) env >>= itemsL) (tName 4) (mFor (fun env => (mOp gMax2 (mC (.int 1)) (mUn gLen (mVar 2))) env >>= gRng1) (tName 5) (mAppend 3 0 [] (mCat (fun env => (mVar 4) env >>= fun d => itemsL d >>= immL) (fun env => (mLst (mConsA (mVar 5) mNilA)) env >>= fun d => itemsL d >>= immL))) [5]) [4, 5])) (mSet 1 1 [3] (mVarK 3 1)))) [2, 3, 4, 5]) (mRet (mVarK 1 1))))
def F_beginnings : List D → Res D := runD 6 m_beginnings
/-- drawing:0, starts:1, names:2, row:3, at:4, passing:5 -/
def m_names_by_meeting : Mir.Env → Res Ctl :=
  (mSeq (mSet 2 1 [] (mC (.dk [] []))) (mSeq (mFor (fun env => (mVarK 0 0) env >>= itemsL >>= fun ds => (mVarK 1 0) env >>= itemsL >>= fun es => .ok (zipD ds es)) (tTupT 2 (tCons (tName 3) (tCons (tName 4) tNil))) (mFor (fun env => (mCat (fun env => (mSlice (fun env => (mVar 3) env >>= fun d => itemsL d >>= immL) (fun env => (mVar 4) env >>= toI >>= fun i => .ok (some i)) (fun _ => .ok none)) env >>= fun d => itemsL d >>= immL) (fun env => (mSlice (fun env => (mVar 3) env >>= fun d => itemsL d >>= immL) (fun _ => .ok none) (fun env => (mVar 4) env >>= toI >>= fun i => .ok (some i))) env >>= fun d => itemsL d >>= immL)) env >>= itemsL) (tName 5) (mIf (mTb (mOp gDNotIn (mOp gIx (mVar 5) (mC (.int 0))) (mVar 2))) (mDput 2 [] (mOp gAdd (mLenD 2) (mC (.int 1))) (mOp gIx (mVar 5) (mC (.int 0)))) mSkip) [5]) [3, 4, 5]) (mRet (mVarK 2 1))))
def F_names_by_meeting : List D → Res D := runD 6 m_names_by_meeting
/-- row:0, at:1 -/
def m_seated : Mir.Env → Res Ctl :=
  (mSeq (mIf (mNotB (fun env => (mVar 0) env >>= gTru)) (mRet (mLst mNilA)) mSkip) (mSeq (mSet 1 0 [] (mOp gIndex (mVar 0) (mUn gMin (mVar 0)))) (mRet (mCat (fun env => (fun env => (fun env => (mSlice (fun env => (mVar 0) env >>= fun d => itemsL d >>= immL) (fun env => (mVar 1) env >>= toI >>= fun i => .ok (some i)) (fun _ => .ok none)) env >>= fun d => itemsL d >>= immL) env >>= fun ds => .ok (.lst ds)) env >>= fun d => itemsL d >>= immL) (fun env => (fun env => (fun env => (mSlice (fun env => (mVar 0) env >>= fun d => itemsL d >>= immL) (fun _ => .ok none) (fun env => (mVar 1) env >>= toI >>= fun i => .ok (some i))) env >>= fun d => itemsL d >>= immL) env >>= fun ds => .ok (.lst ds)) env >>= fun d => itemsL d >>= immL)))))
def F_seated : List D → Res D := runD 2 m_seated
/-- row:0, names:1, passing:2 -/
def m_row_by_names : Mir.Env → Res Ctl :=
  (mRet (mCall 1 F_seated (mConsA (mLc (fun env => (mVarK 0 0) env >>= itemsL) (tName 2) (fun _ => .ok true) (mImm (mTup (mConsE (mImm (mOp gDGet (mVar 1) (mOp gIx (mVar 2) (mC (.int 0))))) [] (mConsE (mImm (mOp gIx (mVar 2) (mC (.int 1)))) [] (mConsE (mImm (mOp gIx (mVar 2) (mC (.int 2)))) [] mNilA))))) [2]) mNilA)))
def F_row_by_names : List D → Res D := runD 3 m_row_by_names
/-- drawing:0, names:1, row:2 -/
def m_by_names : Mir.Env → Res Ctl :=
  (mRet (mLc (fun env => (mVarK 0 0) env >>= itemsL) (tName 2) (fun _ => .ok true) (mCall 1 F_row_by_names (mConsA (mVar 2) (mConsA (mVar 1) mNilA))) [2]))
def F_by_names : List D → Res D := runD 3 m_by_names
/-- drawing:0, best:1, best_names:2, starts:3, names:4, found:5 -/
def m_settling : Mir.Env → Res Ctl :=
  (mSeq (mSet 1 2 [] (mC .non)) (mSeq (mSet 2 1 [] (mC (.dk [] []))) (mSeq (mFor (fun env => (mCall0 F_beginnings (mConsE (mVarK 0 0) [] mNilA)) env >>= itemsL) (tName 3) (mSeq (mSet 4 1 [] (mCall 1 F_names_by_meeting (mConsA (mVar 0) (mConsA (mVar 3) mNilA)))) (mSeq (mSet 5 2 [] (mCall 2 F_by_names (mConsA (mVar 0) (mConsA (mVar 4) mNilA)))) (mIf (mOrB (mTb (mUn gIsN (mVar 1))) (mTb (mOp gLt (mVar 5) (mVar 1)))) (mSeq (mSet 1 2 [5] (mVarK 5 2)) (mSet 2 1 [4] (mVarK 4 1))) (mFz 5 (mFz 4 mSkip))))) [3, 4, 5]) (mRet (mTup (mConsE (mVarK 1 2) [1] (mConsE (fun env => (mVarK 2 1) env >>= gUp) [2] mNilA)))))))
def F_settling : List D → Res D := runD 6 m_settling
/-- drawing:0 -/
def m_settled : Mir.Env → Res Ctl :=
  (mRet (mOp gIxT (mCall 3 F_settling (mConsA (mVar 0) mNilA)) (mC (.int 0))))
def F_settled : List D → Res D := runD 1 m_settled
/-- passing:0, sign:1 -/
def m_passing_text : Mir.Env → Res Ctl :=
  (mSeq (mSet 1 0 [] (mC (.str "+"))) (mSeq (mIf (mTb (mOp gLt (mOp gIx (mVar 0) (mC (.int 2))) (mC (.int 0)))) (mSet 1 0 [] (mC (.str "-"))) mSkip) (mRet (mOp gAdd (mOp gAdd (mUn gStr (mOp gIx (mVar 0) (mC (.int 0)))) (mOp gIx (mC (.str "ou")) (mOp gIx (mVar 0) (mC (.int 1))))) (mVar 1)))))
def F_passing_text : List D → Res D := runD 2 m_passing_text
/-- row:0, passing:1 -/
def m_row_text : Mir.Env → Res Ctl :=
  (mSeq (mIf (mNotB (fun env => (mVar 0) env >>= gTru)) (mRet (mC (.str "."))) mSkip) (mRet (mJoin (mC (.str " ")) (mLc (fun env => (mCall 1 F_seated (mConsA (mVar 0) mNilA)) env >>= itemsL) (tName 1) (fun _ => .ok true) (mCall 0 F_passing_text (mConsA (mVar 1) mNilA)) [1]))))
def F_row_text : List D → Res D := runD 2 m_row_text
/-- drawing:0, row:1 -/
def m_text_of : Mir.Env → Res Ctl :=
  (mRet (mJoin (mC (.str "\n")) (mLc (fun env => (mVarK 0 0) env >>= itemsL) (tName 1) (fun _ => .ok true) (mCall 0 F_row_text (mConsA (mVar 1) mNilA)) [1])))
def F_text_of : List D → Res D := runD 2 m_text_of
/-- reached:0 -/
def m_drawing_of : Mir.Env → Res Ctl :=
  (mRet (mOp gIx (mVarK 0 0) (mC (.int 0))))
def F_drawing_of : List D → Res D := runD 1 m_drawing_of
/-- drawing:0, length:1, first:2, found:3, edge:4, turn:5, coming:6, here:7, row:8 -/
def m_reach : Mir.Env → Res Ctl :=
  (mSeq (mExpr (mCallX 0 F_look_at_bounds (mConsA (mLst (mConsA (mVar 0) mNilA)) (mConsA (mVar 1) mNilA)))) (mSeq (mN (mSet 2 0 [] (mTup (mConsE (mCall 2 F_settled (mConsA (mVar 0) mNilA)) [] (mConsE (mLst mNilA) [] mNilA))))) (mSeq (mN (mSet 3 1 [] (mDisp1 (mCall 0 F_text_of (mConsA (mOp gIx (mVar 2) (mC (.int 0))) mNilA)) (mVarK 2 0)))) (mSeq (mN (mSet 4 0 [] (mLst (mConsE (mVarK 2 0) [] mNilA)))) (mSeq (mN (mFor (fun env => (mVar 1) env >>= gRng1) (tName 5) (mSeq (mSet 6 1 [] (mLst mNilA)) (mSeq (mFor (fun env => (mVarK 4 0) env >>= itemsL) (tTupT 2 (tCons (tName 7) (tCons (tName 8) tNil))) mNo [7, 8]) (mFz 6 (mSet 4 0 [] (mVarK 6 0))))) [5, 6, 7, 8])) (mN (mRet (fun env => (fun env => mVarD 3 env >>= dValsO) env >>= gSortK F_drawing_of))))))))
def F_reach : List D → Res D := runD 9 m_reach
/-- one:0, other:1, length:2, rows:3, drawing:4, row:5 -/
def m_meeting : Mir.Env → Res Ctl :=
  (mSeq (mN (mSet 3 1 [] (mC (.dk [] [])))) (mSeq (mForX (mCallX0 F_reach (mConsE (mVarK 0 0) [] (mConsE (mImm (mVar 2)) [] mNilA))) (nT (tTupT 2 (tCons (tName 4) (tCons (tName 5) tNil)))) (mN (mDput 3 [] (mVarK 5 0) (mCall 0 F_text_of (mConsA (mVar 4) mNilA)))) [4, 5]) (mSeq (mForX (mCallX0 F_reach (mConsE (mVarK 1 0) [] (mConsE (mImm (mVar 2)) [] mNilA))) (nT (tTupT 2 (tCons (tName 4) (tCons (tName 5) tNil)))) (mN (mIf (mTb (mOp gDIn (mCall 0 F_text_of (mConsA (mVar 4) mNilA)) (mVar 3))) (mRet (mTup (mConsE (mOp gDGet (mVarD 3) (mCall 0 F_text_of (mConsA (mVar 4) mNilA))) [] (mConsE (mVarK 5 0) [] mNilA)))) mSkip)) [4, 5]) (mN (mRet (mC .non))))))
def F_meeting : List D → Res D := runD 6 m_meeting
/-- drawing:0, row:1, here:2, backs:3, told:4, back:5 -/
def m_back_row : Mir.Env → Res Ctl :=
  (mSeq (mSet 2 2 [] (mCall 2 F_settled (mConsA (mVar 0) mNilA))) (mSeq (mSet 3 1 [] (mLst mNilA)) (mSeq (mFor (fun env => (mVarK 1 0) env >>= itemsL) (tName 4) (mSeq mNo (mAppend 3 0 [] (mVarK 5 0))) [4, 5]) (mFz 3 (mRet (mListRev (fun env => (mVarK 3 0) env >>= itemsL)))))))
def F_back_row : List D → Res D := runD 6 m_back_row
/-- one:0, other:1, length:2, met:3, word:4, mark:5, here:6, there:7 -/
def m_verdict : Mir.Env → Res Ctl :=
  (mSeq (mExpr (mCallX 0 F_look_at_bounds (mConsA (mLst (mConsA (mVar 0) (mConsA (mVar 1) mNilA))) (mConsA (mVar 2) mNilA)))) (mSeq (mSet 3 0 [] (mCallX0 F_meeting (mConsE (mVarK 0 0) [] (mConsE (mVarK 1 0) [] (mConsE (mImm (mVar 2)) [] mNilA))))) (mSeq (mN (mIf (mTb (mUn gNotN (mVar 3))) (mRet (mTup (mConsE (mC (.str "alike")) [] (mConsE (mCat (fun env => (mOp gIx (mVar 3) (mC (.int 0))) env >>= fun d => itemsL d >>= immL) (fun env => (mCall 1 F_back_row (mConsA (mVar 1) (mConsA (mOp gIx (mVar 3) (mC (.int 1))) mNilA))) env >>= fun d => itemsL d >>= immL)) [] mNilA)))) mSkip)) (mSeq (mN mNo) (mN (mRet (mImm (mTup (mConsE (mC (.str "open")) [] mNilA)))))))))
def F_verdict : List D → Res D := runD 8 m_verdict
/-- _law_one:0, _law_other:1, _law_length_here:2, _law_error:3, e:4 -/
def m__law_judged (κ : Str → Addr) : Mir.Env → Res Ctl :=
  (mSeq (mSet 3 0 [] (mC .non)) (mSeq (mTry 4 (tb [("NoLength", true), ("TooMany", true)]) [0, 1, 2, 3] κ (mExpr (mCallX0 F_verdict (mConsE (mVarK 0 0) [] (mConsE (mVarK 1 0) [] (mConsE (mImm (mVar 2)) [] mNilA))))) (mSet 3 0 [] (mVarK 4 0))) (mRet (mCall 0 (F__law_word κ) (mConsA (mVar 3) mNilA)))))
def F__law_judged (κ : Str → Addr) : List D → Res D := runD 5 (m__law_judged κ)
/-- _law_rows:0, _law_found:1, _law_row:2, _law_longer:3, _law_one:4, _law_at:5 -/
def m__law_choices : Mir.Env → Res Ctl :=
  (mSeq (mSet 1 1 [] (mLst (mConsE (mLst mNilA) [] mNilA))) (mSeq (mFor (fun env => (mVarK 0 0) env >>= itemsL) (tName 2) (mSeq (mSet 3 1 [] (mLst mNilA)) (mSeq (mFz 1 (mFor (fun env => (mVarK 1 0) env >>= itemsL) (tName 4) (mFor (fun env => (mOp gMax2 (mC (.int 1)) (mUn gLen (mVar 2))) env >>= gRng1) (tName 5) (mAppend 3 0 [] (mCat (fun env => (mVarK 4 0) env >>= itemsL) (fun env => (mLst (mConsE (mCat (fun env => (mSlice (fun env => (mVar 2) env >>= fun d => itemsL d >>= immL) (fun env => (mVar 5) env >>= toI >>= fun i => .ok (some i)) (fun _ => .ok none)) env >>= fun d => itemsL d >>= immL) (fun env => (mSlice (fun env => (mVar 2) env >>= fun d => itemsL d >>= immL) (fun _ => .ok none) (fun env => (mVar 5) env >>= toI >>= fun i => .ok (some i))) env >>= fun d => itemsL d >>= immL)) [] mNilA)) env >>= itemsL))) [5]) [4, 5])) (mSet 1 1 [3] (mVarK 3 1)))) [2, 3, 4, 5]) (mRet (mVarK 1 1))))
def F__law_choices : List D → Res D := runD 6 m__law_choices
/-- _law_row:0, _law_best:1, _law_k:2 -/
def m__law_seat : Mir.Env → Res Ctl :=
  (mSeq (mSet 1 0 [] (mC (.int 0))) (mSeq (mFor (fun env => (mUn gLen (mVar 0)) env >>= gRng1) (tName 2) (mIf (mTb (mOp gLt (fun env => (mOp gIx (mVar 0) (mVar 2)) env >>= itemsT >>= fun ds => (fun _ => .ok none) env >>= fun lo => (fun env => (mC (.int 2)) env >>= toI >>= fun i => .ok (some i)) env >>= fun hi => gCutT ds lo hi) (fun env => (mOp gIx (mVar 0) (mVar 1)) env >>= itemsT >>= fun ds => (fun _ => .ok none) env >>= fun lo => (fun env => (mC (.int 2)) env >>= toI >>= fun i => .ok (some i)) env >>= fun hi => gCutT ds lo hi))) (mSet 1 0 [] (mImm (mVar 2))) mSkip) [2]) (mRet (mCat (fun env => (mSlice (fun env => (mVar 0) env >>= fun d => itemsL d >>= immL) (fun env => (mVar 1) env >>= toI >>= fun i => .ok (some i)) (fun _ => .ok none)) env >>= fun d => itemsL d >>= immL) (fun env => (mSlice (fun env => (mVar 0) env >>= fun d => itemsL d >>= immL) (fun _ => .ok none) (fun env => (mVar 1) env >>= toI >>= fun i => .ok (some i))) env >>= fun d => itemsL d >>= immL)))))
def F__law_seat : List D → Res D := runD 3 m__law_seat
/-- _law_rows:0, _law_row:1 -/
def m__law_seats : Mir.Env → Res Ctl :=
  (mRet (mLc (fun env => (mVarK 0 0) env >>= itemsL) (tName 1) (fun _ => .ok true) (mCall 1 F__law_seat (mConsA (mVar 1) mNilA)) [1]))
def F__law_seats : List D → Res D := runD 2 m__law_seats
/-- _law_rows:0, _law_names_here:1, _law_made:2, _law_row:3, _law_passing:4 -/
def m__law_called : Mir.Env → Res Ctl :=
  (mSeq (mSet 2 2 [] (mLst mNilA)) (mSeq (mFor (fun env => (mVarK 0 0) env >>= itemsL) (tName 3) (mAppend 2 1 [] (mLc (fun env => (mVarK 3 0) env >>= itemsL) (tName 4) (fun _ => .ok true) (mImm (mTup (mConsE (mImm (mOp gDGet (mVar 1) (mOp gIx (mVar 4) (mC (.int 0))))) [] (mConsE (mImm (mOp gIx (mVar 4) (mC (.int 1)))) [] (mConsE (mImm (mOp gIx (mVar 4) (mC (.int 2)))) [] mNilA))))) [4])) [3, 4]) (mRet (mVarK 2 2))))
def F__law_called : List D → Res D := runD 5 m__law_called
/-- _law_rows:0, _law_names_here:1, _law_row:2, _law_passing:3 -/
def m__law_met : Mir.Env → Res Ctl :=
  (mSeq (mSet 1 1 [] (mC (.dk [] []))) (mSeq (mFor (fun env => (mVarK 0 0) env >>= itemsL) (tName 2) (mFor (fun env => (mVarK 2 0) env >>= itemsL) (tName 3) (mIf (mTb (mOp gDNotIn (mOp gIx (mVar 3) (mC (.int 0))) (mVar 1))) (mDput 1 [] (mOp gAdd (mLenD 1) (mC (.int 1))) (mOp gIx (mVar 3) (mC (.int 0)))) mSkip) [3]) [2, 3]) (mRet (mVarK 1 1))))
def F__law_met : List D → Res D := runD 4 m__law_met
/-- _law_rows:0, _law_best:1, _law_begun:2, _law_found:3 -/
def m__law_settled : Mir.Env → Res Ctl :=
  (mSeq (mSet 1 0 [] (mC .non)) (mSeq (mFor (fun env => (mCall0 F__law_choices (mConsE (mVarK 0 0) [] mNilA)) env >>= itemsL) (tName 2) (mSeq (mSet 3 0 [] (mCall 2 F__law_seats (mConsA (mCall 2 F__law_called (mConsA (mVar 2) (mConsA (mCall 1 F__law_met (mConsA (mVar 2) mNilA)) mNilA))) mNilA))) (mIf (mOrB (mTb (mUn gIsN (mVar 1))) (mTb (mOp gLt (mVar 3) (mVar 1)))) (mSet 1 0 [] (mVarK 3 0)) mSkip)) [2, 3]) (mRet (mVarK 1 0))))
def F__law_settled : List D → Res D := runD 4 m__law_settled
/-- drawing:0, length:1, best:2, fewest:3, reached:4, many:5 -/
def m_simplest : Mir.Env → Res Ctl :=
  (mSeq (mN (mSet 2 0 [] (mC .non))) (mSeq (mN (mSet 3 0 [] (mC (.int 0)))) (mSeq (mForX (mCallX0 F_reach (mConsE (mVarK 0 0) [] (mConsE (mImm (mVar 1)) [] mNilA))) (nT (tName 4)) (mSeq (mN (mSet 5 0 [] (mUn gLen (mCall 1 F_names_of (mConsA (mOp gIx (mVar 4) (mC (.int 0))) mNilA))))) (mN (mIf (mOrB (mTb (mUn gIsN (mVar 2))) (mTb (mOp gLt (mVar 5) (mVar 3)))) (mSeq (mSet 2 0 [] (mVarK 4 0)) (mSet 3 0 [] (mImm (mVar 5)))) mSkip))) [4, 5]) (mN (mRet (mVarK 2 0))))))
def F_simplest : List D → Res D := runD 6 m_simplest
/-- _law_rows:0, _law_made:1, _law_begun:2, _law_row:3 -/
def m__law_by_none : Mir.Env → Res Ctl :=
  (mSeq (mSet 1 0 [] (mCall0 F__law_settled (mConsE (mVarK 0 0) [] mNilA))) (mSeq (mSet 2 2 [] (mLc (fun env => (mVarK 0 0) env >>= itemsL) (tName 3) (fun _ => .ok true) (mCat (fun env => (mSlice (fun env => (mVar 3) env >>= fun d => itemsL d >>= immL) (fun env => (mC (.int 1)) env >>= toI >>= fun i => .ok (some i)) (fun _ => .ok none)) env >>= fun d => itemsL d >>= immL) (fun env => (mSlice (fun env => (mVar 3) env >>= fun d => itemsL d >>= immL) (fun _ => .ok none) (fun env => (mC (.int 1)) env >>= toI >>= fun i => .ok (some i))) env >>= fun d => itemsL d >>= immL)) [3])) (mSeq (mIf (mOrB (mTb (mOp gNe (mCall0 F_reach (mConsE (mVarK 0 0) [] (mConsE (mC (.int 0)) [] mNilA))) (mLst (mConsA (mTup (mConsE (mVarK 1 0) [] (mConsE (mLst mNilA) [] mNilA))) mNilA)))) (mTb (mOp gNe (mCall0 F_simplest (mConsE (mVarK 0 0) [] (mConsE (mC (.int 0)) [] mNilA))) (mTup (mConsE (mVarK 1 0) [] (mConsE (mLst mNilA) [] mNilA)))))) (mRet (mC (.bl false))) mSkip) (mFz 2 (mRet (mOp gEq (mCall0 F_verdict (mConsE (mVarK 0 0) [] (mConsE (mVarK 2 0) [] (mConsE (mC (.int 0)) [] mNilA)))) (mTup (mConsE (mC (.str "alike")) [] (mConsE (mLst mNilA) [] mNilA)))))))))
def F__law_by_none : List D → Res D := runD 4 m__law_by_none
/-- _law_rows:0, _law_length_here:1, _law_which:2, _law_error:3, e:4 -/
def m__law_reached (κ : Str → Addr) : Mir.Env → Res Ctl :=
  (mSeq (mSet 3 0 [] (mC .non)) (mSeq (mTry 4 (tb [("NoLength", true), ("TooMany", true)]) [0, 1, 2, 3] κ (mIf (mN (mTb (mOp gEq (mVar 2) (mC (.int 0))))) (mExpr (mCallX0 F_reach (mConsE (mVarK 0 0) [] (mConsE (mImm (mVar 1)) [] mNilA)))) (mExpr (mCallX0 F_simplest (mConsE (mVarK 0 0) [] (mConsE (mImm (mVar 1)) [] mNilA))))) (mSet 3 0 [] (mVarK 4 0))) (mRet (mCall 0 (F__law_word κ) (mConsA (mVar 3) mNilA)))))
def F__law_reached (κ : Str → Addr) : List D → Res D := runD 5 (m__law_reached κ)
/-- _law_script:0, _law_one:1, _law_other:2, _law_length_here:3, _law_handed:4, _law_k:5, _law_due_here:6, _law_which:7, _law_row:8 -/
def m_law (κ : Str → Addr) : Mir.Env → Res Ctl :=
  (mSeq (mSet 1 2 [] (mCall 2 F__law_drawn (mConsA (mVar 0) (mConsA (mCall 0 F__law_cell (mConsA (mVar 0) (mConsA (mC (.int 0)) mNilA))) (mConsA (mC (.int 8)) (mConsA (mC (.int 4)) mNilA)))))) (mSeq (mSet 2 2 [] (mCall 2 F__law_drawn (mConsA (mVar 0) (mConsA (mCall 0 F__law_cell (mConsA (mVar 0) (mConsA (mC (.int 1)) mNilA))) (mConsA (mC (.int 9)) (mConsA (mC (.int 19)) mNilA)))))) (mSeq (mSet 3 0 [] (mCall 0 F__law_length (mConsA (mCall 0 F__law_cell (mConsA (mVar 0) (mConsA (mC (.int 2)) mNilA))) mNilA))) (mSeq (mFz 1 (mFz 2 (mSet 4 3 [] (mLst (mConsE (mLc (fun env => (mVarK 1 0) env >>= itemsL) (tName 8) (fun _ => .ok true) (fun env => (fun env => (mVar 8) env >>= fun d => itemsL d >>= immL) env >>= fun ds => .ok (.lst ds)) [8]) [] (mConsE (mLc (fun env => (mVarK 2 0) env >>= itemsL) (tName 8) (fun _ => .ok true) (fun env => (fun env => (mVar 8) env >>= fun d => itemsL d >>= immL) env >>= fun ds => .ok (.lst ds)) [8]) [] mNilA)))))) (mSeq (mFor (fun env => (mC (.int 2)) env >>= gRng1) (tName 5) (mSeq (mSet 6 0 [] (mCall 0 F__law_due (mConsA (mUn gLen (mCall 1 F__law_names (mConsA (mOp gIx (mVar 4) (mVar 5)) mNilA))) (mConsA (mVar 3) mNilA)))) (mFor (fun env => (mImm (mTup (mConsE (mC (.int 0)) [] (mConsE (mC (.int 1)) [] mNilA)))) env >>= itemsT) (tName 7) (mIf (mAndB (mTb (mOp gNe (mVar 6) (mC (.str "")))) (mTb (mOp gNe (mCall 0 (F__law_reached κ) (mConsA (mOp gIx (mVar 4) (mVar 5)) (mConsA (mVar 3) (mConsA (mVar 7) mNilA)))) (mVar 6)))) (mRet (mC (.bl false))) mSkip) [7])) [5, 6, 7]) (mSeq (mSet 6 0 [] (mCall 0 F__law_due (mConsA (mOp gMax2 (mUn gLen (mCall 1 F__law_names (mConsA (mVar 1) mNilA))) (mUn gLen (mCall 1 F__law_names (mConsA (mVar 2) mNilA)))) (mConsA (mVar 3) mNilA)))) (mSeq (mIf (mAndB (mTb (mOp gNe (mVar 6) (mC (.str "")))) (mTb (mOp gNe (mCall 0 (F__law_judged κ) (mConsA (mOp gIx (mVar 4) (mC (.int 0))) (mConsA (mOp gIx (mVar 4) (mC (.int 1))) (mConsA (mVar 3) mNilA)))) (mVar 6)))) (mRet (mC (.bl false))) mSkip) (mSeq (mIf (mAndB (mTb (mOp gNe (mVar 6) (mC (.str "")))) (mTb (mOp gNe (mCall 0 (F__law_judged κ) (mConsA (mOp gIx (mVar 4) (mC (.int 1))) (mConsA (mOp gIx (mVar 4) (mC (.int 0))) (mConsA (mVar 3) mNilA)))) (mVar 6)))) (mRet (mC (.bl false))) mSkip) (mSeq (mIf (mAndB (mTb (mOp gEq (mVar 3) (mC (.int 0)))) (mAndB (mTb (mOp gLt (mUn gLen (mCall 1 F__law_names (mConsA (mVar 1) mNilA))) (mC (.int 9)))) (mNotB (mTb (mCall 0 F__law_by_none (mConsA (mOp gIx (mVar 4) (mC (.int 0))) mNilA)))))) (mRet (mC (.bl false))) mSkip) (mRet (mOp gEq (mVar 4) (mLst (mConsA (mVar 1) (mConsA (mVar 2) mNilA))))))))))))))
def F_law (κ : Str → Addr) : List D → Res D := runD 9 (m_law κ)
theorem cell_z (ns : List Int) (k : Nat) : F__law_cell [.lst (ns.map D.int), .int k] = .ok (.int (ns.getD k 0)) := by
  simp [F__law_cell, m__law_cell, runD, gIx]
  by_cases h : k < ns.length
  · simp [h, atI, ixN]
  · simp [h]
/-! drawings: what the program's own defs tell of them -/
def hnds (ds : Drw) : Pol := pts T3.a T3.c ds.flatten []
theorem pts_flat {κ β : Type} [DecidableEq κ] (key : T3 → κ) (val : T3 → β) (ds : Drw) (p : List (κ × β)) : pts key val ds.flatten p = ds.foldl (fun p r => pts key val r p) p := by
  induction ds generalizing p with
  | nil => rfl
  | cons r ds ih => rw [List.flatten_cons, pts_app, ih]; rfl
theorem hands_is (ds : Drw) (h : ds.flatten.length ≤ 1000) : F_hands_of [encD ds] = .ok (encP (hnds ds)) := by
  refine Tells.eq ?_
  simp only [F_hands_of, m_hands_of, runD]
  simp -implicitDefEqProofs [encD]
  refine loop_thenF (fun p : Pol => [some (0, .lst (ds.map encR)), some (1, encP p), none, none]) encR (fun p r => pts T3.a T3.c r p) (fun i p => p.length ≤ (ds.take i).flatten.length) ds [] rfl rfl (Nat.le_refl _) ?_ ?_
  · intro i p r hr hp
    have hl : (ds.take (i + 1)).flatten.length = (ds.take i).flatten.length + r.length := by
      rw [List.take_succ, hr]; simp
    have hle : (ds.take (i + 1)).flatten.length ≤ 1000 := by
      have e : ds.flatten = (ds.take (i + 1)).flatten ++ (ds.drop (i + 1)).flatten := by rw [← List.flatten_append, List.take_append_drop]
      have := congrArg List.length e
      rw [List.length_append] at this
      omega
    refine ⟨by have := pts_len (key := T3.a) (val := T3.c) r p; omega, ?_⟩
    refine Tells.eq ?_
    simp -implicitDefEqProofs [encR]
    refine loop_thenF (fun p : Pol => [some (0, .lst (ds.map encR)), some (1, encP p), some (0, .lst (r.map t3)), none]) t3 (fun p x => pt p x.a x.c) (fun j q => q.length ≤ p.length + j) r p rfl rfl (by omega) ?_ ?_
    · intro j q x hx hq
      have hj := (List.getElem?_eq_some_iff.mp hx).1
      refine ⟨by have := pt_len q x.a x.c; omega, ?_⟩
      have e := dSet_K D.int q x.a x.c (sizeLine_lt (by omega))
      rw [← encP_K, ← encP_K] at e
      simp -implicitDefEqProofs [e]
    · intro _
      exact Tells.eqI (by simp -implicitDefEqProofs [pts])
  · intro _
    refine Tells.eqI ?_
    unfold hnds
    rw [pts_flat]
    simp
theorem names_is (ds : Drw) (h : ds.flatten.length ≤ 1000) (h2 : (hnds ds).length < 64) : F_names_of [encD ds] = .ok (.lst ((sortI ((hnds ds).map (·.1))).map D.int)) := by
  have h1 := hands_is ds h
  have h3 := gSortD_K D.int (hnds ds) h2
  have h4 := immAt_K D.int (fun _ => rfl) (hnds ds)
  rw [← encP_K] at h3 h4
  simp only [F_names_of, m_names_of, runD]
  simp -implicitDefEqProofs [h1, h3, h4]
theorem hnds_at (ds : Drw) (n c : Int) (h1 : ∃ x ∈ ds.flatten, x.a = n) (h2 : ∀ x ∈ ds.flatten, x.a = n → x.c = c) : lk (hnds ds) n = some c := pts_in _ _ _ _ h2 (.inl h1)

/-- a crossing: its name, the strings of its passings, its hand -/
structure Crs where
  n : Int
  i : Nat
  j : Nat
  c : Int
structure DI (S : Nat) (ds : Drw) (C : List Crs) : Prop where
  len : ds.length = S
  nd : (C.map (·.n)).Nodup
  bd : ∀ c ∈ C, c.i < S ∧ c.j < S
  mem : ∀ k r, ds[k]? = some r → ∀ x, x ∈ r ↔ ∃ c ∈ C, (x = ⟨c.n, 0, c.c⟩ ∧ k = c.i) ∨ (x = ⟨c.n, 1, c.c⟩ ∧ k = c.j)
  cnt : ∀ r ∈ ds, r.length ≤ 2 * C.length
theorem uniq {C : List Crs} (h : (C.map (·.n)).Nodup) {c d : Crs} (hc : c ∈ C) (hd : d ∈ C) (e : c.n = d.n) : c = d := by
  induction C with
  | nil => cases hc
  | cons x C ih =>
    have h2 := List.nodup_cons.mp h
    rcases List.mem_cons.mp hc with e1 | hc1
    · rcases List.mem_cons.mp hd with e2 | hd1
      · rw [e1, e2]
      · exact absurd (List.mem_map.mpr ⟨d, hd1, by rw [← e, e1]⟩) h2.1
    · rcases List.mem_cons.mp hd with e2 | hd1
      · exact absurd (List.mem_map.mpr ⟨c, hc1, by rw [e, e2]⟩) h2.1
      · exact ih h2.2 hc1 hd1
section
variable {S : Nat} {ds : Drw} {C : List Crs}
theorem DI.all (h : DI S ds C) {x : T3} (hx : x ∈ ds.flatten) : ∃ c ∈ C, x = ⟨c.n, 0, c.c⟩ ∨ x = ⟨c.n, 1, c.c⟩ := by
  obtain ⟨r, hr, hx⟩ := List.mem_flatten.mp hx
  obtain ⟨k, hk⟩ := List.mem_iff_getElem?.mp hr
  obtain ⟨c, hc, e⟩ := (h.mem k r hk x).mp hx
  exact ⟨c, hc, e.imp (·.1) (·.1)⟩
theorem DI.over (h : DI S ds C) {c : Crs} (hc : c ∈ C) : ∃ r, ds[c.i]? = some r ∧ (⟨c.n, 0, c.c⟩ : T3) ∈ r := by
  have := (h.bd c hc).1
  have hl : c.i < ds.length := by rw [h.len]; exact this
  refine ⟨ds[c.i], List.getElem?_eq_getElem hl, ?_⟩
  exact (h.mem _ _ (List.getElem?_eq_getElem hl) _).mpr ⟨c, hc, .inl ⟨rfl, rfl⟩⟩
theorem DI.hand (h : DI S ds C) {c : Crs} (hc : c ∈ C) : lk (hnds ds) c.n = some c.c := by
  refine hnds_at ds c.n c.c ?_ fun x hx e => ?_
  · obtain ⟨r, hr, hm⟩ := h.over hc
    exact ⟨_, List.mem_flatten.mpr ⟨r, List.mem_of_getElem? hr, hm⟩, rfl⟩
  · obtain ⟨d, hd, e2⟩ := h.all hx
    have : d.n = c.n := by rcases e2 with e2 | e2 <;> rw [e2] at e <;> exact e
    have := uniq h.nd hd hc this
    subst this
    rcases e2 with e2 | e2 <;> rw [e2]
theorem DI.keys (h : DI S ds C) : ((hnds ds).map (·.1)).Perm (C.map (·.n)) := by
  have hn : ((hnds ds).map (·.1)).Nodup := by
    unfold hnds
    exact pts_nodup _ (by simp)
  refine (List.perm_ext_iff_of_nodup hn h.nd).mpr fun n => ?_
  unfold hnds
  rw [pts_mem]
  constructor
  · rintro (hx | ⟨x, hx, e⟩)
    · cases hx
    · obtain ⟨c, hc, e2⟩ := h.all hx
      rw [← e]
      rcases e2 with e2 | e2 <;> rw [e2] <;> exact List.mem_map_of_mem (f := (·.n)) hc
  · intro hn
    obtain ⟨c, hc, e⟩ := List.mem_map.mp hn
    obtain ⟨r, hr, hm⟩ := h.over hc
    exact .inr ⟨_, List.mem_flatten.mpr ⟨r, List.mem_of_getElem? hr, hm⟩, e⟩
/-- the crossings by rising names -/
theorem DI.sorted (h : DI S ds C) : ∃ L : List Crs, L.Perm C ∧ sortI ((hnds ds).map (·.1)) = L.map (·.n) := by
  obtain ⟨L, h1, h2⟩ := lift_perm (fun c : Crs => c.n) ((sortI_perm _).trans h.keys)
  exact ⟨L, h1, h2.symm⟩
theorem DI.flat (h : DI S ds C) (hS : S ≤ 3) (hC : C.length ≤ 40) : ds.flatten.length ≤ 1000 := by
  have key : ∀ ds : Drw, (∀ r ∈ ds, r.length ≤ 80) → ds.flatten.length ≤ 80 * ds.length := by
    intro ds
    induction ds with
    | nil => intro _; simp
    | cons r ds ih =>
      intro hr
      have h1 := ih fun r hr' => hr r (List.mem_cons_of_mem _ hr')
      have h2 := hr r List.mem_cons_self
      rw [List.flatten_cons, List.length_append, List.length_cons]; omega
  have := key ds fun r hr => by have := h.cnt r hr; omega
  rw [h.len] at this
  omega
/-- one passing more -/
def ins (ds : Drw) (k p : Nat) (x : T3) : Drw := ds.set k ((ds.getD k []).take p ++ [x] ++ (ds.getD k []).drop p)
theorem ins_len (ds : Drw) (k p : Nat) (x : T3) : (ins ds k p x).length = ds.length := by unfold ins; simp
theorem ins_get (ds : Drw) {k p : Nat} {x : T3} (hk : k < ds.length) {m : Nat} {r : List T3} (hr : (ins ds k p x)[m]? = some r) : ∃ r0, ds[m]? = some r0 ∧ (∀ y, y ∈ r ↔ y ∈ r0 ∨ (m = k ∧ y = x)) ∧ r.length ≤ r0.length + 1 := by
  unfold ins at hr
  by_cases e : m = k
  · subst e
    rw [List.getElem?_set_self hk] at hr
    cases hr
    have e0 : ds.getD m [] = ds[m] := by rw [List.getD_eq_getElem?_getD, List.getElem?_eq_getElem hk]; rfl
    refine ⟨ds[m], List.getElem?_eq_getElem hk, fun y => ?_, ?_⟩
    · rw [e0]
      have : y ∈ ds[m] ↔ y ∈ ds[m].take p ∨ y ∈ ds[m].drop p := by
        rw [← List.mem_append, List.take_append_drop]
      rw [this]
      simp only [List.mem_append, List.mem_singleton, true_and]
      constructor
      · rintro ((h | h) | h)
        · exact .inl (.inl h)
        · exact .inr h
        · exact .inl (.inr h)
      · rintro ((h | h) | h)
        · exact .inl (.inl h)
        · exact .inr h
        · exact .inl (.inr h)
    · rw [e0]; simp; omega
  · rw [List.getElem?_set_ne (Ne.symm e)] at hr
    exact ⟨r, hr, fun y => ⟨.inl, fun h => h.elim id fun h => absurd h.1 e⟩, by omega⟩
theorem DI.more (h : DI S ds C) (c : Crs) (hn : c.n ∉ C.map (·.n)) (hi : c.i < S) (hj : c.j < S) (p q : Nat) : DI S (ins (ins ds c.i p ⟨c.n, 0, c.c⟩) c.j q ⟨c.n, 1, c.c⟩) (C ++ [c]) where
  len := by rw [ins_len, ins_len]; exact h.len
  nd := by
    rw [List.map_append]
    refine List.nodup_append.mpr ⟨h.nd, by simp, fun a ha b hb e => ?_⟩
    rw [e, List.mem_singleton.mp hb] at ha
    exact hn ha
  bd := fun d hd => by
    rcases List.mem_append.mp hd with hd | hd
    · exact h.bd d hd
    · rw [List.mem_singleton.mp hd]; exact ⟨hi, hj⟩
  mem := fun k r hr x => by
    obtain ⟨r1, h1, e1, _⟩ := ins_get _ (by rw [ins_len, h.len]; exact hj) hr
    obtain ⟨r0, h0, e0, _⟩ := ins_get _ (by rw [h.len]; exact hi) h1
    rw [e1, e0, h.mem k r0 h0]
    constructor
    · rintro ((⟨d, hd, e⟩ | ⟨hk, e⟩) | ⟨hk, e⟩)
      · exact ⟨d, List.mem_append_left _ hd, e⟩
      · exact ⟨c, List.mem_append_right _ List.mem_cons_self, .inl ⟨e, hk⟩⟩
      · exact ⟨c, List.mem_append_right _ List.mem_cons_self, .inr ⟨e, hk⟩⟩
    · rintro ⟨d, hd, e⟩
      rcases List.mem_append.mp hd with hd | hd
      · exact .inl (.inl ⟨d, hd, e⟩)
      · rw [List.mem_singleton.mp hd] at e
        rcases e with ⟨e, hk⟩ | ⟨e, hk⟩
        · exact .inl (.inr ⟨hk, e⟩)
        · exact .inr ⟨hk, e⟩
  cnt := fun r hr => by
    obtain ⟨k, hk⟩ := List.mem_iff_getElem?.mp hr
    obtain ⟨r1, h1, _, l1⟩ := ins_get _ (by rw [ins_len, h.len]; exact hj) hk
    obtain ⟨r0, h0, _, l0⟩ := ins_get _ (by rw [h.len]; exact hi) h1
    have := h.cnt r0 (List.mem_of_getElem? h0)
    rw [List.length_append, List.length_singleton]; omega
end

theorem fresh (st u v : Int) (h1 : u < v) (h2 : v < u + 999) : (st + v) % 999 ≠ (st + u) % 999 := by omega
def psg (C : List Crs) : List T3 := C.flatMap fun c => [⟨c.n, 0, c.c⟩, ⟨c.n, 1, c.c⟩]
theorem flat_set {α : Type} {ds : List (List α)} {k : Nat} {r r2 : List α} {x : α} (h : ds[k]? = some r) (hp : r2.Perm (x :: r)) : (ds.set k r2).flatten.Perm (x :: ds.flatten) := by
  induction ds generalizing k with
  | nil => cases h
  | cons d ds ih =>
    cases k with
    | zero =>
      cases h
      rw [List.set_cons_zero, List.flatten_cons, List.flatten_cons]
      exact hp.append_right _
    | succ k =>
      rw [List.set_cons_succ, List.flatten_cons, List.flatten_cons]
      exact ((ih (by simpa using h)).append_left d).trans List.perm_middle
theorem ins_flat {ds : Drw} {k : Nat} (hk : k < ds.length) (p : Nat) (x : T3) : (ins ds k p x).flatten.Perm (x :: ds.flatten) := by
  unfold ins
  have e0 : ds.getD k [] = ds[k] := by rw [List.getD_eq_getElem?_getD, List.getElem?_eq_getElem hk]; rfl
  rw [e0]
  refine flat_set (List.getElem?_eq_getElem hk) ?_
  rw [List.append_assoc]
  refine List.perm_middle.trans ?_
  show (x :: (ds[k].take p ++ ds[k].drop p)).Perm _
  rw [List.take_append_drop]
theorem psg_snoc (C : List Crs) (c : Crs) : psg (C ++ [c]) = psg C ++ [⟨c.n, 0, c.c⟩, ⟨c.n, 1, c.c⟩] := by
  unfold psg; rw [List.flatMap_append]; rfl
structure MI (S : Nat) (st : Int) (i : Nat) (s : Drw × List Crs × Int × Int) : Prop where
  di : DI S s.1 s.2.1
  len : s.2.1.length = i
  nm : s.2.2.1 = (st + s.2.2.2) % 999
  up : 0 ≤ s.2.2.2 ∧ s.2.2.2 ≤ 83 * i
  pm : s.1.flatten.Perm (psg s.2.1)
  hd : ∀ c ∈ s.2.1, c.c = 1 ∨ c.c = -1
  nms : ∀ c ∈ s.2.1, ∃ u, c.n = (st + u) % 999 + 1 ∧ 1 ≤ u ∧ u ≤ s.2.2.2
/-! who comes behind whom -/
def ky (x : T3) : Int × Int := (x.a, x.b)
theorem flat_pos {α : Type} : ∀ {ds : List (List α)}, ds.flatten.Nodup → ∀ {i j k l : Nat} {r r' : List α} {x : α}, ds[i]? = some r → r[k]? = some x → ds[j]? = some r' → r'[l]? = some x → i = j ∧ k = l
  | [], _, i, j, k, l, r, r', x, h1, _, _, _ => by cases h1
  | d :: ds, hn, i, j, k, l, r, r', x, h1, h2, h3, h4 => by
    rw [List.flatten_cons, List.nodup_append] at hn
    obtain ⟨n1, n2, n3⟩ := hn
    cases i with
    | zero =>
      cases h1
      cases j with
      | zero =>
        cases h3
        refine ⟨rfl, ?_⟩
        obtain ⟨hk, ek⟩ := List.getElem?_eq_some_iff.mp h2
        obtain ⟨hl, el⟩ := List.getElem?_eq_some_iff.mp h4
        rcases Nat.lt_trichotomy k l with h | h | h
        · exact absurd (ek.trans el.symm) (List.pairwise_iff_getElem.mp n1 k l hk hl h)
        · exact h
        · exact absurd (el.trans ek.symm) (List.pairwise_iff_getElem.mp n1 l k hl hk h)
      | succ j =>
        have m1 := List.mem_of_getElem? h2
        have m2 : x ∈ ds.flatten := List.mem_flatten.mpr ⟨r', List.mem_of_getElem? (by simpa using h3), List.mem_of_getElem? h4⟩
        exact absurd rfl (n3 x m1 x m2)
    | succ i =>
      cases j with
      | zero =>
        cases h3
        have m1 := List.mem_of_getElem? h4
        have m2 : x ∈ ds.flatten := List.mem_flatten.mpr ⟨r, List.mem_of_getElem? (by simpa using h1), List.mem_of_getElem? h2⟩
        exact absurd rfl (n3 x m1 x m2)
      | succ j =>
        obtain ⟨e1, e2⟩ := flat_pos n2 (by simpa using h1) h2 (by simpa using h3) h4
        exact ⟨by omega, e2⟩
/-- x is right ahead of y -/
def Rl (ds : Drw) (x y : T3) : Prop := ∃ (i : Nat) (r : List T3) (k : Nat), ds[i]? = some r ∧ r[k]? = some x ∧ r[(k + 1) % r.length]? = some y
abbrev UK (ds : Drw) : Prop := (ds.flatten.map ky).Nodup
theorem uk_pos {ds : Drw} (h : UK ds) {i j k l : Nat} {r r' : List T3} {x y : T3} (h1 : ds[i]? = some r) (h2 : r[k]? = some x) (h3 : ds[j]? = some r') (h4 : r'[l]? = some y) (e : ky x = ky y) : i = j ∧ k = l := by
  have hn : (ds.map (·.map ky)).flatten.Nodup := by rw [← List.map_flatten]; exact h
  exact flat_pos hn (i := i) (j := j) (k := k) (l := l) (r := r.map ky) (r' := r'.map ky) (x := ky x) (by rw [List.getElem?_map, h1]; rfl) (by rw [List.getElem?_map, h2]; rfl) (by rw [List.getElem?_map, h3]; rfl) (by rw [List.getElem?_map, h4, e]; rfl)
theorem succ_inj {n k l : Nat} (hk : k < n) (hl : l < n) (e : (k + 1) % n = (l + 1) % n) : k = l := by
  by_cases h1 : k + 1 = n <;> by_cases h2 : l + 1 = n
  · omega
  · rw [h1, Nat.mod_self, Nat.mod_eq_of_lt (by omega)] at e; omega
  · rw [h2, Nat.mod_self, Nat.mod_eq_of_lt (by omega)] at e; omega
  · rw [Nat.mod_eq_of_lt (by omega), Nat.mod_eq_of_lt (by omega)] at e; omega
section
variable {ds : Drw}
theorem Rl.left {x y : T3} (h : Rl ds x y) : x ∈ ds.flatten := by
  obtain ⟨i, r, k, h1, h2, _⟩ := h
  exact List.mem_flatten.mpr ⟨r, List.mem_of_getElem? h1, List.mem_of_getElem? h2⟩
theorem Rl.right {x y : T3} (h : Rl ds x y) : y ∈ ds.flatten := by
  obtain ⟨i, r, k, h1, _, h3⟩ := h
  exact List.mem_flatten.mpr ⟨r, List.mem_of_getElem? h1, List.mem_of_getElem? h3⟩
theorem Rl.fn (hu : UK ds) {x y x' y' : T3} (h : Rl ds x y) (h' : Rl ds x' y') (e : ky x = ky x') : y = y' := by
  obtain ⟨i, r, k, h1, h2, h3⟩ := h
  obtain ⟨j, r', l, g1, g2, g3⟩ := h'
  obtain ⟨rfl, rfl⟩ := uk_pos hu h1 h2 g1 g2 e
  rw [h1] at g1; cases g1
  rw [h3] at g3; cases g3; rfl
theorem Rl.inj (hu : UK ds) {x y x' y' : T3} (h : Rl ds x y) (h' : Rl ds x' y') (e : ky y = ky y') : x = x' := by
  obtain ⟨i, r, k, h1, h2, h3⟩ := h
  obtain ⟨j, r', l, g1, g2, g3⟩ := h'
  obtain ⟨rfl, e2⟩ := uk_pos hu h1 h3 g1 g3 e
  rw [h1] at g1; cases g1
  have hk := (List.getElem?_eq_some_iff.mp h2).1
  have hl := (List.getElem?_eq_some_iff.mp g2).1
  have := succ_inj hk hl e2
  subst this
  rw [h2] at g2; cases g2; rfl
theorem Rl.next {x : T3} (h : x ∈ ds.flatten) : ∃ y, Rl ds x y := by
  obtain ⟨r, hr, hx⟩ := List.mem_flatten.mp h
  obtain ⟨i, hi⟩ := List.mem_iff_getElem?.mp hr
  obtain ⟨k, hk⟩ := List.mem_iff_getElem?.mp hx
  have hl := (List.getElem?_eq_some_iff.mp hk).1
  have h2 : (k + 1) % r.length < r.length := Nat.mod_lt _ (by omega)
  exact ⟨_, i, r, k, hi, hk, List.getElem?_eq_getElem h2⟩
end
def T0 : T3 := ⟨0, 0, 0⟩
/-! drawings whose passings are all unlike -/
structure WD (S : Nat) (ds : Drw) (C : List Crs) : Prop where
  di : DI S ds C
  pm : ds.flatten.Perm (psg C)
  hd : ∀ c ∈ C, c.c = 1 ∨ c.c = -1
section
variable {S : Nat} {ds : Drw} {C : List Crs}
theorem WD.mem (h : WD S ds C) {x : T3} : x ∈ ds.flatten ↔ ∃ c ∈ C, x = ⟨c.n, 0, c.c⟩ ∨ x = ⟨c.n, 1, c.c⟩ := by
  rw [h.pm.mem_iff]
  unfold psg
  simp only [List.mem_flatMap, List.mem_cons, List.not_mem_nil, or_false]
theorem psg_len (C : List Crs) : (psg C).length = 2 * C.length := by
  induction C with
  | nil => rfl
  | cons c C ih =>
    show (_ :: _ :: psg C).length = _
    rw [List.length_cons, List.length_cons, ih, List.length_cons]; omega
theorem WD.len (h : WD S ds C) : ds.flatten.length = 2 * C.length := by rw [h.pm.length_eq, psg_len]
/-! the spots -/
end

section
def seat : List T3 → List T3
  | [] => []
  | r :: rs => (r :: rs).drop ((r :: rs).idxOf (minOf r rs)) ++ (r :: rs).take ((r :: rs).idxOf (minOf r rs))
theorem seat_len (R : List T3) : (seat R).length = R.length := by
  cases R with
  | nil => rfl
  | cons r rs =>
    unfold seat
    rw [List.length_append, List.length_drop, List.length_take]
    omega
theorem seated_is (R : List T3) (h : R.length ≤ 1000000) : F_seated [encR R] = .ok (encR (seat R)) := by
  cases R with
  | nil =>
    simp only [F_seated, m_seated, runD, encR]
    simp -implicitDefEqProofs
    rfl
  | cons r rs =>
    have h1 : gMin (.lst ((r :: rs).map t3)) = .ok (t3 (minOf r rs)) := gMin_enc r rs (by decide) fun _ => rfl
    have h2 : gIndex (.lst ((r :: rs).map t3)) (t3 (minOf r rs)) = _ := gIndex_enc (minOf r rs) (r :: rs) (by decide) (minOf_mem r rs)
    have h3 : (r :: rs).idxOf (minOf r rs) < (r :: rs).length := List.idxOf_lt_length_iff.mpr (minOf_mem r rs)
    have h0 : gTru (.lst ((r :: rs).map t3)) = .ok true := rfl
    simp only [F_seated, m_seated, runD, seat, encR]
    generalize r :: rs = R at *
    generalize R.idxOf (minOf r rs) = j at *
    have h4 := cutD_from t3 R j (by omega)
    have h5 := cutD_to t3 R j (by omega)
    have h6 : ((R.map t3).drop j).length + ((R.map t3).take j).length ≤ sizeLine := sizeLine_big (by simp; omega)
    simp -implicitDefEqProofs [h0, h1, h2, mCat, h4, h5, -List.length_drop, -List.length_take, h6]
end

/-! ### the law's own seating; rows turned -/
theorem split_uni {α : Type} {m : α} : ∀ {u v u' v' : List α}, u ++ m :: v = u' ++ m :: v' → m ∉ u → m ∉ u' → u = u' ∧ v = v'
  | [], v, [], v', h, _, _ => by
    simp at h
    exact ⟨rfl, h⟩
  | [], v, y :: u', v', h, _, h2 => by
    simp at h
    exact absurd (by rw [h.1]; exact List.mem_cons_self) h2
  | x :: u, v, [], v', h, h1, _ => by
    simp at h
    exact absurd (by rw [h.1]; exact List.mem_cons_self) h1
  | x :: u, v, y :: u', v', h, h1, h2 => by
    rw [List.cons_append, List.cons_append, List.cons.injEq] at h
    obtain ⟨a, b⟩ := split_uni h.2 (fun z => h1 (List.mem_cons_of_mem _ z)) (fun z => h2 (List.mem_cons_of_mem _ z))
    rw [h.1, a, b]
    exact ⟨rfl, rfl⟩
def Rot {α : Type} (a b : List α) : Prop := ∃ u v, a = u ++ v ∧ b = v ++ u
/-- turned to begin with m -/
theorem rot_at {α : Type} {a b : List α} (h : Rot a b) (nd : a.Nodup) {m : α} {u v u' v' : List α} (ha : a = u ++ m :: v) (hb : b = u' ++ m :: v') : v' ++ u' = v ++ u := by
  obtain ⟨p, q, e1, e2⟩ := h
  have ndu : m ∉ u := fun z => by
    rw [ha] at nd
    exact (List.nodup_append.mp nd).2.2 m z m List.mem_cons_self rfl
  have nb : b.Nodup := by
    rw [e2]
    rw [e1] at nd
    exact List.perm_append_comm.nodup_iff.mp nd
  have ndu' : m ∉ u' := fun z => by
    rw [hb] at nb
    exact (List.nodup_append.mp nb).2.2 m z m List.mem_cons_self rfl
  have hm : m ∈ p ++ q := by rw [← e1, ha]; simp
  have mp_q : m ∈ p → m ∉ q := fun h1 h2 => by
    rw [e1] at nd
    exact (List.nodup_append.mp nd).2.2 m h1 m h2 rfl
  rcases List.mem_append.mp hm with hp | hq
  · obtain ⟨p1, p2, ep⟩ := List.append_of_mem hp
    have hp1 : m ∉ p1 := fun z => by
      rw [e1, ep, List.append_assoc] at nd
      exact (List.nodup_append.mp nd).2.2 m z m (by simp) rfl
    have s1 : u ++ m :: v = p1 ++ m :: (p2 ++ q) := by rw [← ha, e1, ep]; simp
    have s2 : u' ++ m :: v' = (q ++ p1) ++ m :: p2 := by rw [← hb, e2, ep]; simp
    obtain ⟨a1, a2⟩ := split_uni s1 ndu hp1
    obtain ⟨b1, b2⟩ := split_uni s2 ndu' (fun z => (List.mem_append.mp z).elim (mp_q hp) hp1)
    rw [a1, a2, b1, b2]; simp
  · obtain ⟨q1, q2, eq⟩ := List.append_of_mem hq
    have hq1 : m ∉ q1 := fun z => by
      rw [e1, eq] at nd
      have := (List.nodup_append.mp nd).2.1
      exact (List.nodup_append.mp this).2.2 m z m (by simp) rfl
    have s1 : u ++ m :: v = (p ++ q1) ++ m :: q2 := by rw [← ha, e1, eq]; simp
    have s2 : u' ++ m :: v' = q1 ++ m :: (q2 ++ p) := by rw [← hb, e2, eq]; simp
    obtain ⟨a1, a2⟩ := split_uni s1 ndu (fun z => (List.mem_append.mp z).elim (fun y => mp_q y hq) hq1)
    obtain ⟨b1, b2⟩ := split_uni s2 ndu' hq1
    rw [a1, a2, b1, b2]; simp
theorem Rot.map {α β : Type} (g : α → β) {a b : List α} (h : Rot a b) : Rot (a.map g) (b.map g) := by
  obtain ⟨u, v, rfl, rfl⟩ := h
  exact ⟨u.map g, v.map g, by simp, by simp⟩
theorem seat_rot (R : List T3) : Rot R (seat R) := by
  cases R with
  | nil => exact ⟨[], [], rfl, rfl⟩
  | cons r rs => exact ⟨_, _, (List.take_append_drop _ _).symm, rfl⟩
/-- the passing that a row begins with -/
theorem seat_first {R : List T3} (hR : R ≠ []) : ∃ m u v, R = u ++ m :: v ∧ seat R = m :: v ++ u ∧ ∀ y ∈ R, Dat.lt y m = false := by
  cases R with
  | nil => exact absurd rfl hR
  | cons r rs =>
    have hm := minOf_mem r rs
    have hj := List.idxOf_lt_length_iff.mpr hm
    refine ⟨minOf r rs, (r :: rs).take ((r :: rs).idxOf (minOf r rs)), (r :: rs).drop ((r :: rs).idxOf (minOf r rs) + 1), ?_, ?_, fun y hy => minOf_le r rs y hy⟩
    · have := List.drop_eq_getElem_cons hj
      rw [List.getElem_idxOf hj] at this
      conv => lhs; rw [← List.take_append_drop ((r :: rs).idxOf (minOf r rs)) (r :: rs), this]
    · have := List.drop_eq_getElem_cons hj
      rw [List.getElem_idxOf hj] at this
      show (r :: rs).drop _ ++ (r :: rs).take _ = _
      rw [this]
theorem ky_lt {x y : T3} (h : x.a < y.a ∨ (x.a = y.a ∧ x.b < y.b)) : Dat.lt x y = true := by
  show T3.lt x y = true
  unfold T3.lt
  refine decide_eq_true ?_
  rcases h with h | ⟨h1, h2⟩
  · exact .inl h
  · exact .inr ⟨h1, .inl h2⟩
def kl (x y : T3) : Prop := x.a < y.a ∨ (x.a = y.a ∧ x.b < y.b)
instance (x y : T3) : Decidable (kl x y) := by unfold kl; infer_instance
theorem gLt_ky (x y : T3) : gLt (.tup [.int x.a, .int x.b]) (.tup [.int y.a, .int y.b]) = .ok (.bl (decide (kl x y))) := by
  have h := gLt_enc (α := Int × Int) (x.a, x.b) (y.a, y.b) (by decide)
  rw [show (Dat.enc ((x.a, x.b) : Int × Int) : D) = .tup [.int x.a, .int x.b] from rfl, show (Dat.enc ((y.a, y.b) : Int × Int) : D) = .tup [.int y.a, .int y.b] from rfl] at h
  rw [h]
  congr 2
  show (if x.a = y.a then Dat.lt x.b y.b else Dat.lt x.a y.a) = _
  have e : ∀ i j : Int, Dat.lt i j = decide (i < j) := fun _ _ => rfl
  rw [e, e]
  unfold kl
  by_cases h : x.a = y.a
  · rw [if_pos h]
    refine decide_eq_decide.mpr ⟨fun z => .inr ⟨h, z⟩, fun z => by omega⟩
  · rw [if_neg h]
    refine decide_eq_decide.mpr ⟨fun z => .inl z, fun z => by omega⟩
/-- a row turned is seated alike -/
theorem seat_turn {R R' : List T3} (h : Rot R R') (nd : (R.map ky).Nodup) : seat R' = seat R := by
  have pm : R.Perm R' := by
    obtain ⟨a, b, rfl, rfl⟩ := h
    exact List.perm_append_comm
  by_cases hR : R = []
  · subst hR
    have := pm.length_eq
    have : R' = [] := List.length_eq_zero_iff.mp this.symm
    rw [this]
  have hR' : R' ≠ [] := fun e => by
    rw [e] at pm
    exact hR (List.length_eq_zero_iff.mp pm.length_eq)
  obtain ⟨m, u, v, e1, e2, e3⟩ := seat_first hR
  obtain ⟨m', u', v', f1, f2, f3⟩ := seat_first hR'
  have hmm : m' = m := by
    have a1 := e3 m' (pm.mem_iff.mpr (by rw [f1]; simp))
    have a2 := f3 m (pm.mem_iff.mp (by rw [e1]; simp))
    have k1 : ¬ kl m' m := fun h => by rw [ky_lt h] at a1; cases a1
    have k2 : ¬ kl m m' := fun h => by rw [ky_lt h] at a2; cases a2
    have hk : ky m' = ky m := by
      unfold kl at k1 k2
      exact Prod.ext (show m'.a = m.a by omega) (show m'.b = m.b by omega)
    have h1 : m' ∈ R := pm.mem_iff.mpr (by rw [f1]; simp)
    have h2 : m ∈ R := by rw [e1]; simp
    obtain ⟨i, hi⟩ := List.mem_iff_getElem?.mp h1
    obtain ⟨j, hj⟩ := List.mem_iff_getElem?.mp h2
    have b1 : (R.map ky)[i]? = some (ky m) := by rw [List.getElem?_map, hi, ← hk]; rfl
    have b2 : (R.map ky)[j]? = some (ky m) := by rw [List.getElem?_map, hj]; rfl
    have := (List.getElem?_inj (by rw [List.length_map]; exact (List.getElem?_eq_some_iff.mp hi).1) nd).mp (b1.trans b2.symm)
    rw [this, hj] at hi
    exact (Option.some.inj hi).symm
  subst hmm
  have ndR : R.Nodup := (List.pairwise_map.mp nd).imp fun h e => h (by rw [e])
  have := rot_at h ndR e1 f1
  rw [e2, f2, List.cons_append, List.cons_append, this]

/-! ### settling: the plain law -/
def rn (P : List (Int × Int)) (x : T3) : T3 := ⟨(lk P x.a).getD 0, x.b, x.c⟩
def metS (P : List (Int × Int)) (x : T3) : List (Int × Int) := if (lk P x.a).isSome = true then P else P ++ [(x.a, (P.length : Int) + 1)]
def met (R : List T3) : List (Int × Int) := R.foldl metS []
def rotA (r : List T3) (a : Nat) : List T3 := r.drop a ++ r.take a
def begS (F : List (List Nat)) (r : List T3) : List (List Nat) := F.flatMap fun one => (List.range (max 1 r.length)).map fun a => one ++ [a]
def begs (ds : Drw) : List (List Nat) := ds.foldl begS [[]]
def chsS (F : List Drw) (r : List T3) : List Drw := F.flatMap fun one => (List.range (max 1 r.length)).map fun a => one ++ [rotA r a]
def chs (ds : Drw) : List Drw := ds.foldl chsS [[]]
def turn (ds : Drw) (st : List Nat) : Drw := List.zipWith rotA ds st
theorem turn_snoc {ds : Drw} {st : List Nat} (h : st.length = ds.length) (r : List T3) (a : Nat) : turn (ds ++ [r]) (st ++ [a]) = turn ds st ++ [rotA r a] := by
  unfold turn
  rw [List.zipWith_append h.symm]; rfl
theorem chs_gen : ∀ (ds dn : Drw) (F : List (List Nat)), (∀ st ∈ F, st.length = dn.length) → ds.foldl chsS (F.map (turn dn)) = (ds.foldl begS F).map (turn (dn ++ ds)) ∧ ∀ st ∈ ds.foldl begS F, st.length = (dn ++ ds).length
  | [], dn, F, h => by rw [List.append_nil]; exact ⟨rfl, h⟩
  | r :: ds, dn, F, h => by
    have e : chsS (F.map (turn dn)) r = (begS F r).map (turn (dn ++ [r])) := by
      unfold chsS begS
      rw [List.flatMap_map, List.map_flatMap]
      clear chs_gen
      induction F with
      | nil => rfl
      | cons st F ih =>
        rw [List.flatMap_cons, List.flatMap_cons, ih fun s hs => h s (List.mem_cons_of_mem _ hs)]
        congr 1
        rw [List.map_map]
        refine List.map_congr_left fun a _ => ?_
        exact (turn_snoc (h st List.mem_cons_self) r a).symm
    have hl : ∀ st ∈ begS F r, st.length = (dn ++ [r]).length := fun st hst => by
      obtain ⟨one, h1, h2⟩ := List.mem_flatMap.mp hst
      obtain ⟨a, _, rfl⟩ := List.mem_map.mp h2
      rw [List.length_append, List.length_append, h one h1]; rfl
    have ih := chs_gen ds (dn ++ [r]) (begS F r) hl
    rw [List.append_assoc] at ih
    rw [List.foldl_cons, List.foldl_cons, e]
    exact ih
theorem chs_begs (ds : Drw) : chs ds = (begs ds).map (turn ds) ∧ ∀ st ∈ begs ds, st.length = ds.length := by
  have := chs_gen ds [] [[]] (fun st h => by rw [List.mem_singleton.mp h]; rfl)
  exact this
theorem turn_rot : ∀ {ds : Drw} {st : List Nat}, st.length = ds.length → ∀ (i : Nat) (r : List T3), ds[i]? = some r → ∃ a, (turn ds st)[i]? = some (rotA r a)
  | [], _, _, i, r, h => by simp at h
  | d :: ds, [], h, i, r, _ => by simp at h
  | d :: ds, a :: st, h, 0, r, hr => by
    have : d = r := by simpa using hr
    subst this
    exact ⟨a, rfl⟩
  | d :: ds, a :: st, h, i + 1, r, hr => by
    obtain ⟨b, hb⟩ := turn_rot (ds := ds) (st := st) (by simpa using h) i r (by simpa using hr)
    exact ⟨b, by simpa [turn] using hb⟩
theorem rotA_rot (r : List T3) (a : Nat) : Rot r (rotA r a) := ⟨r.take a, r.drop a, (List.take_append_drop a r).symm, rfl⟩
/-- names as met: all crossings have one, no two the same -/
structure MetOk (R : List T3) (P : List (Int × Int)) : Prop where
  nd : (P.map (·.1)).Nodup
  ks : ∀ z, z ∈ P.map (·.1) ↔ ∃ x ∈ R, x.a = z
  vs : P.map (·.2) = (List.range P.length).map fun i : Nat => (i : Int) + 1
theorem metS_ok {R : List T3} {P : List (Int × Int)} (h : MetOk R P) (x : T3) : MetOk (R ++ [x]) (metS P x) := by
  unfold metS
  by_cases e : (lk P x.a).isSome = true
  · rw [if_pos e]
    have hx : x.a ∈ P.map (·.1) := by
      unfold lk at e
      rw [Option.isSome_map, List.find?_isSome] at e
      obtain ⟨y, hy, h2⟩ := e
      exact List.mem_map.mpr ⟨y, hy, of_decide_eq_true h2⟩
    refine ⟨h.nd, fun z => ?_, h.vs⟩
    rw [h.ks]
    constructor
    · rintro ⟨y, hy, rfl⟩; exact ⟨y, List.mem_append_left _ hy, rfl⟩
    · rintro ⟨y, hy, rfl⟩
      rcases List.mem_append.mp hy with hy | hy
      · exact ⟨y, hy, rfl⟩
      · rw [List.mem_singleton.mp hy]
        exact (h.ks _).mp hx
  · rw [if_neg e]
    have hx : x.a ∉ P.map (·.1) := fun hx => by
      obtain ⟨y, hy, h2⟩ := List.mem_map.mp hx
      apply e
      unfold lk
      rw [Option.isSome_map, List.find?_isSome]
      exact ⟨y, hy, decide_eq_true h2⟩
    refine ⟨?_, fun z => ?_, ?_⟩
    · rw [List.map_append]
      refine List.nodup_append.mpr ⟨h.nd, by simp, fun a ha b hb e2 => ?_⟩
      rw [List.mem_singleton.mp hb] at e2
      exact hx (by rw [e2] at ha; exact ha)
    · rw [List.map_append, List.mem_append, h.ks]
      constructor
      · rintro (⟨y, hy, rfl⟩ | hz)
        · exact ⟨y, List.mem_append_left _ hy, rfl⟩
        · rw [List.mem_singleton.mp hz]; exact ⟨x, by simp, rfl⟩
      · rintro ⟨y, hy, rfl⟩
        rcases List.mem_append.mp hy with hy | hy
        · exact .inl ⟨y, hy, rfl⟩
        · rw [List.mem_singleton.mp hy]; exact .inr (by simp)
    · rw [List.map_append, h.vs, List.length_append, List.length_singleton, List.range_succ, List.map_append]; rfl
theorem met_ok (R : List T3) : MetOk R (met R) := by
  have : ∀ (Q R : List T3) (P : List (Int × Int)), MetOk R P → MetOk (R ++ Q) (Q.foldl metS P) := fun Q => by
    induction Q with
    | nil => intro R P h; rw [List.append_nil]; exact h
    | cons x Q ih =>
      intro R P h
      have := ih (R ++ [x]) (metS P x) (metS_ok h x)
      rw [List.append_assoc] at this
      exact this
  exact this R [] [] ⟨List.nodup_nil, fun z => by simp, rfl⟩
theorem met_inj {R : List T3} {P : List (Int × Int)} (h : MetOk R P) {x y : T3} (hx : x ∈ R) (hy : y ∈ R) (e : (lk P x.a).getD 0 = (lk P y.a).getD 0) : x.a = y.a := by
  have hv : (P.map (·.2)).Nodup := by
    rw [h.vs]
    exact List.nodup_range.map _ fun a b hab e => hab (by omega)
  obtain ⟨u, hu, hua⟩ := List.mem_map.mp ((h.ks x.a).mpr ⟨x, hx, rfl⟩)
  obtain ⟨w, hw, hwa⟩ := List.mem_map.mp ((h.ks y.a).mpr ⟨y, hy, rfl⟩)
  have e1 : lk P x.a = some u.2 := by
    rw [← hua]; exact lk_mem h.nd hu
  have e2 : lk P y.a = some w.2 := by
    rw [← hwa]; exact lk_mem h.nd hw
  rw [e1, e2] at e
  have e : u.2 = w.2 := e
  obtain ⟨i, hi, rfl⟩ := List.mem_iff_getElem.mp hu
  obtain ⟨j, hj, rfl⟩ := List.mem_iff_getElem.mp hw
  have : i = j := by
    have hi' : i < (P.map (·.2)).length := by rw [List.length_map]; exact hi
    have hj' : j < (P.map (·.2)).length := by rw [List.length_map]; exact hj
    refine (List.getElem_inj (xs := P.map (·.2)) (h₀ := hi') (h₁ := hj') hv).mp ?_
    rw [List.getElem_map, List.getElem_map]; exact e
  subst this
  rw [← hua, ← hwa]
def stl (ds : Drw) (st : List Nat) : List (Int × Int) × Drw := (met (turn ds st).flatten, ds.map fun r => seat (r.map (rn (met (turn ds st).flatten))))

/-! ### settling: walks -/
theorem app_loop {α β : Type} {t : Nat → D → Mir.Env → Res Mir.Env} {body : Mir.Env → Res Ctl} {fg : List Nat} (mk : List β → Mir.Env) (enc : α → D) (g : α → List β) (c B : Nat) : ∀ (xs : List α), (∀ a ∈ xs, (g a).length ≤ c) → (∀ a ∈ xs, ∀ acc, acc.length + c ≤ B → (t 0 (enc a) (mk acc) >>= fun e => body e >>= stepc fg) = .ok (mk (acc ++ g a))) → ∀ acc, acc.length + xs.length * c ≤ B → loop t body fg (xs.map enc) (mk acc) = .ok (.nx (mk (acc ++ xs.flatMap g)))
  | [], _, _, acc, _ => by rw [List.flatMap_nil, List.append_nil]; rfl
  | x :: xs, hc, hs, acc, h => by
    rw [List.length_cons, Nat.add_mul, Nat.one_mul] at h
    have h1 := hc x List.mem_cons_self
    have ih := app_loop (t := t) (body := body) (fg := fg) mk enc g c B xs (fun a ha => hc a (List.mem_cons_of_mem _ ha)) (fun a ha => hs a (List.mem_cons_of_mem _ ha)) (acc ++ g x) (by rw [List.length_append]; omega)
    rw [List.map_cons, loop_step (hs x List.mem_cons_self acc (by omega)), ih, List.flatMap_cons, List.append_assoc]
abbrev encN (st : List Nat) : D := .lst (st.map fun a : Nat => D.int a)
theorem max_is (m : Nat) : gMax2 (.int 1) (.int (m : Nat)) = .ok (.int ((max 1 m : Nat) : Int)) := by
  show Res.ok (D.int (if (m : Int) > 1 then (m : Int) else 1)) = _
  by_cases e : (m : Int) > 1
  · rw [if_pos e]
    congr 2; omega
  · rw [if_neg e]
    congr 2; omega
theorem flat_one {α β : Type} (f : α → β) : ∀ l : List α, (l.flatMap fun a => [f a]) = l.map f
  | [] => rfl
  | x :: l => by rw [List.flatMap_cons, flat_one f l]; rfl
theorem begS_len (F : List (List Nat)) (r : List T3) : (begS F r).length = F.length * max 1 r.length := by
  unfold begS
  rw [List.length_flatMap]
  have : F.map (fun one : List Nat => ((List.range (max 1 r.length)).map fun a => one ++ [a]).length) = F.map fun _ => max 1 r.length := List.map_congr_left fun o _ => by rw [List.length_map, List.length_range]
  rw [this]
  induction F with
  | nil => simp
  | cons x F ih => rw [List.map_cons, List.sum_cons, ih (List.map_congr_left fun o _ => by rw [List.length_map, List.length_range]), List.length_cons, Nat.add_mul]; omega
theorem chsS_len (F : List Drw) (r : List T3) : (chsS F r).length = F.length * max 1 r.length := by
  unfold chsS
  rw [List.length_flatMap]
  have : F.map (fun one : Drw => ((List.range (max 1 r.length)).map fun a => one ++ [rotA r a]).length) = F.map fun _ => max 1 r.length := List.map_congr_left fun o _ => by rw [List.length_map, List.length_range]
  rw [this]
  induction F with
  | nil => simp
  | cons x F ih => rw [List.map_cons, List.sum_cons, ih (List.map_congr_left fun o _ => by rw [List.length_map, List.length_range]), List.length_cons, Nat.add_mul]; omega
theorem pow_le3 {i : Nat} (h : i ≤ 3) : 30 ^ i ≤ 27000 := Nat.pow_le_pow_right (by decide) h
theorem beg_is (ds : Drw) (hd : ds.length ≤ 3) (hr : ∀ r ∈ ds, r.length ≤ 30) : F_beginnings [encD ds] = .ok (.lst ((begs ds).map encN)) := by
  refine Tells.eq ?_
  simp only [F_beginnings, m_beginnings, runD]
  have hz1 : 1 ≤ sizeLine := sizeLine_big (by omega)
  simp -implicitDefEqProofs [hz1]
  refine loop_then (fun s : List (List Nat) => [some (0, encD ds), some (1, .lst (s.map encN)), none, none, none, none]) encR (fun i s => s = (ds.take i).foldl begS [[]] ∧ s.length ≤ 30 ^ i ∧ ∀ st ∈ s, st.length = i) ds [[]] rfl rfl ⟨rfl, by simp, fun st h => by rw [List.mem_singleton.mp h]; rfl⟩ ?_ ?_
  · rintro i s r hi ⟨hs1, hs2, hs3⟩
    have hil := (List.getElem?_eq_some_iff.mp hi).1
    have hrl := hr r (List.mem_of_getElem? hi)
    have hp := pow_le3 (i := i) (by omega)
    have hmax : max 1 r.length ≤ 30 := by omega
    refine ⟨begS s r, ⟨by rw [List.take_succ, hi, List.foldl_append, ← hs1]; rfl, ?_, fun st hst => ?_⟩, ?_⟩
    · rw [begS_len, Nat.pow_succ]
      exact Nat.mul_le_mul hs2 hmax
    · obtain ⟨one, h1, h2⟩ := List.mem_flatMap.mp hst
      obtain ⟨a, _, rfl⟩ := List.mem_map.mp h2
      rw [List.length_append, hs3 one h1]; rfl
    generalize hA : encD ds = A
    have hg := gRng1_d (n := max 1 r.length) (by omega)
    have gl : gLen (encR r) = .ok (.int (r.length : Nat)) := by
      show Res.ok (D.int ((((r.map t3).length : Nat)) : Int)) = _
      rw [List.length_map]
    have hmx := max_is r.length
    have hin := fun (FD : List D) (one : List Nat) (ho : one.length ≤ 10) => app_loop (t := tName 5) (body := mAppend 3 0 [] (mCat (fun env => (mVar 4) env >>= fun d => itemsL d >>= immL) (fun env => (mLst (mConsA (mVar 5) mNilA)) env >>= fun d => itemsL d >>= immL))) (fg := [5]) (fun acc : List (List Nat) => [some (0, A), some (0, .lst FD), some (0, encR r), some (1, .lst (acc.map encN)), some (0, encN one), none]) (fun a : Nat => D.int a) (fun a => [one ++ [a]]) 1 2000000 (List.range (max 1 r.length)) (fun a _ => Nat.le_refl _) (fun a _ acc hacc => by
      have iv : immAll (one.map fun a : Nat => D.int a) = true := by simp
      have z1 : one.length + 1 ≤ sizeLine := sizeLine_big (by omega)
      have z2 : acc.length < sizeLine := sizeLine_lt (by omega)
      simp -implicitDefEqProofs [mCat, immL, iv, z1, z2, hz1])
    have hmid := fun (FD : List D) => app_loop (t := tName 4) (body := mFor (fun env => (mOp gMax2 (mC (.int 1)) (mUn gLen (mVar 2))) env >>= gRng1) (tName 5) (mAppend 3 0 [] (mCat (fun env => (mVar 4) env >>= fun d => itemsL d >>= immL) (fun env => (mLst (mConsA (mVar 5) mNilA)) env >>= fun d => itemsL d >>= immL))) [5]) (fg := [4, 5]) (fun acc : List (List Nat) => [some (0, A), some (0, .lst FD), some (0, encR r), some (1, .lst (acc.map encN)), none, none]) encN (fun one => (List.range (max 1 r.length)).map fun a => one ++ [a]) 30 1000000 s (fun a _ => by rw [List.length_map, List.length_range]; exact hmax) (fun one ho acc hacc => by
      have h1 := hin FD one (by rw [hs3 one ho]; omega) acc (by rw [List.length_range]; omega)
      rw [flat_one] at h1
      have hit : (fun env => (mOp gMax2 (mC (.int 1)) (mUn gLen (mVar 2))) env >>= gRng1) [some (0, A), some (0, D.lst FD), some (0, encR r), some (1, D.lst (acc.map encN)), some (0, encN one), none] = .ok ((List.range (max 1 r.length)).map fun a : Nat => D.int a) := by
        generalize encR r = RR at *
        simp -implicitDefEqProofs [gl, hmx, hg]
      have h2 : mFor (fun env => (mOp gMax2 (mC (.int 1)) (mUn gLen (mVar 2))) env >>= gRng1) (tName 5) (mAppend 3 0 [] (mCat (fun env => (mVar 4) env >>= fun d => itemsL d >>= immL) (fun env => (mLst (mConsA (mVar 5) mNilA)) env >>= fun d => itemsL d >>= immL))) [5] [some (0, A), some (0, D.lst FD), some (0, encR r), some (1, D.lst (acc.map encN)), some (0, encN one), none] = _ := Eq.trans (congrArg (fun r : Res (List D) => r >>= fun ds => loop (tName 5) _ [5] ds _) hit) h1
      exact (congrArg (fun r : Res Ctl => r >>= stepc [4, 5]) h2).trans rfl) [] (by
        rw [List.length_nil]
        have := Nat.mul_le_mul_right 30 hs2
        omega)
    have hmid' := hmid (s.map encN)
    rw [List.nil_append] at hmid'
    refine Tells.eq ?_
    refine t_seq (e := [some (0, A), some (1, .lst (s.map encN)), some (0, encR r), some (1, .lst []), none, none]) (by
      generalize s.map encN = SD at *
      simp -implicitDefEqProofs) ?_
    refine t_seq (e := [some (0, A), some (0, .lst (s.map encN)), some (0, encR r), some (1, .lst ((begS s r).map encN)), none, none]) ?_ ?_
    · simp -implicitDefEqProofs at hmid'
      simp -implicitDefEqProofs [fz]
      exact hmid'
    · refine Tells.eqI ?_
      generalize s.map encN = SD at *
      generalize (begS s r).map encN = SD2 at *
      simp -implicitDefEqProofs
  · rintro s ⟨hs1, _⟩
    rw [List.take_length] at hs1
    rw [show s = begs ds from hs1]
    generalize (begs ds).map encN = L0 at *
    simp -implicitDefEqProofs
    exact Tells.eqI rfl

theorem turn_cut (r : List T3) (a : Nat) (h : a ≤ r.length) : cutD (r.map t3) (some (a : Int)) none = (r.drop a).map t3 ∧ cutD (r.map t3) none (some (a : Int)) = (r.take a).map t3 := ⟨cutD_from t3 r a h, cutD_to t3 r a h⟩
theorem immT3 (r : List T3) : immAll (r.map t3) = true := by simp
theorem chs_is (ds : Drw) (hd : ds.length ≤ 3) (hr : ∀ r ∈ ds, r.length ≤ 30) : F__law_choices [encD ds] = .ok (.lst ((chs ds).map encD)) := by
  refine Tells.eq ?_
  simp only [F__law_choices, m__law_choices, runD]
  have hz1 : 1 ≤ sizeLine := sizeLine_big (by omega)
  simp -implicitDefEqProofs [hz1]
  refine loop_then (fun s : List Drw => [some (0, encD ds), some (1, .lst (s.map encD)), none, none, none, none]) encR (fun i s => s = (ds.take i).foldl chsS [[]] ∧ s.length ≤ 30 ^ i ∧ ∀ st ∈ s, st.length = i) ds [[]] rfl rfl ⟨rfl, by simp, fun st h => by rw [List.mem_singleton.mp h]; rfl⟩ ?_ ?_
  · rintro i s r hi ⟨hs1, hs2, hs3⟩
    have hil := (List.getElem?_eq_some_iff.mp hi).1
    have hrl := hr r (List.mem_of_getElem? hi)
    have hp := pow_le3 (i := i) (by omega)
    have hmax : max 1 r.length ≤ 30 := by omega
    refine ⟨chsS s r, ⟨by rw [List.take_succ, hi, List.foldl_append, ← hs1]; rfl, ?_, fun st hst => ?_⟩, ?_⟩
    · rw [chsS_len, Nat.pow_succ]
      exact Nat.mul_le_mul hs2 hmax
    · obtain ⟨one, h1, h2⟩ := List.mem_flatMap.mp hst
      obtain ⟨a, _, rfl⟩ := List.mem_map.mp h2
      rw [List.length_append, hs3 one h1]; rfl
    generalize hA : encD ds = A
    have hg := gRng1_d (n := max 1 r.length) (by omega)
    have gl : gLen (encR r) = .ok (.int (r.length : Nat)) := by
      show Res.ok (D.int ((((r.map t3).length : Nat)) : Int)) = _
      rw [List.length_map]
    have hmx := max_is r.length
    have hin := fun (FD : List D) (one : Drw) (ho : one.length ≤ 10) => app_loop (t := tName 5) (body := mAppend 3 0 [] (mCat (fun env => (mVarK 4 0) env >>= itemsL) (fun env => (mLst (mConsE (mCat (fun env => (mSlice (fun env => (mVar 2) env >>= fun d => itemsL d >>= immL) (fun env => (mVar 5) env >>= toI >>= fun i => .ok (some i)) (fun _ => .ok none)) env >>= fun d => itemsL d >>= immL) (fun env => (mSlice (fun env => (mVar 2) env >>= fun d => itemsL d >>= immL) (fun _ => .ok none) (fun env => (mVar 5) env >>= toI >>= fun i => .ok (some i))) env >>= fun d => itemsL d >>= immL)) [] mNilA)) env >>= itemsL))) (fg := [5]) (fun acc : List Drw => [some (0, A), some (0, .lst FD), some (0, encR r), some (1, .lst (acc.map encD)), some (0, encD one), none]) (fun a : Nat => D.int a) (fun a => [one ++ [rotA r a]]) 1 2000000 (List.range (max 1 r.length)) (fun a _ => Nat.le_refl _) (fun a ha acc hacc => by
      have ha := List.mem_range.mp ha
      have hal : a ≤ r.length := by omega
      obtain ⟨k1, k2⟩ := turn_cut r a hal
      have i1 := immT3 r
      have i2 := immT3 (r.drop a)
      have i3 := immT3 (r.take a)
      have z1 : one.length + 1 ≤ sizeLine := sizeLine_big (by omega)
      have z2 : acc.length < sizeLine := sizeLine_lt (by omega)
      have z3 : (r.drop a).length + (r.take a).length ≤ sizeLine := sizeLine_big (by rw [List.length_drop, List.length_take]; omega)
      have e1 : rotA r a = r.drop a ++ r.take a := rfl
      rw [e1]
      generalize r.drop a = X at *
      generalize r.take a = Y at *
      have e2 : (acc ++ [one ++ [X ++ Y]]).map encD = acc.map encD ++ [.lst (one.map encR ++ [.lst (X.map t3 ++ Y.map t3)])] := by simp [encD, encR]
      rw [e2]
      have z2' : (acc.map encD).length < sizeLine := by rw [List.length_map]; exact z2
      generalize acc.map encD = AD at *
      simp -implicitDefEqProofs [mCat, immL, i1, i2, i3, k1, k2, z1, z2', z3, hz1])
    have hmid := fun (FD : List D) => app_loop (t := tName 4) (body := mFor (fun env => (mOp gMax2 (mC (.int 1)) (mUn gLen (mVar 2))) env >>= gRng1) (tName 5) (mAppend 3 0 [] (mCat (fun env => (mVarK 4 0) env >>= itemsL) (fun env => (mLst (mConsE (mCat (fun env => (mSlice (fun env => (mVar 2) env >>= fun d => itemsL d >>= immL) (fun env => (mVar 5) env >>= toI >>= fun i => .ok (some i)) (fun _ => .ok none)) env >>= fun d => itemsL d >>= immL) (fun env => (mSlice (fun env => (mVar 2) env >>= fun d => itemsL d >>= immL) (fun _ => .ok none) (fun env => (mVar 5) env >>= toI >>= fun i => .ok (some i))) env >>= fun d => itemsL d >>= immL)) [] mNilA)) env >>= itemsL))) [5]) (fg := [4, 5]) (fun acc : List Drw => [some (0, A), some (0, .lst FD), some (0, encR r), some (1, .lst (acc.map encD)), none, none]) encD (fun one => (List.range (max 1 r.length)).map fun a => one ++ [rotA r a]) 30 1000000 s (fun a _ => by rw [List.length_map, List.length_range]; exact hmax) (fun one ho acc hacc => by
      have h1 := hin FD one (by rw [hs3 one ho]; omega) acc (by rw [List.length_range]; omega)
      rw [flat_one] at h1
      have hit : (fun env => (mOp gMax2 (mC (.int 1)) (mUn gLen (mVar 2))) env >>= gRng1) [some (0, A), some (0, D.lst FD), some (0, encR r), some (1, D.lst (acc.map encD)), some (0, encD one), none] = .ok ((List.range (max 1 r.length)).map fun a : Nat => D.int a) := by
        generalize encR r = RR at *
        simp -implicitDefEqProofs [gl, hmx, hg]
      have h2 := Eq.trans (congrArg (fun q : Res (List D) => q >>= fun ds => loop (tName 5) (mAppend 3 0 [] (mCat (fun env => (mVarK 4 0) env >>= itemsL) (fun env => (mLst (mConsE (mCat (fun env => (mSlice (fun env => (mVar 2) env >>= fun d => itemsL d >>= immL) (fun env => (mVar 5) env >>= toI >>= fun i => .ok (some i)) (fun _ => .ok none)) env >>= fun d => itemsL d >>= immL) (fun env => (mSlice (fun env => (mVar 2) env >>= fun d => itemsL d >>= immL) (fun _ => .ok none) (fun env => (mVar 5) env >>= toI >>= fun i => .ok (some i))) env >>= fun d => itemsL d >>= immL)) [] mNilA)) env >>= itemsL))) [5] ds [some (0, A), some (0, D.lst FD), some (0, encR r), some (1, D.lst (acc.map encD)), some (0, encD one), none]) hit) h1
      exact (congrArg (fun r : Res Ctl => r >>= stepc [4, 5]) h2).trans rfl) [] (by
        rw [List.length_nil]
        have := Nat.mul_le_mul_right 30 hs2
        omega)
    have hmid' := hmid (s.map encD)
    rw [List.nil_append] at hmid'
    refine Tells.eq ?_
    refine t_seq (e := [some (0, A), some (1, .lst (s.map encD)), some (0, encR r), some (1, .lst []), none, none]) (by
      generalize s.map encD = SD at *
      simp -implicitDefEqProofs) ?_
    refine t_seq (e := [some (0, A), some (0, .lst (s.map encD)), some (0, encR r), some (1, .lst ((chsS s r).map encD)), none, none]) ?_ ?_
    · simp -implicitDefEqProofs at hmid'
      simp -implicitDefEqProofs [fz]
      exact hmid'
    · refine Tells.eqI ?_
      generalize s.map encD = SD at *
      generalize (chsS s r).map encD = SD2 at *
      simp -implicitDefEqProofs
  · rintro s ⟨hs1, _⟩
    rw [List.take_length] at hs1
    rw [show s = chs ds from hs1]
    generalize (chs ds).map encD = L0 at *
    simp -implicitDefEqProofs
    exact Tells.eqI rfl

theorem begs_ok_gen : ∀ (ds dn : Drw) (F : List (List Nat)), (∀ st ∈ F, st.length = dn.length ∧ ∀ x ∈ dn.zip st, x.2 ≤ x.1.length) → ∀ st ∈ ds.foldl begS F, st.length = (dn ++ ds).length ∧ ∀ x ∈ (dn ++ ds).zip st, x.2 ≤ x.1.length
  | [], dn, F, h => by rw [List.append_nil]; exact h
  | r :: ds, dn, F, h => by
    have := begs_ok_gen ds (dn ++ [r]) (begS F r) (fun st hst => by
      obtain ⟨one, h1, h2⟩ := List.mem_flatMap.mp hst
      obtain ⟨a, ha, rfl⟩ := List.mem_map.mp h2
      obtain ⟨h3, h4⟩ := h one h1
      have ha := List.mem_range.mp ha
      refine ⟨by rw [List.length_append, List.length_append, h3]; rfl, fun x hx => ?_⟩
      rw [List.zip_append h3.symm] at hx
      rcases List.mem_append.mp hx with hx | hx
      · exact h4 x hx
      · rw [List.mem_singleton.mp (show x ∈ [(r, a)] from hx)]
        show a ≤ r.length
        omega)
    rw [List.append_assoc] at this
    exact this
theorem begs_ok {ds : Drw} {st : List Nat} (h : st ∈ begs ds) : st.length = ds.length ∧ ∀ x ∈ ds.zip st, x.2 ≤ x.1.length :=
  begs_ok_gen ds [] [[]] (fun st h => by rw [List.mem_singleton.mp h]; exact ⟨rfl, fun x hx => absurd hx List.not_mem_nil⟩) st h
theorem metS_len (P : List (Int × Int)) (x : T3) : (metS P x).length ≤ P.length + 1 := by
  unfold metS
  split
  · omega
  · rw [List.length_append]; exact Nat.le_refl _
theorem met_snoc (R Q : List T3) : met (R ++ Q) = Q.foldl metS (met R) := by unfold met; rw [List.foldl_append]
theorem fold_len : ∀ (Q : List T3) (P : List (Int × Int)), (Q.foldl metS P).length ≤ P.length + Q.length
  | [], P => Nat.le_refl _
  | x :: Q, P => by
    have h1 := fold_len Q (metS P x)
    have h2 := metS_len P x
    rw [List.foldl_cons, List.length_cons]
    omega
theorem met_len (R : List T3) : (met R).length ≤ R.length := by
  have := fold_len R []
  rw [List.length_nil, Nat.zero_add] at this
  exact this
theorem zipD_RN : ∀ (ds : Drw) (st : List Nat), zipD (ds.map encR) (st.map fun a : Nat => D.int a) = (ds.zip st).map fun x => D.tup [encR x.1, .int x.2]
  | [], st => by cases st <;> rfl
  | r :: ds, [] => rfl
  | r :: ds, a :: st => by
    have := zipD_RN ds st
    show D.tup [encR r, .int a] :: zipD (ds.map encR) (st.map fun a : Nat => D.int a) = _
    rw [this]; rfl
theorem turn_zip (ds : Drw) (st : List Nat) : turn ds st = (ds.zip st).map fun x => rotA x.1 x.2 := by
  unfold turn
  rw [List.zip_eq_zipWith, List.map_zipWith]
theorem lenD_K {e0 e1 : Option (Nat × D)} {l : List (Option (Nat × D))} (P : List (Int × Int)) : mLenD 2 (e0 :: e1 :: some (1, encK D.int P) :: l) = .ok (.int (P.length : Nat)) := by
  unfold encK; simp [mLenD]
theorem lenD_K1 {e0 : Option (Nat × D)} {l : List (Option (Nat × D))} (P : List (Int × Int)) : mLenD 1 (e0 :: some (1, encK D.int P) :: l) = .ok (.int (P.length : Nat)) := by
  unfold encK; simp [mLenD]
theorem put_new {P : List (Int × Int)} {x : T3} (e : (lk P x.a).isSome = false) (v : Int) : pt P x.a v = P ++ [(x.a, v)] := by
  refine pt_out v fun hx => ?_
  obtain ⟨y, hy, h2⟩ := List.mem_map.mp hx
  have : (lk P x.a).isSome = true := by
    unfold lk
    rw [Option.isSome_map, List.find?_isSome]
    exact ⟨y, hy, decide_eq_true h2⟩
  rw [this] at e; cases e
theorem nbm_is {ds : Drw} (hf : ds.flatten.length ≤ 100) (hr : ∀ r ∈ ds, r.length ≤ 100) {st : List Nat} (hst : st.length = ds.length ∧ ∀ x ∈ ds.zip st, x.2 ≤ x.1.length) (hft : (turn ds st).flatten.length ≤ 100) : F_names_by_meeting [encD ds, encN st] = .ok (encK D.int (met (turn ds st).flatten)) := by
  refine Tells.eq ?_
  simp only [F_names_by_meeting, m_names_by_meeting, runD]
  have hzip := zipD_RN ds st
  obtain ⟨A, hA⟩ : ∃ A, A = encD ds := ⟨_, rfl⟩
  obtain ⟨B, hB⟩ : ∃ B, B = encN st := ⟨_, rfl⟩
  have hAi : itemsL A = .ok (ds.map encR) := by rw [hA]; rfl
  have hBi : itemsL B = .ok (st.map fun a : Nat => D.int a) := by rw [hB]; rfl
  rw [← hA, ← hB]
  simp -implicitDefEqProofs [hAi, hBi, hzip]
  rw [show D.dk [] [] = encK D.int [] from rfl]
  rw [turn_zip] at hft ⊢
  have hmem : ∀ x ∈ ds.zip st, x.2 ≤ x.1.length ∧ x.1.length ≤ 100 := fun x hx => ⟨hst.2 x hx, hr _ (List.of_mem_zip hx).1⟩
  generalize ds.zip st = Z at *
  refine loop_then (fun P : List (Int × Int) => [some (0, A), some (0, B), some (1, encK D.int P), none, none, none]) (fun x : List T3 × Nat => D.tup [encR x.1, .int x.2]) (fun i P => P = met ((Z.take i).map fun x => rotA x.1 x.2).flatten) Z [] rfl rfl rfl ?_ ?_
  · rintro i P ⟨r, a⟩ hi rfl
    obtain ⟨hal, hrl⟩ := hmem _ (List.mem_of_getElem? hi)
    dsimp only at hal hrl
    obtain ⟨k1, k2⟩ := turn_cut r a hal
    refine ⟨(rotA r a).foldl metS (met ((Z.take i).map fun x => rotA x.1 x.2).flatten), by rw [List.take_succ, hi, ← met_snoc]; simp, ?_⟩
    have hlen : (met ((Z.take i).map fun x => rotA x.1 x.2).flatten).length ≤ 1000 := by
      refine Nat.le_trans (met_len _) ?_
      have : ((Z.take i).map fun x => rotA x.1 x.2).flatten.length ≤ (Z.map fun x => rotA x.1 x.2).flatten.length := by
        conv => rhs; rw [← List.take_append_drop i Z, List.map_append, List.flatten_append, List.length_append]
        omega
      omega
    generalize met ((Z.take i).map fun x => rotA x.1 x.2).flatten = P0 at *
    have i1 := immT3 r
    have i2 := immT3 (r.drop a)
    have i3 := immT3 (r.take a)
    have z3 : (r.drop a).length + (r.take a).length ≤ sizeLine := sizeLine_big (by rw [List.length_drop, List.length_take]; omega)
    have z3' : r.length - a + min a r.length ≤ sizeLine := sizeLine_big (by omega)
    have hrot : (rotA r a).map t3 = List.drop a (r.map t3) ++ List.take a (r.map t3) := by unfold rotA; simp
    have hrotl : (rotA r a).length ≤ 100 := by unfold rotA; rw [List.length_append, List.length_drop, List.length_take]; omega
    refine Tells.eq ?_
    simp -implicitDefEqProofs [mCat, immL, i1, i2, i3, k1, k2, z3']
    rw [← hrot]
    refine loop_thenF (fun P : List (Int × Int) => [some (0, A), some (0, B), some (1, encK D.int P), some (0, encR r), some (0, .int a), none]) t3 metS (fun j P => P.length ≤ 1000 + j) (rotA r a) P0 rfl rfl hlen ?_ ?_
    · intro j P x hx hP
      have hjl := (List.getElem?_eq_some_iff.mp hx).1
      refine ⟨by have := metS_len P x; omega, ?_⟩
      have hn := gDNotIn_K D.int P x.a
      have hl := lenD_K (e0 := some (0, A)) (e1 := some (0, B)) (l := [some (0, encR r), some (0, .int a), some (0, t3 x)]) P
      unfold metS
      by_cases e : (lk P x.a).isSome = true
      · rw [if_pos e]
        rw [e] at hn
        generalize encK D.int P = K at *
        simp -implicitDefEqProofs [hn]
      · rw [if_neg e]
        rw [Bool.not_eq_true] at e
        rw [e] at hn
        have hd := dSet_K D.int P x.a ((P.length : Int) + 1) (sizeLine_lt (by omega))
        rw [put_new e] at hd
        have hat : atK [some (0, A), some (0, B), some (1, encK D.int P), some (0, encR r), some (0, .int (a : Nat)), some (0, t3 x)] 2 = .ok (encK D.int P) := rfl
        generalize encK D.int (P ++ [(x.a, (P.length : Int) + 1)]) = K2 at *
        generalize encK D.int P = K at *
        simp -implicitDefEqProofs [hn, -e_mLenD, hl, hat, hd]
    · intro _
      refine Tells.eqI ?_
      generalize encK D.int ((rotA r a).foldl metS P0) = K at *
      simp -implicitDefEqProofs
  · rintro P rfl
    rw [List.take_length]
    generalize encK D.int (met (Z.map fun x => rotA x.1 x.2).flatten) = K at *
    simp -implicitDefEqProofs
    exact Tells.eqI rfl
theorem lmet_is {ds : Drw} (hf : ds.flatten.length ≤ 100) : F__law_met [encD ds] = .ok (encK D.int (met ds.flatten)) := by
  refine Tells.eq ?_
  simp only [F__law_met, m__law_met, runD]
  obtain ⟨A, hA⟩ : ∃ A, A = encD ds := ⟨_, rfl⟩
  have hAi : itemsL A = .ok (ds.map encR) := by rw [hA]; rfl
  rw [← hA]
  simp -implicitDefEqProofs [hAi]
  rw [show D.dk [] [] = encK D.int [] from rfl]
  refine loop_then (fun P : List (Int × Int) => [some (0, A), some (1, encK D.int P), none, none]) encR (fun i P => P = met (ds.take i).flatten) ds [] rfl rfl rfl ?_ ?_
  · rintro i P r hi rfl
    have hlen : (met (ds.take i).flatten).length ≤ 1000 := by
      refine Nat.le_trans (met_len _) ?_
      have : (ds.take i).flatten.length ≤ ds.flatten.length := by
        conv => rhs; rw [← List.take_append_drop i ds, List.flatten_append, List.length_append]
        omega
      omega
    refine ⟨r.foldl metS (met (ds.take i).flatten), by rw [List.take_succ, hi, ← met_snoc]; simp, ?_⟩
    generalize met (ds.take i).flatten = P0 at *
    have hrl : r.length ≤ 100 := by
      have : r.length ≤ ds.flatten.length := by
        obtain ⟨X, Y, e⟩ := List.append_of_mem (List.mem_of_getElem? hi)
        rw [e, List.flatten_append, List.flatten_cons, List.length_append, List.length_append]
        omega
      omega
    refine Tells.eq ?_
    simp -implicitDefEqProofs
    refine loop_thenF (fun P : List (Int × Int) => [some (0, A), some (1, encK D.int P), some (0, encR r), none]) t3 metS (fun j P => P.length ≤ 1000 + j) r P0 rfl rfl hlen ?_ ?_
    · intro j P x hx hP
      have hjl := (List.getElem?_eq_some_iff.mp hx).1
      refine ⟨by have := metS_len P x; omega, ?_⟩
      have hn := gDNotIn_K D.int P x.a
      have hl := lenD_K1 (e0 := some (0, A)) (l := [some (0, encR r), some (0, t3 x)]) P
      unfold metS
      by_cases e : (lk P x.a).isSome = true
      · rw [if_pos e]
        rw [e] at hn
        generalize encK D.int P = K at *
        simp -implicitDefEqProofs [hn]
      · rw [if_neg e]
        rw [Bool.not_eq_true] at e
        rw [e] at hn
        have hd := dSet_K D.int P x.a ((P.length : Int) + 1) (sizeLine_lt (by omega))
        rw [put_new e] at hd
        have hat : atK [some (0, A), some (1, encK D.int P), some (0, encR r), some (0, t3 x)] 1 = .ok (encK D.int P) := rfl
        generalize encK D.int (P ++ [(x.a, (P.length : Int) + 1)]) = K2 at *
        generalize encK D.int P = K at *
        simp -implicitDefEqProofs [hn, -e_mLenD, hl, hat, hd]
    · intro _
      refine Tells.eqI ?_
      generalize encK D.int (r.foldl metS P0) = K at *
      simp -implicitDefEqProofs
  · rintro P rfl
    rw [List.take_length]
    generalize encK D.int (met ds.flatten) = K at *
    simp -implicitDefEqProofs
    exact Tells.eqI rfl

theorem cut_of {r : List T3} {k : Nat} {x : T3} (h : r[k]? = some x) : r = r.take k ++ x :: r.drop (k + 1) ∧ k < r.length := by
  have hk := (List.getElem?_eq_some_iff.mp h).1
  refine ⟨?_, hk⟩
  have e := List.drop_eq_getElem_cons hk
  have hx := (List.getElem?_eq_some_iff.mp h).2
  rw [hx] at e
  conv => lhs; rw [← List.take_append_drop k r, e]
/-- the rows of a drawing, those with n last -/
theorem cut2s (x : T3) : gCutT [.int x.a, .int x.b, .int x.c] none (some 2) = .ok (.tup [.int x.a, .int x.b]) := rfl
abbrev lawC : Mir.Env → Res Ctl := (mIf (mTb (mOp gLt (fun env => (mOp gIx (mVar 0) (mVar 2)) env >>= itemsT >>= fun ds => (fun _ => .ok none) env >>= fun lo => (fun env => (mC (.int 2)) env >>= toI >>= fun i => .ok (some i)) env >>= fun hi => gCutT ds lo hi) (fun env => (mOp gIx (mVar 0) (mVar 1)) env >>= itemsT >>= fun ds => (fun _ => .ok none) env >>= fun lo => (fun env => (mC (.int 2)) env >>= toI >>= fun i => .ok (some i)) env >>= fun hi => gCutT ds lo hi))) (mSet 1 0 [] (mImm (mVar 2))) mSkip)
theorem lseat_is (R : List T3) (hl : R.length ≤ 1000) (nd : (R.map ky).Nodup) : F__law_seat [encR R] = .ok (encR (seat R)) := by
  cases R with
  | nil => rfl
  | cons r rs =>
    obtain ⟨m, u, v, e1, e2, e3⟩ := seat_first (R := r :: rs) (by simp)
    have hg := gRng1_d (n := (r :: rs).length) (by omega)
    have gl : gLen (.lst ((r :: rs).map t3)) = .ok (.int (((r :: rs).length : Nat) : Int)) := by
      show Res.ok (D.int ((((r :: rs).map t3).length : Nat) : Int)) = _
      rw [List.length_map]
    have hpos : 0 < (r :: rs).length := by simp
    refine Tells.eq ?_
    simp only [F__law_seat, m__law_seat, runD]
    unfold encR
    rw [e2]
    generalize hR : r :: rs = R at *
    have gix : ∀ {k : Nat} {x : T3}, R[k]? = some x → gIx (.lst (R.map t3)) (.int k) = .ok (t3 x) := fun h => gIx_map (f := t3) h
    refine t_seq (e := [some (0, .lst (R.map t3)), some (0, .int (0 : Nat)), none]) (by simp -implicitDefEqProofs) ?_
    have L := loop_run (t := tName 2) (fg := [2]) (body := lawC) (fun s : Nat => [some (0, .lst (R.map t3)), some (0, .int s), none]) (fun k : Nat => D.int k) (fun i s => s < R.length ∧ ∀ k, k < i → ∀ x y, R[k]? = some x → R[s]? = some y → ¬ kl x y) (List.range R.length) 0 0 ⟨hpos, fun k hk => absurd hk (Nat.not_lt_zero _)⟩ (fun i s k hk hp => by
      have hki : k = i ∧ i < R.length := by
        have h1 := (List.getElem?_eq_some_iff.mp hk).1
        rw [List.length_range] at h1
        rw [List.getElem?_range h1] at hk
        cases hk; exact ⟨rfl, h1⟩
      obtain ⟨rfl, hkl⟩ := hki
      rw [Nat.zero_add] at hp ⊢
      obtain ⟨p1, p2⟩ := hp
      obtain ⟨x, hx⟩ : ∃ x, R[k]? = some x := ⟨_, List.getElem?_eq_getElem hkl⟩
      obtain ⟨y, hy⟩ : ∃ x, R[s]? = some x := ⟨_, List.getElem?_eq_getElem p1⟩
      have g1 := gix hx
      have g2 := gix hy
      have g3 := gLt_ky x y
      have c1 := cut2s x
      have c2 := cut2s y
      by_cases hl : kl x y
      · refine ⟨k, ⟨hkl, fun j hj z w hz hw => ?_⟩, ?_⟩
        · rw [hx] at hw; cases hw
          by_cases hjk : j = k
          · subst hjk
            rw [hx] at hz; cases hz
            unfold kl; omega
          · have := p2 j (by omega) z y hz hy
            unfold kl at this hl ⊢; omega
        · simp -implicitDefEqProofs [g1, g2, c1, c2, g3, hl]
      · refine ⟨s, ⟨p1, fun j hj z w hz hw => ?_⟩, ?_⟩
        · rw [hy] at hw; cases hw
          by_cases hjk : j = k
          · subst hjk
            rw [hx] at hz; cases hz
            exact hl
          · exact p2 j (by omega) z y hz hy
        · simp -implicitDefEqProofs [g1, g2, c1, c2, g3, hl])
    obtain ⟨s, L, hs, hmin⟩ := L
    rw [Nat.zero_add, List.length_range] at hmin
    refine t_seq (e := [some (0, .lst (R.map t3)), some (0, .int s), none]) (by
      unfold lawC at L
      simp -implicitDefEqProofs [gl, hg]
      simp -implicitDefEqProofs at L
      exact L) ?_
    -- the place found is the first passing's
    obtain ⟨y, hy⟩ : ∃ x, R[s]? = some x := ⟨_, List.getElem?_eq_getElem hs⟩
    have hym : y = m := by
      have mm : m ∈ R := by rw [e1]; simp
      obtain ⟨k, hk⟩ := List.mem_iff_getElem?.mp mm
      have h1 := hmin k (List.getElem?_eq_some_iff.mp hk).1 m y hk hy
      have h2 : ¬ kl y m := fun h => by
        have := e3 y (List.mem_of_getElem? hy)
        rw [ky_lt h] at this; cases this
      have hk2 : ky y = ky m := by
        unfold kl at h1 h2
        exact Prod.ext (show y.a = m.a by omega) (show y.b = m.b by omega)
      have a1 : (R.map ky)[s]? = some (ky y) := by rw [List.getElem?_map, hy]; rfl
      have a2 : (R.map ky)[k]? = some (ky y) := by rw [List.getElem?_map, hk, hk2]; rfl
      have := (List.getElem?_inj (by rw [List.length_map]; exact hs) nd).mp (a1.trans a2.symm)
      rw [this, hk] at hy
      exact (Option.some.inj hy).symm
    obtain ⟨ec, hsl⟩ := cut_of hy
    rw [hym] at ec
    have ndR : R.Nodup := (List.pairwise_map.mp nd).imp fun h e => h (by rw [e])
    have es := rot_at (a := R) (b := R) ⟨[], R, rfl, by simp⟩ ndR e1 ec
    have e4 : R.drop s ++ R.take s = m :: v ++ u := by
      have hd : R.drop s = m :: R.drop (s + 1) := by
        rw [List.drop_eq_getElem_cons hsl]
        rw [List.getElem?_eq_getElem hsl] at hy
        rw [Option.some.inj hy, hym]
      rw [hd, List.cons_append, es]; rfl
    have k1 := cutD_to t3 R s (by omega)
    have k2 := cutD_from t3 R s (by omega)
    have i1 := immT3 R
    have i2 : immAll ((R.map t3).drop s) = true := by rw [← List.map_drop]; exact immT3 _
    have i3 : immAll ((R.map t3).take s) = true := by rw [← List.map_take]; exact immT3 _
    have hz : (R.length - s) + min s R.length ≤ sizeLine := sizeLine_big (by omega)
    rw [List.map_drop] at k2
    rw [List.map_take] at k1
    refine Tells.of (by simp -implicitDefEqProofs [immL, i1, mCat, k1, k2, i2, i3, hz]; rfl) ?_
    rw [← e4, List.map_append, List.map_drop, List.map_take]

theorem immAt1_R (r : List T3) : immAt 1 (encR r) = true := by simp
theorem rn_loop (P : List (Int × Int)) (r : List T3) (hk : ∀ x ∈ r, x.a ∈ P.map (·.1)) (hnd : (P.map (·.1)).Nodup) : ∀ x ∈ r, gDGet (encK D.int P) (.int x.a) = .ok (.int ((lk P x.a).getD 0)) := fun x hx => by
  obtain ⟨u, hu, hua⟩ := List.mem_map.mp (hk x hx)
  have e1 : lk P x.a = some u.2 := by
    rw [← hua]; exact lk_mem hnd hu
  rw [gDGet_K D.int e1, e1]; rfl
theorem rbn_is {P : List (Int × Int)} {r : List T3} (hk : ∀ x ∈ r, x.a ∈ P.map (·.1)) (hnd : (P.map (·.1)).Nodup) (hl : r.length ≤ 1000) : F_row_by_names [encR r, encK D.int P] = .ok (encR (seat (r.map (rn P)))) := by
  have hd := rn_loop P r hk hnd
  have hs := seated_is (r.map (rn P)) (by rw [List.length_map]; omega)
  have hlc := lc_all (t := tName 2) (env := [some (0, encR r), some (0, encK D.int P), none]) (me := (mImm (mTup (mConsE (mImm (mOp gDGet (mVar 1) (mOp gIx (mVar 2) (mC (.int 0))))) [] (mConsE (mImm (mOp gIx (mVar 2) (mC (.int 1)))) [] (mConsE (mImm (mOp gIx (mVar 2) (mC (.int 2)))) [] mNilA)))))) t3 (fun x => t3 (rn P x)) r (fun x hx => by
    have h1 := hd x hx
    have e : t3 (rn P x) = .tup [.int ((lk P x.a).getD 0), .int x.b, .int x.c] := rfl
    rw [e]
    generalize (lk P x.a).getD 0 = z at *
    generalize encK D.int P = K at *
    simp -implicitDefEqProofs [h1])
  have he : r.map (fun x => t3 (rn P x)) = (r.map (rn P)).map t3 := by rw [List.map_map]; rfl
  rw [he] at hlc
  have hz : (r.map (rn P)).length ≤ sizeLine := sizeLine_big (by rw [List.length_map]; omega)
  have i1 := immAt1_R (seat (r.map (rn P)))
  refine Tells.eq ?_
  simp only [F_row_by_names, m_row_by_names, runD]
  generalize encR (seat (r.map (rn P))) = SR at *
  generalize hQ : r.map (rn P) = Q at *
  generalize encK D.int P = K at *
  refine Tells.eqI ?_
  simp -implicitDefEqProofs [e_mLc]
  rw [hlc]
  have hs' : F_seated [.lst (Q.map t3)] = .ok SR := hs
  simp -implicitDefEqProofs [hz, hs', i1]
theorem bn_is {P : List (Int × Int)} {ds : Drw} (hk : ∀ x ∈ ds.flatten, x.a ∈ P.map (·.1)) (hnd : (P.map (·.1)).Nodup) (hl : ∀ r ∈ ds, r.length ≤ 1000) (hd : ds.length ≤ 1000) : F_by_names [encD ds, encK D.int P] = .ok (encD (ds.map fun r => seat (r.map (rn P)))) := by
  have hlc := lc_all (t := tName 2) (env := [some (0, encD ds), some (0, encK D.int P), none]) (me := mCall 1 F_row_by_names (mConsA (mVar 2) (mConsA (mVar 1) mNilA))) encR (fun r => encR (seat (r.map (rn P)))) ds (fun r hr => by
    have h1 := rbn_is (P := P) (r := r) (fun x hx => hk x (List.mem_flatten.mpr ⟨r, hr, hx⟩)) hnd (hl r hr)
    have i1 := immAt1_R (seat (r.map (rn P)))
    generalize encR (seat (r.map (rn P))) = SR at *
    generalize encR r = RR at *
    generalize encK D.int P = K at *
    generalize encD ds = DD at *
    simp -implicitDefEqProofs [h1, i1])
  have he : ds.map (fun r => encR (seat (r.map (rn P)))) = (ds.map fun r => seat (r.map (rn P))).map encR := by rw [List.map_map]; rfl
  rw [he] at hlc
  have hz : (ds.map fun r => seat (r.map (rn P))).length ≤ sizeLine := sizeLine_big (by rw [List.length_map]; omega)
  refine Tells.eq ?_
  simp only [F_by_names, m_by_names, runD]
  have hD : itemsL (encD ds) = .ok (ds.map encR) := rfl
  generalize hQ : (ds.map fun r => seat (r.map (rn P))) = Q at *
  generalize encK D.int P = K at *
  generalize encD ds = DD at *
  refine Tells.eqI ?_
  simp -implicitDefEqProofs [e_mLc, hD]
  rw [hlc]
  simp -implicitDefEqProofs [hz]
  rfl
theorem lcalled_is {P : List (Int × Int)} {ds : Drw} (hk : ∀ x ∈ ds.flatten, x.a ∈ P.map (·.1)) (hnd : (P.map (·.1)).Nodup) (hl : ∀ r ∈ ds, r.length ≤ 1000) (hd : ds.length ≤ 1000) : F__law_called [encD ds, encK D.int P] = .ok (encD (ds.map fun r => r.map (rn P))) := by
  refine Tells.eq ?_
  simp only [F__law_called, m__law_called, runD]
  generalize hDD : encD ds = DD
  have hD : itemsL DD = .ok (ds.map encR) := by rw [← hDD]; rfl
  generalize hKK : encK D.int P = K
  simp -implicitDefEqProofs [hD]
  refine loop_then (fun s : Drw => [some (0, DD), some (0, K), some (2, .lst (s.map encR)), none, none]) encR (fun i s => s = (ds.take i).map fun r => r.map (rn P)) ds [] rfl rfl (by simp) ?_ ?_
  · rintro i s r hi rfl
    have hil := (List.getElem?_eq_some_iff.mp hi).1
    have hrm := List.mem_of_getElem? hi
    refine ⟨((ds.take i).map fun r => r.map (rn P)) ++ [r.map (rn P)], by rw [List.take_succ, hi, List.map_append]; rfl, ?_⟩
    have hd1 := rn_loop P r (fun x hx => hk x (List.mem_flatten.mpr ⟨r, hrm, hx⟩)) hnd
    rw [hKK] at hd1
    have hs0 : ((ds.take i).map fun r => r.map (rn P)).length < sizeLine := sizeLine_lt (by rw [List.length_map, List.length_take]; omega)
    generalize ((ds.take i).map fun r => r.map (rn P)) = S0 at *
    have hlc := lc_all (t := tName 4) (env := [some (0, DD), some (0, K), some (2, .lst (S0.map encR)), some (0, encR r), none]) (me := (mImm (mTup (mConsE (mImm (mOp gDGet (mVar 1) (mOp gIx (mVar 4) (mC (.int 0))))) [] (mConsE (mImm (mOp gIx (mVar 4) (mC (.int 1)))) [] (mConsE (mImm (mOp gIx (mVar 4) (mC (.int 2)))) [] mNilA)))))) t3 (fun x => t3 (rn P x)) r (fun x hx => by
      have h1 := hd1 x hx
      have e : t3 (rn P x) = .tup [.int ((lk P x.a).getD 0), .int x.b, .int x.c] := rfl
      rw [e]
      generalize (lk P x.a).getD 0 = z at *
      simp -implicitDefEqProofs [h1])
    have he : r.map (fun x => t3 (rn P x)) = (r.map (rn P)).map t3 := by rw [List.map_map]; rfl
    rw [he] at hlc
    have hz : (r.map (rn P)).length ≤ sizeLine := sizeLine_big (by rw [List.length_map]; have := hl r hrm; omega)
    generalize hQ : r.map (rn P) = Q at *
    refine Tells.eq ?_
    refine Tells.eqI ?_
    simp -implicitDefEqProofs [e_mLc]
    rw [hlc]
    simp -implicitDefEqProofs [hz, hs0]
    try rfl
  · rintro s rfl
    rw [List.take_length]
    simp -implicitDefEqProofs
    exact Tells.eqI (by unfold encD; rw [List.map_map])
theorem lseats_is {ds : Drw} (hl : ∀ r ∈ ds, r.length ≤ 1000 ∧ (r.map ky).Nodup) (hd : ds.length ≤ 1000) : F__law_seats [encD ds] = .ok (encD (ds.map seat)) := by
  have hlc := lc_all (t := tName 1) (env := [some (0, encD ds), none]) (me := mCall 1 F__law_seat (mConsA (mVar 1) mNilA)) encR (fun r => encR (seat r)) ds (fun r hr => by
    have h1 := lseat_is r (hl r hr).1 (hl r hr).2
    have i1 := immAt1_R (seat r)
    generalize encR (seat r) = SR at *
    generalize encR r = RR at *
    generalize encD ds = DD at *
    simp -implicitDefEqProofs [h1, i1])
  have he : ds.map (fun r => encR (seat r)) = (ds.map seat).map encR := by rw [List.map_map]; rfl
  rw [he] at hlc
  have hz : (ds.map seat).length ≤ sizeLine := sizeLine_big (by rw [List.length_map]; omega)
  refine Tells.eq ?_
  simp only [F__law_seats, m__law_seats, runD]
  have hD : itemsL (encD ds) = .ok (ds.map encR) := rfl
  generalize hQ : ds.map seat = Q at *
  generalize encD ds = DD at *
  refine Tells.eqI ?_
  simp -implicitDefEqProofs [e_mLc, hD]
  rw [hlc]
  simp -implicitDefEqProofs [hz]
  rfl

def nmS (q : List Int) (x : T3) : List Int := if x.a ∈ q then q else q ++ [x.a]
def nms (R : List T3) : List Int := R.foldl nmS []
theorem nmS_ok {R : List T3} {q : List Int} (h : q.Nodup ∧ ∀ z, z ∈ q ↔ ∃ x ∈ R, x.a = z) (x : T3) : (nmS q x).Nodup ∧ ∀ z, z ∈ nmS q x ↔ ∃ y ∈ R ++ [x], y.a = z := by
  obtain ⟨h1, h2⟩ := h
  unfold nmS
  by_cases e : x.a ∈ q
  · rw [if_pos e]
    refine ⟨h1, fun z => ?_⟩
    rw [h2]
    constructor
    · rintro ⟨y, hy, rfl⟩; exact ⟨y, List.mem_append_left _ hy, rfl⟩
    · rintro ⟨y, hy, rfl⟩
      rcases List.mem_append.mp hy with hy | hy
      · exact ⟨y, hy, rfl⟩
      · rw [List.mem_singleton.mp hy]; exact (h2 _).mp e
  · rw [if_neg e]
    refine ⟨List.nodup_append.mpr ⟨h1, by simp, fun a ha b hb e2 => ?_⟩, fun z => ?_⟩
    · rw [List.mem_singleton.mp hb] at e2
      exact e (by rw [← e2]; exact ha)
    · rw [List.mem_append, h2]
      constructor
      · rintro (⟨y, hy, rfl⟩ | hz)
        · exact ⟨y, List.mem_append_left _ hy, rfl⟩
        · rw [List.mem_singleton.mp hz]; exact ⟨x, by simp, rfl⟩
      · rintro ⟨y, hy, rfl⟩
        rcases List.mem_append.mp hy with hy | hy
        · exact .inl ⟨y, hy, rfl⟩
        · rw [List.mem_singleton.mp hy]; exact .inr (by simp)
theorem nms_ok (R : List T3) : (nms R).Nodup ∧ ∀ z, z ∈ nms R ↔ ∃ x ∈ R, x.a = z := by
  have : ∀ (Q R : List T3) (q : List Int), (q.Nodup ∧ ∀ z, z ∈ q ↔ ∃ x ∈ R, x.a = z) → (Q.foldl nmS q).Nodup ∧ ∀ z, z ∈ Q.foldl nmS q ↔ ∃ y ∈ R ++ Q, y.a = z := fun Q => by
    induction Q with
    | nil => intro R q h; rw [List.append_nil]; exact h
    | cons x Q ih =>
      intro R q h
      have := ih (R ++ [x]) (nmS q x) (nmS_ok h x)
      rw [List.append_assoc] at this
      exact this
  exact this R [] [] ⟨List.nodup_nil, fun z => by simp⟩
theorem nmS_len (q : List Int) (x : T3) : (nmS q x).length ≤ q.length + 1 := by
  unfold nmS
  split
  · omega
  · rw [List.length_append]; exact Nat.le_refl _
theorem nmF_len : ∀ (Q : List T3) (q : List Int), (Q.foldl nmS q).length ≤ q.length + Q.length
  | [], q => Nat.le_refl _
  | x :: Q, q => by
    have h1 := nmF_len Q (nmS q x)
    have h2 := nmS_len q x
    rw [List.foldl_cons, List.length_cons]; omega
theorem lnm_is {ds : Drw} (hf : ds.flatten.length ≤ 100) : F__law_names [encD ds] = .ok (.lst ((sorted (nms ds.flatten)).map D.int)) := by
  refine Tells.eq ?_
  simp only [F__law_names, m__law_names, runD]
  obtain ⟨A, hA⟩ : ∃ A, A = encD ds := ⟨_, rfl⟩
  have hAi : itemsL A = .ok (ds.map encR) := by rw [hA]; rfl
  rw [← hA]
  simp -implicitDefEqProofs [hAi]
  refine loop_then (fun q : List Int => [some (0, A), some (1, .lst (q.map D.int)), none, none]) encR (fun i q => q = nms (ds.take i).flatten) ds [] rfl rfl rfl ?_ ?_
  · rintro i q r hi rfl
    have hlen : (nms (ds.take i).flatten).length ≤ 1000 := by
      refine Nat.le_trans (nmF_len _ _) ?_
      have : (ds.take i).flatten.length ≤ ds.flatten.length := by
        conv => rhs; rw [← List.take_append_drop i ds, List.flatten_append, List.length_append]
        omega
      rw [List.length_nil]; omega
    refine ⟨r.foldl nmS (nms (ds.take i).flatten), by rw [List.take_succ, hi]; unfold nms; rw [← List.foldl_append]; simp, ?_⟩
    generalize nms (ds.take i).flatten = P0 at *
    have hrl : r.length ≤ 100 := by
      have : r.length ≤ ds.flatten.length := by
        obtain ⟨X, Y, e⟩ := List.append_of_mem (List.mem_of_getElem? hi)
        rw [e, List.flatten_append, List.flatten_cons, List.length_append, List.length_append]
        omega
      omega
    refine Tells.eq ?_
    simp -implicitDefEqProofs
    refine loop_thenF (fun q : List Int => [some (0, A), some (1, .lst (q.map D.int)), some (0, encR r), none]) t3 nmS (fun j P => P.length ≤ 1000 + j) r P0 rfl rfl hlen ?_ ?_
    · intro j P x hx hP
      have hjl := (List.getElem?_eq_some_iff.mp hx).1
      refine ⟨by have := nmS_len P x; omega, ?_⟩
      have hn := gNotIn_int x.a P
      have hz : P.length < sizeLine := sizeLine_lt (by omega)
      unfold nmS
      by_cases e : x.a ∈ P
      · rw [if_pos e]
        rw [decide_eq_true e] at hn
        simp -implicitDefEqProofs [hn]
      · rw [if_neg e]
        rw [decide_eq_false e] at hn
        simp -implicitDefEqProofs [hn, hz]
    · intro _
      refine Tells.eqI ?_
      simp -implicitDefEqProofs
  · rintro q rfl
    rw [List.take_length]
    have hs := gSort_int (nms ds.flatten)
    have hi : immAll ((nms ds.flatten).map D.int) = true := by simp
    generalize (nms ds.flatten).map D.int = L0 at *
    simp -implicitDefEqProofs [immL, hi, hs]
    exact Tells.eqI rfl
theorem nrun (A : D) (N : List Int) (hA : F__law_names [A] = .ok (.lst (N.map D.int))) (x1 : Option (Nat × D)) : ∀ (m : Nat) (a : Int) (F : Nat), 1 ≤ a → a ≤ 999 → m < F → ((a - 1 + m) % 999 + 1) ∉ N →
    ∃ z : Int, z ∉ N ∧ 1 ≤ z ∧ z ≤ 999 ∧ wloop (mTb (mOp gIn (mVar 2) (mCall 1 F__law_names (mConsA (mVar 0) mNilA)))) (mSet 2 0 [] (mOp gAdd (mOp gMod (mVar 2) (mC (.int 999))) (mC (.int 1)))) [] F [some (0, A), x1, some (0, .int a)] = .ok (.nx [some (0, A), x1, some (0, .int z)])
  | m, a, 0, _, _, h, _ => by omega
  | m, a, F + 1, h1, h2, hF, hn => by
    have hin : gIn (.int a) (.lst (N.map D.int)) = .ok (.bl (decide (a ∈ N))) := gIn_int a N
    have i1 : immAt 1 (.lst (N.map D.int)) = true := by simp
    rw [wloop_succ]
    by_cases ha : a ∈ N
    · rw [decide_eq_true ha] at hin
      have gm : Mir.gMod (.int a) (.int 999) = .ok (.int (a % 999)) := e_gMod a 999 (by decide)
      cases m with
      | zero => exact absurd (by rw [show (a - 1 + ((0 : Nat) : Int)) % 999 + 1 = a by omega]; exact ha) hn
      | succ m =>
        obtain ⟨z, z1, z2, z3, z4⟩ := nrun A N hA x1 m (a % 999 + 1) F (by omega) (by omega) (by omega) (by
          rw [show ((a % 999 + 1 - 1 + (m : Int)) % 999 + 1) = (a - 1 + ((m + 1 : Nat) : Int)) % 999 + 1 by omega]
          exact hn)
        refine ⟨z, z1, z2, z3, ?_⟩
        rw [← z4]
        generalize D.lst (N.map D.int) = ND at *
        simp -implicitDefEqProofs [hA, i1, hin, gm]
    · rw [decide_eq_false ha] at hin
      refine ⟨a, ha, h1, h2, ?_⟩
      generalize D.lst (N.map D.int) = ND at *
      simp -implicitDefEqProofs [hA, i1, hin]
theorem lname_is {A : D} {N : List Int} (hA : F__law_names [A] = .ok (.lst (N.map D.int))) (hN : N.length ≤ 900) (c : Int) : ∃ z : Int, F__law_name [A, .int c] = .ok (.int z) ∧ z ∉ N ∧ 1 ≤ z ∧ z ≤ 999 := by
  have u1 := e_gMul c 48271 (.inr (by decide))
  have m1 := e_gMod (c * 48271) 1000003 (by decide)
  have m2 := e_gMod (c * 48271 % 1000003) 999 (by decide)
  obtain ⟨a, ha, h1, h2⟩ : ∃ a : Int, 1 + c * 48271 % 1000003 % 999 = a ∧ 1 ≤ a ∧ a ≤ 999 := ⟨_, rfl, by omega, by omega⟩
  have ex : ∃ m : Nat, m ≤ N.length ∧ ((a - 1 + m) % 999 + 1) ∉ N := Classical.byContradiction fun hno => by
    have all : ∀ m : Nat, m ≤ N.length → ((a - 1 + m) % 999 + 1) ∈ N := fun m hm => Classical.byContradiction fun h => hno ⟨m, hm, h⟩
    have hnd : ((List.range (N.length + 1)).map fun m : Nat => (a - 1 + m) % 999 + 1).Nodup := by
      refine List.pairwise_map.mpr (List.Pairwise.imp_of_mem (fun {x y} hx hy hne => ?_) List.nodup_range)
      have hx := List.mem_range.mp hx
      have hy := List.mem_range.mp hy
      intro e
      exact hne (by omega)
    have := nodup_sub_len hnd (m := N) fun x hx => by
      obtain ⟨m, hm, rfl⟩ := List.mem_map.mp hx
      exact all m (by have := List.mem_range.mp hm; omega)
    simp at this
    omega
  obtain ⟨m, hm, hn⟩ := ex
  obtain ⟨z, z1, z2, z3, z4⟩ := nrun A N hA (some (0, .int c)) m a 4096 h1 h2 (by omega) hn
  refine ⟨z, ?_, z1, z2, z3⟩
  simp only [F__law_name, m__law_name, runD]
  simp -implicitDefEqProofs [u1, m1, m2, ha]
  rw [z4]
  simp -implicitDefEqProofs

theorem flat_ge {ds : Drw} {r : List T3} (h : r ∈ ds) : r.length ≤ ds.flatten.length := by
  obtain ⟨X, Y, e⟩ := List.append_of_mem h
  rw [e, List.flatten_append, List.flatten_cons, List.length_append, List.length_append]
  omega
theorem alias_step {ds : Drw} (h1 : 1 ≤ ds.length) (h3 : ds.length ≤ 3) (hf : ds.flatten.length ≤ 80) (c : Int) (d m : Int) (hd : 0 < d ∧ d < 1000) (hm : 100 < m ∧ m < 10000000) (u : Int) : ∃ (a p : Nat) (r : List T3), a < ds.length ∧ ds[a]? = some r ∧ gFdv (.int c) (.int d) = .ok (.int (c / d)) ∧ gMod (.int (c / d)) (.int (ds.length : Nat)) = .ok (.int (a : Nat)) ∧ gMod (.int (u % m)) (.int ((r.length : Nat) + 1)) = .ok (.int (p : Nat)) ∧ r.length ≤ 80 ∧ gMod (.int u) (.int m) = .ok (.int (u % m)) := by
  have x0 := Int.emod_nonneg (c / d) (b := (ds.length : Int)) (by omega)
  have x1 := Int.emod_lt_of_pos (c / d) (b := (ds.length : Int)) (by omega)
  obtain ⟨a, ha⟩ : ∃ a : Nat, c / d % (ds.length : Int) = a := ⟨(c / d % (ds.length : Int)).toNat, by omega⟩
  have haS : a < ds.length := by omega
  obtain ⟨r, hra⟩ : ∃ r, ds[a]? = some r := ⟨_, List.getElem?_eq_getElem haS⟩
  have hrl := flat_ge (List.mem_of_getElem? hra)
  have y0 := Int.emod_nonneg (u % m) (b := (r.length : Int) + 1) (by omega)
  obtain ⟨p, hp⟩ : ∃ p : Nat, u % m % ((r.length : Int) + 1) = p := ⟨(u % m % ((r.length : Int) + 1)).toNat, by omega⟩
  have g1 := e_gMod (c / d) (ds.length : Int) (by omega)
  have g2 := e_gMod (u % m) ((r.length : Int) + 1) (by omega)
  rw [ha] at g1
  rw [hp] at g2
  exact ⟨a, p, r, haS, hra, e_gFdv c d (by omega) (by omega), g1, g2, by omega, e_gMod u m (by omega)⟩
theorem ins_enc {ds : Drw} {a p : Nat} {r : List T3} (hra : ds[a]? = some r) (x : T3) : (ds.map encR).set a (.lst ((r.map t3).take p ++ [t3 x] ++ (r.map t3).drop p)) = (ins ds a p x).map encR := by
  unfold ins
  rw [show ds.getD a [] = r by rw [List.getD_eq_getElem?_getD, hra]; rfl, List.map_set]
  congr 1
  unfold encR
  rw [List.map_append, List.map_append, List.map_take, List.map_drop]; rfl
theorem cross_is {ds : Drw} (h1 : 1 ≤ ds.length) (h3 : ds.length ≤ 3) (hf : ds.flatten.length ≤ 60) (c : Int) : ∃ (nm h : Int) (a b p q : Nat), a < ds.length ∧ b < ds.length ∧ F__law_cross [encD ds, .int c] = .ok (encD (ins (ins ds a p ⟨nm, 0, h⟩) b q ⟨nm, 1, h⟩)) ∧ (∀ x ∈ ds.flatten, x.a ≠ nm) ∧ 1 ≤ nm ∧ nm ≤ 999 ∧ (h = 1 ∨ h = -1) := by
  have hnl := nmF_len ds.flatten []
  obtain ⟨nm, hn, hn1, hn2, hn3⟩ := lname_is (lnm_is (ds := ds) (by omega)) (by rw [(sorted_perm _).length_eq]; unfold nms; rw [List.length_nil] at hnl; omega) c
  have hno : ∀ x ∈ ds.flatten, x.a ≠ nm := fun x hx e => hn1 ((sorted_perm _).mem_iff.mpr (((nms_ok ds.flatten).2 nm).mpr ⟨x, hx, e⟩))
  have u1 := e_gMul c 69621 (.inr (by decide))
  have u2 := e_gMul c 40692 (.inr (by decide))
  have m2 := e_gMod c 2 (by decide)
  have u3 := e_gMul 2 (c % 2) (.inl (by decide))
  obtain ⟨h, hh⟩ : ∃ h, h = 2 * (c % 2) - 1 := ⟨_, rfl⟩
  obtain ⟨a, p, r, haS, hra, f1, g1, g2, hrl, g3⟩ := alias_step h1 h3 (by omega) c 2 999983 (by decide) (by decide) (c * 69621)
  obtain ⟨ds1, hds1⟩ : ∃ ds1, ds1 = ins ds a p ⟨nm, 0, h⟩ := ⟨_, rfl⟩
  have l1 : ds1.length = ds.length := by rw [hds1, ins_len]
  have pf := ins_flat haS p ⟨nm, 0, h⟩
  rw [← hds1] at pf
  have lf : ds1.flatten.length ≤ 61 := by rw [pf.length_eq, List.length_cons]; omega
  obtain ⟨b, q, r2, hbS, hrb, f2, k1, k2, hrl2, k3⟩ := alias_step (ds := ds1) (by omega) (by omega) (by omega) c 6 999979 (by decide) (by decide) (c * 40692)
  refine ⟨nm, h, a, b, p, q, haS, by omega, ?_, hno, hn2, hn3, by omega⟩
  rw [← hds1]
  have gl1 : gLen (encD ds) = .ok (.int (ds.length : Nat)) := by
    show Res.ok (D.int (((ds.map encR).length : Nat) : Int)) = _
    rw [List.length_map]
  have gl2 : gLen (encD ds1) = .ok (.int (ds1.length : Nat)) := by
    show Res.ok (D.int (((ds1.map encR).length : Nat) : Int)) = _
    rw [List.length_map]
  have gr1 : gLen (.lst (r.map t3)) = .ok (.int (r.length : Nat)) := by
    show Res.ok (D.int (((r.map t3).length : Nat) : Int)) = _
    rw [List.length_map]
  have gr2 : gLen (.lst (r2.map t3)) = .ok (.int (r2.length : Nat)) := by
    show Res.ok (D.int (((r2.map t3).length : Nat) : Int)) = _
    rw [List.length_map]
  have hda : (ds.map encR)[a]? = some (.lst (r.map t3)) := by rw [List.getElem?_map, hra]; rfl
  have hdb : (ds1.map encR)[b]? = some (.lst (r2.map t3)) := by rw [List.getElem?_map, hrb]; rfl
  have hix : ixN (ds.map encR).length (a : Int) = some a := by rw [List.length_map]; exact ixN_nat (by omega)
  have hix2 : ixN (ds1.map encR).length (b : Int) = some b := by rw [List.length_map]; exact ixN_nat (by omega)
  have i1 := ins_enc (p := p) hra ⟨nm, 0, h⟩
  have i2 := ins_enc (p := q) hrb ⟨nm, 1, h⟩
  rw [← hds1] at i1
  generalize ins ds1 b q ⟨nm, 1, h⟩ = ds2 at *
  have p1 : (p : Int) < 4611686018427387904 := by
    have := e_gMod (c * 69621 % 999983) ((r.length : Nat) + 1) (by omega)
    rw [this] at g2
    have e := Res.ok.inj g2
    have e := D.int.inj e
    have := Int.emod_lt_of_pos (c * 69621 % 999983) (b := ((r.length : Nat) : Int) + 1) (by omega)
    omega
  have p2 : (q : Int) < 4611686018427387904 := by
    have := e_gMod (c * 40692 % 999979) ((r2.length : Nat) + 1) (by omega)
    rw [this] at k2
    have e := Res.ok.inj k2
    have e := D.int.inj e
    have := Int.emod_lt_of_pos (c * 40692 % 999979) (b := ((r2.length : Nat) : Int) + 1) (by omega)
    omega
  have z1 : (r.map t3).length < sizeLine := sizeLine_lt (by rw [List.length_map]; omega)
  have z2 : (r2.map t3).length < sizeLine := sizeLine_lt (by rw [List.length_map]; omega)
  simp only [F__law_cross, m__law_cross, runM]
  have hh' := hh.symm
  have t1 : t3 ⟨nm, 0, h⟩ = .tup [.int nm, .int 0, .int h] := rfl
  have t2' : t3 ⟨nm, 1, h⟩ = .tup [.int nm, .int 1, .int h] := rfl
  rw [t1] at i1
  rw [t2'] at i2
  unfold encD at *
  rw [← i2]
  rw [show ((ds1.length : Nat) : Int) = (((ds1.map encR).length : Nat) : Int) by rw [List.length_map]] at k1
  rw [show ((ds.length : Nat) : Int) = (((ds.map encR).length : Nat) : Int) by rw [List.length_map]] at g1
  rw [show ((r.length : Nat) : Int) = (((r.map t3).length : Nat) : Int) by rw [List.length_map]] at g2
  rw [show ((r2.length : Nat) : Int) = (((r2.map t3).length : Nat) : Int) by rw [List.length_map]] at k2
  rw [← i1] at k1 hix2 hdb
  generalize hX1 : (ds.map encR).set a (.lst ((r.map t3).take p ++ [.tup [.int nm, .int 0, .int h]] ++ (r.map t3).drop p)) = X1 at *
  rw [← i1]
  generalize ds.map encR = X0 at *
  generalize r.map t3 = R1 at *
  generalize r2.map t3 = R2 at *
  simp -implicitDefEqProofs [hn, m2, u3, hh', mAlias, f1, g1, hix, hda, u1, g3, g2, mIns]
  have hX1' : X0.set a (.lst (R1.take p ++ .tup [.int nm, .int 0, .int h] :: R1.drop p)) = X1 := by
    rw [← hX1]; simp
  have hXl : X1.length = X0.length := by rw [← hX1, List.length_set]
  rw [hXl] at k1 hix2
  rw [if_pos ⟨p1, z1⟩, hX1']
  simp -implicitDefEqProofs [f2, k1, hix2, hdb, u2, k3, k2]
  rw [if_pos ⟨p2, z2⟩]
  simp -implicitDefEqProofs

theorem s_seq2 {m1 m2 : Mir.Env → Res Ctl} {env e : Mir.Env} {r : Res Ctl} (h : m1 env = .ok (.nx e)) (h2 : m2 e = r) : mSeq m1 m2 env = r := by
  unfold mSeq
  rw [h]; exact h2
structure XI (S k : Nat) (ds : Drw) : Prop where
  len : ds.length = S
  fl : ds.flatten.length = 2 * k
  nd : (ds.flatten.map ky).Nodup
theorem XI.more {S k : Nat} {ds : Drw} (h : XI S k ds) {nm hd : Int} {a b : Nat} (p q : Nat) (ha : a < ds.length) (hb : b < ds.length) (hno : ∀ x ∈ ds.flatten, x.a ≠ nm) : XI S (k + 1) (ins (ins ds a p ⟨nm, 0, hd⟩) b q ⟨nm, 1, hd⟩) := by
  have p1 := ins_flat ha p ⟨nm, 0, hd⟩
  have p2 := ins_flat (ds := ins ds a p ⟨nm, 0, hd⟩) (k := b) (by rw [ins_len]; exact hb) q ⟨nm, 1, hd⟩
  have p3 := p2.trans (p1.cons _)
  refine ⟨by rw [ins_len, ins_len]; exact h.len, by rw [p3.length_eq, List.length_cons, List.length_cons, h.fl]; omega, ?_⟩
  refine (p3.map ky).nodup_iff.mpr ?_
  rw [List.map_cons, List.map_cons]
  have hk : ∀ w, ((nm, w) : Int × Int) ∉ ds.flatten.map ky := fun w hx => by
    obtain ⟨x, hx1, hx2⟩ := List.mem_map.mp hx
    exact hno x hx1 (congrArg Prod.fst hx2)
  refine List.nodup_cons.mpr ⟨fun hx => ?_, List.nodup_cons.mpr ⟨hk 0, h.nd⟩⟩
  rcases List.mem_cons.mp hx with e | hx
  · have := congrArg Prod.snd e
    have : (1 : Int) = 0 := this
    omega
  · exact hk 1 hx
theorem rn_nodup {R r : List T3} {P : List (Int × Int)} (h : MetOk R P) (hr : ∀ x ∈ r, x ∈ R) (nd : (r.map ky).Nodup) : ((r.map (rn P)).map ky).Nodup := by
  rw [List.map_map]
  refine List.pairwise_map.mpr ((List.pairwise_map.mp nd).imp_of_mem fun {x y} hx hy hne e => hne ?_)
  have e1 : (lk P x.a).getD 0 = (lk P y.a).getD 0 := congrArg Prod.fst e
  have e2 : x.b = y.b := congrArg Prod.snd e
  have e3 := met_inj h (hr x hx) (hr y hy) e1
  exact Prod.ext e3 e2
theorem rot_map {r : List T3} (a : Nat) (f : T3 → T3) : Rot (r.map f) ((rotA r a).map f) := ⟨(r.take a).map f, (r.drop a).map f, by rw [← List.map_append, List.take_append_drop], by unfold rotA; rw [List.map_append]⟩
theorem turn_seat {P : List (Int × Int)} : ∀ {ds : Drw} {st : List Nat}, st.length = ds.length → (∀ r ∈ ds, ((r.map (rn P)).map ky).Nodup) → (turn ds st).map (fun r => seat (r.map (rn P))) = ds.map fun r => seat (r.map (rn P))
  | [], st, _, _ => by cases st <;> rfl
  | r :: ds, [], h, _ => by simp at h
  | r :: ds, a :: st, h, hn => by
    have ih := turn_seat (P := P) (ds := ds) (st := st) (by simpa using h) fun r hr => hn r (List.mem_cons_of_mem _ hr)
    show seat ((rotA r a).map (rn P)) :: (turn ds st).map _ = _
    rw [ih, seat_turn (rot_map a (rn P)) (hn r List.mem_cons_self)]; rfl

/-! ### drawings that grow, spots, copies -/
theorem gTru_R (r : List T3) : gTru (encR r) = .ok (!decide (r = [])) := by
  cases r <;> rfl
theorem WD.more {S : Nat} {ds : Drw} {C : List Crs} (h : WD S ds C) (c : Crs) (hn : c.n ∉ C.map (·.n)) (hi : c.i < S) (hj : c.j < S) (hc : c.c = 1 ∨ c.c = -1) (p q : Nat) : WD S (ins (ins ds c.i p ⟨c.n, 0, c.c⟩) c.j q ⟨c.n, 1, c.c⟩) (C ++ [c]) := by
  refine ⟨h.di.more c hn hi hj p q, ?_, fun d hd => ?_⟩
  · have p1 := ins_flat (ds := ds) (k := c.i) (by rw [h.di.len]; exact hi) p ⟨c.n, 0, c.c⟩
    have p2 := ins_flat (ds := ins ds c.i p ⟨c.n, 0, c.c⟩) (k := c.j) (by rw [ins_len, h.di.len]; exact hj) q ⟨c.n, 1, c.c⟩
    rw [psg_snoc]
    refine (p2.trans ((p1.trans (h.pm.cons _)).cons _)).trans ?_
    refine (List.Perm.swap _ _ _).trans ?_
    exact (List.perm_append_comm (l₁ := [⟨c.n, 0, c.c⟩, ⟨c.n, 1, c.c⟩]) (l₂ := psg C))
  · rcases List.mem_append.mp hd with hd | hd
    · exact h.hd d hd
    · rw [List.mem_singleton.mp hd]; exact hc
theorem pt_val {β κ : Type} [DecidableEq κ] {p : List (κ × β)} {k : κ} {v : β} {y : κ × β} (h : y ∈ pt p k v) : y.2 = v ∨ y ∈ p := by
  unfold pt at h
  split at h
  · obtain ⟨x, hx, rfl⟩ := List.mem_map.mp h
    by_cases e : x.1 = k
    · rw [if_pos e]; exact .inl rfl
    · rw [if_neg e]; exact .inr hx
  · rcases List.mem_append.mp h with h | h
    · exact .inr h
    · rw [List.mem_singleton.mp h]; exact .inl rfl
theorem turn_mem {ds : Drw} {st : List Nat} (h : st.length = ds.length) {x : T3} (hx : x ∈ ds.flatten) : x ∈ (turn ds st).flatten := by
  obtain ⟨r, hr, hxr⟩ := List.mem_flatten.mp hx
  obtain ⟨i, hi⟩ := List.mem_iff_getElem?.mp hr
  obtain ⟨a, ha⟩ := turn_rot h i r hi
  refine List.mem_flatten.mpr ⟨rotA r a, List.mem_of_getElem? ha, ?_⟩
  unfold rotA
  rw [← List.take_append_drop a r] at hxr
  rcases List.mem_append.mp hxr with hxr | hxr
  · exact List.mem_append_right _ hxr
  · exact List.mem_append_left _ hxr
theorem turn_flen : ∀ {ds : Drw} {st : List Nat}, (turn ds st).flatten.length ≤ ds.flatten.length
  | [], st => by cases st <;> exact Nat.le_refl _
  | r :: ds, [] => Nat.zero_le _
  | r :: ds, a :: st => by
    have := turn_flen (ds := ds) (st := st)
    show (rotA r a ++ (turn ds st).flatten).length ≤ (r ++ ds.flatten).length
    rw [List.length_append, List.length_append]
    have : (rotA r a).length = r.length := by unfold rotA; rw [List.length_append, List.length_drop, List.length_take]; omega
    omega
theorem begs_ne (ds : Drw) : begs ds ≠ [] := by
  have key : ∀ (ds : Drw) (F : List (List Nat)), F ≠ [] → ds.foldl begS F ≠ [] := fun ds => by
    induction ds with
    | nil => exact fun F h => h
    | cons r ds ih =>
      intro F h
      rw [List.foldl_cons]
      refine ih _ fun e => ?_
      have := begS_len F r
      rw [e] at this
      have h1 : 0 < F.length := List.length_pos_iff.mpr h
      have h2 : 1 ≤ max 1 r.length := Nat.le_max_left _ _
      have := Nat.mul_le_mul h1 h2
      simp at *
      omega
  exact key ds [[]] (by simp)
def encBo (ds : Drw) : Option (List Nat) → D
  | none => .non
  | some st => encD (stl ds st).2
def encM' (ds : Drw) : Option (List Nat) → D
  | none => .dk [] []
  | some st => encK D.int (stl ds st).1

/-! ### drawings alike but for beginnings and names settle alike -/
theorem Rot.refl' {α : Type} (a : List α) : Rot a a := ⟨[], a, rfl, by simp⟩
theorem Rot.symm' {α : Type} {a b : List α} (h : Rot a b) : Rot b a := by
  obtain ⟨u, v, h1, h2⟩ := h
  exact ⟨v, u, h2, h1⟩
theorem Rot.trans' {α : Type} {a b c : List α} (h : Rot a b) (k : Rot b c) : Rot a c := by
  obtain ⟨u, v, rfl, rfl⟩ := h
  obtain ⟨w, z, e, rfl⟩ := k
  rcases List.append_eq_append_iff.mp e with ⟨x, h1, h2⟩ | ⟨x, h1, h2⟩
  · subst h1 h2; exact ⟨x, z ++ v, by simp, by simp⟩
  · subst h1 h2; exact ⟨u ++ w, x, by simp, by simp⟩
def RotL : Drw → Drw → Prop
  | [], [] => True
  | r :: ds, t :: T => Rot r t ∧ RotL ds T
  | [], _ :: _ => False
  | _ :: _, [] => False
theorem RotL.refl' : ∀ ds : Drw, RotL ds ds
  | [] => trivial
  | r :: ds => ⟨Rot.refl' r, RotL.refl' ds⟩
theorem RotL.symm' : ∀ {a b : Drw}, RotL a b → RotL b a
  | [], [], _ => trivial
  | r :: ds, t :: T, h => ⟨h.1.symm', RotL.symm' h.2⟩
  | [], _ :: _, h => h.elim
  | _ :: _, [], h => h.elim
theorem RotL.trans' : ∀ {a b c : Drw}, RotL a b → RotL b c → RotL a c
  | [], [], c, _, k => k
  | r :: ds, t :: T, u :: U, h, k => ⟨h.1.trans' k.1, RotL.trans' h.2 k.2⟩
  | r :: ds, t :: T, [], _, k => k.elim
  | [], _ :: _, _, h, _ => h.elim
  | _ :: _, [], _, h, _ => h.elim
theorem RotL.len : ∀ {a b : Drw}, RotL a b → b.length = a.length
  | [], [], _ => rfl
  | r :: ds, t :: T, h => by rw [List.length_cons, List.length_cons, RotL.len h.2]
  | [], _ :: _, h => h.elim
  | _ :: _, [], h => h.elim
theorem RotL.flat : ∀ {a b : Drw}, RotL a b → b.flatten.Perm a.flatten
  | [], [], _ => List.Perm.refl _
  | r :: ds, t :: T, h => by
    obtain ⟨u, v, h1, h2⟩ := h.1
    rw [List.flatten_cons, List.flatten_cons]
    refine List.Perm.append ?_ (RotL.flat h.2)
    rw [h1, h2]; exact List.perm_append_comm
  | [], _ :: _, h => h.elim
  | _ :: _, [], h => h.elim
theorem RotL.map (f : T3 → T3) : ∀ {a b : Drw}, RotL a b → RotL (a.map fun r => r.map f) (b.map fun r => r.map f)
  | [], [], _ => trivial
  | r :: ds, t :: T, h => ⟨Rot.map f h.1, RotL.map f h.2⟩
  | [], _ :: _, h => h.elim
  | _ :: _, [], h => h.elim
theorem RotL.unmap (f : T3 → T3) : ∀ {a b : Drw}, RotL (a.map fun r => r.map f) b → ∃ c, b = c.map (fun r => r.map f) ∧ RotL a c
  | [], [], _ => ⟨[], rfl, trivial⟩
  | r :: ds, t :: T, h => by
    obtain ⟨u, v, h1, h2⟩ := h.1
    obtain ⟨c, h3, h4⟩ := RotL.unmap f (a := ds) (b := T) h.2
    obtain ⟨u', v', e1, e2, e3⟩ := List.map_eq_append_iff.mp h1
    exact ⟨(v' ++ u') :: c, by rw [List.map_cons, ← h3, h2, List.map_append, e2, e3], ⟨u', v', e1, rfl⟩, h4⟩
  | [], _ :: _, h => h.elim
  | _ :: _, [], h => h.elim
theorem rot_is {r t : List T3} (h : Rot r t) : ∃ a, a < max 1 r.length ∧ t = rotA r a := by
  obtain ⟨u, v, rfl, rfl⟩ := h
  by_cases e : v = []
  · subst e
    exact ⟨0, by omega, by unfold rotA; simp⟩
  · have := List.length_pos_iff.mpr e
    refine ⟨u.length, by rw [List.length_append]; omega, ?_⟩
    unfold rotA
    simp
theorem chsS_mem {F : List Drw} {r : List T3} {T : Drw} : T ∈ chsS F r ↔ ∃ one ∈ F, ∃ t, Rot r t ∧ T = one ++ [t] := by
  unfold chsS
  constructor
  · intro h
    obtain ⟨one, h1, h2⟩ := List.mem_flatMap.mp h
    obtain ⟨a, _, rfl⟩ := List.mem_map.mp h2
    exact ⟨one, h1, _, rotA_rot r a, rfl⟩
  · rintro ⟨one, h1, t, h2, rfl⟩
    obtain ⟨a, ha, rfl⟩ := rot_is h2
    exact List.mem_flatMap.mpr ⟨one, h1, List.mem_map.mpr ⟨a, List.mem_range.mpr ha, rfl⟩⟩
theorem chs_mem_gen : ∀ (ds : Drw) (F : List Drw) (T : Drw), T ∈ ds.foldl chsS F ↔ ∃ T0 ∈ F, ∃ T1, RotL ds T1 ∧ T = T0 ++ T1
  | [], F, T => by
    constructor
    · intro h; exact ⟨T, h, [], trivial, (List.append_nil T).symm⟩
    · rintro ⟨T0, h, T1, h1, rfl⟩
      cases T1 with
      | nil => rw [List.append_nil]; exact h
      | cons _ _ => exact h1.elim
  | r :: ds, F, T => by
    rw [List.foldl_cons, chs_mem_gen ds]
    constructor
    · rintro ⟨T0, h0, T1, h1, rfl⟩
      obtain ⟨one, h2, t, h3, rfl⟩ := chsS_mem.mp h0
      exact ⟨one, h2, t :: T1, ⟨h3, h1⟩, by simp⟩
    · rintro ⟨T0, h0, T1, h1, rfl⟩
      cases T1 with
      | nil => exact h1.elim
      | cons t T1 => exact ⟨T0 ++ [t], chsS_mem.mpr ⟨T0, h0, t, h1.1, rfl⟩, T1, h1.2, by simp⟩
theorem chs_mem {ds T : Drw} : T ∈ chs ds ↔ RotL ds T := by
  unfold chs
  rw [chs_mem_gen]
  constructor
  · rintro ⟨T0, h0, T1, h1, rfl⟩
    rw [List.mem_singleton.mp h0]; exact h1
  · intro h; exact ⟨[], by simp, T, h, rfl⟩
/-- a drawing called by its names as met, each row seated -/
def val (T : Drw) : Drw := T.map fun r => seat (r.map (rn (met T.flatten)))
theorem stl_val {ds : Drw} {st : List Nat} (h : st.length = ds.length) (nd : ∀ r ∈ ds, (r.map ky).Nodup) : (stl ds st).2 = val (turn ds st) :=
  (turn_seat (P := met (turn ds st).flatten) h fun r hr => rn_nodup (met_ok _) (fun x hx => turn_mem h (List.mem_flatten.mpr ⟨r, hr, hx⟩)) (nd r hr)).symm
/-! names changed, no two to the same -/
def rk (P : List (Int × Int)) (y : Int × Int) : Int × Int := ((lk P y.1).getD 0, y.2)
def InjOn (P : List (Int × Int)) (S : Int → Prop) : Prop := ∀ x y, S x → S y → (lk P x).getD 0 = (lk P y).getD 0 → x = y
theorem lk_ren {P : List (Int × Int)} {S : Int → Prop} (hi : InjOn P S) {z : Int} (hz : S z) : ∀ {M : List (Int × Int)}, (∀ y ∈ M, S y.1) → lk (M.map (rk P)) ((lk P z).getD 0) = lk M z
  | [], _ => rfl
  | y :: M, h => by
    have ih := lk_ren hi hz (M := M) fun y hy => h y (List.mem_cons_of_mem _ hy)
    unfold lk at ih ⊢
    rw [List.map_cons, List.find?_cons, List.find?_cons]
    by_cases e : y.1 = z
    · have e2 : decide ((rk P y).1 = (Option.map (·.2) (List.find? (fun e => decide (e.1 = z)) P)).getD 0) = true := by
        apply decide_eq_true; show (lk P y.1).getD 0 = (lk P z).getD 0; rw [e]
      rw [e2, decide_eq_true e]; rfl
    · have e2 : decide ((rk P y).1 = (Option.map (·.2) (List.find? (fun e => decide (e.1 = z)) P)).getD 0) = false := by
        apply decide_eq_false; intro h2; exact e (hi _ _ (h y List.mem_cons_self) hz h2)
      rw [e2, decide_eq_false e]; exact ih
theorem metS_ren {P : List (Int × Int)} {S : Int → Prop} (hi : InjOn P S) {x : T3} (hx : S x.a) {M : List (Int × Int)} (hM : ∀ y ∈ M, S y.1) : metS (M.map (rk P)) (rn P x) = (metS M x).map (rk P) := by
  unfold metS
  have := lk_ren hi hx hM
  rw [show (rn P x).a = (lk P x.a).getD 0 from rfl, this]
  by_cases e : (lk M x.a).isSome = true
  · rw [if_pos e, if_pos e]
  · rw [if_neg e, if_neg e, List.map_append, List.length_map]; rfl
theorem met_ren_gen {P : List (Int × Int)} {S : Int → Prop} (hi : InjOn P S) : ∀ (R : List T3) (M : List (Int × Int)), (∀ x ∈ R, S x.a) → (∀ y ∈ M, S y.1) → (R.map (rn P)).foldl metS (M.map (rk P)) = (R.foldl metS M).map (rk P)
  | [], _, _, _ => rfl
  | x :: R, M, h1, h2 => by
    rw [List.map_cons, List.foldl_cons, List.foldl_cons, metS_ren hi (h1 x List.mem_cons_self) h2]
    refine met_ren_gen hi R _ (fun y hy => h1 y (List.mem_cons_of_mem _ hy)) fun y hy => ?_
    unfold metS at hy
    split at hy
    · exact h2 y hy
    · rcases List.mem_append.mp hy with hy | hy
      · exact h2 y hy
      · rw [List.mem_singleton.mp hy]; exact h1 x List.mem_cons_self
theorem met_ren {P : List (Int × Int)} {S : Int → Prop} (hi : InjOn P S) {R : List T3} (h : ∀ x ∈ R, S x.a) : met (R.map (rn P)) = (met R).map (rk P) :=
  met_ren_gen hi R [] h (fun _ h => absurd h List.not_mem_nil)
theorem met_keys {R : List T3} {S : Int → Prop} (h : ∀ x ∈ R, S x.a) : ∀ y ∈ met R, S y.1 := fun y hy => by
  obtain ⟨x, hx, e⟩ := ((met_ok R).ks y.1).mp (List.mem_map.mpr ⟨y, hy, rfl⟩)
  rw [← e]; exact h x hx
theorem flat_map (f : T3 → T3) (T : Drw) : (T.map fun r => r.map f).flatten = T.flatten.map f := by
  rw [List.map_flatten]
theorem val_ren {P : List (Int × Int)} {T : Drw} (hi : InjOn P fun z => ∃ x ∈ T.flatten, x.a = z) : val (T.map fun r => r.map (rn P)) = val T := by
  unfold val
  rw [flat_map, met_ren hi fun x hx => ⟨x, hx, rfl⟩, List.map_map]
  refine List.map_congr_left fun r hr => ?_
  show seat ((r.map (rn P)).map _) = _
  rw [List.map_map]
  refine congrArg seat (List.map_congr_left fun x hx => ?_)
  have hxm : x ∈ T.flatten := List.mem_flatten.mpr ⟨r, hr, hx⟩
  have := lk_ren hi (z := x.a) ⟨x, hxm, rfl⟩ (M := met T.flatten) (met_keys (S := fun z => ∃ x ∈ T.flatten, x.a = z) fun x hx => ⟨x, hx, rfl⟩)
  show rn ((met T.flatten).map (rk P)) (rn P x) = rn (met T.flatten) x
  unfold rn
  dsimp only
  rw [this]
/-- the least of what comes by all choices of beginnings -/
structure Lst (ds M : Drw) : Prop where
  mem : ∃ T, RotL ds T ∧ M = val T
  le : ∀ T, RotL ds T → Dat.lt (val T) M = false
theorem Lst.uniq {ds M N : Drw} (h : Lst ds M) (k : Lst ds N) : M = N := by
  obtain ⟨T, h1, rfl⟩ := h.mem
  obtain ⟨U, h2, rfl⟩ := k.mem
  exact Dat.tot _ _ (k.le T h1) (h.le U h2)
theorem Lst.same {ds ds2 M : Drw} {P : List (Int × Int)} (h : Lst ds M) (hi : InjOn P fun z => ∃ x ∈ ds.flatten, x.a = z) (hr : RotL (ds.map fun r => r.map (rn P)) ds2) : Lst ds2 M := by
  have inT : ∀ T, RotL ds T → InjOn P fun z => ∃ x ∈ T.flatten, x.a = z := fun T hT x y hx hy => by
    obtain ⟨u, hu, e1⟩ := hx
    obtain ⟨w, hw, e2⟩ := hy
    exact hi x y ⟨u, hT.flat.mem_iff.mp hu, e1⟩ ⟨w, hT.flat.mem_iff.mp hw, e2⟩
  obtain ⟨T, h1, h2⟩ := h.mem
  refine ⟨⟨T.map fun r => r.map (rn P), hr.symm'.trans' (h1.map (rn P)), by rw [val_ren (inT T h1)]; exact h2⟩, fun U hU => ?_⟩
  obtain ⟨V, rfl, hV⟩ := RotL.unmap (rn P) (hr.trans' hU)
  rw [val_ren (inT V hV)]
  exact h.le V hV
theorem val_rot (T : Drw) (P : List (Int × Int)) : RotL (T.map fun r => r.map (rn P)) (T.map fun r => seat (r.map (rn P))) := by
  induction T with
  | nil => trivial
  | cons r T ih => exact ⟨seat_rot _, ih⟩
theorem met_injOn (R : List T3) : InjOn (met R) fun z => ∃ x ∈ R, x.a = z := fun x y hx hy e => by
  obtain ⟨u, hu, rfl⟩ := hx
  obtain ⟨w, hw, rfl⟩ := hy
  exact met_inj (met_ok R) hu hw e
theorem val_flat (T : Drw) : (val T).flatten.Perm (T.flatten.map (rn (met T.flatten))) := by
  have := (val_rot T (met T.flatten)).flat
  rw [flat_map] at this
  exact this
theorem val_names (T : Drw) : sorted (nms (val T).flatten) = (List.range (nms T.flatten).length).map fun i : Nat => (i : Int) + 1 := by
  have hm := met_ok T.flatten
  have hl : (met T.flatten).length = (nms T.flatten).length := by
    have : ((met T.flatten).map (·.1)).Perm (nms T.flatten) := (List.perm_ext_iff_of_nodup hm.nd (nms_ok _).1).mpr fun z => by rw [hm.ks, (nms_ok _).2]
    rw [← this.length_eq, List.length_map]
  rw [← hl, ← hm.vs]
  refine sorted_uniq ?_ (sorted_pw _) ?_
  · refine (sorted_perm _).trans ?_
    refine (List.perm_ext_iff_of_nodup (nms_ok _).1 ?_).mpr fun z => ?_
    · rw [hm.vs]; exact List.nodup_range.map _ fun a b hab e => hab (by omega)
    · rw [(nms_ok _).2]
      constructor
      · rintro ⟨x, hx, rfl⟩
        obtain ⟨y, hy, rfl⟩ := List.mem_map.mp ((val_flat T).mem_iff.mp hx)
        obtain ⟨u, hu, e⟩ := List.mem_map.mp ((hm.ks y.a).mpr ⟨y, hy, rfl⟩)
        refine List.mem_map.mpr ⟨u, hu, ?_⟩
        show u.2 = (lk (met T.flatten) y.a).getD 0
        rw [← e, lk_mem hm.nd hu]; rfl
      · intro hz
        obtain ⟨u, hu, rfl⟩ := List.mem_map.mp hz
        obtain ⟨y, hy, e⟩ := (hm.ks u.1).mp (List.mem_map.mpr ⟨u, hu, rfl⟩)
        refine ⟨rn (met T.flatten) y, (val_flat T).mem_iff.mpr (List.mem_map.mpr ⟨y, hy, rfl⟩), ?_⟩
        show (lk (met T.flatten) y.a).getD 0 = u.2
        rw [e, lk_mem hm.nd hu]; rfl
  · rw [hm.vs]
    refine List.pairwise_map.mpr (List.pairwise_lt_range.imp fun {a b} h => ?_)
    show decide ((b : Int) + 1 < (a : Int) + 1) = false
    exact decide_eq_false (by omega)
theorem nms_rot {ds T : Drw} (h : RotL ds T) : (nms T.flatten).length = (nms ds.flatten).length :=
  ((List.perm_ext_iff_of_nodup (nms_ok _).1 (nms_ok _).1).mpr fun z => by
    rw [(nms_ok _).2, (nms_ok _).2]
    exact ⟨fun ⟨x, hx, e⟩ => ⟨x, h.flat.mem_iff.mp hx, e⟩, fun ⟨x, hx, e⟩ => ⟨x, h.flat.mem_iff.mpr hx, e⟩⟩).length_eq
theorem Lst.names {ds M : Drw} (h : Lst ds M) : sorted (nms M.flatten) = (List.range (nms ds.flatten).length).map fun i : Nat => (i : Int) + 1 := by
  obtain ⟨T, h1, rfl⟩ := h.mem
  rw [val_names, nms_rot h1]
theorem XI.rot {S k : Nat} {ds T : Drw} (h : XI S k ds) (r : RotL ds T) : XI S k T :=
  ⟨r.len.trans h.len, r.flat.length_eq.trans h.fl, (r.flat.map ky).nodup_iff.mpr h.nd⟩
theorem XI.ren {S k : Nat} {ds : Drw} {P : List (Int × Int)} (h : XI S k ds) (hi : InjOn P fun z => ∃ x ∈ ds.flatten, x.a = z) : XI S k (ds.map fun r => r.map (rn P)) := by
  refine ⟨by rw [List.length_map]; exact h.len, by rw [flat_map, List.length_map]; exact h.fl, ?_⟩
  rw [flat_map, List.map_map]
  refine List.pairwise_map.mpr ((List.pairwise_map.mp h.nd).imp_of_mem fun {x y} hx hy hne e => hne ?_)
  have e1 := hi x.a y.a ⟨x, hx, rfl⟩ ⟨y, hy, rfl⟩ (congrArg Prod.fst e)
  have e2 : x.b = y.b := congrArg Prod.snd e
  exact Prod.ext e1 e2
theorem Lst.xi {S k : Nat} {ds M : Drw} (h : Lst ds M) (x : XI S k ds) : XI S k M := by
  obtain ⟨T, h1, rfl⟩ := h.mem
  exact ((x.rot h1).ren (met_injOn _)).rot (val_rot T _)

theorem immAtL_K (k : Nat) : ∀ P : List (Int × Int), immAtL k (P.map fun x => D.int x.2) = true
  | [] => by cases k <;> rfl
  | x :: P => by
    have ih := immAtL_K k P
    rw [List.map_cons, immAtL, ih]
    cases k <;> rfl
theorem immAll_K (P : List (Int × Int)) : lowD (encK D.int P) = true := by
  show immAll (P.map fun x => D.int x.2) = true
  simp
theorem settling_is {ds : Drw} (hd : ds.length ≤ 3) (hr : ∀ r ∈ ds, r.length ≤ 30) (hf : ds.flatten.length ≤ 100) : ∃ st ∈ begs ds, (∀ st' ∈ begs ds, Dat.lt (stl ds st').2 (stl ds st).2 = false) ∧ F_settling [encD ds] = .ok (.tup [encD (stl ds st).2, encK D.int (stl ds st).1]) := by
  suffices Hs : Tells (F_settling [encD ds]) fun d => ∃ st ∈ begs ds, (∀ st' ∈ begs ds, Dat.lt (stl ds st').2 (stl ds st).2 = false) ∧ d = .tup [encD (stl ds st).2, encK D.int (stl ds st).1] by
    obtain ⟨d, e, st, h1, h2, rfl⟩ := Hs
    exact ⟨st, h1, h2, e⟩
  have hb := beg_is ds hd hr
  have hnm : ∀ st ∈ begs ds, F_names_by_meeting [encD ds, encN st] = .ok (encK D.int (stl ds st).1) := fun st hst => nbm_is hf (fun r hr' => by have := hr r hr'; omega) (begs_ok hst) (Nat.le_trans turn_flen hf)
  have hbn : ∀ st ∈ begs ds, F_by_names [encD ds, encK D.int (stl ds st).1] = .ok (encD (stl ds st).2) := fun st hst => by
    have hm := met_ok (turn ds st).flatten
    exact bn_is (fun x hx => (hm.ks x.a).mpr ⟨x, turn_mem (begs_ok hst).1 hx, rfl⟩) hm.nd (fun r hr' => by have := hr r hr'; omega) (by omega)
  have hne := begs_ne ds
  simp only [F_settling, m_settling, runD]
  obtain ⟨A, hA⟩ : ∃ A, A = encD ds := ⟨_, rfl⟩
  rw [← hA] at hb hnm hbn ⊢
  simp -implicitDefEqProofs [mCall0, hb]
  refine loop_then (fun o : Option (List Nat) => [some (0, A), some (2, encBo ds o), some (1, encM' ds o), none, none, none]) encN (fun i o => (o = none → i = 0) ∧ ∀ st, o = some st → st ∈ begs ds ∧ ∀ st' ∈ (begs ds).take i, Dat.lt (stl ds st').2 (stl ds st).2 = false) (begs ds) none rfl rfl ⟨fun _ => rfl, fun st h => by cases h⟩ ?_ ?_
  · rintro i o st hi ⟨h1, h2⟩
    have hst := List.mem_of_getElem? hi
    have n1 := hnm st hst
    have n2 := hbn st hst
    have i1 : immAt 1 (encK D.int (stl ds st).1) = true := immAt_enc _
    have i2 : immAt 2 (encD (stl ds st).2) = true := by simp
    have htk : ∀ st' ∈ (begs ds).take (i + 1), st' ∈ (begs ds).take i ∨ st' = st := fun st' h => by
      rw [List.take_succ, hi] at h
      rcases List.mem_append.mp h with h | h
      · exact .inl h
      · exact .inr (List.mem_singleton.mp h)
    have hnew : (o = none ∨ ∃ s0, o = some s0 ∧ Dat.lt (stl ds st).2 (stl ds s0).2 = true) → ((some st : Option (List Nat)) = none → i + 1 = 0) ∧ ∀ st1, some st = some st1 → st1 ∈ begs ds ∧ ∀ st' ∈ (begs ds).take (i + 1), Dat.lt (stl ds st').2 (stl ds st1).2 = false := fun hc => by
      refine ⟨(fun h => nomatch h), fun st1 h => ?_⟩
      cases h
      refine ⟨hst, fun st' h' => ?_⟩
      rcases htk st' h' with h' | rfl
      · rcases hc with rfl | ⟨s0, rfl, hlt⟩
        · rw [h1 rfl] at h'; exact absurd h' (by simp)
        · have h3 := (h2 s0 rfl).2 st' h'
          cases e : Dat.lt (stl ds st').2 (stl ds st).2 with
          | false => rfl
          | true => rw [Dat.tr _ _ _ e hlt] at h3; cases h3
      · exact Dat.irr _
    cases o with
    | none =>
      refine ⟨some st, hnew (.inl rfl), ?_⟩
      have e1 : encBo ds none = .non := rfl
      have e2 : encM' ds none = .dk [] [] := rfl
      have e3 : encBo ds (some st) = encD (stl ds st).2 := rfl
      have e4 : encM' ds (some st) = encK D.int (stl ds st).1 := rfl
      rw [e1, e2, e3, e4]
      have hN : gIsN .non = .ok (.bl true) := rfl
      generalize encK D.int (stl ds st).1 = K at *
      generalize encD (stl ds st).2 = DD at *
      generalize encN st = N at *
      simp -implicitDefEqProofs [n1, i1, n2, i2, hN, fz]
    | some s0 =>
      have hlt := gLt_D (stl ds st).2 (stl ds s0).2
      have hN : gIsN (encD (stl ds s0).2) = .ok (.bl false) := rfl
      have e1 : encBo ds (some s0) = encD (stl ds s0).2 := rfl
      have e2 : encM' ds (some s0) = encK D.int (stl ds s0).1 := rfl
      cases e : Dat.lt (stl ds st).2 (stl ds s0).2 with
      | true =>
        refine ⟨some st, hnew (.inr ⟨s0, rfl, e⟩), ?_⟩
        have e3 : encBo ds (some st) = encD (stl ds st).2 := rfl
        have e4 : encM' ds (some st) = encK D.int (stl ds st).1 := rfl
        rw [e] at hlt
        rw [e1, e2, e3, e4]
        generalize encK D.int (stl ds st).1 = K at *
        generalize encD (stl ds st).2 = DD at *
        generalize encK D.int (stl ds s0).1 = K0 at *
        generalize encD (stl ds s0).2 = D0 at *
        generalize encN st = N at *
        simp -implicitDefEqProofs [n1, i1, n2, i2, hN, hlt, fz]
      | false =>
        refine ⟨some s0, ⟨(fun h => nomatch h), fun st1 h => ?_⟩, ?_⟩
        · cases h
          refine ⟨(h2 s0 rfl).1, fun st' h' => ?_⟩
          rcases htk st' h' with h' | rfl
          · exact (h2 s0 rfl).2 st' h'
          · exact e
        rw [e] at hlt
        rw [e1, e2]
        generalize encK D.int (stl ds st).1 = K at *
        generalize encD (stl ds st).2 = DD at *
        generalize encK D.int (stl ds s0).1 = K0 at *
        generalize encD (stl ds s0).2 = D0 at *
        generalize encN st = N at *
        simp -implicitDefEqProofs [n1, i1, n2, i2, hN, hlt, fz]
  · rintro o ⟨h1, h2⟩
    cases o with
    | none =>
      have := h1 rfl
      exact absurd (List.length_eq_zero_iff.mp this) hne
    | some st =>
      obtain ⟨h3, h4⟩ := h2 st rfl
      rw [List.take_length] at h4
      have e1 : encBo ds (some st) = encD (stl ds st).2 := rfl
      have e2 : encM' ds (some st) = encK D.int (stl ds st).1 := rfl
      have hu : lowD (encK D.int (stl ds st).1) = true := immAll_K _
      rw [e1, e2]
      refine Tells.of (b := D.tup [encD (stl ds st).2, encK D.int (stl ds st).1]) ?_ ⟨st, h3, h4, rfl⟩
      generalize encK D.int (stl ds st).1 = K at *
      generalize encD (stl ds st).2 = DD at *
      simp -implicitDefEqProofs [hu]
theorem settled_is {ds : Drw} {M : Drw} {P : List (Int × Int)} (h : F_settling [encD ds] = .ok (.tup [encD M, encK D.int P])) : F_settled [encD ds] = .ok (encD M) := by
  simp only [F_settled, m_settled, runD]
  have hi : gIxT (.tup [encD M, encK D.int P]) (.int 0) = .ok (encD M) := rfl
  have i2 : immAt 2 (encD M) = true := by simp
  have i3 : immAt 2 (encK D.int P) = true := immAtL_K 1 P
  have i4 : immAt 3 (.tup [encD M, encK D.int P]) = true := by
    show (immAt 2 (encD M) && (immAt 2 (encK D.int P) && true)) = true
    rw [i2, i3]; rfl
  generalize encK D.int P = K at *
  generalize encD M = MD at *
  generalize encD ds = DD at *
  simp -implicitDefEqProofs [h, i4, hi, -e_gIxT]
theorem lst_of {ds : Drw} {st : List Nat} (nd : ∀ r ∈ ds, (r.map ky).Nodup) (hst : st ∈ begs ds) (hmin : ∀ st' ∈ begs ds, Dat.lt (stl ds st').2 (stl ds st).2 = false) : Lst ds (stl ds st).2 := by
  obtain ⟨h1, h2⟩ := chs_begs ds
  refine ⟨⟨turn ds st, chs_mem.mp (by rw [h1]; exact List.mem_map.mpr ⟨st, hst, rfl⟩), stl_val (h2 st hst) nd⟩, fun T hT => ?_⟩
  have := chs_mem.mpr hT
  rw [h1] at this
  obtain ⟨st', hst', rfl⟩ := List.mem_map.mp this
  rw [← stl_val (h2 st' hst') nd]
  exact hmin st' hst'
theorem XI.row {S k : Nat} {ds : Drw} (x : XI S k ds) : ∀ r ∈ ds, r.length ≤ 2 * k ∧ (r.map ky).Nodup := fun r hr => by
  refine ⟨by have := flat_ge hr; have := x.fl; omega, ?_⟩
  obtain ⟨X, Y, e⟩ := List.append_of_mem hr
  have := x.nd
  rw [e, List.flatten_append, List.flatten_cons, List.map_append, List.map_append] at this
  exact (List.nodup_append.mp (List.nodup_append.mp this).2.1).1
def encO (o : Option Drw) : D := match o with
  | none => .non
  | some T => encD (val T)
/-- the settled drawing by the law's reckoning -/
theorem lset12_is {S k : Nat} {ds : Drw} (x : XI S k ds) (hS : S ≤ 3) (hk : k ≤ 12) : ∃ M, Lst ds M ∧ F__law_settled [encD ds] = .ok (encD M) := by
  suffices Hs : Tells (F__law_settled [encD ds]) fun d => ∃ M, Lst ds M ∧ d = encD M by
    obtain ⟨d, e, M, h1, rfl⟩ := Hs
    exact ⟨M, h1, e⟩
  have hdl := x.len
  have hf := x.fl
  have hch := chs_is ds (by omega) (fun r hr => by have := (x.row r hr).1; omega)
  have hv : ∀ T, RotL ds T → F__law_met [encD T] = .ok (encK D.int (met T.flatten)) ∧ F__law_called [encD T, encK D.int (met T.flatten)] = .ok (encD (T.map fun r => r.map (rn (met T.flatten)))) ∧ F__law_seats [encD (T.map fun r => r.map (rn (met T.flatten)))] = .ok (encD (val T)) := fun T hT => by
    have xT := x.rot hT
    have xR := xT.ren (met_injOn T.flatten)
    have hm := met_ok T.flatten
    refine ⟨lmet_is (by have := xT.fl; omega), lcalled_is (fun y hy => (hm.ks y.a).mpr ⟨y, hy, rfl⟩) hm.nd (fun r hr => by have := (xT.row r hr).1; omega) (by have := xT.len; omega), ?_⟩
    have := lseats_is (ds := T.map fun r => r.map (rn (met T.flatten))) (fun r hr => ⟨by have := (xR.row r hr).1; omega, (xR.row r hr).2⟩) (by have := xR.len; omega)
    rw [List.map_map] at this
    exact this
  have hne : chs ds ≠ [] := fun e => by
    have := chs_mem.mpr (RotL.refl' ds)
    rw [e] at this
    exact absurd this List.not_mem_nil
  simp only [F__law_settled, m__law_settled, runD]
  obtain ⟨A, hA⟩ : ∃ A, A = encD ds := ⟨_, rfl⟩
  rw [← hA] at hch ⊢
  simp -implicitDefEqProofs [mCall0, hch]
  refine loop_then (fun o : Option Drw => [some (0, A), some (0, encO o), none, none]) encD (fun i o => (o = none → i = 0) ∧ ∀ T, o = some T → RotL ds T ∧ ∀ T' ∈ (chs ds).take i, Dat.lt (val T') (val T) = false) (chs ds) none rfl rfl ⟨fun _ => rfl, fun st h => by cases h⟩ ?_ ?_
  · rintro i o T hi ⟨h1, h2⟩
    have hT := chs_mem.mp (List.mem_of_getElem? hi)
    obtain ⟨n1, n2, n3⟩ := hv T hT
    have i1 : immAt 1 (encK D.int (met T.flatten)) = true := immAt_enc _
    have i2 : immAt 2 (encD (val T)) = true := by simp
    have i3 : immAt 2 (encD (T.map fun r => r.map (rn (met T.flatten)))) = true := by simp
    have htk : ∀ T' ∈ (chs ds).take (i + 1), T' ∈ (chs ds).take i ∨ T' = T := fun T' h => by
      rw [List.take_succ, hi] at h
      rcases List.mem_append.mp h with h | h
      · exact .inl h
      · exact .inr (List.mem_singleton.mp h)
    have hnew : (o = none ∨ ∃ s0, o = some s0 ∧ Dat.lt (val T) (val s0) = true) → ((some T : Option Drw) = none → i + 1 = 0) ∧ ∀ T1, some T = some T1 → RotL ds T1 ∧ ∀ T' ∈ (chs ds).take (i + 1), Dat.lt (val T') (val T1) = false := fun hc => by
      refine ⟨(fun h => nomatch h), fun T1 h => ?_⟩
      cases h
      refine ⟨hT, fun T' h' => ?_⟩
      rcases htk T' h' with h' | rfl
      · rcases hc with rfl | ⟨s0, rfl, hlt⟩
        · rw [h1 rfl] at h'; exact absurd h' (by simp)
        · have h3 := (h2 s0 rfl).2 T' h'
          cases e : Dat.lt (val T') (val T) with
          | false => rfl
          | true => rw [Dat.tr _ _ _ e hlt] at h3; cases h3
      · exact Dat.irr _
    cases o with
    | none =>
      refine ⟨some T, hnew (.inl rfl), ?_⟩
      have e1 : encO none = .non := rfl
      have e3 : encO (some T) = encD (val T) := rfl
      rw [e1, e3]
      have hN : gIsN .non = .ok (.bl true) := rfl
      generalize encD (T.map fun r => r.map (rn (met T.flatten))) = CD at *
      generalize encK D.int (met T.flatten) = K at *
      generalize encD (val T) = DD at *
      generalize encD T = N at *
      simp -implicitDefEqProofs [n1, i1, n2, i2, n3, i3, hN]
    | some s0 =>
      have hlt := gLt_D (val T) (val s0)
      have hN : gIsN (encD (val s0)) = .ok (.bl false) := rfl
      have e1 : encO (some s0) = encD (val s0) := rfl
      have e3 : encO (some T) = encD (val T) := rfl
      cases e : Dat.lt (val T) (val s0) with
      | true =>
        refine ⟨some T, hnew (.inr ⟨s0, rfl, e⟩), ?_⟩
        rw [e] at hlt
        rw [e1, e3]
        generalize encD (T.map fun r => r.map (rn (met T.flatten))) = CD at *
        generalize encK D.int (met T.flatten) = K at *
        generalize encD (val T) = DD at *
        generalize encD (val s0) = D0 at *
        generalize encD T = N at *
        simp -implicitDefEqProofs [n1, i1, n2, i2, n3, i3, hN, hlt]
      | false =>
        refine ⟨some s0, ⟨(fun h => nomatch h), fun T1 h => ?_⟩, ?_⟩
        · cases h
          refine ⟨(h2 s0 rfl).1, fun T' h' => ?_⟩
          rcases htk T' h' with h' | rfl
          · exact (h2 s0 rfl).2 T' h'
          · exact e
        rw [e] at hlt
        rw [e1]
        generalize encD (T.map fun r => r.map (rn (met T.flatten))) = CD at *
        generalize encK D.int (met T.flatten) = K at *
        generalize encD (val T) = DD at *
        generalize encD (val s0) = D0 at *
        generalize encD T = N at *
        simp -implicitDefEqProofs [n1, i1, n2, i2, n3, i3, hN, hlt]
  · rintro o ⟨h1, h2⟩
    cases o with
    | none =>
      have := h1 rfl
      exact absurd (List.length_eq_zero_iff.mp this) hne
    | some T =>
      obtain ⟨h3, h4⟩ := h2 T rfl
      rw [List.take_length] at h4
      have e1 : encO (some T) = encD (val T) := rfl
      rw [e1]
      refine Tells.of (b := encD (val T)) ?_ ⟨_, ⟨⟨T, h3, rfl⟩, fun T' hT' => h4 T' (chs_mem.mpr hT')⟩, rfl⟩
      generalize encD (val T) = DD at *
      simp -implicitDefEqProofs

/-! ### words of passings, lines -/
def tx (i : Int) : Str := Str.ofString (toString i)
def wdL (a : Int) (b c : Int) : List Nat := TL.numL a.toNat ++ [if b = 0 then 111 else 117, if c < 0 then 45 else 43]
def wd (x : T3) : Str := ⟨(wdL x.a x.b x.c).toArray⟩
def okB (r : Res D) (i : Bool) : Bool := match r with
  | .ok (.bl j) => decide (j = i)
  | _ => false
theorem okB_eq {r : Res D} {i : Bool} (h : okB r i = true) : r = .ok (.bl i) := by
  unfold okB at h
  split at h
  · rw [of_decide_eq_true h]
  · cases h
structure Gd (x : T3) : Prop where
  a1 : 1 ≤ x.a
  a9 : x.a ≤ 999
  b : x.b = 0 ∨ x.b = 1
  c : x.c = 1 ∨ x.c = -1
theorem wd_eq {x : T3} {n : Nat} (e : x.a = n) : wd x = ⟨(TL.numL n ++ [if x.b = 0 then 111 else 117, if x.c < 0 then 45 else 43]).toArray⟩ := by
  unfold wd wdL
  rw [e]; rfl
theorem nat_of {x : T3} (h : Gd x) : ∃ n : Nat, x.a = n ∧ 1 ≤ n ∧ n ≤ 999 := ⟨x.a.toNat, by have := h.a1; omega, by have := h.a1; omega, by have := h.a9; have := h.a1; omega⟩
/-! ### written -/
theorem ox (b : Int) (h : b = 0 ∨ b = 1) : gIx (.str (Str.ofString "ou")) (.int b) = .ok (.str ⟨#[if b = 0 then 111 else 117]⟩) := by
  rcases h with rfl | rfl <;> rfl
theorem tl_tx {x : T3} {n : Nat} (e : x.a = n) : TL.tl (tx x.a) = TL.numL n := by rw [e]; exact TL.tl_num n
theorem gStr_ok {x : T3} (h : Gd x) : gStr (.int x.a) = .ok (.str (tx x.a)) := if_pos (by
  have h1 := h.a1
  have h9 := h.a9
  have := PySem.Flt.log2_lt_of (n := x.a.natAbs) (k := 10) (by omega) (by omega)
  omega)
theorem gAdd_s {a b : Str} (h : a.length + b.length ≤ 16000000) : gAdd (.str a) (.str b) = .ok (.str (a ++ b)) := if_pos (sizeLine_big h)
theorem wd_len {x : T3} (h : Gd x) : (wd x).length ≤ 5 ∧ 3 ≤ (wd x).length := by
  obtain ⟨n, e, h1, h9⟩ := nat_of h
  have hl := TL.numL_len (n := n) (k := 3) (by decide) (by omega)
  have l0 : (TL.numL n).length ≠ 0 := fun z => TL.numL_ne n (List.length_eq_zero_iff.mp z)
  rw [wd_eq e, TL.len_tl, TL.tl_mk, List.length_append]
  show (TL.numL n).length + 2 ≤ 5 ∧ 3 ≤ (TL.numL n).length + 2
  omega
theorem two_adds {x : T3} (h : Gd x) (s : Str) (hs : TL.tl s = [if x.c < 0 then 45 else 43]) : gAdd (.str (tx x.a)) (.str ⟨#[if x.b = 0 then 111 else 117]⟩) = .ok (.str (tx x.a ++ ⟨#[if x.b = 0 then 111 else 117]⟩)) ∧ gAdd (.str (tx x.a ++ ⟨#[if x.b = 0 then 111 else 117]⟩)) (.str s) = .ok (.str (wd x)) := by
  obtain ⟨n, e, h1, h9⟩ := nat_of h
  have hl := TL.numL_len (n := n) (k := 3) (by decide) (by omega)
  have e1 : (tx x.a).length = (TL.numL n).length := by rw [TL.len_tl, tl_tx e]
  have e2 : s.length = 1 := by rw [TL.len_tl, hs]; rfl
  have e3 : (⟨#[if x.b = 0 then 111 else 117]⟩ : Str).length = 1 := rfl
  refine ⟨gAdd_s (by omega), ?_⟩
  rw [gAdd_s (by rw [Str.length_append]; omega)]
  refine congrArg (fun z => Res.ok (D.str z)) (TL.ext_tl ?_)
  show TL.tl _ = TL.tl _
  rw [TL.tl_append, TL.tl_append, hs, tl_tx e, wd_eq e, TL.tl_mk, List.append_assoc]; rfl
theorem passing_is {x : T3} (h : Gd x) : F_passing_text [t3 x] = .ok (.str (wd x)) := by
  have g0 : gIx (t3 x) (.int 0) = .ok (.int x.a) := rfl
  have g1 : gIx (t3 x) (.int 1) = .ok (.int x.b) := rfl
  have g2 : gIx (t3 x) (.int 2) = .ok (.int x.c) := rfl
  have hs := gStr_ok h
  have ho := ox x.b h.b
  simp only [F_passing_text, m_passing_text, runD]
  rcases h.c with e | e
  · obtain ⟨a1, a2⟩ := two_adds h (Str.ofString "+") (by rw [e]; rfl)
    rw [e] at g2
    generalize t3 x = X at *
    generalize (if x.b = 0 then 111 else 117 : Nat) = O at *
    simp -implicitDefEqProofs [g0, g1, g2, hs, ho, a1, a2]
  · obtain ⟨a1, a2⟩ := two_adds h (Str.ofString "-") (by rw [e]; rfl)
    rw [e] at g2
    generalize t3 x = X at *
    generalize (if x.b = 0 then 111 else 117 : Nat) = O at *
    simp -implicitDefEqProofs [g0, g1, g2, hs, ho, a1, a2]
def words (r : List T3) : List Str := if r = [] then [Str.ofString "."] else r.map wd
def line (r : List T3) : Str := Txt.join (Str.ofString " ") (words r)
def text (ds : Drw) : Str := Txt.join (Str.ofString "\n") (ds.map line)
theorem strsOf_map (ys : List Str) : strsOf (ys.map D.str) = some ys := by
  induction ys with
  | nil => rfl
  | cons y ys ih => show (strsOf (ys.map D.str)).map _ = _; rw [ih]; rfl
theorem sum_le {ys : List Str} {c : Nat} (h : ∀ y ∈ ys, y.length ≤ c) : (ys.map (·.length)).sum ≤ ys.length * c := by
  induction ys with
  | nil => simp
  | cons y ys ih =>
    have h1 := ih fun z hz => h z (List.mem_cons_of_mem _ hz)
    have h2 := h y List.mem_cons_self
    simp only [List.map_cons, List.sum_cons, List.length_cons, Nat.add_mul, Nat.one_mul]; omega
theorem gJoin_ok {a : Str} {ys : List Str} {c : Nat} (ha : a.length = 1) (h : ∀ y ∈ ys, y.length ≤ c) (hb : ys.length * (c + 1) ≤ 16000000) : gJoin (.str a) (.lst (ys.map D.str)) = .ok (.str (Txt.join a ys)) := by
  have h1 := sum_le h
  unfold gJoin
  simp only [strsOf_map]
  rw [Nat.mul_add] at hb
  exact if_pos (by rw [ha]; omega)
theorem joinL_len (S : List Nat) : ∀ ps : List (List Nat), (TL.joinL S ps).length ≤ (ps.map (·.length)).sum + ps.length * S.length
  | [] => by simp [TL.joinL]
  | [p] => by simp [TL.joinL]
  | p :: q :: r => by
    have ih := joinL_len S (q :: r)
    rw [TL.joinL, List.length_append, List.length_append, List.map_cons, List.sum_cons, List.length_cons, Nat.add_mul]
    omega
theorem join_len {a : Str} {ys : List Str} {c : Nat} (ha : a.length = 1) (h : ∀ y ∈ ys, y.length ≤ c) : (Txt.join a ys).length ≤ ys.length * (c + 1) := by
  have h1 := sum_le h
  have h2 := joinL_len (TL.tl a) (ys.map TL.tl)
  rw [TL.join_eq, TL.len_tl, TL.tl_join]
  rw [List.map_map, List.length_map, ← TL.len_tl, ha] at h2
  have e : (ys.map ((fun x => x.length) ∘ TL.tl)) = ys.map (·.length) := List.map_congr_left fun y _ => (TL.len_tl y).symm
  rw [e] at h2
  rw [Nat.mul_add]
  omega
theorem words_len {r : List T3} (h : ∀ x ∈ r, Gd x) : (words r).length ≤ r.length + 1 ∧ ∀ y ∈ words r, y.length ≤ 5 := by
  unfold words
  split
  · refine ⟨by show 1 ≤ _; omega, fun y hy => ?_⟩
    rw [List.mem_singleton.mp hy]; decide +kernel
  · refine ⟨by rw [List.length_map]; omega, fun y hy => ?_⟩
    obtain ⟨x, hx, rfl⟩ := List.mem_map.mp hy
    exact (wd_len (h x hx)).1
theorem line_len {r : List T3} (h : ∀ x ∈ r, Gd x) : (line r).length ≤ (r.length + 1) * 6 := by
  obtain ⟨h1, h2⟩ := words_len h
  refine Nat.le_trans (join_len (c := 5) rfl h2) (Nat.mul_le_mul h1 (Nat.le_refl _))
/-! ### lines and texts written -/
theorem seat_mem {r : List T3} {x : T3} : x ∈ seat r ↔ x ∈ r := by
  obtain ⟨u, v, e1, e2⟩ := seat_rot r
  rw [e2]
  conv => rhs; rw [e1]
  simp [or_comm]
theorem words_some {r : List T3} (h : r ≠ []) : line r = Txt.join (Str.ofString " ") (r.map wd) := by
  unfold line words
  rw [if_neg h]
theorem words_join {r : List T3} (h : ∀ x ∈ r, Gd x) (hl : r.length ≤ 1000) (hr : r ≠ []) : gJoin (.str (Str.ofString " ")) (.lst ((r.map wd).map D.str)) = .ok (.str (line r)) := by
  rw [words_some hr]
  refine gJoin_ok (c := 5) rfl (fun y hy => ?_) (by rw [List.length_map]; omega)
  obtain ⟨x, hx, rfl⟩ := List.mem_map.mp hy
  exact (wd_len (h x hx)).1
theorem rowtext_is {r : List T3} (h : ∀ x ∈ r, Gd x) (hl : r.length ≤ 1000) : F_row_text [encR r] = .ok (.str (line (seat r))) := by
  by_cases hr : r = []
  · subst hr; rfl
  have hs := seated_is r (by omega)
  have hsn : seat r ≠ [] := fun e => hr (by
    have := seat_len r
    rw [e] at this
    exact List.length_eq_zero_iff.mp this.symm)
  have hsg : ∀ x ∈ seat r, Gd x := fun x hx => h x (seat_mem.mp hx)
  have hj := words_join hsg (by rw [seat_len]; exact hl) hsn
  have hT : gTru (encR r) = .ok (!decide (r = [])) := gTru_R r
  rw [decide_eq_false hr] at hT
  have i1 : immAt 1 (encR (seat r)) = true := immAt1_R _
  have hSi : itemsL (encR (seat r)) = .ok ((seat r).map t3) := rfl
  have hlc := lc_all (t := tName 1) (me := mCall 0 F_passing_text (mConsA (mVar 1) mNilA)) t3 (fun x => D.str (wd x)) (seat r) (env := [some (0, encR r), none]) (fun x hx => by
    have hp := passing_is (hsg x hx)
    generalize t3 x = X at *
    generalize encR r = RR at *
    simp -implicitDefEqProofs [hp])
  have hz : (((seat r).map wd).map D.str).length ≤ sizeLine := sizeLine_big (by rw [List.length_map, List.length_map, seat_len]; omega)
  rw [show ((seat r).map fun x => D.str (wd x)) = ((seat r).map wd).map D.str by rw [List.map_map]; rfl] at hlc
  simp only [F_row_text, m_row_text, runD]
  generalize encR r = A at *
  generalize encR (seat r) = B at *
  generalize ((seat r).map wd).map D.str = WW at *
  simp -implicitDefEqProofs [hT, mJoin, e_mLc, hs, i1, hSi, hlc, hz, hj]
theorem lines_join {ds : Drw} (h : ∀ r ∈ ds, ∀ x ∈ r, Gd x) (hd : ds.length ≤ 10) (hl : ∀ r ∈ ds, r.length ≤ 1000) : gJoin (.str (Str.ofString "\n")) (.lst ((ds.map line).map D.str)) = .ok (.str (text ds)) := by
  refine gJoin_ok (c := 6006) rfl (fun y hy => ?_) (by rw [List.length_map]; omega)
  obtain ⟨r, hr, rfl⟩ := List.mem_map.mp hy
  have h1 := line_len (h r hr)
  have h2 := hl r hr
  omega
theorem textof_is {ds : Drw} (h : ∀ r ∈ ds, ∀ x ∈ r, Gd x) (hd : ds.length ≤ 10) (hl : ∀ r ∈ ds, r.length ≤ 1000) : F_text_of [encD ds] = .ok (.str (text (ds.map seat))) := by
  have hj := lines_join (ds := ds.map seat) (fun r hr x hx => by
    obtain ⟨q, hq, rfl⟩ := List.mem_map.mp hr
    exact h q hq x (seat_mem.mp hx)) (by rw [List.length_map]; exact hd) (fun r hr => by
    obtain ⟨q, hq, rfl⟩ := List.mem_map.mp hr
    rw [seat_len]; exact hl q hq)
  have hDi : itemsL (encD ds) = .ok (ds.map encR) := rfl
  have hlc := lc_all (t := tName 1) (me := mCall 0 F_row_text (mConsA (mVar 1) mNilA)) encR (fun r => D.str (line (seat r))) ds (env := [some (0, encD ds), none]) (fun r hr => by
    have hp := rowtext_is (h r hr) (hl r hr)
    generalize encR r = X at *
    generalize encD ds = RR at *
    simp -implicitDefEqProofs [hp])
  have hz : (((ds.map seat).map line).map D.str).length ≤ sizeLine := sizeLine_big (by rw [List.length_map, List.length_map, List.length_map]; omega)
  rw [show (ds.map fun x => D.str (line (seat x))) = ((ds.map seat).map line).map D.str by rw [List.map_map, List.map_map]; rfl] at hlc
  simp only [F_text_of, m_text_of, runD]
  generalize encD ds = A at *
  generalize List.map D.str _ = WW at *
  simp -implicitDefEqProofs [mJoin, e_mLc, hDi, hlc, hz, hj]

/-! ### bounds, reach by no move -/
theorem set12_is {S k : Nat} {ds : Drw} (x : XI S k ds) (hS : S ≤ 3) (hk : k ≤ 12) : ∃ M, Lst ds M ∧ F_settled [encD ds] = .ok (encD M) := by
  have hdl := x.len
  have hf := x.fl
  have hrf : ∀ r ∈ ds, r.length ≤ 24 := fun r hr => by have := flat_ge hr; omega
  obtain ⟨st, hst, hmin, hset⟩ := settling_is (ds := ds) (by omega) (fun r hr => by have := hrf r hr; omega) (by omega)
  exact ⟨_, lst_of (fun r hr => (x.row r hr).2) hst hmin, settled_is hset⟩
theorem Lst.gd {ds M : Drw} (h : Lst ds M) (hf : (nms ds.flatten).length ≤ 900) (hb : ∀ x ∈ ds.flatten, (x.b = 0 ∨ x.b = 1) ∧ (x.c = 1 ∨ x.c = -1)) : ∀ r ∈ M, ∀ x ∈ r, Gd x := fun r hr x hx => by
  have hxf : x ∈ M.flatten := List.mem_flatten.mpr ⟨r, hr, hx⟩
  have hn := h.names
  have ha : x.a ∈ sorted (nms M.flatten) := (sorted_perm _).mem_iff.mpr (((nms_ok _).2 _).mpr ⟨x, hxf, rfl⟩)
  rw [hn] at ha
  obtain ⟨i, hi, e⟩ := List.mem_map.mp ha
  have hi2 := List.mem_range.mp hi
  obtain ⟨T, h1, rfl⟩ := h.mem
  obtain ⟨y, hy, rfl⟩ := List.mem_map.mp ((val_flat T).mem_iff.mp hxf)
  have hbc := hb y (h1.flat.mem_iff.mp hy)
  exact ⟨by omega, by omega, hbc.1, hbc.2⟩
theorem Lst.len {ds M : Drw} (h : Lst ds M) : M.length = ds.length := by
  obtain ⟨T, h1, rfl⟩ := h.mem
  unfold val
  rw [List.length_map, h1.len]
theorem Lst.flen {ds M : Drw} (h : Lst ds M) : M.flatten.length = ds.flatten.length := by
  obtain ⟨T, h1, rfl⟩ := h.mem
  rw [(val_flat T).length_eq, List.length_map, h1.flat.length_eq]
theorem hnds_len (ds : Drw) : (hnds ds).length = (nms ds.flatten).length := by
  have h1 : ((hnds ds).map (·.1)).Nodup := pts_nodup (key := T3.a) (val := T3.c) ds.flatten (p := []) List.nodup_nil
  have h2 : ((hnds ds).map (·.1)).Perm (nms ds.flatten) := (List.perm_ext_iff_of_nodup h1 (nms_ok _).1).mpr fun z => by
    rw [(nms_ok _).2]
    have := pts_mem (key := T3.a) (val := T3.c) ds.flatten [] z
    unfold hnds
    rw [this]
    simp
  have := h2.length_eq
  rwa [List.length_map] at this
/-- how many crossings, as names_of tells it -/
theorem names_n {ds : Drw} (hf : ds.flatten.length ≤ 30) : ∃ N : List Int, F_names_of [encD ds] = .ok (.lst (N.map D.int)) ∧ N.length = (nms ds.flatten).length := by
  have hl : (hnds ds).length < 64 := by
    rw [hnds_len]
    have := nmF_len ds.flatten []
    unfold nms
    rw [List.length_nil] at this
    omega
  refine ⟨_, names_is ds (by omega) hl, ?_⟩
  rw [(sortI_perm _).length_eq, List.length_map, hnds_len]
theorem lnames_n {ds : Drw} (hf : ds.flatten.length ≤ 30) : ∃ N : List Int, F__law_names [encD ds] = .ok (.lst (N.map D.int)) ∧ N.length = (nms ds.flatten).length := by
  refine ⟨_, lnm_is (by omega), (sorted_perm _).length_eq⟩

/-! ### bounds looked at -/
def lbB : Mir.Env → Res Ctl := mIf (mN (mTb (mOp gGt (mUn gLen (mCall 1 F_names_of (mConsA (mVar 2) mNilA))) (mC (.int 8))))) (mRaise "TooMany") mSkip
theorem lb_body (x0 x1 : Option (Nat × D)) {E : Drw} (hf : E.flatten.length ≤ 30) : lbB [x0, x1, some (0, encD E)] = if 8 < (nms E.flatten).length then .exc "TooMany" [] [] else .ok (.nx [x0, x1, some (0, encD E)]) := by
  obtain ⟨N, hN, hl⟩ := names_n hf
  have hi : immAt 1 (.lst (N.map D.int)) = true := by simp
  have gl : gLen (.lst (N.map D.int)) = .ok (.int (N.length : Nat)) := by
    show Res.ok (D.int (((N.map D.int).length : Nat) : Int)) = _
    rw [List.length_map]
  rw [← hl]
  unfold lbB
  generalize encD E = DE at *
  generalize List.map D.int N = NN at *
  by_cases h : 8 < N.length
  · have : (8 : Int) < (N.length : Nat) := by omega
    rw [if_pos h]
    simp -implicitDefEqProofs [mN, mRaise, hN, hi, gl, this]
  · have : ¬ (8 : Int) < (N.length : Nat) := by omega
    rw [if_neg h]
    simp -implicitDefEqProofs [mN, mRaise, hN, hi, gl, this]
theorem lb_loop (x0 x1 : Option (Nat × D)) : ∀ {Es : List Drw}, (∀ E ∈ Es, E.flatten.length ≤ 30) → loop (nT (tName 2)) lbB [2] (Es.map encD) [x0, x1, none] = if ∃ E ∈ Es, 8 < (nms E.flatten).length then .exc "TooMany" [] [] else .ok (.nx [x0, x1, none])
  | [], _ => by simp [loop]
  | E :: Es, h => by
    have hb := lb_body x0 x1 (h E List.mem_cons_self)
    have ih := lb_loop x0 x1 (Es := Es) fun F hF => h F (List.mem_cons_of_mem _ hF)
    rw [List.map_cons, loop]
    have ht : nT (tName 2) 0 (encD E) [x0, x1, none] = .ok [x0, x1, some (0, encD E)] := rfl
    rw [ht]
    show (lbB [x0, x1, some (0, encD E)] >>= fun c => match c with
      | .nx e => loop (nT (tName 2)) lbB [2] (Es.map encD) (clear e [2]) | .ct e => loop (nT (tName 2)) lbB [2] (Es.map encD) (clear e [2]) | .bk e => .ok (.nx (clear e [2])) | .rt d => .ok (.rt d)) = _
    rw [hb]
    by_cases hE : 8 < (nms E.flatten).length
    · rw [if_pos hE, if_pos ⟨E, List.mem_cons_self, hE⟩]; rfl
    · rw [if_neg hE]
      show loop (nT (tName 2)) lbB [2] (Es.map encD) [x0, x1, none] = _
      rw [ih]
      have : (∃ F ∈ E :: Es, 8 < (nms F.flatten).length) ↔ ∃ F ∈ Es, 8 < (nms F.flatten).length := by
        constructor
        · rintro ⟨F, hF, h1⟩
          rcases List.mem_cons.mp hF with rfl | hF
          · exact absurd h1 hE
          · exact ⟨F, hF, h1⟩
        · rintro ⟨F, hF, h1⟩
          exact ⟨F, List.mem_cons_of_mem _ hF, h1⟩
      by_cases hx : ∃ F ∈ Es, 8 < (nms F.flatten).length
      · rw [if_pos hx, if_pos (this.mpr hx)]
      · rw [if_neg hx, if_neg fun z => hx (this.mp z)]
theorem lookb_len (A : D) {L : Int} (h : L < 0 ∨ 4 < L) : F_look_at_bounds [A, .int L] = .exc "NoLength" [] [] := by
  simp only [F_look_at_bounds, m_look_at_bounds, runD]
  rcases h with h | h
  · simp -implicitDefEqProofs [mN, mRaise, h]
  · have h0 : ¬ L < 0 := by omega
    simp -implicitDefEqProofs [mN, mRaise, h, h0]
theorem lookb_is {Es : List Drw} (hE : ∀ E ∈ Es, E.flatten.length ≤ 30) {L : Int} (h : 0 ≤ L ∧ L ≤ 4) : F_look_at_bounds [.lst (Es.map encD), .int L] = if ∃ E ∈ Es, 8 < (nms E.flatten).length then .exc "TooMany" [] [] else .ok .non := by
  have h0 : ¬ L < 0 := by omega
  have h4 : ¬ (4 : Int) < L := by omega
  have hl := lb_loop (some (0, .lst (Es.map encD))) (some (0, .int L)) hE
  have hi : itemsL (.lst (Es.map encD)) = .ok (Es.map encD) := rfl
  unfold lbB at hl
  simp only [F_look_at_bounds, m_look_at_bounds, runD]
  by_cases hx : ∃ E ∈ Es, 8 < (nms E.flatten).length
  · rw [if_pos hx] at hl ⊢
    generalize List.map encD Es = AA at *
    simp -implicitDefEqProofs [mN, h0, h4, hi, hl]
  · rw [if_neg hx] at hl ⊢
    generalize List.map encD Es = AA at *
    simp -implicitDefEqProofs [mN, h0, h4, hi, hl]

/-! ### sorted by the drawing -/
theorem sortable_D (xs : List Drw) : sortable (xs.map encD) = true := by
  have hs : sortB (pyAll (xs.map encD)) = true := by
    have := sortB_lst (xs.map fun l => l.map encR)
    rw [List.map_map] at this
    exact this
  have h1 := layAll_enc (α := Drw) xs
  have h2 := alikeB_enc (α := Drw) xs
  have h3 := depthAll_enc (α := Drw) xs
  unfold sortable
  have e : (fun x : Drw => Dat.enc x) = encD := rfl
  rw [show (xs.map (Dat.enc (α := Drw))) = xs.map encD from rfl] at h1 h2 h3
  rw [h1, h2, hs]
  have hd : Dat.dep Drw ≤ 60 := by decide
  simpa using Nat.le_trans h3 hd
theorem keysBy_map {α : Type} {F : List D → Res D} {item : α → D} {f : α → D} : ∀ {l : List α}, (∀ p ∈ l, F [item p] = .ok (f p)) → keysBy F (l.map item) = .ok (l.map f)
  | [], _ => rfl
  | p :: l, h => by
    rw [List.map_cons, keysBy, h p List.mem_cons_self, List.map_cons]
    show (keysBy F (l.map item) >>= fun ks => Res.ok (f p :: ks)) = _
    rw [keysBy_map fun q hq => h q (List.mem_cons_of_mem _ hq)]; rfl
theorem gSortK_is {α : Type} {F : List D → Res D} {item : α → D} {g : α → Drw} {l : List α} (hF : ∀ p ∈ l, F [item p] = .ok (encD (g p))) : gSortK F (.lst (l.map item)) = .ok (.lst ((l.mergeSort fun a b => !Dat.lt (g b) (g a)).map item)) := by
  have hk := keysBy_map (f := fun p => encD (g p)) hF
  show (keysBy F (l.map item) >>= fun ks => if sortable ks = true then Res.ok (D.lst ((((l.map item).zip ks).mergeSort fun a b => dLe a.2.py b.2.py).map (·.1))) else .bad) = _
  rw [hk]
  show (if sortable (l.map fun p => encD (g p)) = true then Res.ok (D.lst ((((l.map item).zip (l.map fun p => encD (g p))).mergeSort fun a b => dLe a.2.py b.2.py).map (·.1))) else .bad) = _
  have hs := sortable_D (l.map g)
  rw [List.map_map] at hs
  rw [if_pos (show sortable (l.map fun p => encD (g p)) = true from hs), List.zip_map']
  have e := List.map_mergeSort (f := fun p : α => (item p, encD (g p))) (r := fun a b : α => !Dat.lt (g b) (g a)) (s := fun a b : D × D => dLe a.2.py b.2.py) (l := l) fun a _ b _ => by
    unfold dLe
    exact congrArg (! ·) (Dat.dlt (α := Drw) (g b) (g a)).symm
  rw [← e, List.map_map]
  rfl
theorem drawof_is (M : Drw) (d : D) : F_drawing_of [.tup [encD M, d]] = .ok (encD M) := by
  simp only [F_drawing_of, m_drawing_of, runD]
  generalize encD M = A
  have h : gIx (.tup [A, d]) (.int 0) = .ok A := rfl
  simp -implicitDefEqProofs [h]

/-! ### reach, simplest, verdict: refused; by no move -/
theorem reach_no {ds : Drw} {L : Int} {s : Str} (h : F_look_at_bounds [.lst [encD ds], .int L] = .exc s [] []) : F_reach [encD ds, .int L] = .exc s [] [] := by
  simp only [F_reach, m_reach, runD]
  generalize encD ds = A at *
  simp -implicitDefEqProofs [mCallX, h]
theorem simplest_no {ds : Drw} {L : Int} {s : Str} (h : F_look_at_bounds [.lst [encD ds], .int L] = .exc s [] []) : F_simplest [encD ds, .int L] = .exc s [] [] := by
  have hr := reach_no h
  simp only [F_simplest, m_simplest, runD]
  generalize encD ds = A at *
  simp -implicitDefEqProofs [mForX, hr]
theorem verdict_no {a b : Drw} {L : Int} {s : Str} (h : F_look_at_bounds [.lst [encD a, encD b], .int L] = .exc s [] []) : F_verdict [encD a, encD b, .int L] = .exc s [] [] := by
  simp only [F_verdict, m_verdict, runD]
  generalize encD a = A at *
  generalize encD b = B at *
  simp -implicitDefEqProofs [mCallX, h]
/-- what stands at the end of no move -/
def rch0 (M : Drw) : D := .tup [encD M, .lst []]
theorem reach_0 {ds M : Drw} {x : Str} (hb : F_look_at_bounds [.lst [encD ds], .int 0] = .ok .non) (hs : F_settled [encD ds] = .ok (encD M)) (ht : F_text_of [encD M] = .ok (.str x)) : F_reach [encD ds, .int 0] = .ok (.lst [rch0 M]) := by
  have hk := gSortK_is (F := F_drawing_of) (α := Drw) (item := rch0) (g := fun M => M) (l := [M]) fun p _ => drawof_is p (.lst [])
  rw [List.mergeSort_singleton] at hk
  have hk' : gSortK F_drawing_of (.lst [rch0 M]) = .ok (.lst [rch0 M]) := hk
  have i2 : immAt 2 (encD M) = true := by simp
  have e : rch0 M = .tup [encD M, .lst []] := rfl
  have hg : gRng1 (.int 0) = .ok [] := gRng1_d (n := 0) (by omega)
  have hz : (0 : Nat) ≤ sizeLine := Nat.zero_le _
  have h1 : (1 : Nat) ≤ sizeLine := sizeLine_big (by omega)
  have h2 : (2 : Nat) ≤ sizeLine := sizeLine_big (by omega)
  rw [e] at hk' ⊢
  have hx : gIx (.tup [encD M, .lst []]) (.int 0) = .ok (encD M) := rfl
  simp only [F_reach, m_reach, runD]
  generalize encD ds = A at *
  generalize encD M = N at *
  simp -implicitDefEqProofs [mCallX, mN, hb, hs, i2, ht, hx, hg, hk', hz, h1, h2, dValsO, loop, nx]
theorem simplest_0 {ds M : Drw} {N : List Int} (hr : F_reach [encD ds, .int 0] = .ok (.lst [rch0 M])) (hn : F_names_of [encD M] = .ok (.lst (N.map D.int))) : F_simplest [encD ds, .int 0] = .ok (rch0 M) := by
  have e : rch0 M = .tup [encD M, .lst []] := rfl
  have hx : gIx (.tup [encD M, .lst []]) (.int 0) = .ok (encD M) := rfl
  have iN : immAt 1 (.lst (N.map D.int)) = true := by simp
  have gl : gLen (.lst (N.map D.int)) = .ok (.int (N.length : Nat)) := by
    show Res.ok (D.int (((N.map D.int).length : Nat) : Int)) = _
    rw [List.length_map]
  have gn : gIsN .non = .ok (.bl true) := rfl
  rw [e] at hr ⊢
  simp only [F_simplest, m_simplest, runD]
  generalize encD ds = A at *
  generalize encD M = M0 at *
  generalize List.map D.int N = NN at *
  simp -implicitDefEqProofs [mForX, mN, hr, hx, hn, iN, gl, gn, loop, nT, nx, toB]
theorem meeting_0 {a b M : Drw} {x : Str} (ha : F_reach [encD a, .int 0] = .ok (.lst [rch0 M])) (hb : F_reach [encD b, .int 0] = .ok (.lst [rch0 M])) (ht : F_text_of [encD M] = .ok (.str x)) : F_meeting [encD a, encD b, .int 0] = .ok (.tup [.lst [], .lst []]) := by
  have e : rch0 M = .tup [encD M, .lst []] := rfl
  have hs : dSet (.dk [] []) (.str x) (.lst []) = .ok (.dk [.inr x] [.lst []]) := by
    show (if ([] : List D).length < sizeLine then Res.ok (D.dk [.inr x] [.lst []]) else .bad) = _
    rw [if_pos (Nat.lt_of_lt_of_le (by decide) (sizeLine_big (n := 1) (by omega)))]
  have hg : gDGet (.dk [.inr x] [.lst []]) (.str x) = .ok (.lst []) := by
    unfold gDGet
    rw [show dGet (.dk [.inr x] [.lst []]) (.str x) = some (some (.lst [])) by simp [dGet, dFind]]
  have hi : gDIn (.str x) (.dk [.inr x] [.lst []]) = .ok (.bl true) := by
    unfold gDIn
    rw [show dGet (.dk [.inr x] [.lst []]) (.str x) = some (some (.lst [])) by simp [dGet, dFind]]
    rfl
  have h2 : (2 : Nat) ≤ sizeLine := sizeLine_big (by omega)
  rw [e] at ha hb
  simp only [F_meeting, m_meeting, runD]
  generalize encD a = A at *
  generalize encD b = B at *
  generalize encD M = M0 at *
  simp -implicitDefEqProofs [mForX, mN, ha, hb, ht, hs, hg, hi, h2, loop, nT, nx, toB]
theorem back0 {b M : Drw} (hs : F_settled [encD b] = .ok (encD M)) : F_back_row [encD b, .lst []] = .ok (.lst []) := by
  have i2 : immAt 2 (encD M) = true := by simp
  simp only [F_back_row, m_back_row, runD]
  generalize encD b = B at *
  generalize encD M = M0 at *
  simp -implicitDefEqProofs [hs, i2, loop, mListRev]
theorem verdict_0 {a b : Drw} (hl : F_look_at_bounds [.lst [encD a, encD b], .int 0] = .ok .non) (hm : F_meeting [encD a, encD b, .int 0] = .ok (.tup [.lst [], .lst []])) (hk : F_back_row [encD b, .lst []] = .ok (.lst [])) :
    F_verdict [encD a, encD b, .int 0] = .ok (.tup [.str "alike", .lst []]) := by
  have h2 : (2 : Nat) ≤ sizeLine := sizeLine_big (by omega)
  have h0 : (0 : Nat) ≤ sizeLine := Nat.zero_le _
  have x0 : gIx (.tup [.lst [], .lst []]) (.int 0) = .ok (.lst []) := rfl
  have x1 : gIx (.tup [.lst [], .lst []]) (.int 1) = .ok (.lst []) := rfl
  have gn : gNotN (.tup [.lst [], .lst []]) = .ok (.bl true) := rfl
  have im : immAll [] = true := rfl
  have hi : immAt 0 .non = true := rfl
  simp only [F_verdict, m_verdict, runD]
  generalize encD a = A at *
  generalize encD b = B at *
  simp -implicitDefEqProofs [mN, mCallX, hl, hm, hk, h2, h0, x0, x1, gn, im, hi, nx, toB, mCat]

/-! ### refusals told as words -/
def wdE (s : Str) : Str := match tb [("NoLength", true), ("TooMany", false)] s with
  | some true => "length"
  | _ => "many"
theorem lword_is (κ : Str → Addr) {s : Str} (hs : s = "NoLength" ∨ s = "TooMany") : F__law_word κ [.exn s (κ s) [] []] = .ok (.str (wdE s)) := by
  rcases hs with rfl | rfl
  · have h : F__law_word κ [.exn "NoLength" (κ "NoLength") [] []] = .ok (.str "length") := by
      have t1 : tb [("NoLength", true), ("TooMany", false)] "NoLength" = some true := rfl
      have t2 : tb [("NoLength", false), ("TooMany", true)] "NoLength" = some false := rfl
      simp only [F__law_word, m__law_word, runD]
      simp -implicitDefEqProofs [t1, t2]
    rw [h]; rfl
  · have h : F__law_word κ [.exn "TooMany" (κ "TooMany") [] []] = .ok (.str "many") := by
      have t1 : tb [("NoLength", true), ("TooMany", false)] "TooMany" = some false := rfl
      have t2 : tb [("NoLength", false), ("TooMany", true)] "TooMany" = some true := rfl
      simp only [F__law_word, m__law_word, runD]
      simp -implicitDefEqProofs [t1, t2]
    rw [h]; rfl
theorem lreached_is (κ : Str → Addr) {ds : Drw} {L k : Int} {s : Str} (h : F_look_at_bounds [.lst [encD ds], .int L] = .exc s [] []) (hs : s = "NoLength" ∨ s = "TooMany") : F__law_reached κ [encD ds, .int L, .int k] = .ok (.str (wdE s)) := by
  have h1 := reach_no h
  have h2 := simplest_no h
  have hw := lword_is κ hs
  have tc : tb [("NoLength", true), ("TooMany", true)] s = some true := by rcases hs with rfl | rfl <;> rfl
  simp only [F__law_reached, m__law_reached, runD]
  generalize encD ds = A at *
  refine Tells.eq ?_
  refine t_seq (e := [some (0, A), some (0, .int L), some (0, .int k), some (0, .non), none]) rfl ?_
  refine t_seq (e := [some (0, A), some (0, .int L), some (0, .int k), some (0, .exn s (κ s) [] []), none]) (by
    rw [e_mTry_exc (c := s) (ns := []) (as := []) (by
      by_cases hk : k = 0
      · have g := gEq_enc (α := Int) k 0 (by decide)
        have g' : gEq (.int k) (.int 0) = .ok (.bl true) := by rw [show gEq (.int k) (.int 0) = _ from g, decide_eq_true hk]
        simp -implicitDefEqProofs [mN, g', mCallX0, h1]
      · have g := gEq_enc (α := Int) k 0 (by decide)
        have g' : gEq (.int k) (.int 0) = .ok (.bl false) := by rw [show gEq (.int k) (.int 0) = _ from g, decide_eq_false hk]
        simp -implicitDefEqProofs [mN, g', mCallX0, h2]) tc (by simp)]
    rfl) ?_
  exact Tells.eqI (by simp -implicitDefEqProofs [hw])
theorem ljudged_is (κ : Str → Addr) {a b : Drw} {L : Int} {s : Str} (h : F_look_at_bounds [.lst [encD a, encD b], .int L] = .exc s [] []) (hs : s = "NoLength" ∨ s = "TooMany") : F__law_judged κ [encD a, encD b, .int L] = .ok (.str (wdE s)) := by
  have h1 := verdict_no h
  have hw := lword_is κ hs
  have tc : tb [("NoLength", true), ("TooMany", true)] s = some true := by rcases hs with rfl | rfl <;> rfl
  simp only [F__law_judged, m__law_judged, runD]
  generalize encD a = A at *
  generalize encD b = B at *
  refine Tells.eq ?_
  refine t_seq (e := [some (0, A), some (0, B), some (0, .int L), some (0, .non), none]) rfl ?_
  refine t_seq (e := [some (0, A), some (0, B), some (0, .int L), some (0, .exn s (κ s) [] []), none]) (by
    rw [e_mTry_exc (c := s) (ns := []) (as := []) (by simp -implicitDefEqProofs [mN, mCallX0, h1]) tc (by simp)]
    rfl) ?_
  exact Tells.eqI (by simp -implicitDefEqProofs [hw])
theorem ldue_is (n : Nat) (L : Int) : F__law_due [.int n, .int L] = .ok (.str (if L < 0 ∨ 4 < L then "length" else if 8 < n then "many" else "")) := by
  simp only [F__law_due, m__law_due, runD]
  by_cases h : L < 0
  · simp -implicitDefEqProofs [h]
  · by_cases h4 : 4 < L
    · simp -implicitDefEqProofs [h, h4]
    · by_cases h8 : 8 < n
      · have h8' : (8 : Int) < (n : Nat) := by omega
        simp -implicitDefEqProofs [h, h4, h8, h8']
      · have h8' : ¬ (8 : Int) < (n : Nat) := by omega
        simp -implicitDefEqProofs [h, h4, h8, h8']
theorem llength_is (c : Int) : ∃ L : Int, F__law_length [.int c] = .ok (.int L) := by
  have m3 := e_gMod c 3 (by decide)
  have f3 := e_gFdv c 3 (by decide) (by decide)
  have m7 := e_gMod (c / 3) 7 (by decide)
  have mb := e_gMod (c / 3) 200000000000000000001 (by decide)
  have p : gPow (.int 10) (.int 20) = .ok (.int 100000000000000000000) := by rfl
  have q : gMul (.int 2) (.int 100000000000000000000) = .ok (.int 200000000000000000000) := by rfl
  have r : gAdd (.int 200000000000000000000) (.int 1) = .ok (.int 200000000000000000001) := by rfl
  have g0 := gEq_enc (α := Int) (c % 3) 0 (by decide)
  have g1 := gEq_enc (α := Int) (c % 3) 1 (by decide)
  have g0' : gEq (.int (c % 3)) (.int 0) = .ok (.bl (decide (c % 3 = 0))) := g0
  have g1' : gEq (.int (c % 3)) (.int 1) = .ok (.bl (decide (c % 3 = 1))) := g1
  simp only [F__law_length, m__law_length, runD]
  by_cases h0 : c % 3 = 0
  · rw [decide_eq_true h0] at g0'
    exact ⟨_, by simp -implicitDefEqProofs [m3, g0', f3, m7]; rfl⟩
  · rw [decide_eq_false h0] at g0'
    by_cases h1 : c % 3 = 1
    · rw [decide_eq_true h1] at g1'
      exact ⟨_, by simp -implicitDefEqProofs [m3, g0', g1']; rfl⟩
    · rw [decide_eq_false h1] at g1'
      exact ⟨_, by simp -implicitDefEqProofs [m3, g0', g1', f3, p, q, r, mb]; rfl⟩

theorem for_of {it : Mir.Env → Res (List D)} {t : Nat → D → Mir.Env → Res Mir.Env} {b : Mir.Env → Res Ctl} {fg : List Nat} {env : Mir.Env} {ds : List D} {r : Res Ctl} (h : it env = .ok ds) (hl : loop t b fg ds env = r) : mFor it t b fg env = r := by
  unfold mFor
  rw [h]; exact hl

/-! ### a loop that appends -/
/-- .. a state of which P holds -/
theorem for_run {α σ : Type} {it : Mir.Env → Res (List D)} {t : Nat → D → Mir.Env → Res Mir.Env} {body : Mir.Env → Res Ctl} {fg : List Nat} {env : Mir.Env} (mk : σ → Mir.Env) (enc : α → D) (P : Nat → σ → Prop) (xs : List α) (s : σ) (hit : it env = .ok (xs.map enc)) (h0 : env = mk s) (hp : P 0 s)
    (hs : ∀ (i : Nat) (a : α) (s : σ), xs[i]? = some a → P i s → ∃ s', P (i + 1) s' ∧ (t 0 (enc a) (mk s) >>= fun e => body e >>= stepc fg) = .ok (mk s')) : ∃ s', P xs.length s' ∧ mFor it t body fg env = .ok (.nx (mk s')) := by
  have L : ∀ (zs ys : List α) (s : σ), xs = ys ++ zs → P ys.length s → ∃ s', P xs.length s' ∧ loop t body fg (zs.map enc) (mk s) = .ok (.nx (mk s')) := fun zs => by
    induction zs with
    | nil => intro ys s h hp; exact ⟨s, by rw [h, List.append_nil]; exact hp, rfl⟩
    | cons z zs ih =>
      intro ys s h hp
      obtain ⟨s1, hp1, h2⟩ := hs ys.length z s (by rw [h]; simp) hp
      obtain ⟨s2, hp2, h3⟩ := ih (ys ++ [z]) s1 (by rw [h]; simp) (by rw [List.length_append]; exact hp1)
      exact ⟨s2, hp2, by rw [List.map_cons, loop_step h2]; exact h3⟩
  obtain ⟨s2, h1, h2⟩ := L xs [] s rfl hp
  exact ⟨s2, h1, for_of hit (by rw [h0]; exact h2)⟩
theorem step_of {t : Nat → D → Mir.Env → Res Mir.Env} {body : Mir.Env → Res Ctl} {fg : List Nat} {x : D} {env e1 e2 env' : Mir.Env} (h1 : t 0 x env = .ok e1) (h2 : body e1 = .ok (.nx e2)) (h3 : clear e2 fg = env') : (t 0 x env >>= fun e => body e >>= stepc fg) = .ok env' := by
  rw [h1, ok_bind, h2, ← h3]; rfl
/-- what of xs has p, made by f -/
def flt {α β : Type} (p : α → Bool) (f : α → β) (xs : List α) : List β := xs.flatMap fun a => if p a then [f a] else []
/-! ### the drawn ones -/
structure Okd (ds : Drw) : Prop where
  l1 : 1 ≤ ds.length
  l3 : ds.length ≤ 3
  xi : ∃ k, k ≤ 12 ∧ XI ds.length k ds
  bc : ∀ x ∈ ds.flatten, (x.b = 0 ∨ x.b = 1) ∧ (x.c = 1 ∨ x.c = -1)
theorem Okd.fl {ds : Drw} (h : Okd ds) : ds.flatten.length ≤ 24 := by
  obtain ⟨k, hk, x⟩ := h.xi
  have := x.fl
  omega
theorem ldrawn_is (ns : List Int) (v : Int) (e : Nat) (he : e ≤ 12) (at_ : Nat) : ∃ ds : Drw, F__law_drawn [.lst (ns.map D.int), .int v, .int e, .int at_] = .ok (encD ds) ∧ Okd ds := by
  have m3 := e_gMod v 3 (by decide)
  have f3 := e_gFdv v 3 (by decide) (by decide)
  have m13 := e_gMod (v / 3) 13 (by decide)
  have f39 := e_gFdv v 39 (by decide) (by decide)
  have m39 := e_gMod (v / 39) 3 (by decide)
  obtain ⟨M, hM, hM12⟩ : ∃ M : Nat, (if v % 3 = 2 then (e : Int) else v / 3 % 13) = M ∧ M ≤ 12 := by
    by_cases h : v % 3 = 2
    · exact ⟨e, by rw [if_pos h], he⟩
    · exact ⟨(v / 3 % 13).toNat, by rw [if_neg h]; omega, by omega⟩
  obtain ⟨S0, hS0, hS1, hS3⟩ : ∃ S : Nat, 1 + v / 39 % 3 = (S : Int) ∧ 1 ≤ S ∧ S ≤ 3 := ⟨(1 + v / 39 % 3).toNat, by omega, by omega, by omega⟩
  obtain ⟨S, hS, hSl, hSu⟩ : ∃ S : Nat, (if (5 : Int) < M then min (S0 : Int) 2 else S0) = S ∧ 1 ≤ S ∧ S ≤ 3 := by
    by_cases h : (5 : Int) < M
    · exact ⟨min S0 2, by rw [if_pos h]; omega, by omega, by omega⟩
    · exact ⟨S0, by rw [if_neg h], hS1, hS3⟩
  obtain ⟨A, hA⟩ : ∃ A, A = D.lst (ns.map D.int) := ⟨_, rfl⟩
  have hc : ∀ k : Nat, F__law_cell [A, .int ((at_ : Int) + (k : Int))] = .ok (.int (ns.getD (at_ + k) 0)) := fun k => by rw [hA]; exact cell_z ns (at_ + k)
  rw [← hA]
  have hg := gRng1_d (n := S) (by omega)
  have hgM := gRng1_d (n := M) (by omega)
  have lz := lc_all (t := tName 7) (me := mLst mNilA) (fun i : Nat => D.int i) (fun _ => encR []) (List.range S) (env := [some (0, A), some (0, .int v), some (0, .int e), some (0, .int at_), some (0, .int M), some (0, .int S), none, none]) (fun a _ => by simp -implicitDefEqProofs [encR])
  have e1 : ((List.range S).map fun _ => encR []) = (List.replicate S ([] : List T3)).map encR := by rw [List.map_replicate]; simp [List.map_const']
  have hSz : S ≤ sizeLine := sizeLine_big (by omega)
  have hx0 : XI S 0 (List.replicate S []) := ⟨by simp, by rw [List.flatten_replicate_nil]; rfl, by rw [List.flatten_replicate_nil]; exact List.nodup_nil⟩
  have mn : gMin2 (.int S0) (.int 2) = .ok (.int (min (S0 : Int) 2)) := by
    show Res.ok (D.int (if (2 : Int) < (S0 : Int) then 2 else S0)) = Res.ok (D.int (min (S0 : Int) 2))
    have : (if (2 : Int) < (S0 : Int) then (2 : Int) else S0) = min (S0 : Int) 2 := by split <;> omega
    rw [this]
  obtain ⟨ds, ⟨hX, hbd⟩, hrun⟩ := for_run (it := fun env => (mVar 4) env >>= gRng1) (t := tName 7) (fg := [7]) (body := mCallM 6 2 F__law_cross (mConsA (mOp gAdd (mCall 0 F__law_cell (mConsA (mVar 0) (mConsA (mOp gAdd (mVar 3) (mVar 7)) mNilA))) (mOp gMul (mOp gMul (mC (.int 7919)) (mVar 7)) (mVar 7))) mNilA))
    (env := [some (0, A), some (0, .int v), some (0, .int e), some (0, .int at_), some (0, .int M), some (0, .int S), some (2, encD (List.replicate S [])), none])
    (fun s : Drw => [some (0, A), some (0, .int v), some (0, .int e), some (0, .int at_), some (0, .int M), some (0, .int S), some (2, encD s), none]) (fun i : Nat => D.int i)
    (fun i s => XI S i s ∧ ∀ x ∈ s.flatten, (x.b = 0 ∨ x.b = 1) ∧ (x.c = 1 ∨ x.c = -1)) (List.range M) (List.replicate S []) (by simp -implicitDefEqProofs [hgM]) rfl ⟨hx0, by rw [List.flatten_replicate_nil]; exact fun x hx => absurd hx List.not_mem_nil⟩ (fun i a s hi hp => by
      obtain ⟨hp, hpb⟩ := hp
      have hil := (List.getElem?_eq_some_iff.mp hi).1
      rw [List.length_range] at hil
      have ha : a = i := by
        rw [List.getElem?_range hil] at hi
        exact (Option.some.inj hi).symm
      subst ha
      have q1 := e_gMul 7919 (a : Int) (.inl (by decide))
      have q2 := e_gMul (7919 * (a : Int)) (a : Int) (.inr (by constructor <;> omega))
      have hca := hc a
      generalize ns.getD (at_ + a) 0 = cc at hca
      obtain ⟨nm, h, p1, p2, p, q, ha1, hb1, hcr, hno, n1, n2, hh⟩ := cross_is (ds := s) (by rw [hp.len]; exact hSl) (by rw [hp.len]; exact hSu) (by rw [hp.fl]; omega) (cc + 7919 * (a : Int) * (a : Int))
      have r1 := ins_flat ha1 p ⟨nm, 0, h⟩
      have r2 := ins_flat (ds := ins s p1 p ⟨nm, 0, h⟩) (k := p2) (by rw [ins_len]; exact hb1) q ⟨nm, 1, h⟩
      have r3 := r2.trans (r1.cons _)
      refine ⟨ins (ins s p1 p ⟨nm, 0, h⟩) p2 q ⟨nm, 1, h⟩, ⟨hp.more (hd := h) p q ha1 hb1 hno, fun x hx => ?_⟩, ?_⟩
      · rcases List.mem_cons.mp (r3.mem_iff.mp hx) with rfl | hx
        · exact ⟨.inr rfl, hh⟩
        · rcases List.mem_cons.mp hx with rfl | hx
          · exact ⟨.inl rfl, hh⟩
          · exact hpb x hx
      · generalize ins (ins s p1 p ⟨nm, 0, h⟩) p2 q ⟨nm, 1, h⟩ = s2 at *
        have i2 : immAt 2 (encD s2) = true := by simp
        generalize encD s2 = D2 at *
        generalize encD s = D1 at *
        simp -implicitDefEqProofs [mCallM, q1, q2, hca, hcr, i2])
  rw [List.length_range] at hX
  have hok : Okd ds := ⟨by rw [hX.len]; exact hSl, by rw [hX.len]; exact hSu, ⟨M, hM12, by rw [hX.len]; exact hX⟩, hbd⟩
  refine ⟨ds, ?_, hok⟩
  have i2 : immAt 2 (encD ds) = true := by simp
  simp only [F__law_drawn, m__law_drawn, runD]
  refine Tells.eq ?_
  refine t_seq (e := [some (0, A), some (0, .int v), some (0, .int e), some (0, .int at_), some (0, .int e), none, none, none]) rfl ?_
  refine t_seq (e := [some (0, A), some (0, .int v), some (0, .int e), some (0, .int at_), some (0, .int M), none, none, none]) (by
    by_cases h : v % 3 = 2
    · have hb : (v % 3 == 2) = true := by simpa using h
      rw [if_pos h] at hM
      simp -implicitDefEqProofs [m3, hb, hM]
    · have hb : (v % 3 == 2) = false := by simpa using h
      rw [if_neg h] at hM
      simp -implicitDefEqProofs [m3, hb, f3, m13, hM]) ?_
  refine t_seq (e := [some (0, A), some (0, .int v), some (0, .int e), some (0, .int at_), some (0, .int M), some (0, .int S0), none, none]) (by
    simp -implicitDefEqProofs [f39, m39, hS0]) ?_
  refine t_seq (e := [some (0, A), some (0, .int v), some (0, .int e), some (0, .int at_), some (0, .int M), some (0, .int S), none, none]) (by
    by_cases h : (5 : Int) < M
    · rw [if_pos h] at hS
      simp -implicitDefEqProofs [h, mn, hS]
    · rw [if_neg h] at hS
      simp -implicitDefEqProofs [h]
      omega) ?_
  rw [e1] at lz
  refine t_seq (e := [some (0, A), some (0, .int v), some (0, .int e), some (0, .int at_), some (0, .int M), some (0, .int S), some (2, encD (List.replicate S [])), none]) (by
    have eD : encD (List.replicate S []) = .lst ((List.replicate S ([] : List T3)).map encR) := rfl
    have hzl : ((List.replicate S ([] : List T3)).map encR).length ≤ sizeLine := by rw [List.length_map, List.length_replicate]; exact hSz
    rw [eD]
    generalize (List.replicate S ([] : List T3)).map encR = RR at *
    simp -implicitDefEqProofs [e_mLc, hg, lz, hzl]) ?_
  refine t_seq hrun ?_
  exact Tells.eqI (by simp -implicitDefEqProofs)

/-! ### things compared with themselves -/
structure Slf (d : D) (n : Nat) : Prop where
  e : PyData.eqv d.py d.py = true
  l : d.py.canLay0 = true
  p : d.py.depth ≤ n
theorem Slf.drw (M : Drw) : Slf (encD M) 8 := by
  have h := gEq_enc (α := Drw) M M (by decide)
  have h' : gEq (encD M) (encD M) = .ok (.bl true) := by rw [show gEq (encD M) (encD M) = _ from h, decide_eq_true rfl]
  unfold gEq at h'
  have h1 := layAll_enc (α := Drw) [M]
  have h3 := depthAll_enc (α := Drw) [M]
  have hd : Dat.dep Drw ≤ 8 := by decide
  rw [show ([M].map (Dat.enc (α := Drw))) = [encD M] from rfl] at h1 h3
  simp only [pyAll, PyData.canLayAll0, Bool.and_true] at h1
  simp only [pyAll, PyData.depthAll] at h3
  split at h'
  · exact ⟨by simpa using h', h1, by omega⟩
  · cases h'
theorem Slf.nil : Slf (.lst []) 1 := ⟨rfl, rfl, by simp [D.py, pyAll, PyData.depth, PyData.depthAll]⟩
theorem Slf.one {d : D} {n : Nat} (h : Slf d n) : Slf (.lst [d]) (n + 1) := by
  refine ⟨?_, ?_, ?_⟩
  · simp only [D.py, pyAll, PyData.eqv, PyData.eqvAll, h.e, Bool.and_self]
  · simp only [D.py, pyAll, PyData.canLay0, PyData.canLayAll0, h.l, Bool.and_self]
  · have := h.p
    simp only [D.py, pyAll, PyData.depth, PyData.depthAll]; omega
theorem Slf.two {d e : D} {n : Nat} (h : Slf d n) (k : Slf e n) : Slf (.tup [d, e]) (n + 1) := by
  refine ⟨?_, ?_, ?_⟩
  · simp only [D.py, pyAll, PyData.eqv, PyData.eqvAll, h.e, k.e, Bool.and_self]
  · simp only [D.py, pyAll, PyData.canLay0, PyData.canLayAll0, h.l, k.l, Bool.and_self]
  · have := h.p
    have := k.p
    simp only [D.py, pyAll, PyData.depth, PyData.depthAll]; omega
theorem Slf.up {d : D} {m n : Nat} (h : Slf d m) (k : m ≤ n) : Slf d n := ⟨h.e, h.l, Nat.le_trans h.p k⟩
theorem Slf.shp {d : D} {n : Nat} (h : Slf d n) (hn : n ≤ 60) : shp d = true := by
  unfold Mir.shp SeqAt.shaped
  rw [Bool.and_eq_true]
  refine ⟨h.l, decide_eq_true ?_⟩
  have := h.p
  omega
theorem Slf.ne {d : D} {n : Nat} (h : Slf d n) (hn : n ≤ 60) : gNe d d = .ok (.bl false) := by
  unfold gNe
  rw [h.shp hn, h.e]; rfl
theorem Slf.eq {d : D} {n : Nat} (h : Slf d n) (hn : n ≤ 60) : gEq d d = .ok (.bl true) := by
  unfold gEq
  rw [h.shp hn, h.e]; rfl
theorem Slf.str : Slf (.str "alike") 1 := ⟨by decide +kernel, by decide +kernel, by decide +kernel⟩
theorem Lst.rot {ds T M : Drw} (h : Lst ds M) (r : RotL ds T) : Lst T M := by
  obtain ⟨U, h1, h2⟩ := h.mem
  exact ⟨⟨U, r.symm'.trans' h1, h2⟩, fun V hV => h.le V (r.trans' hV)⟩
theorem rot1 (r : List T3) : Rot r (r.drop 1 ++ r.take 1) := ⟨r.take 1, r.drop 1, (List.take_append_drop 1 r).symm, rfl⟩
def bgn (ds : Drw) : Drw := ds.map fun r => r.drop 1 ++ r.take 1
theorem bgn_rot : ∀ ds : Drw, RotL ds (bgn ds)
  | [] => trivial
  | r :: ds => ⟨rot1 r, bgn_rot ds⟩
theorem lbynone_is {ds : Drw} (h : Okd ds) (h8 : (nms ds.flatten).length ≤ 8) : F__law_by_none [encD ds] = .ok (.bl true) := by
  obtain ⟨k, hk, hX⟩ := h.xi
  have hfl := h.fl
  have hl3 := h.l3
  have hr : ∀ r ∈ ds, r.length ≤ 24 := fun r hr => by have := flat_ge hr; omega
  obtain ⟨L, hL, hLf⟩ := lset12_is hX h.l3 hk
  obtain ⟨M, hM, hMf⟩ := set12_is hX h.l3 hk
  have eL : L = M := hL.uniq hM
  subst eL
  have hB := bgn_rot ds
  have hXB := hX.rot hB
  obtain ⟨M2, hM2, hM2f⟩ := set12_is hXB h.l3 hk
  have e2 : M2 = L := hM2.uniq (hM.rot hB)
  subst e2
  have hn : (nms (bgn ds).flatten).length = (nms ds.flatten).length := nms_rot hB
  have gd := hM.gd (by omega) h.bc
  have hlenM := hM.len
  have hflM := hM.flen
  have htx := textof_is (ds := M2) gd (by omega) (fun r hr => by have := flat_ge hr; omega)
  have hbB : (bgn ds).flatten.length ≤ 30 := by rw [hB.flat.length_eq]; omega
  have b1 : F_look_at_bounds [.lst [encD ds], .int 0] = .ok .non := by
    have := lookb_is (Es := [ds]) (fun E hE => by rw [List.mem_singleton.mp hE]; omega) (L := 0) ⟨by omega, by omega⟩
    rw [if_neg fun ⟨E, hE, z⟩ => by rw [List.mem_singleton.mp hE] at z; omega] at this
    exact this
  have b2 : F_look_at_bounds [.lst [encD (bgn ds)], .int 0] = .ok .non := by
    have := lookb_is (Es := [bgn ds]) (fun E hE => by rw [List.mem_singleton.mp hE]; exact hbB) (L := 0) ⟨by omega, by omega⟩
    rw [if_neg fun ⟨E, hE, z⟩ => by rw [List.mem_singleton.mp hE] at z; omega] at this
    exact this
  have b3 : F_look_at_bounds [.lst [encD ds, encD (bgn ds)], .int 0] = .ok .non := by
    have := lookb_is (Es := [ds, bgn ds]) (fun E hE => by
      rcases List.mem_cons.mp hE with rfl | hE
      · omega
      · rw [List.mem_singleton.mp hE]; exact hbB) (L := 0) ⟨by omega, by omega⟩
    rw [if_neg fun ⟨E, hE, z⟩ => by
      rcases List.mem_cons.mp hE with rfl | hE
      · omega
      · rw [List.mem_singleton.mp hE] at z; omega] at this
    exact this
  have r1 := reach_0 b1 hMf htx
  have r2 := reach_0 b2 hM2f htx
  obtain ⟨N, hN, _⟩ := names_n (ds := M2) (by omega)
  have s1 := simplest_0 r1 hN
  have mt := meeting_0 r1 r2 htx
  have bk := back0 hM2f
  have vd := verdict_0 b3 mt bk
  have n1 : gNe (.lst [rch0 M2]) (.lst [.tup [encD M2, .lst []]]) = .ok (.bl false) := (((Slf.drw M2).two (Slf.nil.up (by omega))).one).ne (by omega)
  have n2 : gNe (rch0 M2) (.tup [encD M2, .lst []]) = .ok (.bl false) := ((Slf.drw M2).two (Slf.nil.up (by omega))).ne (by omega)
  have n3 : gEq (.tup [.str "alike", .lst []]) (.tup [.str "alike", .lst []]) = .ok (.bl true) := (Slf.str.two Slf.nil).eq (by omega)
  have hz1 : (1 : Nat) ≤ sizeLine := sizeLine_big (by omega)
  have hz2 : (2 : Nat) ≤ sizeLine := sizeLine_big (by omega)
  have hz0 : (0 : Nat) ≤ sizeLine := Nat.zero_le _
  have hlc := lc_all (t := tName 3) (me := mCat (fun env => (mSlice (fun env => (mVar 3) env >>= fun d => itemsL d >>= immL) (fun env => (mC (.int 1)) env >>= toI >>= fun i => .ok (some i)) (fun _ => .ok none)) env >>= fun d => itemsL d >>= immL) (fun env => (mSlice (fun env => (mVar 3) env >>= fun d => itemsL d >>= immL) (fun _ => .ok none) (fun env => (mC (.int 1)) env >>= toI >>= fun i => .ok (some i))) env >>= fun d => itemsL d >>= immL))
    encR (fun r => encR (r.drop 1 ++ r.take 1)) ds (env := [some (0, encD ds), some (0, encD M2), none, none]) (fun r hrm => by
    have hrl := hr r hrm
    have i1 := immT3 r
    have i2 := immT3 (r.drop 1)
    have i3 := immT3 (r.take 1)
    have c1 : cutD (r.map t3) (some 1) none = (r.drop 1).map t3 := by
      unfold cutD
      rw [show (some (1 : Int)) = some ((1 : Nat) : Int) from rfl, HT.sIx_nat]
      simp only [HT.sIx, List.length_map, List.map_drop]
      rw [List.take_of_length_le (by simp)]
      by_cases hr1 : 1 ≤ r.length
      · rw [Nat.min_eq_left hr1]
      · rw [List.drop_eq_nil_of_le (by simp; omega), List.drop_eq_nil_of_le (by simp; omega)]
    have c2 : cutD (r.map t3) none (some 1) = (r.take 1).map t3 := by
      unfold cutD
      rw [show (some (1 : Int)) = some ((1 : Nat) : Int) from rfl, HT.sIx_nat]
      simp only [HT.sIx, List.length_map, List.map_take]
      by_cases hr1 : 1 ≤ r.length
      · rw [Nat.min_eq_left hr1]; rfl
      · rw [List.length_eq_zero_iff.mp (show r.length = 0 by omega)]; rfl
    have e1 : encR r = .lst (r.map t3) := rfl
    have e2 : encR (r.drop 1 ++ r.take 1) = .lst ((r.drop 1).map t3 ++ (r.take 1).map t3) := by unfold encR; rw [List.map_append]
    have hz : ((r.drop 1).map t3).length + ((r.take 1).map t3).length ≤ sizeLine := sizeLine_big (by simp; omega)
    rw [e1, e2]
    generalize r.map t3 = R1 at *
    generalize (r.drop 1).map t3 = R2 at *
    generalize (r.take 1).map t3 = R3 at *
    generalize encD ds = RR at *
    generalize encD M2 = MM at *
    simp -implicitDefEqProofs [mCat, mSlice, i1, i2, i3, c1, c2, hz])
  have eB : encD (bgn ds) = .lst (ds.map fun r => encR (r.drop 1 ++ r.take 1)) := by unfold encD bgn; rw [List.map_map]; rfl
  have eA : itemsL (encD ds) = .ok (ds.map encR) := rfl
  have hzl : (ds.map fun r => encR (r.drop 1 ++ r.take 1)).length ≤ sizeLine := sizeLine_big (by rw [List.length_map]; omega)
  simp only [F__law_by_none, m__law_by_none, runD]
  refine Tells.eq ?_
  refine t_seq (e := [some (0, encD ds), some (0, encD M2), none, none]) (by
    generalize encD ds = RR at *
    generalize encD M2 = MM at *
    simp -implicitDefEqProofs [mCall0, hLf]) ?_
  refine t_seq (e := [some (0, encD ds), some (0, encD M2), some (2, encD (bgn ds)), none]) (by
    rw [eB]
    generalize encD ds = RR at *
    generalize (ds.map fun r => encR (r.drop 1 ++ r.take 1)) = BB at *
    generalize encD M2 = MM at *
    simp -implicitDefEqProofs at hlc
    simp -implicitDefEqProofs [e_mLc, eA]
    rw [hlc]
    simp -implicitDefEqProofs [hzl]) ?_
  have e0 : rch0 M2 = .tup [encD M2, .lst []] := rfl
  refine t_seq (e := [some (0, encD ds), some (0, encD M2), some (2, encD (bgn ds)), none]) (by
    rw [e0] at r1 s1 n1 n2
    generalize encD ds = RR at *
    generalize encD (bgn ds) = BB at *
    generalize encD M2 = MM at *
    simp -implicitDefEqProofs [mCall0, r1, s1, n1, n2, hz0, hz1, hz2]) ?_
  exact Tells.eqI (by
    generalize encD ds = RR at *
    generalize encD (bgn ds) = BB at *
    generalize encD M2 = MM at *
    simp -implicitDefEqProofs [mCall0, vd, n3, hz0, hz1, hz2])

/-! ### the law -/
def dueS (n : Nat) (L : Int) : Str := if L < 0 ∨ 4 < L then "length" else if 8 < n then "many" else ""
theorem due_no {n : Nat} {L : Int} (h : dueS n L ≠ "") : ∃ s : Str, (s = "NoLength" ∨ s = "TooMany") ∧ wdE s = dueS n L ∧ ((s = "NoLength" ∧ (L < 0 ∨ 4 < L)) ∨ (s = "TooMany" ∧ 0 ≤ L ∧ L ≤ 4 ∧ 8 < n)) := by
  unfold dueS at h ⊢
  by_cases h1 : L < 0 ∨ 4 < L
  · rw [if_pos h1]
    exact ⟨"NoLength", .inl rfl, rfl, .inl ⟨rfl, h1⟩⟩
  · rw [if_neg h1] at h ⊢
    by_cases h2 : 8 < n
    · rw [if_pos h2]
      exact ⟨"TooMany", .inr rfl, rfl, .inr ⟨rfl, by omega, by omega, h2⟩⟩
    · rw [if_neg h2] at h
      exact absurd rfl h
theorem lreached_due (κ : Str → Addr) {ds : Drw} (hd : Okd ds) {L k : Int} (h : dueS (nms ds.flatten).length L ≠ "") : F__law_reached κ [encD ds, .int L, .int k] = .ok (.str (dueS (nms ds.flatten).length L)) := by
  obtain ⟨s, hs, e, c⟩ := due_no h
  rw [← e]
  have hfl := hd.fl
  refine lreached_is κ ?_ hs
  rcases c with ⟨rfl, c⟩ | ⟨rfl, c1, c2, c3⟩
  · exact lookb_len _ c
  · have := lookb_is (Es := [ds]) (fun E hE => by rw [List.mem_singleton.mp hE]; omega) (L := L) ⟨c1, c2⟩
    rw [if_pos ⟨ds, List.mem_singleton_self _, c3⟩] at this
    exact this
theorem ljudged_due (κ : Str → Addr) {a b : Drw} (ha : Okd a) (hb : Okd b) {n : Nat} {L : Int} (hn : n = max (nms a.flatten).length (nms b.flatten).length) (h : dueS n L ≠ "") : F__law_judged κ [encD a, encD b, .int L] = .ok (.str (dueS n L)) := by
  obtain ⟨s, hs, e, c⟩ := due_no h
  rw [← e]
  have h1 := ha.fl
  have h2 := hb.fl
  refine ljudged_is κ ?_ hs
  rcases c with ⟨rfl, c⟩ | ⟨rfl, c1, c2, c3⟩
  · exact lookb_len _ c
  · have := lookb_is (Es := [a, b]) (fun E hE => by
      rcases List.mem_cons.mp hE with rfl | hE
      · omega
      · rw [List.mem_singleton.mp hE]; omega) (L := L) ⟨c1, c2⟩
    rw [if_pos (by
      by_cases hc : 8 < (nms a.flatten).length
      · exact ⟨a, List.mem_cons_self, hc⟩
      · exact ⟨b, by simp, by omega⟩)] at this
    exact this
theorem due_str (n : Nat) (L : Int) : (dueS n L = "" ∧ gNe (.str (dueS n L)) (.str "") = .ok (.bl false)) ∨ (dueS n L ≠ "" ∧ gNe (.str (dueS n L)) (.str "") = .ok (.bl true) ∧ gNe (.str (dueS n L)) (.str (dueS n L)) = .ok (.bl false)) := by
  have k1 : gNe (.str "length") (.str "") = .ok (.bl true) := okB_eq (by decide +kernel)
  have k2 : gNe (.str "many") (.str "") = .ok (.bl true) := okB_eq (by decide +kernel)
  have k3 : gNe (.str "") (.str "") = .ok (.bl false) := okB_eq (by decide +kernel)
  have k4 : gNe (.str "length") (.str "length") = .ok (.bl false) := okB_eq (by decide +kernel)
  have k5 : gNe (.str "many") (.str "many") = .ok (.bl false) := okB_eq (by decide +kernel)
  unfold dueS
  by_cases h1 : L < 0 ∨ 4 < L
  · rw [if_pos h1]
    exact .inr ⟨by decide, k1, k4⟩
  · rw [if_neg h1]
    by_cases h2 : 8 < n
    · rw [if_pos h2]
      exact .inr ⟨by decide, k2, k5⟩
    · rw [if_neg h2]
      exact .inl ⟨rfl, k3⟩
theorem Slf.twoL {d e : D} {n : Nat} (h : Slf d n) (k : Slf e n) : Slf (.lst [d, e]) (n + 1) := by
  refine ⟨?_, ?_, ?_⟩
  · simp only [D.py, pyAll, PyData.eqv, PyData.eqvAll, h.e, k.e, Bool.and_self]
  · simp only [D.py, pyAll, PyData.canLay0, PyData.canLayAll0, h.l, k.l, Bool.and_self]
  · have := h.p
    have := k.p
    simp only [D.py, pyAll, PyData.depth, PyData.depthAll]; omega
theorem gLen_N (N : List Int) : gLen (.lst (N.map D.int)) = .ok (.int (N.length : Nat)) := by
  show Res.ok (D.int (((N.map D.int).length : Nat) : Int)) = _
  rw [List.length_map]
theorem cpyD {x : Drw} (hx : x.length ≤ 1000) (src : Mir.Env → Res D) (env : Mir.Env) (h8 : env[8]? = some none) (hs : src env = .ok (encD x)) : mLc (fun env => src env >>= itemsL) (tName 8) (fun _ => .ok true) (fun env => (fun env => (mVar 8) env >>= fun d => itemsL d >>= immL) env >>= fun ds => .ok (.lst ds)) [8] env = .ok (encD x) := by
  have h8l : 8 < env.length := (List.getElem?_eq_some_iff.mp h8).1
  have hcp := lc_all (t := tName 8) (env := env) (me := fun env => (fun env => (mVar 8) env >>= fun d => itemsL d >>= immL) env >>= fun ds => .ok (.lst ds)) encR encR x (fun r hr => by
    have hR : itemsL (encR r) = .ok (r.map t3) := rfl
    have i1 := immT3 r
    have e : encR r = .lst (r.map t3) := rfl
    rw [e] at hR ⊢
    generalize r.map t3 = RR at *
    simp -implicitDefEqProofs [h8l, immL, hR, i1])
  have hno : noOwn [8] env = true := by
    simp only [noOwn_cons, h8, noOwn_nil]; rfl
  have hi : itemsL (encD x) = .ok (x.map encR) := rfl
  have hz : (x.map encR).length ≤ sizeLine := sizeLine_big (by rw [List.length_map]; omega)
  rw [e_mLc, hno]
  simp -implicitDefEqProofs [hs, hi]
  simp -implicitDefEqProofs at hcp
  rw [hcp]
  have hz' : x.length ≤ sizeLine := sizeLine_big (by omega)
  simp -implicitDefEqProofs [hz']
  rfl
theorem law_true (κ : Str → Addr) (ns : List Int) (hn : ns.length ≤ 63) : F_law κ [.lst (ns.map D.int)] = .ok (.bl true) := by
  have c0 : F__law_cell [.lst (ns.map D.int), .int 0] = _ := cell_z ns 0
  have c1 : F__law_cell [.lst (ns.map D.int), .int 1] = _ := cell_z ns 1
  have c2 : F__law_cell [.lst (ns.map D.int), .int 2] = _ := cell_z ns 2
  generalize ns.getD 0 0 = v0 at c0
  generalize ns.getD 1 0 = v1 at c1
  generalize ns.getD 2 0 = v2 at c2
  obtain ⟨a, hda, ha⟩ := ldrawn_is ns v0 8 (by omega) 4
  obtain ⟨b, hdb, hb⟩ := ldrawn_is ns v1 9 (by omega) 19
  obtain ⟨L, hL⟩ := llength_is v2
  obtain ⟨Na, hNa, lNa⟩ := lnames_n (ds := a) (by have := ha.fl; omega)
  obtain ⟨Nb, hNb, lNb⟩ := lnames_n (ds := b) (by have := hb.fl; omega)
  have gNa := gLen_N Na
  have gNb := gLen_N Nb
  rw [lNa] at gNa
  rw [lNb] at gNb
  have iNa : immAt 1 (.lst (Na.map D.int)) = true := by simp
  have iNb : immAt 1 (.lst (Nb.map D.int)) = true := by simp
  have da : F__law_due [.int ((nms a.flatten).length : Nat), .int L] = .ok (.str (dueS (nms a.flatten).length L)) := ldue_is _ L
  have db : F__law_due [.int ((nms b.flatten).length : Nat), .int L] = .ok (.str (dueS (nms b.flatten).length L)) := ldue_is _ L
  have dm : F__law_due [.int ((max (nms a.flatten).length (nms b.flatten).length : Nat) : Int), .int L] = .ok (.str (dueS (max (nms a.flatten).length (nms b.flatten).length) L)) := ldue_is _ L
  have gm : gMax2 (.int ((nms a.flatten).length : Nat)) (.int ((nms b.flatten).length : Nat)) = .ok (.int ((max (nms a.flatten).length (nms b.flatten).length : Nat) : Int)) := by
    show Res.ok (D.int (if ((nms b.flatten).length : Int) > ((nms a.flatten).length : Int) then _ else _)) = _
    congr 2
    split <;> omega
  have sa := due_str (nms a.flatten).length L
  have sb := due_str (nms b.flatten).length L
  have sm := due_str (max (nms a.flatten).length (nms b.flatten).length) L
  have ra := fun k => lreached_due κ ha (L := L) (k := k)
  have rb := fun k => lreached_due κ hb (L := L) (k := k)
  have j1 := ljudged_due κ ha hb (n := max (nms a.flatten).length (nms b.flatten).length) (L := L) rfl
  have j2 := ljudged_due κ hb ha (n := max (nms a.flatten).length (nms b.flatten).length) (L := L) (Nat.max_comm _ _)
  have bn := fun h => lbynone_is ha h
  have qe : gEq (.lst [encD a, encD b]) (.lst [encD a, encD b]) = .ok (.bl true) := ((Slf.drw a).twoL (Slf.drw b)).eq (by omega)
  have la := ha.l3
  have lb := hb.l3
  have i2a : immAt 2 (encD a) = true := by simp
  have i2b : immAt 2 (encD b) = true := by simp
  have ca := fun env h8 hs => cpyD (x := a) (by omega) (mVarK 1 0) env h8 hs
  have cb := fun env h8 hs => cpyD (x := b) (by omega) (mVarK 2 0) env h8 hs
  have hz2 : (2 : Nat) ≤ sizeLine := sizeLine_big (by omega)
  have gR : gRng1 (.int 2) = .ok [.int 0, .int 1] := gRng1_d (n := 2) (by omega)
  have gL0 := gEq_enc (α := Int) L 0 (by decide)
  have gL0' : gEq (.int L) (.int 0) = .ok (.bl (decide (L = 0))) := gL0
  generalize hm : max (nms a.flatten).length (nms b.flatten).length = m at *
  generalize (nms a.flatten).length = na at *
  generalize (nms b.flatten).length = nb at *
  generalize dueS m L = Sm at *
  generalize dueS na L = Sa at *
  generalize dueS nb L = Sb at *
  clear hm lNa lNb
  generalize encD a = DA at *
  generalize encD b = DB at *
  generalize Na.map D.int = NA at *
  generalize Nb.map D.int = NB at *
  generalize D.lst (ns.map D.int) = A at *
  change F__law_drawn [A, .int v0, .int 8, .int 4] = .ok DA at hda
  change F__law_drawn [A, .int v1, .int 9, .int 19] = .ok DB at hdb
  simp only [F_law, m_law, runD]
  have gi0 : gIx (.lst [DA, DB]) (.int 0) = .ok DA := rfl
  have gi1 : gIx (.lst [DA, DB]) (.int 1) = .ok DB := rfl
  refine Tells.eq ?_
  refine t_seq (e := [some (0, A), some (2, DA), none, none, none, none, none, none, none]) (by
    simp -implicitDefEqProofs [c0, hda, i2a]) ?_
  refine t_seq (e := [some (0, A), some (2, DA), some (2, DB), none, none, none, none, none, none]) (by
    simp -implicitDefEqProofs [c1, hdb, i2b]) ?_
  refine t_seq (e := [some (0, A), some (2, DA), some (2, DB), some (0, .int L), none, none, none, none, none]) (by
    simp -implicitDefEqProofs [c2, hL]) ?_
  refine t_seq (e := [some (0, A), some (0, DA), some (0, DB), some (0, .int L), some (3, .lst [DA, DB]), none, none, none, none]) (by
    have c1 := ca [some (0, A), some (0, DA), some (0, DB), some (0, .int L), none, none, none, none, none] rfl rfl
    have c2 := cb [some (0, A), some (0, DA), some (0, DB), some (0, .int L), none, none, none, none, none] rfl rfl
    have eE : fz 2 (fz 1 [some (0, A), some (2, DA), some (2, DB), some (0, .int L), none, none, none, none, none]) = [some (0, A), some (0, DA), some (0, DB), some (0, .int L), none, none, none, none, none] := rfl
    rw [e_mFz, e_mFz, eE, e_mSet, e_mLst, e_mConsE, c1, ok_bind]
    show (((mConsE _ [] mNilA [some (0, A), some (0, DA), some (0, DB), some (0, .int L), none, none, none, none, none] >>= fun xs => Res.ok (DA :: xs)) >>= _) >>= _) = _
    rw [e_mConsE, c2]
    show ((if 2 ≤ sizeLine then Res.ok (D.lst [DA, DB]) else .bad) >>= _) = _
    rw [if_pos hz2]; rfl) ?_
  clear ca cb
  have inner : ∀ (E : D) (k : Int) (S : Str), (S = "" ∧ gNe (.str S) (.str "") = .ok (.bl false) ∨ S ≠ "" ∧ gNe (.str S) (.str "") = .ok (.bl true) ∧ gNe (.str S) (.str S) = .ok (.bl false)) → (∀ j : Int, S ≠ "" → F__law_reached κ [E, .int L, .int j] = .ok (.str S)) → gIx (.lst [DA, DB]) (.int k) = .ok E →
      loop (tName 7) (mIf (mAndB (mTb (mOp gNe (mVar 6) (mC (.str "")))) (mTb (mOp gNe (mCall 0 (F__law_reached κ) (mConsA (mOp gIx (mVar 4) (mVar 5)) (mConsA (mVar 3) (mConsA (mVar 7) mNilA)))) (mVar 6)))) (mRet (mC (.bl false))) mSkip) [7] [.int 0, .int 1]
        [some (0, A), some (0, DA), some (0, DB), some (0, .int L), some (3, .lst [DA, DB]), some (0, .int k), some (0, .str S), none, none] = .ok (.nx [some (0, A), some (0, DA), some (0, DB), some (0, .int L), some (3, .lst [DA, DB]), some (0, .int k), some (0, .str S), none, none]) := by
    intro E k S hS hR hk
    rcases hS with ⟨h0, h1⟩ | ⟨h0, h1, h2⟩
    · simp -implicitDefEqProofs [loop, h1, toB]
    · have r0 := hR 0 h0
      have r1 := hR 1 h0
      simp -implicitDefEqProofs [loop, h1, h2, hk, r0, r1, toB]
  have in0 := inner DA 0 Sa sa ra gi0
  have in1 := inner DB 1 Sb sb rb gi1
  refine t_seq (e := [some (0, A), some (0, DA), some (0, DB), some (0, .int L), some (3, .lst [DA, DB]), none, none, none, none]) (by
    refine for_of (ds := [D.int 0, D.int 1]) (by simp -implicitDefEqProofs [gR]) ?_
    rw [loop_step (env' := [some (0, A), some (0, DA), some (0, DB), some (0, .int L), some (3, .lst [DA, DB]), none, none, none, none])]
    · rw [loop_step (env' := [some (0, A), some (0, DA), some (0, DB), some (0, .int L), some (3, .lst [DA, DB]), none, none, none, none])]
      · rfl
      · refine step_of (e1 := [some (0, A), some (0, DA), some (0, DB), some (0, .int L), some (3, .lst [DA, DB]), some (0, .int 1), none, none, none]) rfl (e2 := [some (0, A), some (0, DA), some (0, DB), some (0, .int L), some (3, .lst [DA, DB]), some (0, .int 1), some (0, .str Sb), none, none]) ?_ rfl
        refine s_seq2 (e := [some (0, A), some (0, DA), some (0, DB), some (0, .int L), some (3, .lst [DA, DB]), some (0, .int 1), some (0, .str Sb), none, none]) (by simp -implicitDefEqProofs [gi1, hNb, iNb, gNb, db]) ?_
        exact for_of (ds := [D.int 0, D.int 1]) (by simp -implicitDefEqProofs [hz2, itemsT]) in1
    · refine step_of (e1 := [some (0, A), some (0, DA), some (0, DB), some (0, .int L), some (3, .lst [DA, DB]), some (0, .int 0), none, none, none]) rfl (e2 := [some (0, A), some (0, DA), some (0, DB), some (0, .int L), some (3, .lst [DA, DB]), some (0, .int 0), some (0, .str Sa), none, none]) ?_ rfl
      refine s_seq2 (e := [some (0, A), some (0, DA), some (0, DB), some (0, .int L), some (3, .lst [DA, DB]), some (0, .int 0), some (0, .str Sa), none, none]) (by simp -implicitDefEqProofs [gi0, hNa, iNa, gNa, da]) ?_
      exact for_of (ds := [D.int 0, D.int 1]) (by simp -implicitDefEqProofs [hz2, itemsT]) in0) ?_
  clear inner in0 in1
  refine t_seq (e := [some (0, A), some (0, DA), some (0, DB), some (0, .int L), some (3, .lst [DA, DB]), none, some (0, .str Sm), none, none]) (by
    simp -implicitDefEqProofs [hNa, iNa, gNa, hNb, iNb, gNb, gm, dm]) ?_
  refine t_seq (e := [some (0, A), some (0, DA), some (0, DB), some (0, .int L), some (3, .lst [DA, DB]), none, some (0, .str Sm), none, none]) (by
    rcases sm with ⟨h0, h1⟩ | ⟨h0, h1, h2⟩
    · simp -implicitDefEqProofs [h1]
    · have q := j1 h0
      simp -implicitDefEqProofs [h1, gi0, gi1, q, h2]) ?_
  refine t_seq (e := [some (0, A), some (0, DA), some (0, DB), some (0, .int L), some (3, .lst [DA, DB]), none, some (0, .str Sm), none, none]) (by
    rcases sm with ⟨h0, h1⟩ | ⟨h0, h1, h2⟩
    · simp -implicitDefEqProofs [h1]
    · have q := j2 h0
      simp -implicitDefEqProofs [h1, gi0, gi1, q, h2]) ?_
  refine t_seq (e := [some (0, A), some (0, DA), some (0, DB), some (0, .int L), some (3, .lst [DA, DB]), none, some (0, .str Sm), none, none]) (by
    by_cases hL0 : L = 0
    · rw [decide_eq_true hL0] at gL0'
      by_cases h9 : na < 9
      · have h9' : (na : Int) < 9 := by omega
        have q := bn (by omega)
        simp -implicitDefEqProofs [gL0', hNa, iNa, gNa, h9', gi0, q]
      · have h9' : ¬ (na : Int) < 9 := by omega
        simp -implicitDefEqProofs [gL0', hNa, iNa, gNa, h9']
    · rw [decide_eq_false hL0] at gL0'
      simp -implicitDefEqProofs [gL0']) ?_
  exact Tells.eqI (by simp -implicitDefEqProofs [hz2, qe])

def top (i : Nat) : Stmt := PySem.Challenge.pw_knotwise_k77_lengths_and_sizes.main.body.getD i (.Pass ⟨0, 0, 0, 0⟩)
open PyProof.Rows (envOfC)
structure Txt (K : PySem.W.Frag) (mg : Str → Option Value) (κ : Str → Addr) : Prop where
  b_isinstance : mg "isinstance" = none
  b_len : mg "len" = none
  b_list : mg "list" = none
  b_max : mg "max" = none
  b_min : mg "min" = none
  b_range : mg "range" = none
  b_reversed : mg "reversed" = none
  b_sorted : mg "sorted" = none
  b_str : mg "str" = none
  b_zip : mg "zip" = none
  b_MOST_LENGTH : ∃ t, mg "MOST_LENGTH" = some (.int 4 t)
  b_MOST_REACHED : ∃ t, mg "MOST_REACHED" = some (.int 8 t)
  b_POINT : ∃ t, mg "POINT" = some (.str "." t)
  b_WAYS : ∃ t, mg "WAYS" = some (.str "ou" t)
  c_KnotError : XCl K mg κ "KnotError"
  c_NoLength : XCl K mg κ "NoLength"
  c_TooMany : XCl K mg κ "TooMany"
  m_NoLength : XMk K mg κ "NoLength"
  m_TooMany : XMk K mg κ "TooMany"
  e_KnotError : TabE K κ (.ref (κ "KnotError")) [("NoLength", true), ("TooMany", true)]
  n_NoLength : PySem.W.kitOne K (.type "NoneType") (.ref (κ "NoLength")) = some false
  k_NoLength : TabK K κ (.ref (κ "NoLength")) [("NoLength", true), ("TooMany", false)]
  n_TooMany : PySem.W.kitOne K (.type "NoneType") (.ref (κ "TooMany")) = some false
  k_TooMany : TabK K κ (.ref (κ "TooMany")) [("NoLength", false), ("TooMany", true)]
abbrev s__law_names : Stmt := top 120
theorem sc__law_names : FnScope ["_law_rows", "_law_used", "_law_row", "_law_passing"] ["_law_rows"] (defScope s__law_names) := ⟨rfl, rfl, rfl, by decide +kernel, rfl, by decide +kernel, by decide +kernel⟩
theorem ok__law_names {P : Program} {w : World} {K : PySem.W.Frag} {mg : Str → Option Value} {base : Heap} {κ : Str → Addr} (T : Txt K mg κ) (A : At K mg "_law_names" s__law_names)  : Cal P w K mg base "_law_names" 1 1 1 F__law_names := by
  obtain ⟨f, fd, F, hm⟩ := A.ex
  refine ⟨f, fd, ["_law_rows"], hm, F.kp, F.binds (fun _ _ _ _ _ _ us hl => lst1 (P := fun vs => bindArgs _ { pos := vs } = pure (List.zip _ vs)) (fun _ => rfl) us hl), def_ok (m := m__law_names) F sc__law_names rfl rfl fun cdv A outer s H E hr => ?_⟩
  have nd := sc__law_names.nd
  have hu := hr.units
  have hu1 : (A.deeper (envOfC "_law_names" (defScope s__law_names) s.heap.objs.size f cdv)).units + 1 < cLine := by omega
  have hu65 : (A.deeper (envOfC "_law_names" (defScope s__law_names) s.heap.objs.size f cdv)).units + 65 < cLine := by have := hr.un; omega
  exact (ss_cons (s_set (i := 1) nd rfl (.inl rfl) (se_lst (sae_nil (k := 0)))) (ss_cons (s_for .never rfl (si_list (se_var (pv 0))) (tg_name (i := 2) (pg_name nd rfl (.inl rfl))) (ss_one (s_for .never rfl (si_list (se_var (pv 2))) (tg_name (i := 3) (pg_name nd rfl (.inl rfl))) (ss_one (s_if (st_cmp (o_notIn hu65) (sb_ix (sb_var (pv 3)) (sb_c sc_int) (fun _ _ => rfl)) (sb_var (pv 1)) (by rfl)) (ss_one (s_append (j := 1) (pv 1) (se_c (k := 0) (sc_b (sb_ix (sb_var (pv 3)) (sb_c sc_int) (fun _ _ => rfl)))))) ss_nil)) (fg := [3]))) (fg := [2, 3])) (ss_one (s_ret (se_sortB (k := 0) hu65 (by rfl) T.b_sorted (sb_var (pv 1)))))))
abbrev s__law_name : Stmt := top 121
theorem sc__law_name : FnScope ["_law_rows", "_law_cell_here", "_law_name_here"] ["_law_rows", "_law_cell_here"] (defScope s__law_name) := ⟨rfl, rfl, rfl, by decide +kernel, rfl, by decide +kernel, by decide +kernel⟩
theorem ok__law_name {P : Program} {w : World} {K : PySem.W.Frag} {mg : Str → Option Value} {base : Heap} {κ : Str → Addr} (T : Txt K mg κ) (A : At K mg "_law_name" s__law_name) (C__law_names : Cal P w K mg base "_law_names" 1 1 1 F__law_names) : Cal P w K mg base "_law_name" 2 2 0 F__law_name := by
  obtain ⟨f, fd, F, hm⟩ := A.ex
  refine ⟨f, fd, ["_law_rows", "_law_cell_here"], hm, F.kp, F.binds (fun _ _ _ _ _ _ us hl => lst2 (P := fun vs => bindArgs _ { pos := vs } = pure (List.zip _ vs)) (fun _ _ => rfl) us hl), def_ok (m := m__law_name) F sc__law_name rfl rfl fun cdv A outer s H E hr => ?_⟩
  have nd := sc__law_name.nd
  have hu := hr.units
  have hu1 : (A.deeper (envOfC "_law_name" (defScope s__law_name) s.heap.objs.size f cdv)).units + 1 < cLine := by omega
  have hu65 : (A.deeper (envOfC "_law_name" (defScope s__law_name) s.heap.objs.size f cdv)).units + 65 < cLine := by have := hr.un; omega
  exact (ss_cons (s_set (i := 2) nd rfl (.inl rfl) (se_c (k := 0) (sc_op o_add (sb_c sc_int) (sb_c (sc_op o_mod (sb_c (sc_op o_mod (sb_c (sc_op o_mul (sb_var (pv 1)) (sb_c sc_int))) (sb_c sc_int))) (sb_c sc_int)))))) (ss_cons (s_while (n := 4096) .never (st_cmp (o_in hu65) (sb_var (pv 2)) (sb_e (se_cal C__law_names (hr.mono (by decide)) (by rfl) (sab_cons (sb_var (pv 0)) sab_nil) (hl := (sab_len sab_len0)))) (by rfl)) (ss_one (s_set (i := 2) nd rfl (.inl rfl) (se_c (k := 0) (sc_op o_add (sb_c (sc_op o_mod (sb_var (pv 2)) (sb_c sc_int))) (sb_c sc_int))))) (fg := [])) (ss_one (s_ret (se_c (k := 0) (sc_b (sb_var (pv 2))))))))
abbrev s__law_cross : Stmt := top 122
theorem sc__law_cross : FnScope ["_law_rows", "_law_cell_here", "_law_name_here", "_law_hand", "_law_over", "_law_under"] ["_law_rows", "_law_cell_here"] (defScope s__law_cross) := ⟨rfl, rfl, rfl, by decide +kernel, rfl, by decide +kernel, by decide +kernel⟩
theorem ok__law_cross {P : Program} {w : World} {K : PySem.W.Frag} {mg : Str → Option Value} {base : Heap} {κ : Str → Addr} (T : Txt K mg κ) (A : At K mg "_law_cross" s__law_cross) (C__law_name : Cal P w K mg base "_law_name" 2 2 0 F__law_name) : CalM P w K mg base "_law_cross" 3 2 2 F__law_cross := by
  obtain ⟨f, fd, F, hm⟩ := A.ex
  refine ⟨f, fd, ["_law_rows", "_law_cell_here"], hm, F.kp, F.binds (fun _ _ _ _ _ _ us hl => lst2 (P := fun vs => bindArgs _ { pos := vs } = pure (List.zip _ vs)) (fun _ _ => rfl) us hl), def_okM (κ := fun _ => 0) (m := m__law_cross) F sc__law_cross rfl rfl fun cdv A outer s H E hr => ?_⟩
  have nd := sc__law_cross.nd
  have hu := hr.units
  have hu1 : (A.deeper (envOfC "_law_cross" (defScope s__law_cross) s.heap.objs.size f cdv)).units + 1 < cLine := by omega
  have hu65 : (A.deeper (envOfC "_law_cross" (defScope s__law_cross) s.heap.objs.size f cdv)).units + 65 < cLine := by have := hr.un; omega
  exact (ss_consK (s_setK (i := 2) nd rfl (.inl rfl) (by rfl) (sx_se (se_cal C__law_name (hr.mono (by decide)) (by rfl) (sab_cons (sb_var (pv 0)) (sab_cons (sb_var (pv 1)) sab_nil)) (hl := (sab_len (sab_len sab_len0)))))) (ss_consK (s_setK (i := 3) nd rfl (.inl rfl) (by rfl) (sx_se (se_c (k := 0) (sc_op o_sub (sb_c (sc_op o_mul (sb_c sc_int) (sb_c (sc_op o_mod (sb_var (pv 1)) (sb_c sc_int))))) (sb_c sc_int))))) (ss_aliasK (j := 0) (i := 4) (k := 0) nd rfl (.inl rfl) (pv 0) (sb_c (sc_op o_mod (sb_c (sc_op o_fdv (sb_var (pv 1)) (sb_c sc_int))) (sb_c (sc_len (by rfl) T.b_len (sb_var (pv 0)))))) (fun _ _ => rfl) (by rfl) (sin_ins (j := 0) (i := 4) (k := 0) (pv 4) (sb_c (sc_op o_mod (sb_c (sc_op o_mod (sb_c (sc_op o_mul (sb_var (pv 1)) (sb_c sc_int))) (sb_c sc_int))) (sb_c (sc_op o_add (sb_c (sc_len (by rfl) T.b_len (sb_var (pv 4)))) (sb_c sc_int))))) (sb_c (sc_tup (sae_cons (se_c (k := 0) (sc_b (sb_var (pv 2)))) (sae_cons (se_c (k := 0) sc_int) (sae_cons (se_c (k := 0) (sc_b (sb_var (pv 3)))) (sae_nil (k := 0))))))) (ss_aliasK (j := 0) (i := 5) (k := 0) nd rfl (.inl rfl) (pv 0) (sb_c (sc_op o_mod (sb_c (sc_op o_fdv (sb_var (pv 1)) (sb_c sc_int))) (sb_c (sc_len (by rfl) T.b_len (sb_var (pv 0)))))) (fun _ _ => rfl) (by rfl) (sin_ins (j := 0) (i := 5) (k := 0) (pv 5) (sb_c (sc_op o_mod (sb_c (sc_op o_mod (sb_c (sc_op o_mul (sb_var (pv 1)) (sb_c sc_int))) (sb_c sc_int))) (sb_c (sc_op o_add (sb_c (sc_len (by rfl) T.b_len (sb_var (pv 5)))) (sb_c sc_int))))) (sb_c (sc_tup (sae_cons (se_c (k := 0) (sc_b (sb_var (pv 2)))) (sae_cons (se_c (k := 0) sc_int) (sae_cons (se_c (k := 0) (sc_b (sb_var (pv 3)))) (sae_nil (k := 0))))))) ss_nilK))))))
abbrev s__law_cell : Stmt := top 117
theorem sc__law_cell : FnScope ["_law_script", "_law_k"] ["_law_script", "_law_k"] (defScope s__law_cell) := ⟨rfl, rfl, rfl, by decide +kernel, rfl, by decide +kernel, by decide +kernel⟩
theorem ok__law_cell {P : Program} {w : World} {K : PySem.W.Frag} {mg : Str → Option Value} {base : Heap} {κ : Str → Addr} (T : Txt K mg κ) (A : At K mg "_law_cell" s__law_cell)  : Cal P w K mg base "_law_cell" 1 2 0 F__law_cell := by
  obtain ⟨f, fd, F, hm⟩ := A.ex
  refine ⟨f, fd, ["_law_script", "_law_k"], hm, F.kp, F.binds (fun _ _ _ _ _ _ us hl => lst2 (P := fun vs => bindArgs _ { pos := vs } = pure (List.zip _ vs)) (fun _ _ => rfl) us hl), def_ok (m := m__law_cell) F sc__law_cell rfl rfl fun cdv A outer s H E hr => ?_⟩
  have nd := sc__law_cell.nd
  have hu := hr.units
  have hu1 : (A.deeper (envOfC "_law_cell" (defScope s__law_cell) s.heap.objs.size f cdv)).units + 1 < cLine := by omega
  have hu65 : (A.deeper (envOfC "_law_cell" (defScope s__law_cell) s.heap.objs.size f cdv)).units + 65 < cLine := by have := hr.un; omega
  exact (ss_cons (s_if (st_cmp (o_lt hu) (sb_var (pv 1)) (sb_c (sc_len (by rfl) T.b_len (sb_var (pv 0)))) (nomark _)) (ss_one (s_ret (se_c (k := 0) (sc_b (sb_ix (sb_var (pv 0)) (sb_var (pv 1)) (fun _ _ => rfl)))))) ss_nil) (ss_one (s_ret (se_c (k := 0) sc_int))))
abbrev s__law_drawn : Stmt := top 132
theorem sc__law_drawn : FnScope ["_law_script", "_law_first", "_law_edge", "_law_at", "_law_many", "_law_strings", "_law_rows", "_law_k"] ["_law_script", "_law_first", "_law_edge", "_law_at"] (defScope s__law_drawn) := ⟨rfl, rfl, rfl, by decide +kernel, rfl, by decide +kernel, by decide +kernel⟩
theorem ok__law_drawn {P : Program} {w : World} {K : PySem.W.Frag} {mg : Str → Option Value} {base : Heap} {κ : Str → Addr} (T : Txt K mg κ) (A : At K mg "_law_drawn" s__law_drawn) (C__law_cross : CalM P w K mg base "_law_cross" 3 2 2 F__law_cross) (C__law_cell : Cal P w K mg base "_law_cell" 1 2 0 F__law_cell) : Cal P w K mg base "_law_drawn" 4 4 2 F__law_drawn := by
  obtain ⟨f, fd, F, hm⟩ := A.ex
  refine ⟨f, fd, ["_law_script", "_law_first", "_law_edge", "_law_at"], hm, F.kp, F.binds (fun _ _ _ _ _ _ us hl => lst4 (P := fun vs => bindArgs _ { pos := vs } = pure (List.zip _ vs)) (fun _ _ _ _ => rfl) us hl), def_ok (m := m__law_drawn) F sc__law_drawn rfl rfl fun cdv A outer s H E hr => ?_⟩
  have nd := sc__law_drawn.nd
  have hu := hr.units
  have hu1 : (A.deeper (envOfC "_law_drawn" (defScope s__law_drawn) s.heap.objs.size f cdv)).units + 1 < cLine := by omega
  have hu65 : (A.deeper (envOfC "_law_drawn" (defScope s__law_drawn) s.heap.objs.size f cdv)).units + 65 < cLine := by have := hr.un; omega
  exact (ss_cons (s_set (i := 4) nd rfl (.inl rfl) (se_c (k := 0) (sc_b (sb_var (pv 2))))) (ss_cons (s_if (st_cmp (o_ne hu) (sb_c (sc_op o_mod (sb_var (pv 1)) (sb_c sc_int))) (sb_c sc_int) (nomark _)) (ss_one (s_set (i := 4) nd rfl (.inl rfl) (se_c (k := 0) (sc_op o_mod (sb_c (sc_op o_fdv (sb_var (pv 1)) (sb_c sc_int))) (sb_c sc_int))))) ss_nil) (ss_cons (s_set (i := 5) nd rfl (.inl rfl) (se_c (k := 0) (sc_op o_add (sb_c sc_int) (sb_c (sc_op o_mod (sb_c (sc_op o_fdv (sb_var (pv 1)) (sb_c sc_int))) (sb_c sc_int)))))) (ss_cons (s_if (st_cmp (o_gt hu) (sb_var (pv 4)) (sb_c sc_int) (nomark _)) (ss_one (s_set (i := 5) nd rfl (.inl rfl) (se_c (k := 0) (sc_min2 rfl (by rfl) T.b_min (sb_var (pv 5)) (sb_c sc_int))))) ss_nil) (ss_cons (s_setLc [("_law_k", 7)] (by rfl) nd rfl rfl (sw_true rfl rfl rfl (by decide +kernel)) (blkOk_by (by rfl)) (by rfl) (si_range1 (by rfl) T.b_range (sb_var (pv 5))) (fun _ _ _ _ _ => (tg_name (i := 7) (pg_name nd rfl (.inl rfl)))) tok_name (by decide) (fun _ _ _ _ _ => spt_nil) (fun _ _ _ _ _ => (se_lst (sae_nil (k := 0))))) (ss_cons (s_for .never rfl (si_range1 (by rfl) T.b_range (sb_var (pv 4))) (tg_name (i := 7) (pg_name nd rfl (.inl rfl))) (ss_one (s_callM (j := 6) C__law_cross (hr.mono (by decide)) (by rfl) (pv 6) (sab_cons (sb_c (sc_op o_add (sb_e (se_cal C__law_cell (hr.mono (by decide)) (by rfl) (sab_cons (sb_var (pv 0)) (sab_cons (sb_c (sc_op o_add (sb_var (pv 3)) (sb_var (pv 7)))) sab_nil)) (hl := (sab_len (sab_len sab_len0))))) (sb_c (sc_op o_mul (sb_c (sc_op o_mul (sb_c sc_int) (sb_var (pv 7)))) (sb_var (pv 7)))))) sab_nil) (lenM (sab_len sab_len0)))) (fg := [7])) (ss_one (s_ret (se_move (k := 2) (pv 6))))))))))
abbrev s__law_length : Stmt := top 131
theorem sc__law_length : FnScope ["_law_cell_here"] ["_law_cell_here"] (defScope s__law_length) := ⟨rfl, rfl, rfl, by decide +kernel, rfl, by decide +kernel, by decide +kernel⟩
theorem ok__law_length {P : Program} {w : World} {K : PySem.W.Frag} {mg : Str → Option Value} {base : Heap} {κ : Str → Addr} (T : Txt K mg κ) (A : At K mg "_law_length" s__law_length)  : Cal P w K mg base "_law_length" 1 1 0 F__law_length := by
  obtain ⟨f, fd, F, hm⟩ := A.ex
  refine ⟨f, fd, ["_law_cell_here"], hm, F.kp, F.binds (fun _ _ _ _ _ _ us hl => lst1 (P := fun vs => bindArgs _ { pos := vs } = pure (List.zip _ vs)) (fun _ => rfl) us hl), def_ok (m := m__law_length) F sc__law_length rfl rfl fun cdv A outer s H E hr => ?_⟩
  have nd := sc__law_length.nd
  have hu := hr.units
  have hu1 : (A.deeper (envOfC "_law_length" (defScope s__law_length) s.heap.objs.size f cdv)).units + 1 < cLine := by omega
  have hu65 : (A.deeper (envOfC "_law_length" (defScope s__law_length) s.heap.objs.size f cdv)).units + 65 < cLine := by have := hr.un; omega
  exact (ss_cons (s_if (st_cmp (o_eq hu) (sb_c (sc_op o_mod (sb_var (pv 0)) (sb_c sc_int))) (sb_c sc_int) (nomark _)) (ss_one (s_ret (se_c (k := 0) (sc_op o_sub (sb_c (sc_op o_mod (sb_c (sc_op o_fdv (sb_var (pv 0)) (sb_c sc_int))) (sb_c sc_int))) (sb_c sc_int))))) ss_nil) (ss_cons (s_if (st_cmp (o_eq hu) (sb_c (sc_op o_mod (sb_var (pv 0)) (sb_c sc_int))) (sb_c sc_int) (nomark _)) (ss_one (s_ret (se_c (k := 0) sc_int))) ss_nil) (ss_one (s_ret (se_c (k := 0) (sc_op o_sub (sb_c (sc_op o_mod (sb_c (sc_op o_fdv (sb_var (pv 0)) (sb_c sc_int))) (sb_c (sc_op o_add (sb_c (sc_op o_mul (sb_c sc_int) (sb_c (sc_op o_pow (sb_c sc_int) (sb_c sc_int))))) (sb_c sc_int))))) (sb_c (sc_op o_pow (sb_c sc_int) (sb_c sc_int)))))))))
abbrev s__law_due : Stmt := top 130
theorem sc__law_due : FnScope ["_law_crossings", "_law_length_here"] ["_law_crossings", "_law_length_here"] (defScope s__law_due) := ⟨rfl, rfl, rfl, by decide +kernel, rfl, by decide +kernel, by decide +kernel⟩
theorem ok__law_due {P : Program} {w : World} {K : PySem.W.Frag} {mg : Str → Option Value} {base : Heap} {κ : Str → Addr} (T : Txt K mg κ) (A : At K mg "_law_due" s__law_due)  : Cal P w K mg base "_law_due" 1 2 0 F__law_due := by
  obtain ⟨f, fd, F, hm⟩ := A.ex
  refine ⟨f, fd, ["_law_crossings", "_law_length_here"], hm, F.kp, F.binds (fun _ _ _ _ _ _ us hl => lst2 (P := fun vs => bindArgs _ { pos := vs } = pure (List.zip _ vs)) (fun _ _ => rfl) us hl), def_ok (m := m__law_due) F sc__law_due rfl rfl fun cdv A outer s H E hr => ?_⟩
  have nd := sc__law_due.nd
  have hu := hr.units
  have hu1 : (A.deeper (envOfC "_law_due" (defScope s__law_due) s.heap.objs.size f cdv)).units + 1 < cLine := by omega
  have hu65 : (A.deeper (envOfC "_law_due" (defScope s__law_due) s.heap.objs.size f cdv)).units + 65 < cLine := by have := hr.un; omega
  exact (ss_cons (s_if (st_w (sw_or (st_cmp (o_lt hu) (sb_var (pv 1)) (sb_c sc_int) (nomark _)) (sw_or1 (st_cmp (o_gt hu) (sb_var (pv 1)) (sb_c sc_int) (nomark _))))) (ss_one (s_ret (se_c (k := 0) sc_str))) ss_nil) (ss_cons (s_if (st_cmp (o_gt hu) (sb_var (pv 0)) (sb_c sc_int) (nomark _)) (ss_one (s_ret (se_c (k := 0) sc_str))) ss_nil) (ss_one (s_ret (se_c (k := 0) sc_str)))))
abbrev s__law_word : Stmt := top 127
theorem sc__law_word : FnScope ["_law_error"] ["_law_error"] (defScope s__law_word) := ⟨rfl, rfl, rfl, by decide +kernel, rfl, by decide +kernel, by decide +kernel⟩
theorem ok__law_word {P : Program} {w : World} {K : PySem.W.Frag} {mg : Str → Option Value} {base : Heap} {κ : Str → Addr} (T : Txt K mg κ) (A : At K mg "_law_word" s__law_word)  : Cal P w K mg base "_law_word" 1 1 0 (F__law_word κ) := by
  obtain ⟨f, fd, F, hm⟩ := A.ex
  refine ⟨f, fd, ["_law_error"], hm, F.kp, F.binds (fun _ _ _ _ _ _ us hl => lst1 (P := fun vs => bindArgs _ { pos := vs } = pure (List.zip _ vs)) (fun _ => rfl) us hl), def_ok (m := (m__law_word κ)) F sc__law_word rfl rfl fun cdv A outer s H E hr => ?_⟩
  have nd := sc__law_word.nd
  have hu := hr.units
  have hu1 : (A.deeper (envOfC "_law_word" (defScope s__law_word) s.heap.objs.size f cdv)).units + 1 < cLine := by omega
  have hu65 : (A.deeper (envOfC "_law_word" (defScope s__law_word) s.heap.objs.size f cdv)).units + 65 < cLine := by have := hr.un; omega
  exact (ss_cons (s_if (st_w (sw_and (st_val (sb_c (sc_isOwn T.c_NoLength (by rfl) T.b_isinstance (by rfl) (sb_var (pv 0)) T.n_NoLength (tabK_ok T.k_NoLength)))) (sw_and1 (st_not (st_val (sb_c (sc_isOwn T.c_TooMany (by rfl) T.b_isinstance (by rfl) (sb_var (pv 0)) T.n_TooMany (tabK_ok T.k_TooMany)))))))) (ss_one (s_ret (se_c (k := 0) sc_str))) ss_nil) (ss_cons (s_if (st_w (sw_and (st_val (sb_c (sc_isOwn T.c_TooMany (by rfl) T.b_isinstance (by rfl) (sb_var (pv 0)) T.n_TooMany (tabK_ok T.k_TooMany)))) (sw_and1 (st_not (st_val (sb_c (sc_isOwn T.c_NoLength (by rfl) T.b_isinstance (by rfl) (sb_var (pv 0)) T.n_NoLength (tabK_ok T.k_NoLength)))))))) (ss_one (s_ret (se_c (k := 0) sc_str))) ss_nil) (ss_one (s_ret (se_c (k := 0) sc_str)))))
abbrev s_hands_of : Stmt := top 17
theorem sc_hands_of : FnScope ["drawing", "hands", "row", "passing"] ["drawing"] (defScope s_hands_of) := ⟨rfl, rfl, rfl, by decide +kernel, rfl, by decide +kernel, by decide +kernel⟩
theorem ok_hands_of {P : Program} {w : World} {K : PySem.W.Frag} {mg : Str → Option Value} {base : Heap} {κ : Str → Addr} (T : Txt K mg κ) (A : At K mg "hands_of" s_hands_of)  : Cal P w K mg base "hands_of" 1 1 1 F_hands_of := by
  obtain ⟨f, fd, F, hm⟩ := A.ex
  refine ⟨f, fd, ["drawing"], hm, F.kp, F.binds (fun _ _ _ _ _ _ us hl => lst1 (P := fun vs => bindArgs _ { pos := vs } = pure (List.zip _ vs)) (fun _ => rfl) us hl), def_ok (m := m_hands_of) F sc_hands_of rfl rfl fun cdv A outer s H E hr => ?_⟩
  have nd := sc_hands_of.nd
  have hu := hr.units
  have hu1 : (A.deeper (envOfC "hands_of" (defScope s_hands_of) s.heap.objs.size f cdv)).units + 1 < cLine := by omega
  have hu65 : (A.deeper (envOfC "hands_of" (defScope s_hands_of) s.heap.objs.size f cdv)).units + 65 < cLine := by have := hr.un; omega
  exact (ss_cons (s_set (i := 1) nd rfl (.inl rfl) (se_dnewK (k := 0))) (ss_cons (s_for .never rfl (si_list (se_var (pv 0))) (tg_name (i := 2) (pg_name nd rfl (.inl rfl))) (ss_one (s_for .never rfl (si_list (se_var (pv 2))) (tg_name (i := 3) (pg_name nd rfl (.inl rfl))) (ss_one (s_dput (j := 1) hu1 (pv 1) (sb_ix (sb_var (pv 3)) (sb_c sc_int) (fun _ _ => rfl)) (se_c (k := 0) (sc_b (sb_ix (sb_var (pv 3)) (sb_c sc_int) (fun _ _ => rfl)))))) (fg := [3]))) (fg := [2, 3])) (ss_one (s_ret (se_move (k := 1) (pv 1))))))
abbrev s_names_of : Stmt := top 18
theorem sc_names_of : FnScope ["drawing"] ["drawing"] (defScope s_names_of) := ⟨rfl, rfl, rfl, by decide +kernel, rfl, by decide +kernel, by decide +kernel⟩
theorem ok_names_of {P : Program} {w : World} {K : PySem.W.Frag} {mg : Str → Option Value} {base : Heap} {κ : Str → Addr} (T : Txt K mg κ) (A : At K mg "names_of" s_names_of) (C_hands_of : Cal P w K mg base "hands_of" 1 1 1 F_hands_of) : Cal P w K mg base "names_of" 2 1 1 F_names_of := by
  obtain ⟨f, fd, F, hm⟩ := A.ex
  refine ⟨f, fd, ["drawing"], hm, F.kp, F.binds (fun _ _ _ _ _ _ us hl => lst1 (P := fun vs => bindArgs _ { pos := vs } = pure (List.zip _ vs)) (fun _ => rfl) us hl), def_ok (m := m_names_of) F sc_names_of rfl rfl fun cdv A outer s H E hr => ?_⟩
  have nd := sc_names_of.nd
  have hu := hr.units
  have hu1 : (A.deeper (envOfC "names_of" (defScope s_names_of) s.heap.objs.size f cdv)).units + 1 < cLine := by omega
  have hu65 : (A.deeper (envOfC "names_of" (defScope s_names_of) s.heap.objs.size f cdv)).units + 65 < cLine := by have := hr.un; omega
  exact (ss_one (s_ret (se_sortDI (k := 0) rfl (by rfl) T.b_sorted (sb_e (se_cal C_hands_of (hr.mono (by decide)) (by rfl) (sab_cons (sb_var (pv 0)) sab_nil) (hl := (sab_len sab_len0)))))))
abbrev s_look_at_bounds : Stmt := top 68
theorem sc_look_at_bounds : FnScope ["drawings", "length", "drawing"] ["drawings", "length"] (defScope s_look_at_bounds) := ⟨rfl, rfl, rfl, by decide +kernel, rfl, by decide +kernel, by decide +kernel⟩
theorem ok_look_at_bounds {P : Program} {w : World} {K : PySem.W.Frag} {mg : Str → Option Value} {base : Heap} {κ : Str → Addr} (T : Txt K mg κ) (A : At K mg "look_at_bounds" s_look_at_bounds) (C_names_of : Cal P w K mg base "names_of" 2 1 1 F_names_of) : CalX P w K mg base "look_at_bounds" 3 2 0 κ F_look_at_bounds := by
  obtain ⟨f, fd, F, hm⟩ := A.ex
  refine ⟨f, fd, ["drawings", "length"], hm, F.kp, F.binds (fun _ _ _ _ _ _ us hl => lst2 (P := fun vs => bindArgs _ { pos := vs } = pure (List.zip _ vs)) (fun _ _ => rfl) us hl), def_okX (m := m_look_at_bounds) F sc_look_at_bounds rfl rfl fun cdv A outer s H E hr tk => ?_⟩
  have nd := sc_look_at_bounds.nd
  have hpo : PassesOwn (model (cxOf (L2.CX P w) P w K mg base ["drawings", "length", "drawing"] "look_at_bounds" (defScope s_look_at_bounds) f cdv A outer s H E).prog (cxOf (L2.CX P w) P w K mg base ["drawings", "length", "drawing"] "look_at_bounds" (defScope s_look_at_bounds) f cdv A outer s H E).w) (cxOf (L2.CX P w) P w K mg base ["drawings", "length", "drawing"] "look_at_bounds" (defScope s_look_at_bounds) f cdv A outer s H E).A (cxOf (L2.CX P w) P w K mg base ["drawings", "length", "drawing"] "look_at_bounds" (defScope s_look_at_bounds) f cdv A outer s H E).env (cxOf (L2.CX P w) P w K mg base ["drawings", "length", "drawing"] "look_at_bounds" (defScope s_look_at_bounds) f cdv A outer s H E).xe := passes_of rfl
  have hu := hr.units
  have hu1 : (A.deeper (envOfC "look_at_bounds" (defScope s_look_at_bounds) s.heap.objs.size f cdv)).units + 1 < cLine := by omega
  have hu65 : (A.deeper (envOfC "look_at_bounds" (defScope s_look_at_bounds) s.heap.objs.size f cdv)).units + 65 < cLine := by have := hr.un; omega
  exact (ss_consK (s_ifK (st_w (sw_or (st_cmp (o_lt hu) (sb_var (pv 1)) (sb_c sc_int) (nomark _)) (sw_or1 (st_cmp (o_gt hu) (sb_var (pv 1)) (sb_c (sc_globI (by rfl) T.b_MOST_LENGTH)) (nomark _))))) (ss_oneK (s_raiseC T.m_NoLength rfl tk (by rfl))) ss_nilK) (ss_oneK (s_forK hpo rfl (si_list (se_var (pv 0))) (tg_name (i := 2) (pg_name nd rfl (.inl rfl))) (ss_oneK (s_ifK (st_cmp (o_gt hu) (sb_c (sc_len (by rfl) T.b_len (sb_e (se_cal C_names_of (hr.mono (by decide)) (by rfl) (sab_cons (sb_var (pv 2)) sab_nil) (hl := (sab_len sab_len0)))))) (sb_c (sc_globI (by rfl) T.b_MOST_REACHED)) (nomark _)) (ss_oneK (s_raiseC T.m_TooMany rfl tk (by rfl))) ss_nilK)) (by rfl) (fg := [2]))))
abbrev s_beginnings : Stmt := top 50
theorem sc_beginnings : FnScope ["drawing", "found", "row", "longer", "one", "at"] ["drawing"] (defScope s_beginnings) := ⟨rfl, rfl, rfl, by decide +kernel, rfl, by decide +kernel, by decide +kernel⟩
theorem ok_beginnings {P : Program} {w : World} {K : PySem.W.Frag} {mg : Str → Option Value} {base : Heap} {κ : Str → Addr} (T : Txt K mg κ) (A : At K mg "beginnings" s_beginnings)  : Cal P w K mg base "beginnings" 1 1 1 F_beginnings := by
  obtain ⟨f, fd, F, hm⟩ := A.ex
  refine ⟨f, fd, ["drawing"], hm, F.kp, F.binds (fun _ _ _ _ _ _ us hl => lst1 (P := fun vs => bindArgs _ { pos := vs } = pure (List.zip _ vs)) (fun _ => rfl) us hl), def_ok (m := m_beginnings) F sc_beginnings rfl rfl fun cdv A outer s H E hr => ?_⟩
  have nd := sc_beginnings.nd
  have hu := hr.units
  have hu1 : (A.deeper (envOfC "beginnings" (defScope s_beginnings) s.heap.objs.size f cdv)).units + 1 < cLine := by omega
  have hu65 : (A.deeper (envOfC "beginnings" (defScope s_beginnings) s.heap.objs.size f cdv)).units + 65 < cLine := by have := hr.un; omega
  exact (ss_cons (s_set (i := 1) nd rfl (.inl rfl) (se_lst (sae_cons (se_0 (se_lst (sae_nil (k := 0)))) (sae_nil (k := 0))))) (ss_cons (s_for .never rfl (si_list (se_var (pv 0))) (tg_name (i := 2) (pg_name nd rfl (.inl rfl))) (ss_cons (s_set (i := 3) nd rfl (.inl rfl) (se_lst (sae_nil (k := 0)))) (ss_cons (s1_fz (i := 1) (s_for .never rfl (si_list (se_var (pv 1))) (tg_name (i := 4) (pg_name nd rfl (.inl rfl))) (ss_one (s_for .never rfl (si_range1 (by rfl) T.b_range (sb_c (sc_max2 rfl (by rfl) T.b_max (sb_c sc_int) (sb_c (sc_len (by rfl) T.b_len (sb_var (pv 2))))))) (tg_name (i := 5) (pg_name nd rfl (.inl rfl))) (ss_one (s_append (j := 3) (pv 3) (se_0 (se_cat (sl_imm (k := 0) (sb_var (pv 4))) (sl_imm (k := 0) (sb_lst (sab_cons (sb_var (pv 5)) sab_nil))))))) (fg := [5]))) (fg := [4, 5]))) (ss_one (s_set (i := 1) nd rfl (.inl rfl) (se_move (k := 1) (pv 3)))))) (fg := [2, 3, 4, 5])) (ss_one (s_ret (se_move (k := 1) (pv 1))))))
abbrev s_names_by_meeting : Stmt := top 51
theorem sc_names_by_meeting : FnScope ["drawing", "starts", "names", "row", "at", "passing"] ["drawing", "starts"] (defScope s_names_by_meeting) := ⟨rfl, rfl, rfl, by decide +kernel, rfl, by decide +kernel, by decide +kernel⟩
theorem ok_names_by_meeting {P : Program} {w : World} {K : PySem.W.Frag} {mg : Str → Option Value} {base : Heap} {κ : Str → Addr} (T : Txt K mg κ) (A : At K mg "names_by_meeting" s_names_by_meeting)  : Cal P w K mg base "names_by_meeting" 1 2 1 F_names_by_meeting := by
  obtain ⟨f, fd, F, hm⟩ := A.ex
  refine ⟨f, fd, ["drawing", "starts"], hm, F.kp, F.binds (fun _ _ _ _ _ _ us hl => lst2 (P := fun vs => bindArgs _ { pos := vs } = pure (List.zip _ vs)) (fun _ _ => rfl) us hl), def_ok (m := m_names_by_meeting) F sc_names_by_meeting rfl rfl fun cdv A outer s H E hr => ?_⟩
  have nd := sc_names_by_meeting.nd
  have hu := hr.units
  have hu1 : (A.deeper (envOfC "names_by_meeting" (defScope s_names_by_meeting) s.heap.objs.size f cdv)).units + 1 < cLine := by omega
  have hu65 : (A.deeper (envOfC "names_by_meeting" (defScope s_names_by_meeting) s.heap.objs.size f cdv)).units + 65 < cLine := by have := hr.un; omega
  exact (ss_cons (s_set (i := 2) nd rfl (.inl rfl) (se_dnewK (k := 0))) (ss_cons (s_for .never rfl (si_zip (by rfl) T.b_zip (se_var (pv 0)) (se_var (pv 1))) (tg_tup rfl (tgs_cons (tg_name (i := 3) (pg_name nd rfl (.inl rfl))) (tgs_cons (tg_name (i := 4) (pg_name nd rfl (.inl rfl))) tgs_nil))) (ss_one (s_for .never rfl (si_list (se_0 (se_cat (sl_imm (k := 0) (sb_e (se_slice (sl_imm (k := 0) (sb_var (pv 3))) (so_some (sb_var (pv 4))) so_none))) (sl_imm (k := 0) (sb_e (se_slice (sl_imm (k := 0) (sb_var (pv 3))) so_none (so_some (sb_var (pv 4))))))))) (tg_name (i := 5) (pg_name nd rfl (.inl rfl))) (ss_one (s_if (st_dnotin hu1 (sb_ix (sb_var (pv 5)) (sb_c sc_int) (fun _ _ => rfl)) (sb_var (pv 2))) (ss_one (s_dput (j := 2) hu1 (pv 2) (sb_ix (sb_var (pv 5)) (sb_c sc_int) (fun _ _ => rfl)) (se_c (k := 0) (sc_op o_add (sb_c (sc_lenD (by rfl) T.b_len (pv 2))) (sb_c sc_int))))) ss_nil)) (fg := [5]))) (fg := [3, 4, 5])) (ss_one (s_ret (se_move (k := 1) (pv 2))))))
abbrev s_seated : Stmt := top 16
theorem sc_seated : FnScope ["row", "at"] ["row"] (defScope s_seated) := ⟨rfl, rfl, rfl, by decide +kernel, rfl, by decide +kernel, by decide +kernel⟩
theorem ok_seated {P : Program} {w : World} {K : PySem.W.Frag} {mg : Str → Option Value} {base : Heap} {κ : Str → Addr} (T : Txt K mg κ) (A : At K mg "seated" s_seated)  : Cal P w K mg base "seated" 1 1 1 F_seated := by
  obtain ⟨f, fd, F, hm⟩ := A.ex
  refine ⟨f, fd, ["row"], hm, F.kp, F.binds (fun _ _ _ _ _ _ us hl => lst1 (P := fun vs => bindArgs _ { pos := vs } = pure (List.zip _ vs)) (fun _ => rfl) us hl), def_ok (m := m_seated) F sc_seated rfl rfl fun cdv A outer s H E hr => ?_⟩
  have nd := sc_seated.nd
  have hu := hr.units
  have hu1 : (A.deeper (envOfC "seated" (defScope s_seated) s.heap.objs.size f cdv)).units + 1 < cLine := by omega
  have hu65 : (A.deeper (envOfC "seated" (defScope s_seated) s.heap.objs.size f cdv)).units + 65 < cLine := by have := hr.un; omega
  exact (ss_cons (s_if (st_not (st_tru (sb_var (pv 0)))) (ss_one (s_ret (se_lst (sae_nil (k := 0))))) ss_nil) (ss_cons (s_set (i := 1) nd rfl (.inl rfl) (se_c (k := 0) (sc_index hu65 (sb_var (pv 0)) (sb_c (sc_min rfl hu65 (by rfl) T.b_min (sb_var (pv 0))))))) (ss_one (s_ret (se_cat (sl_imm (k := 0) (sb_e (se_list (.inl rfl) (by rfl) T.b_list (sl_imm (k := 0) (sb_e (se_slice (sl_imm (k := 0) (sb_var (pv 0))) (so_some (sb_var (pv 1))) so_none)))))) (sl_imm (k := 0) (sb_e (se_list (.inl rfl) (by rfl) T.b_list (sl_imm (k := 0) (sb_e (se_slice (sl_imm (k := 0) (sb_var (pv 0))) so_none (so_some (sb_var (pv 1))))))))))))))
abbrev s_row_by_names : Stmt := top 52
theorem sc_row_by_names : FnScope ["row", "names", "passing"] ["row", "names"] (defScope s_row_by_names) := ⟨rfl, rfl, rfl, by decide +kernel, rfl, by decide +kernel, by decide +kernel⟩
theorem ok_row_by_names {P : Program} {w : World} {K : PySem.W.Frag} {mg : Str → Option Value} {base : Heap} {κ : Str → Addr} (T : Txt K mg κ) (A : At K mg "row_by_names" s_row_by_names) (C_seated : Cal P w K mg base "seated" 1 1 1 F_seated) : Cal P w K mg base "row_by_names" 2 2 1 F_row_by_names := by
  obtain ⟨f, fd, F, hm⟩ := A.ex
  refine ⟨f, fd, ["row", "names"], hm, F.kp, F.binds (fun _ _ _ _ _ _ us hl => lst2 (P := fun vs => bindArgs _ { pos := vs } = pure (List.zip _ vs)) (fun _ _ => rfl) us hl), def_ok (m := m_row_by_names) F sc_row_by_names rfl rfl fun cdv A outer s H E hr => ?_⟩
  have nd := sc_row_by_names.nd
  have hu := hr.units
  have hu1 : (A.deeper (envOfC "row_by_names" (defScope s_row_by_names) s.heap.objs.size f cdv)).units + 1 < cLine := by omega
  have hu65 : (A.deeper (envOfC "row_by_names" (defScope s_row_by_names) s.heap.objs.size f cdv)).units + 65 < cLine := by have := hr.un; omega
  exact (ss_one (s_ret (se_cal C_seated (hr.mono (by decide)) (by rfl) (sab_cons (sb_e (se_lc [("passing", 2)] (by rfl) nd (blkOk_by (by rfl)) (by rfl) (si_list (se_var (pv 0))) (fun _ _ _ _ _ => (tg_name (i := 2) (pg_name nd rfl (.inl rfl)))) tok_name (by decide) (fun _ _ _ _ _ => spt_nil) (fun _ _ _ _ _ => (se_c (k := 0) (sc_tup (sae_cons (se_c (k := 0) (sc_b (sb_dget hu1 (sb_var (pv 1)) (sb_ix (sb_var (pv 2)) (sb_c sc_int) (fun _ _ => rfl)) (fun _ _ => rfl)))) (sae_cons (se_c (k := 0) (sc_b (sb_ix (sb_var (pv 2)) (sb_c sc_int) (fun _ _ => rfl)))) (sae_cons (se_c (k := 0) (sc_b (sb_ix (sb_var (pv 2)) (sb_c sc_int) (fun _ _ => rfl)))) (sae_nil (k := 0)))))))))) sab_nil) (hl := (sab_len sab_len0)))))
abbrev s_by_names : Stmt := top 53
theorem sc_by_names : FnScope ["drawing", "names", "row"] ["drawing", "names"] (defScope s_by_names) := ⟨rfl, rfl, rfl, by decide +kernel, rfl, by decide +kernel, by decide +kernel⟩
theorem ok_by_names {P : Program} {w : World} {K : PySem.W.Frag} {mg : Str → Option Value} {base : Heap} {κ : Str → Addr} (T : Txt K mg κ) (A : At K mg "by_names" s_by_names) (C_row_by_names : Cal P w K mg base "row_by_names" 2 2 1 F_row_by_names) : Cal P w K mg base "by_names" 3 2 2 F_by_names := by
  obtain ⟨f, fd, F, hm⟩ := A.ex
  refine ⟨f, fd, ["drawing", "names"], hm, F.kp, F.binds (fun _ _ _ _ _ _ us hl => lst2 (P := fun vs => bindArgs _ { pos := vs } = pure (List.zip _ vs)) (fun _ _ => rfl) us hl), def_ok (m := m_by_names) F sc_by_names rfl rfl fun cdv A outer s H E hr => ?_⟩
  have nd := sc_by_names.nd
  have hu := hr.units
  have hu1 : (A.deeper (envOfC "by_names" (defScope s_by_names) s.heap.objs.size f cdv)).units + 1 < cLine := by omega
  have hu65 : (A.deeper (envOfC "by_names" (defScope s_by_names) s.heap.objs.size f cdv)).units + 65 < cLine := by have := hr.un; omega
  exact (ss_one (s_ret (se_lc [("row", 2)] (by rfl) nd (blkOk_by (by rfl)) (by rfl) (si_list (se_var (pv 0))) (fun _ _ _ _ _ => (tg_name (i := 2) (pg_name nd rfl (.inl rfl)))) tok_name (by decide) (fun _ _ _ _ _ => spt_nil) (fun _ _ _ _ _ => (se_cal C_row_by_names (hr.mono (by decide)) (by rfl) (sab_cons (sb_var (pv 2)) (sab_cons (sb_var (pv 1)) sab_nil)) (hl := (sab_len (sab_len sab_len0))))))))
abbrev s_settling : Stmt := top 54
theorem sc_settling : FnScope ["drawing", "best", "best_names", "starts", "names", "found"] ["drawing"] (defScope s_settling) := ⟨rfl, rfl, rfl, by decide +kernel, rfl, by decide +kernel, by decide +kernel⟩
theorem ok_settling {P : Program} {w : World} {K : PySem.W.Frag} {mg : Str → Option Value} {base : Heap} {κ : Str → Addr} (T : Txt K mg κ) (A : At K mg "settling" s_settling) (C_beginnings : Cal P w K mg base "beginnings" 1 1 1 F_beginnings) (C_names_by_meeting : Cal P w K mg base "names_by_meeting" 1 2 1 F_names_by_meeting) (C_by_names : Cal P w K mg base "by_names" 3 2 2 F_by_names) : Cal P w K mg base "settling" 4 1 3 F_settling := by
  obtain ⟨f, fd, F, hm⟩ := A.ex
  refine ⟨f, fd, ["drawing"], hm, F.kp, F.binds (fun _ _ _ _ _ _ us hl => lst1 (P := fun vs => bindArgs _ { pos := vs } = pure (List.zip _ vs)) (fun _ => rfl) us hl), def_ok (m := m_settling) F sc_settling rfl rfl fun cdv A outer s H E hr => ?_⟩
  have nd := sc_settling.nd
  have hu := hr.units
  have hu1 : (A.deeper (envOfC "settling" (defScope s_settling) s.heap.objs.size f cdv)).units + 1 < cLine := by omega
  have hu65 : (A.deeper (envOfC "settling" (defScope s_settling) s.heap.objs.size f cdv)).units + 65 < cLine := by have := hr.un; omega
  exact (ss_cons (s_set (i := 1) nd rfl (.inl rfl) (se_c (k := 2) sc_non)) (ss_cons (s_set (i := 2) nd rfl (.inl rfl) (se_dnewK (k := 0))) (ss_cons (s_for .never rfl (si_list (se_0 (se_cal0 C_beginnings (hr.mono (by decide)) (by rfl) (sae_cons (se_var (pv 0)) (sae_nil (k := 0))) (hl := (sae_len sae_len0))))) (tg_name (i := 3) (pg_name nd rfl (.inl rfl))) (ss_cons (s_set (i := 4) nd rfl (.inl rfl) (se_cal C_names_by_meeting (hr.mono (by decide)) (by rfl) (sab_cons (sb_var (pv 0)) (sab_cons (sb_var (pv 3)) sab_nil)) (hl := (sab_len (sab_len sab_len0))))) (ss_cons (s_set (i := 5) nd rfl (.inl rfl) (se_cal C_by_names (hr.mono (by decide)) (by rfl) (sab_cons (sb_var (pv 0)) (sab_cons (sb_var (pv 4)) sab_nil)) (hl := (sab_len (sab_len sab_len0))))) (ss_one (s_if (st_w (sw_or (st_isN (sb_var (pv 1))) (sw_or1 (st_cmp (o_lt hu) (sb_var (pv 5)) (sb_var (pv 1)) (nomark _))))) (ss_cons (s_set (i := 1) nd rfl (.inl rfl) (se_move (k := 2) (pv 5))) (ss_one (s_set (i := 2) nd rfl (.inl rfl) (se_move (k := 1) (pv 4))))) (ss_fz (i := 5) (ss_fz (i := 4) ss_nil)))))) (fg := [3, 4, 5])) (ss_one (s_ret (se_tup (sae_cons (se_move (k := 2) (pv 1)) (sae_cons (se_up (k := 1) (se_move (k := 1) (pv 2))) (sae_nil (k := 2))))))))))
abbrev s_settled : Stmt := top 55
theorem sc_settled : FnScope ["drawing"] ["drawing"] (defScope s_settled) := ⟨rfl, rfl, rfl, by decide +kernel, rfl, by decide +kernel, by decide +kernel⟩
theorem ok_settled {P : Program} {w : World} {K : PySem.W.Frag} {mg : Str → Option Value} {base : Heap} {κ : Str → Addr} (T : Txt K mg κ) (A : At K mg "settled" s_settled) (C_settling : Cal P w K mg base "settling" 4 1 3 F_settling) : Cal P w K mg base "settled" 5 1 2 F_settled := by
  obtain ⟨f, fd, F, hm⟩ := A.ex
  refine ⟨f, fd, ["drawing"], hm, F.kp, F.binds (fun _ _ _ _ _ _ us hl => lst1 (P := fun vs => bindArgs _ { pos := vs } = pure (List.zip _ vs)) (fun _ => rfl) us hl), def_ok (m := m_settled) F sc_settled rfl rfl fun cdv A outer s H E hr => ?_⟩
  have nd := sc_settled.nd
  have hu := hr.units
  have hu1 : (A.deeper (envOfC "settled" (defScope s_settled) s.heap.objs.size f cdv)).units + 1 < cLine := by omega
  have hu65 : (A.deeper (envOfC "settled" (defScope s_settled) s.heap.objs.size f cdv)).units + 65 < cLine := by have := hr.un; omega
  exact (ss_one (s_ret (se_ixT (se_cal C_settling (hr.mono (by decide)) (by rfl) (sab_cons (sb_var (pv 0)) sab_nil) (hl := (sab_len sab_len0))) (sb_c sc_int) (fun _ _ => rfl))))
abbrev s_passing_text : Stmt := top 59
theorem sc_passing_text : FnScope ["passing", "sign"] ["passing"] (defScope s_passing_text) := ⟨rfl, rfl, rfl, by decide +kernel, rfl, by decide +kernel, by decide +kernel⟩
theorem ok_passing_text {P : Program} {w : World} {K : PySem.W.Frag} {mg : Str → Option Value} {base : Heap} {κ : Str → Addr} (T : Txt K mg κ) (A : At K mg "passing_text" s_passing_text)  : Cal P w K mg base "passing_text" 1 1 0 F_passing_text := by
  obtain ⟨f, fd, F, hm⟩ := A.ex
  refine ⟨f, fd, ["passing"], hm, F.kp, F.binds (fun _ _ _ _ _ _ us hl => lst1 (P := fun vs => bindArgs _ { pos := vs } = pure (List.zip _ vs)) (fun _ => rfl) us hl), def_ok (m := m_passing_text) F sc_passing_text rfl rfl fun cdv A outer s H E hr => ?_⟩
  have nd := sc_passing_text.nd
  have hu := hr.units
  have hu1 : (A.deeper (envOfC "passing_text" (defScope s_passing_text) s.heap.objs.size f cdv)).units + 1 < cLine := by omega
  have hu65 : (A.deeper (envOfC "passing_text" (defScope s_passing_text) s.heap.objs.size f cdv)).units + 65 < cLine := by have := hr.un; omega
  exact (ss_cons (s_set (i := 1) nd rfl (.inl rfl) (se_c (k := 0) sc_str)) (ss_cons (s_if (st_cmp (o_lt hu) (sb_ix (sb_var (pv 0)) (sb_c sc_int) (fun _ _ => rfl)) (sb_c sc_int) (nomark _)) (ss_one (s_set (i := 1) nd rfl (.inl rfl) (se_c (k := 0) sc_str))) ss_nil) (ss_one (s_ret (se_c (k := 0) (sc_op o_add (sb_c (sc_op o_add (sb_c (sc_strI (by rfl) T.b_str (sb_ix (sb_var (pv 0)) (sb_c sc_int) (fun _ _ => rfl)))) (sb_ix (sb_c (sc_globS (by rfl) T.b_WAYS)) (sb_ix (sb_var (pv 0)) (sb_c sc_int) (fun _ _ => rfl)) (fun _ _ => rfl)))) (sb_var (pv 1))))))))
abbrev s_row_text : Stmt := top 60
theorem sc_row_text : FnScope ["row", "passing"] ["row"] (defScope s_row_text) := ⟨rfl, rfl, rfl, by decide +kernel, rfl, by decide +kernel, by decide +kernel⟩
theorem ok_row_text {P : Program} {w : World} {K : PySem.W.Frag} {mg : Str → Option Value} {base : Heap} {κ : Str → Addr} (T : Txt K mg κ) (A : At K mg "row_text" s_row_text) (C_seated : Cal P w K mg base "seated" 1 1 1 F_seated) (C_passing_text : Cal P w K mg base "passing_text" 1 1 0 F_passing_text) : Cal P w K mg base "row_text" 2 1 0 F_row_text := by
  obtain ⟨f, fd, F, hm⟩ := A.ex
  refine ⟨f, fd, ["row"], hm, F.kp, F.binds (fun _ _ _ _ _ _ us hl => lst1 (P := fun vs => bindArgs _ { pos := vs } = pure (List.zip _ vs)) (fun _ => rfl) us hl), def_ok (m := m_row_text) F sc_row_text rfl rfl fun cdv A outer s H E hr => ?_⟩
  have nd := sc_row_text.nd
  have hu := hr.units
  have hu1 : (A.deeper (envOfC "row_text" (defScope s_row_text) s.heap.objs.size f cdv)).units + 1 < cLine := by omega
  have hu65 : (A.deeper (envOfC "row_text" (defScope s_row_text) s.heap.objs.size f cdv)).units + 65 < cLine := by have := hr.un; omega
  exact (ss_cons (s_if (st_not (st_tru (sb_var (pv 0)))) (ss_one (s_ret (se_c (k := 0) (sc_globS (by rfl) T.b_POINT)))) ss_nil) (ss_one (s_ret (se_c (k := 0) (sc_join (sb_c sc_str) (sb_e (se_lc [("passing", 1)] (by rfl) nd (blkOk_by (by rfl)) (by rfl) (si_list (se_0 (se_cal C_seated (hr.mono (by decide)) (by rfl) (sab_cons (sb_var (pv 0)) sab_nil) (hl := (sab_len sab_len0))))) (fun _ _ _ _ _ => (tg_name (i := 1) (pg_name nd rfl (.inl rfl)))) tok_name (by decide) (fun _ _ _ _ _ => spt_nil) (fun _ _ _ _ _ => (se_cal C_passing_text (hr.mono (by decide)) (by rfl) (sab_cons (sb_var (pv 1)) sab_nil) (hl := (sab_len sab_len0)))))))))))
abbrev s_text_of : Stmt := top 61
theorem sc_text_of : FnScope ["drawing", "row"] ["drawing"] (defScope s_text_of) := ⟨rfl, rfl, rfl, by decide +kernel, rfl, by decide +kernel, by decide +kernel⟩
theorem ok_text_of {P : Program} {w : World} {K : PySem.W.Frag} {mg : Str → Option Value} {base : Heap} {κ : Str → Addr} (T : Txt K mg κ) (A : At K mg "text_of" s_text_of) (C_row_text : Cal P w K mg base "row_text" 2 1 0 F_row_text) : Cal P w K mg base "text_of" 3 1 0 F_text_of := by
  obtain ⟨f, fd, F, hm⟩ := A.ex
  refine ⟨f, fd, ["drawing"], hm, F.kp, F.binds (fun _ _ _ _ _ _ us hl => lst1 (P := fun vs => bindArgs _ { pos := vs } = pure (List.zip _ vs)) (fun _ => rfl) us hl), def_ok (m := m_text_of) F sc_text_of rfl rfl fun cdv A outer s H E hr => ?_⟩
  have nd := sc_text_of.nd
  have hu := hr.units
  have hu1 : (A.deeper (envOfC "text_of" (defScope s_text_of) s.heap.objs.size f cdv)).units + 1 < cLine := by omega
  have hu65 : (A.deeper (envOfC "text_of" (defScope s_text_of) s.heap.objs.size f cdv)).units + 65 < cLine := by have := hr.un; omega
  exact (ss_one (s_ret (se_c (k := 0) (sc_join (sb_c sc_str) (sb_e (se_lc [("row", 1)] (by rfl) nd (blkOk_by (by rfl)) (by rfl) (si_list (se_var (pv 0))) (fun _ _ _ _ _ => (tg_name (i := 1) (pg_name nd rfl (.inl rfl)))) tok_name (by decide) (fun _ _ _ _ _ => spt_nil) (fun _ _ _ _ _ => (se_cal C_row_text (hr.mono (by decide)) (by rfl) (sab_cons (sb_var (pv 1)) sab_nil) (hl := (sab_len sab_len0))))))))))
abbrev s_drawing_of : Stmt := top 69
theorem sc_drawing_of : FnScope ["reached"] ["reached"] (defScope s_drawing_of) := ⟨rfl, rfl, rfl, by decide +kernel, rfl, by decide +kernel, by decide +kernel⟩
theorem ok_drawing_of {P : Program} {w : World} {K : PySem.W.Frag} {mg : Str → Option Value} {base : Heap} {κ : Str → Addr} (T : Txt K mg κ) (A : At K mg "drawing_of" s_drawing_of)  : Cal P w K mg base "drawing_of" 1 1 0 F_drawing_of := by
  obtain ⟨f, fd, F, hm⟩ := A.ex
  refine ⟨f, fd, ["reached"], hm, F.kp, F.binds (fun _ _ _ _ _ _ us hl => lst1 (P := fun vs => bindArgs _ { pos := vs } = pure (List.zip _ vs)) (fun _ => rfl) us hl), def_ok (m := m_drawing_of) F sc_drawing_of rfl rfl fun cdv A outer s H E hr => ?_⟩
  have nd := sc_drawing_of.nd
  have hu := hr.units
  have hu1 : (A.deeper (envOfC "drawing_of" (defScope s_drawing_of) s.heap.objs.size f cdv)).units + 1 < cLine := by omega
  have hu65 : (A.deeper (envOfC "drawing_of" (defScope s_drawing_of) s.heap.objs.size f cdv)).units + 65 < cLine := by have := hr.un; omega
  exact (ss_one (s_ret (se_ix (se_var (pv 0)) (sb_c sc_int) (fun _ _ => rfl))))
abbrev s_reach : Stmt := top 71
theorem sc_reach : FnScope ["drawing", "length", "first", "found", "edge", "turn", "coming", "here", "row"] ["drawing", "length"] (defScope s_reach) := ⟨rfl, rfl, rfl, by decide +kernel, rfl, by decide +kernel, by decide +kernel⟩
theorem ok_reach {P : Program} {w : World} {K : PySem.W.Frag} {mg : Str → Option Value} {base : Heap} {κ : Str → Addr} (T : Txt K mg κ) (A : At K mg "reach" s_reach) (C_look_at_bounds : CalX P w K mg base "look_at_bounds" 3 2 0 κ F_look_at_bounds) (C_settled : Cal P w K mg base "settled" 5 1 2 F_settled) (C_text_of : Cal P w K mg base "text_of" 3 1 0 F_text_of) (C_drawing_of : Cal P w K mg base "drawing_of" 1 1 0 F_drawing_of) : CalX P w K mg base "reach" 6 2 1 κ F_reach := by
  obtain ⟨f, fd, F, hm⟩ := A.ex
  refine ⟨f, fd, ["drawing", "length"], hm, F.kp, F.binds (fun _ _ _ _ _ _ us hl => lst2 (P := fun vs => bindArgs _ { pos := vs } = pure (List.zip _ vs)) (fun _ _ => rfl) us hl), def_okX (m := m_reach) F sc_reach rfl rfl fun cdv A outer s H E hr tk => ?_⟩
  have nd := sc_reach.nd
  have hpo : PassesOwn (model (cxOf (L2.CX P w) P w K mg base ["drawing", "length", "first", "found", "edge", "turn", "coming", "here", "row"] "reach" (defScope s_reach) f cdv A outer s H E).prog (cxOf (L2.CX P w) P w K mg base ["drawing", "length", "first", "found", "edge", "turn", "coming", "here", "row"] "reach" (defScope s_reach) f cdv A outer s H E).w) (cxOf (L2.CX P w) P w K mg base ["drawing", "length", "first", "found", "edge", "turn", "coming", "here", "row"] "reach" (defScope s_reach) f cdv A outer s H E).A (cxOf (L2.CX P w) P w K mg base ["drawing", "length", "first", "found", "edge", "turn", "coming", "here", "row"] "reach" (defScope s_reach) f cdv A outer s H E).env (cxOf (L2.CX P w) P w K mg base ["drawing", "length", "first", "found", "edge", "turn", "coming", "here", "row"] "reach" (defScope s_reach) f cdv A outer s H E).xe := passes_of rfl
  have hu := hr.units
  have hu1 : (A.deeper (envOfC "reach" (defScope s_reach) s.heap.objs.size f cdv)).units + 1 < cLine := by omega
  have hu65 : (A.deeper (envOfC "reach" (defScope s_reach) s.heap.objs.size f cdv)).units + 65 < cLine := by have := hr.un; omega
  exact (ss_consK (s_exprK (sx_cal C_look_at_bounds (hr.mono (by decide)) (by rfl) tk (sab_cons (sb_lst (sab_cons (sb_var (pv 0)) sab_nil)) (sab_cons (sb_var (pv 1)) sab_nil)) (hl := (sab_len (sab_len sab_len0))))) (ss_consK (s1_k (s_set (i := 2) nd rfl (.inl rfl) (se_0 (se_tup (sae_cons (se_0 (se_cal C_settled (hr.mono (by decide)) (by rfl) (sab_cons (sb_var (pv 0)) sab_nil) (hl := (sab_len sab_len0)))) (sae_cons (se_0 (se_lst (sae_nil (k := 0)))) (sae_nil (k := 0)))))))) (ss_consK (s1_k (s_set (i := 3) nd rfl (.inl rfl) (se_disp1 (sb_e (se_cal C_text_of (hr.mono (by decide)) (by rfl) (sab_cons (sb_ix (sb_var (pv 2)) (sb_c sc_int) (fun _ _ => rfl)) sab_nil) (hl := (sab_len sab_len0)))) (se_var (pv 2))))) (ss_consK (s1_k (s_set (i := 4) nd rfl (.inl rfl) (se_0 (se_lst (sae_cons (se_var (pv 2)) (sae_nil (k := 0))))))) (ss_consK (s1_k (s_for hpo rfl (si_range1 (by rfl) T.b_range (sb_var (pv 1))) (tg_name (i := 5) (pg_name nd rfl (.inl rfl))) (ss_cons (s_set (i := 6) nd rfl (.inl rfl) (se_lst (sae_nil (k := 0)))) (ss_cons (s_for hpo rfl (si_list (se_var (pv 4))) (tg_tup rfl (tgs_cons (tg_name (i := 7) (pg_name nd rfl (.inl rfl))) (tgs_cons (tg_name (i := 8) (pg_name nd rfl (.inl rfl))) tgs_nil))) (ss_one s_no) (fg := [7, 8])) (ss_one (s1_fz (i := 6) (s_set (i := 4) nd rfl (.inl rfl) (se_var (pv 6))))))) (fg := [5, 6, 7, 8]))) (ss_oneK (s1_k (s_ret (se_sortK C_drawing_of (hr.mono (by decide)) (by rfl) hu65 (by rfl) T.b_sorted (se_listVO rfl (by rfl) T.b_list (pv 3)))))))))))
abbrev s_meeting : Stmt := top 114
theorem sc_meeting : FnScope ["one", "other", "length", "rows", "drawing", "row"] ["one", "other", "length"] (defScope s_meeting) := ⟨rfl, rfl, rfl, by decide +kernel, rfl, by decide +kernel, by decide +kernel⟩
theorem ok_meeting {P : Program} {w : World} {K : PySem.W.Frag} {mg : Str → Option Value} {base : Heap} {κ : Str → Addr} (T : Txt K mg κ) (A : At K mg "meeting" s_meeting) (C_reach : CalX P w K mg base "reach" 6 2 1 κ F_reach) (C_text_of : Cal P w K mg base "text_of" 3 1 0 F_text_of) : CalX P w K mg base "meeting" 7 3 0 κ F_meeting := by
  obtain ⟨f, fd, F, hm⟩ := A.ex
  refine ⟨f, fd, ["one", "other", "length"], hm, F.kp, F.binds (fun _ _ _ _ _ _ us hl => lst3 (P := fun vs => bindArgs _ { pos := vs } = pure (List.zip _ vs)) (fun _ _ _ => rfl) us hl), def_okX (m := m_meeting) F sc_meeting rfl rfl fun cdv A outer s H E hr tk => ?_⟩
  have nd := sc_meeting.nd
  have hpo : PassesOwn (model (cxOf (L2.CX P w) P w K mg base ["one", "other", "length", "rows", "drawing", "row"] "meeting" (defScope s_meeting) f cdv A outer s H E).prog (cxOf (L2.CX P w) P w K mg base ["one", "other", "length", "rows", "drawing", "row"] "meeting" (defScope s_meeting) f cdv A outer s H E).w) (cxOf (L2.CX P w) P w K mg base ["one", "other", "length", "rows", "drawing", "row"] "meeting" (defScope s_meeting) f cdv A outer s H E).A (cxOf (L2.CX P w) P w K mg base ["one", "other", "length", "rows", "drawing", "row"] "meeting" (defScope s_meeting) f cdv A outer s H E).env (cxOf (L2.CX P w) P w K mg base ["one", "other", "length", "rows", "drawing", "row"] "meeting" (defScope s_meeting) f cdv A outer s H E).xe := passes_of rfl
  have hu := hr.units
  have hu1 : (A.deeper (envOfC "meeting" (defScope s_meeting) s.heap.objs.size f cdv)).units + 1 < cLine := by omega
  have hu65 : (A.deeper (envOfC "meeting" (defScope s_meeting) s.heap.objs.size f cdv)).units + 65 < cLine := by have := hr.un; omega
  exact (ss_consK (s1_k (s_set (i := 3) nd rfl (.inl rfl) (se_dnewK (k := 0)))) (ss_consK (s_forKX hpo rfl (sx_0 (sx_cal0 C_reach (hr.mono (by decide)) (by rfl) tk (sae_cons (se_var (pv 0)) (sae_cons (se_c (k := 0) (sc_b (sb_var (pv 2)))) (sae_nil (k := 0)))) (hl := (sae_len (sae_len sae_len0))))) (tg_tup rfl (tgs_cons (tg_name (i := 4) (pg_name nd rfl (.inl rfl))) (tgs_cons (tg_name (i := 5) (pg_name nd rfl (.inl rfl))) tgs_nil))) (ss_oneK (s1_k (s_dput (j := 3) hu1 (pv 3) (sb_e (se_cal C_text_of (hr.mono (by decide)) (by rfl) (sab_cons (sb_var (pv 4)) sab_nil) (hl := (sab_len sab_len0)))) (se_var (pv 5))))) (by rfl) (fg := [4, 5])) (ss_consK (s_forKX hpo rfl (sx_0 (sx_cal0 C_reach (hr.mono (by decide)) (by rfl) tk (sae_cons (se_var (pv 1)) (sae_cons (se_c (k := 0) (sc_b (sb_var (pv 2)))) (sae_nil (k := 0)))) (hl := (sae_len (sae_len sae_len0))))) (tg_tup rfl (tgs_cons (tg_name (i := 4) (pg_name nd rfl (.inl rfl))) (tgs_cons (tg_name (i := 5) (pg_name nd rfl (.inl rfl))) tgs_nil))) (ss_oneK (s1_k (s_if (st_din hu1 (sb_e (se_cal C_text_of (hr.mono (by decide)) (by rfl) (sab_cons (sb_var (pv 4)) sab_nil) (hl := (sab_len sab_len0)))) (sb_var (pv 3))) (ss_one (s_ret (se_0 (se_tup (sae_cons (se_dgo hu1 (pv 3) (sb_e (se_cal C_text_of (hr.mono (by decide)) (by rfl) (sab_cons (sb_var (pv 4)) sab_nil) (hl := (sab_len sab_len0)))) (fun _ _ => rfl)) (sae_cons (se_var (pv 5)) (sae_nil (k := 0)))))))) ss_nil))) (by rfl) (fg := [4, 5])) (ss_oneK (s1_k (s_ret (se_c (k := 0) sc_non)))))))
abbrev s_back_row : Stmt := top 67
theorem sc_back_row : FnScope ["drawing", "row", "here", "backs", "told", "back"] ["drawing", "row"] (defScope s_back_row) := ⟨rfl, rfl, rfl, by decide +kernel, rfl, by decide +kernel, by decide +kernel⟩
theorem ok_back_row {P : Program} {w : World} {K : PySem.W.Frag} {mg : Str → Option Value} {base : Heap} {κ : Str → Addr} (T : Txt K mg κ) (A : At K mg "back_row" s_back_row) (C_settled : Cal P w K mg base "settled" 5 1 2 F_settled) : Cal P w K mg base "back_row" 6 2 1 F_back_row := by
  obtain ⟨f, fd, F, hm⟩ := A.ex
  refine ⟨f, fd, ["drawing", "row"], hm, F.kp, F.binds (fun _ _ _ _ _ _ us hl => lst2 (P := fun vs => bindArgs _ { pos := vs } = pure (List.zip _ vs)) (fun _ _ => rfl) us hl), def_ok (m := m_back_row) F sc_back_row rfl rfl fun cdv A outer s H E hr => ?_⟩
  have nd := sc_back_row.nd
  have hu := hr.units
  have hu1 : (A.deeper (envOfC "back_row" (defScope s_back_row) s.heap.objs.size f cdv)).units + 1 < cLine := by omega
  have hu65 : (A.deeper (envOfC "back_row" (defScope s_back_row) s.heap.objs.size f cdv)).units + 65 < cLine := by have := hr.un; omega
  exact (ss_cons (s_set (i := 2) nd rfl (.inl rfl) (se_cal C_settled (hr.mono (by decide)) (by rfl) (sab_cons (sb_var (pv 0)) sab_nil) (hl := (sab_len sab_len0)))) (ss_cons (s_set (i := 3) nd rfl (.inl rfl) (se_lst (sae_nil (k := 0)))) (ss_cons (s_for .never rfl (si_list (se_var (pv 1))) (tg_name (i := 4) (pg_name nd rfl (.inl rfl))) (ss_cons s_no (ss_one (s_append (j := 3) (pv 3) (se_var (pv 5))))) (fg := [4, 5])) (ss_one (s1_fz (i := 3) (s_ret (se_listRev rfl (by rfl) T.b_list (by rfl) T.b_reversed (sl_sh (se_var (pv 3))))))))))
abbrev s_verdict : Stmt := top 115
theorem sc_verdict : FnScope ["one", "other", "length", "met", "word", "mark", "here", "there"] ["one", "other", "length"] (defScope s_verdict) := ⟨rfl, rfl, rfl, by decide +kernel, rfl, by decide +kernel, by decide +kernel⟩
theorem ok_verdict {P : Program} {w : World} {K : PySem.W.Frag} {mg : Str → Option Value} {base : Heap} {κ : Str → Addr} (T : Txt K mg κ) (A : AtD K mg "verdict" s_verdict [.int 2]) (C_look_at_bounds : CalX P w K mg base "look_at_bounds" 3 2 0 κ F_look_at_bounds) (C_meeting : CalX P w K mg base "meeting" 7 3 0 κ F_meeting) (C_back_row : Cal P w K mg base "back_row" 6 2 1 F_back_row) : CalX P w K mg base "verdict" 8 3 0 κ F_verdict := by
  obtain ⟨f, fd, F, hm⟩ := A.ex
  refine ⟨f, fd, ["one", "other", "length"], hm, F.kp, FunD.bindsF F (fun _ _ _ _ _ _ _ us its hl hi => match us, its, hl, hi with | [_, _, _], [_], _, _ => ⟨_, rfl, rfl⟩), def_okXD (m := m_verdict) F sc_verdict rfl rfl fun cdv A outer s H E hr tk => ?_⟩
  have nd := sc_verdict.nd
  have hpo : PassesOwn (model (cxOf (L2.CX P w) P w K mg base ["one", "other", "length", "met", "word", "mark", "here", "there"] "verdict" (defScope s_verdict) f cdv A outer s H E).prog (cxOf (L2.CX P w) P w K mg base ["one", "other", "length", "met", "word", "mark", "here", "there"] "verdict" (defScope s_verdict) f cdv A outer s H E).w) (cxOf (L2.CX P w) P w K mg base ["one", "other", "length", "met", "word", "mark", "here", "there"] "verdict" (defScope s_verdict) f cdv A outer s H E).A (cxOf (L2.CX P w) P w K mg base ["one", "other", "length", "met", "word", "mark", "here", "there"] "verdict" (defScope s_verdict) f cdv A outer s H E).env (cxOf (L2.CX P w) P w K mg base ["one", "other", "length", "met", "word", "mark", "here", "there"] "verdict" (defScope s_verdict) f cdv A outer s H E).xe := passes_of rfl
  have hu := hr.units
  have hu1 : (A.deeper (envOfC "verdict" (defScope s_verdict) s.heap.objs.size f cdv)).units + 1 < cLine := by omega
  have hu65 : (A.deeper (envOfC "verdict" (defScope s_verdict) s.heap.objs.size f cdv)).units + 65 < cLine := by have := hr.un; omega
  exact (ss_consK (s_exprK (sx_cal C_look_at_bounds (hr.mono (by decide)) (by rfl) tk (sab_cons (sb_lst (sab_cons (sb_var (pv 0)) (sab_cons (sb_var (pv 1)) sab_nil))) (sab_cons (sb_var (pv 2)) sab_nil)) (hl := (sab_len (sab_len sab_len0))))) (ss_consK (s_setK (i := 3) nd rfl (.inl rfl) (by rfl) (sx_cal0 C_meeting (hr.mono (by decide)) (by rfl) tk (sae_cons (se_var (pv 0)) (sae_cons (se_var (pv 1)) (sae_cons (se_c (k := 0) (sc_b (sb_var (pv 2)))) (sae_nil (k := 0))))) (hl := (sae_len (sae_len (sae_len sae_len0)))))) (ss_consK (s1_k (s_if (st_notN (sb_var (pv 3))) (ss_one (s_ret (se_0 (se_tup (sae_cons (se_c (k := 0) sc_str) (sae_cons (se_0 (se_cat (sl_imm (k := 0) (sb_ix (sb_var (pv 3)) (sb_c sc_int) (fun _ _ => rfl))) (sl_imm (k := 0) (sb_e (se_cal C_back_row (hr.mono (by decide)) (by rfl) (sab_cons (sb_var (pv 1)) (sab_cons (sb_ix (sb_var (pv 3)) (sb_c sc_int) (fun _ _ => rfl)) sab_nil)) (hl := (sab_len (sab_len sab_len0)))))))) (sae_nil (k := 0)))))))) ss_nil)) (ss_consK (s1_k s_no) (ss_oneK (s1_k (s_ret (se_c (k := 0) (sc_tup (sae_cons (se_c (k := 0) sc_str) (sae_nil (k := 0))))))))))))
abbrev s__law_judged : Stmt := top 129
theorem sc__law_judged : FnScope ["_law_one", "_law_other", "_law_length_here", "_law_error", "e"] ["_law_one", "_law_other", "_law_length_here"] (defScope s__law_judged) := ⟨rfl, rfl, rfl, by decide +kernel, rfl, by decide +kernel, by decide +kernel⟩
theorem ok__law_judged {P : Program} {w : World} {K : PySem.W.Frag} {mg : Str → Option Value} {base : Heap} {κ : Str → Addr} (T : Txt K mg κ) (A : At K mg "_law_judged" s__law_judged) (C_verdict : CalX P w K mg base "verdict" 8 3 0 κ F_verdict) (C__law_word : Cal P w K mg base "_law_word" 1 1 0 (F__law_word κ)) : Cal P w K mg base "_law_judged" 9 3 0 (F__law_judged κ) := by
  obtain ⟨f, fd, F, hm⟩ := A.ex
  refine ⟨f, fd, ["_law_one", "_law_other", "_law_length_here"], hm, F.kp, F.binds (fun _ _ _ _ _ _ us hl => lst3 (P := fun vs => bindArgs _ { pos := vs } = pure (List.zip _ vs)) (fun _ _ _ => rfl) us hl), def_ok (m := (m__law_judged κ)) F sc__law_judged rfl rfl fun cdv A outer s H E hr => ?_⟩
  have nd := sc__law_judged.nd
  have hu := hr.units
  have hu1 : (A.deeper (envOfC "_law_judged" (defScope s__law_judged) s.heap.objs.size f cdv)).units + 1 < cLine := by omega
  have hu65 : (A.deeper (envOfC "_law_judged" (defScope s__law_judged) s.heap.objs.size f cdv)).units + 65 < cLine := by have := hr.un; omega
  exact (ss_cons (s_set (i := 3) nd rfl (.inl rfl) (se_c (k := 0) sc_non)) (ss_cons (s1_of (s_tryK (i := 4) (Z := [0, 1, 2, 3]) rfl rfl nd rfl (by rfl) (names_own (by rfl) T.c_KnotError) takes0 (tabE_ok T.e_KnotError) (fun _ _ _ tkb hpb => (ss_oneK (s_exprK (sx_cal0 C_verdict (hr.mono (by decide)) (by rfl) tkb (sae_cons (se_var (pv 0)) (sae_cons (se_var (pv 1)) (sae_cons (se_c (k := 0) (sc_b (sb_var (pv 2)))) (sae_nil (k := 0))))) (hl := (sae_len (sae_len (sae_len sae_len0)))))))) (fun _ _ => (ss_one (s_set (i := 3) nd rfl (.inl rfl) (se_var (pv 4))))))) (ss_one (s_ret (se_cal C__law_word (hr.mono (by decide)) (by rfl) (sab_cons (sb_var (pv 3)) sab_nil) (hl := (sab_len sab_len0)))))))
abbrev s__law_choices : Stmt := top 124
theorem sc__law_choices : FnScope ["_law_rows", "_law_found", "_law_row", "_law_longer", "_law_one", "_law_at"] ["_law_rows"] (defScope s__law_choices) := ⟨rfl, rfl, rfl, by decide +kernel, rfl, by decide +kernel, by decide +kernel⟩
theorem ok__law_choices {P : Program} {w : World} {K : PySem.W.Frag} {mg : Str → Option Value} {base : Heap} {κ : Str → Addr} (T : Txt K mg κ) (A : At K mg "_law_choices" s__law_choices)  : Cal P w K mg base "_law_choices" 1 1 1 F__law_choices := by
  obtain ⟨f, fd, F, hm⟩ := A.ex
  refine ⟨f, fd, ["_law_rows"], hm, F.kp, F.binds (fun _ _ _ _ _ _ us hl => lst1 (P := fun vs => bindArgs _ { pos := vs } = pure (List.zip _ vs)) (fun _ => rfl) us hl), def_ok (m := m__law_choices) F sc__law_choices rfl rfl fun cdv A outer s H E hr => ?_⟩
  have nd := sc__law_choices.nd
  have hu := hr.units
  have hu1 : (A.deeper (envOfC "_law_choices" (defScope s__law_choices) s.heap.objs.size f cdv)).units + 1 < cLine := by omega
  have hu65 : (A.deeper (envOfC "_law_choices" (defScope s__law_choices) s.heap.objs.size f cdv)).units + 65 < cLine := by have := hr.un; omega
  exact (ss_cons (s_set (i := 1) nd rfl (.inl rfl) (se_lst (sae_cons (se_0 (se_lst (sae_nil (k := 0)))) (sae_nil (k := 0))))) (ss_cons (s_for .never rfl (si_list (se_var (pv 0))) (tg_name (i := 2) (pg_name nd rfl (.inl rfl))) (ss_cons (s_set (i := 3) nd rfl (.inl rfl) (se_lst (sae_nil (k := 0)))) (ss_cons (s1_fz (i := 1) (s_for .never rfl (si_list (se_var (pv 1))) (tg_name (i := 4) (pg_name nd rfl (.inl rfl))) (ss_one (s_for .never rfl (si_range1 (by rfl) T.b_range (sb_c (sc_max2 rfl (by rfl) T.b_max (sb_c sc_int) (sb_c (sc_len (by rfl) T.b_len (sb_var (pv 2))))))) (tg_name (i := 5) (pg_name nd rfl (.inl rfl))) (ss_one (s_append (j := 3) (pv 3) (se_0 (se_cat (sl_sh (se_var (pv 4))) (sl_sh (se_0 (se_lst (sae_cons (se_0 (se_cat (sl_imm (k := 0) (sb_e (se_slice (sl_imm (k := 0) (sb_var (pv 2))) (so_some (sb_var (pv 5))) so_none))) (sl_imm (k := 0) (sb_e (se_slice (sl_imm (k := 0) (sb_var (pv 2))) so_none (so_some (sb_var (pv 5)))))))) (sae_nil (k := 0)))))))))) (fg := [5]))) (fg := [4, 5]))) (ss_one (s_set (i := 1) nd rfl (.inl rfl) (se_move (k := 1) (pv 3)))))) (fg := [2, 3, 4, 5])) (ss_one (s_ret (se_move (k := 1) (pv 1))))))
abbrev s__law_seat : Stmt := top 118
theorem sc__law_seat : FnScope ["_law_row", "_law_best", "_law_k"] ["_law_row"] (defScope s__law_seat) := ⟨rfl, rfl, rfl, by decide +kernel, rfl, by decide +kernel, by decide +kernel⟩
theorem ok__law_seat {P : Program} {w : World} {K : PySem.W.Frag} {mg : Str → Option Value} {base : Heap} {κ : Str → Addr} (T : Txt K mg κ) (A : At K mg "_law_seat" s__law_seat)  : Cal P w K mg base "_law_seat" 1 1 1 F__law_seat := by
  obtain ⟨f, fd, F, hm⟩ := A.ex
  refine ⟨f, fd, ["_law_row"], hm, F.kp, F.binds (fun _ _ _ _ _ _ us hl => lst1 (P := fun vs => bindArgs _ { pos := vs } = pure (List.zip _ vs)) (fun _ => rfl) us hl), def_ok (m := m__law_seat) F sc__law_seat rfl rfl fun cdv A outer s H E hr => ?_⟩
  have nd := sc__law_seat.nd
  have hu := hr.units
  have hu1 : (A.deeper (envOfC "_law_seat" (defScope s__law_seat) s.heap.objs.size f cdv)).units + 1 < cLine := by omega
  have hu65 : (A.deeper (envOfC "_law_seat" (defScope s__law_seat) s.heap.objs.size f cdv)).units + 65 < cLine := by have := hr.un; omega
  exact (ss_cons (s_set (i := 1) nd rfl (.inl rfl) (se_c (k := 0) sc_int)) (ss_cons (s_for .never rfl (si_range1 (by rfl) T.b_range (sb_c (sc_len (by rfl) T.b_len (sb_var (pv 0))))) (tg_name (i := 2) (pg_name nd rfl (.inl rfl))) (ss_one (s_if (st_cmp (o_lt hu) (sb_c (sc_sliceT (sb_ix (sb_var (pv 0)) (sb_var (pv 2)) (fun _ _ => rfl)) so_none (so_some (sb_c sc_int)))) (sb_c (sc_sliceT (sb_ix (sb_var (pv 0)) (sb_var (pv 1)) (fun _ _ => rfl)) so_none (so_some (sb_c sc_int)))) (nomark _)) (ss_one (s_set (i := 1) nd rfl (.inl rfl) (se_c (k := 0) (sc_b (sb_var (pv 2)))))) ss_nil)) (fg := [2])) (ss_one (s_ret (se_cat (sl_imm (k := 0) (sb_e (se_slice (sl_imm (k := 0) (sb_var (pv 0))) (so_some (sb_var (pv 1))) so_none))) (sl_imm (k := 0) (sb_e (se_slice (sl_imm (k := 0) (sb_var (pv 0))) so_none (so_some (sb_var (pv 1)))))))))))
abbrev s__law_seats : Stmt := top 119
theorem sc__law_seats : FnScope ["_law_rows", "_law_row"] ["_law_rows"] (defScope s__law_seats) := ⟨rfl, rfl, rfl, by decide +kernel, rfl, by decide +kernel, by decide +kernel⟩
theorem ok__law_seats {P : Program} {w : World} {K : PySem.W.Frag} {mg : Str → Option Value} {base : Heap} {κ : Str → Addr} (T : Txt K mg κ) (A : At K mg "_law_seats" s__law_seats) (C__law_seat : Cal P w K mg base "_law_seat" 1 1 1 F__law_seat) : Cal P w K mg base "_law_seats" 2 1 2 F__law_seats := by
  obtain ⟨f, fd, F, hm⟩ := A.ex
  refine ⟨f, fd, ["_law_rows"], hm, F.kp, F.binds (fun _ _ _ _ _ _ us hl => lst1 (P := fun vs => bindArgs _ { pos := vs } = pure (List.zip _ vs)) (fun _ => rfl) us hl), def_ok (m := m__law_seats) F sc__law_seats rfl rfl fun cdv A outer s H E hr => ?_⟩
  have nd := sc__law_seats.nd
  have hu := hr.units
  have hu1 : (A.deeper (envOfC "_law_seats" (defScope s__law_seats) s.heap.objs.size f cdv)).units + 1 < cLine := by omega
  have hu65 : (A.deeper (envOfC "_law_seats" (defScope s__law_seats) s.heap.objs.size f cdv)).units + 65 < cLine := by have := hr.un; omega
  exact (ss_one (s_ret (se_lc [("_law_row", 1)] (by rfl) nd (blkOk_by (by rfl)) (by rfl) (si_list (se_var (pv 0))) (fun _ _ _ _ _ => (tg_name (i := 1) (pg_name nd rfl (.inl rfl)))) tok_name (by decide) (fun _ _ _ _ _ => spt_nil) (fun _ _ _ _ _ => (se_cal C__law_seat (hr.mono (by decide)) (by rfl) (sab_cons (sb_var (pv 1)) sab_nil) (hl := (sab_len sab_len0)))))))
abbrev s__law_called : Stmt := top 123
theorem sc__law_called : FnScope ["_law_rows", "_law_names_here", "_law_made", "_law_row", "_law_passing"] ["_law_rows", "_law_names_here"] (defScope s__law_called) := ⟨rfl, rfl, rfl, by decide +kernel, rfl, by decide +kernel, by decide +kernel⟩
theorem ok__law_called {P : Program} {w : World} {K : PySem.W.Frag} {mg : Str → Option Value} {base : Heap} {κ : Str → Addr} (T : Txt K mg κ) (A : At K mg "_law_called" s__law_called)  : Cal P w K mg base "_law_called" 1 2 2 F__law_called := by
  obtain ⟨f, fd, F, hm⟩ := A.ex
  refine ⟨f, fd, ["_law_rows", "_law_names_here"], hm, F.kp, F.binds (fun _ _ _ _ _ _ us hl => lst2 (P := fun vs => bindArgs _ { pos := vs } = pure (List.zip _ vs)) (fun _ _ => rfl) us hl), def_ok (m := m__law_called) F sc__law_called rfl rfl fun cdv A outer s H E hr => ?_⟩
  have nd := sc__law_called.nd
  have hu := hr.units
  have hu1 : (A.deeper (envOfC "_law_called" (defScope s__law_called) s.heap.objs.size f cdv)).units + 1 < cLine := by omega
  have hu65 : (A.deeper (envOfC "_law_called" (defScope s__law_called) s.heap.objs.size f cdv)).units + 65 < cLine := by have := hr.un; omega
  exact (ss_cons (s_set (i := 2) nd rfl (.inl rfl) (se_lst (sae_nil (k := 1)))) (ss_cons (s_for .never rfl (si_list (se_var (pv 0))) (tg_name (i := 3) (pg_name nd rfl (.inl rfl))) (ss_one (s_append (j := 2) (pv 2) (se_lc [("_law_passing", 4)] (by rfl) nd (blkOk_by (by rfl)) (by rfl) (si_list (se_var (pv 3))) (fun _ _ _ _ _ => (tg_name (i := 4) (pg_name nd rfl (.inl rfl)))) tok_name (by decide) (fun _ _ _ _ _ => spt_nil) (fun _ _ _ _ _ => (se_c (k := 0) (sc_tup (sae_cons (se_c (k := 0) (sc_b (sb_dget hu1 (sb_var (pv 1)) (sb_ix (sb_var (pv 4)) (sb_c sc_int) (fun _ _ => rfl)) (fun _ _ => rfl)))) (sae_cons (se_c (k := 0) (sc_b (sb_ix (sb_var (pv 4)) (sb_c sc_int) (fun _ _ => rfl)))) (sae_cons (se_c (k := 0) (sc_b (sb_ix (sb_var (pv 4)) (sb_c sc_int) (fun _ _ => rfl)))) (sae_nil (k := 0))))))))))) (fg := [3, 4])) (ss_one (s_ret (se_move (k := 2) (pv 2))))))
abbrev s__law_met : Stmt := top 125
theorem sc__law_met : FnScope ["_law_rows", "_law_names_here", "_law_row", "_law_passing"] ["_law_rows"] (defScope s__law_met) := ⟨rfl, rfl, rfl, by decide +kernel, rfl, by decide +kernel, by decide +kernel⟩
theorem ok__law_met {P : Program} {w : World} {K : PySem.W.Frag} {mg : Str → Option Value} {base : Heap} {κ : Str → Addr} (T : Txt K mg κ) (A : At K mg "_law_met" s__law_met)  : Cal P w K mg base "_law_met" 1 1 1 F__law_met := by
  obtain ⟨f, fd, F, hm⟩ := A.ex
  refine ⟨f, fd, ["_law_rows"], hm, F.kp, F.binds (fun _ _ _ _ _ _ us hl => lst1 (P := fun vs => bindArgs _ { pos := vs } = pure (List.zip _ vs)) (fun _ => rfl) us hl), def_ok (m := m__law_met) F sc__law_met rfl rfl fun cdv A outer s H E hr => ?_⟩
  have nd := sc__law_met.nd
  have hu := hr.units
  have hu1 : (A.deeper (envOfC "_law_met" (defScope s__law_met) s.heap.objs.size f cdv)).units + 1 < cLine := by omega
  have hu65 : (A.deeper (envOfC "_law_met" (defScope s__law_met) s.heap.objs.size f cdv)).units + 65 < cLine := by have := hr.un; omega
  exact (ss_cons (s_set (i := 1) nd rfl (.inl rfl) (se_dnewK (k := 0))) (ss_cons (s_for .never rfl (si_list (se_var (pv 0))) (tg_name (i := 2) (pg_name nd rfl (.inl rfl))) (ss_one (s_for .never rfl (si_list (se_var (pv 2))) (tg_name (i := 3) (pg_name nd rfl (.inl rfl))) (ss_one (s_if (st_dnotin hu1 (sb_ix (sb_var (pv 3)) (sb_c sc_int) (fun _ _ => rfl)) (sb_var (pv 1))) (ss_one (s_dput (j := 1) hu1 (pv 1) (sb_ix (sb_var (pv 3)) (sb_c sc_int) (fun _ _ => rfl)) (se_c (k := 0) (sc_op o_add (sb_c (sc_lenD (by rfl) T.b_len (pv 1))) (sb_c sc_int))))) ss_nil)) (fg := [3]))) (fg := [2, 3])) (ss_one (s_ret (se_move (k := 1) (pv 1))))))
abbrev s__law_settled : Stmt := top 126
theorem sc__law_settled : FnScope ["_law_rows", "_law_best", "_law_begun", "_law_found"] ["_law_rows"] (defScope s__law_settled) := ⟨rfl, rfl, rfl, by decide +kernel, rfl, by decide +kernel, by decide +kernel⟩
theorem ok__law_settled {P : Program} {w : World} {K : PySem.W.Frag} {mg : Str → Option Value} {base : Heap} {κ : Str → Addr} (T : Txt K mg κ) (A : At K mg "_law_settled" s__law_settled) (C__law_choices : Cal P w K mg base "_law_choices" 1 1 1 F__law_choices) (C__law_seats : Cal P w K mg base "_law_seats" 2 1 2 F__law_seats) (C__law_called : Cal P w K mg base "_law_called" 1 2 2 F__law_called) (C__law_met : Cal P w K mg base "_law_met" 1 1 1 F__law_met) : Cal P w K mg base "_law_settled" 3 1 0 F__law_settled := by
  obtain ⟨f, fd, F, hm⟩ := A.ex
  refine ⟨f, fd, ["_law_rows"], hm, F.kp, F.binds (fun _ _ _ _ _ _ us hl => lst1 (P := fun vs => bindArgs _ { pos := vs } = pure (List.zip _ vs)) (fun _ => rfl) us hl), def_ok (m := m__law_settled) F sc__law_settled rfl rfl fun cdv A outer s H E hr => ?_⟩
  have nd := sc__law_settled.nd
  have hu := hr.units
  have hu1 : (A.deeper (envOfC "_law_settled" (defScope s__law_settled) s.heap.objs.size f cdv)).units + 1 < cLine := by omega
  have hu65 : (A.deeper (envOfC "_law_settled" (defScope s__law_settled) s.heap.objs.size f cdv)).units + 65 < cLine := by have := hr.un; omega
  exact (ss_cons (s_set (i := 1) nd rfl (.inl rfl) (se_c (k := 0) sc_non)) (ss_cons (s_for .never rfl (si_list (se_0 (se_cal0 C__law_choices (hr.mono (by decide)) (by rfl) (sae_cons (se_var (pv 0)) (sae_nil (k := 0))) (hl := (sae_len sae_len0))))) (tg_name (i := 2) (pg_name nd rfl (.inl rfl))) (ss_cons (s_set (i := 3) nd rfl (.inl rfl) (se_0 (se_cal C__law_seats (hr.mono (by decide)) (by rfl) (sab_cons (sb_e (se_cal C__law_called (hr.mono (by decide)) (by rfl) (sab_cons (sb_var (pv 2)) (sab_cons (sb_e (se_cal C__law_met (hr.mono (by decide)) (by rfl) (sab_cons (sb_var (pv 2)) sab_nil) (hl := (sab_len sab_len0)))) sab_nil)) (hl := (sab_len (sab_len sab_len0))))) sab_nil) (hl := (sab_len sab_len0))))) (ss_one (s_if (st_w (sw_or (st_isN (sb_var (pv 1))) (sw_or1 (st_cmp (o_lt hu) (sb_var (pv 3)) (sb_var (pv 1)) (nomark _))))) (ss_one (s_set (i := 1) nd rfl (.inl rfl) (se_var (pv 3)))) ss_nil))) (fg := [2, 3])) (ss_one (s_ret (se_var (pv 1))))))
abbrev s_simplest : Stmt := top 72
theorem sc_simplest : FnScope ["drawing", "length", "best", "fewest", "reached", "many"] ["drawing", "length"] (defScope s_simplest) := ⟨rfl, rfl, rfl, by decide +kernel, rfl, by decide +kernel, by decide +kernel⟩
theorem ok_simplest {P : Program} {w : World} {K : PySem.W.Frag} {mg : Str → Option Value} {base : Heap} {κ : Str → Addr} (T : Txt K mg κ) (A : At K mg "simplest" s_simplest) (C_reach : CalX P w K mg base "reach" 6 2 1 κ F_reach) (C_names_of : Cal P w K mg base "names_of" 2 1 1 F_names_of) : CalX P w K mg base "simplest" 7 2 0 κ F_simplest := by
  obtain ⟨f, fd, F, hm⟩ := A.ex
  refine ⟨f, fd, ["drawing", "length"], hm, F.kp, F.binds (fun _ _ _ _ _ _ us hl => lst2 (P := fun vs => bindArgs _ { pos := vs } = pure (List.zip _ vs)) (fun _ _ => rfl) us hl), def_okX (m := m_simplest) F sc_simplest rfl rfl fun cdv A outer s H E hr tk => ?_⟩
  have nd := sc_simplest.nd
  have hpo : PassesOwn (model (cxOf (L2.CX P w) P w K mg base ["drawing", "length", "best", "fewest", "reached", "many"] "simplest" (defScope s_simplest) f cdv A outer s H E).prog (cxOf (L2.CX P w) P w K mg base ["drawing", "length", "best", "fewest", "reached", "many"] "simplest" (defScope s_simplest) f cdv A outer s H E).w) (cxOf (L2.CX P w) P w K mg base ["drawing", "length", "best", "fewest", "reached", "many"] "simplest" (defScope s_simplest) f cdv A outer s H E).A (cxOf (L2.CX P w) P w K mg base ["drawing", "length", "best", "fewest", "reached", "many"] "simplest" (defScope s_simplest) f cdv A outer s H E).env (cxOf (L2.CX P w) P w K mg base ["drawing", "length", "best", "fewest", "reached", "many"] "simplest" (defScope s_simplest) f cdv A outer s H E).xe := passes_of rfl
  have hu := hr.units
  have hu1 : (A.deeper (envOfC "simplest" (defScope s_simplest) s.heap.objs.size f cdv)).units + 1 < cLine := by omega
  have hu65 : (A.deeper (envOfC "simplest" (defScope s_simplest) s.heap.objs.size f cdv)).units + 65 < cLine := by have := hr.un; omega
  exact (ss_consK (s1_k (s_set (i := 2) nd rfl (.inl rfl) (se_c (k := 0) sc_non))) (ss_consK (s1_k (s_set (i := 3) nd rfl (.inl rfl) (se_c (k := 0) sc_int))) (ss_consK (s_forKX hpo rfl (sx_0 (sx_cal0 C_reach (hr.mono (by decide)) (by rfl) tk (sae_cons (se_var (pv 0)) (sae_cons (se_c (k := 0) (sc_b (sb_var (pv 1)))) (sae_nil (k := 0)))) (hl := (sae_len (sae_len sae_len0))))) (tg_name (i := 4) (pg_name nd rfl (.inl rfl))) (ss_consK (s1_k (s_set (i := 5) nd rfl (.inl rfl) (se_c (k := 0) (sc_len (by rfl) T.b_len (sb_e (se_cal C_names_of (hr.mono (by decide)) (by rfl) (sab_cons (sb_ix (sb_var (pv 4)) (sb_c sc_int) (fun _ _ => rfl)) sab_nil) (hl := (sab_len sab_len0)))))))) (ss_oneK (s1_k (s_if (st_w (sw_or (st_isN (sb_var (pv 2))) (sw_or1 (st_cmp (o_lt hu) (sb_var (pv 5)) (sb_var (pv 3)) (nomark _))))) (ss_cons (s_set (i := 2) nd rfl (.inl rfl) (se_var (pv 4))) (ss_one (s_set (i := 3) nd rfl (.inl rfl) (se_c (k := 0) (sc_b (sb_var (pv 5))))))) ss_nil)))) (by rfl) (fg := [4, 5])) (ss_oneK (s1_k (s_ret (se_var (pv 2))))))))
abbrev s__law_by_none : Stmt := top 133
theorem sc__law_by_none : FnScope ["_law_rows", "_law_made", "_law_begun", "_law_row"] ["_law_rows"] (defScope s__law_by_none) := ⟨rfl, rfl, rfl, by decide +kernel, rfl, by decide +kernel, by decide +kernel⟩
theorem ok__law_by_none {P : Program} {w : World} {K : PySem.W.Frag} {mg : Str → Option Value} {base : Heap} {κ : Str → Addr} (T : Txt K mg κ) (A : At K mg "_law_by_none" s__law_by_none) (C__law_settled : Cal P w K mg base "_law_settled" 3 1 0 F__law_settled) (C_simplest : CalX P w K mg base "simplest" 7 2 0 κ F_simplest) (C_reach : CalX P w K mg base "reach" 6 2 1 κ F_reach) (C_verdict : CalX P w K mg base "verdict" 8 3 0 κ F_verdict) : Cal P w K mg base "_law_by_none" 9 1 0 F__law_by_none := by
  obtain ⟨f, fd, F, hm⟩ := A.ex
  refine ⟨f, fd, ["_law_rows"], hm, F.kp, F.binds (fun _ _ _ _ _ _ us hl => lst1 (P := fun vs => bindArgs _ { pos := vs } = pure (List.zip _ vs)) (fun _ => rfl) us hl), def_ok (m := m__law_by_none) F sc__law_by_none rfl rfl fun cdv A outer s H E hr => ?_⟩
  have nd := sc__law_by_none.nd
  have hu := hr.units
  have hu1 : (A.deeper (envOfC "_law_by_none" (defScope s__law_by_none) s.heap.objs.size f cdv)).units + 1 < cLine := by omega
  have hu65 : (A.deeper (envOfC "_law_by_none" (defScope s__law_by_none) s.heap.objs.size f cdv)).units + 65 < cLine := by have := hr.un; omega
  exact (ss_cons (s_set (i := 1) nd rfl (.inl rfl) (se_cal0 C__law_settled (hr.mono (by decide)) (by rfl) (sae_cons (se_var (pv 0)) (sae_nil (k := 0))) (hl := (sae_len sae_len0)))) (ss_cons (s_setLc [("_law_row", 3)] (by rfl) nd rfl rfl (sw_true rfl rfl rfl (by decide +kernel)) (blkOk_by (by rfl)) (by rfl) (si_list (se_var (pv 0))) (fun _ _ _ _ _ => (tg_name (i := 3) (pg_name nd rfl (.inl rfl)))) tok_name (by decide) (fun _ _ _ _ _ => spt_nil) (fun _ _ _ _ _ => (se_cat (sl_imm (k := 0) (sb_e (se_slice (sl_imm (k := 0) (sb_var (pv 3))) (so_some (sb_c sc_int)) so_none))) (sl_imm (k := 0) (sb_e (se_slice (sl_imm (k := 0) (sb_var (pv 3))) so_none (so_some (sb_c sc_int)))))))) (ss_cons (s_if (st_w (sw_or (st_cmp (o_ne hu) (sb_e (se_cal0X C_reach (hr.mono (by decide)) (by rfl) (sae_cons (se_var (pv 0)) (sae_cons (se_c (k := 0) sc_int) (sae_nil (k := 0)))) (hl := (sae_len (sae_len sae_len0))))) (sb_lst (sab_cons (sb_e (se_tup (sae_cons (se_var (pv 1)) (sae_cons (se_0 (se_lst (sae_nil (k := 0)))) (sae_nil (k := 0)))))) sab_nil)) (nomark _)) (sw_or1 (st_cmp (o_ne hu) (sb_e (se_cal0X C_simplest (hr.mono (by decide)) (by rfl) (sae_cons (se_var (pv 0)) (sae_cons (se_c (k := 0) sc_int) (sae_nil (k := 0)))) (hl := (sae_len (sae_len sae_len0))))) (sb_e (se_tup (sae_cons (se_var (pv 1)) (sae_cons (se_0 (se_lst (sae_nil (k := 0)))) (sae_nil (k := 0)))))) (nomark _))))) (ss_one (s_ret (se_c (k := 0) sc_bl))) ss_nil) (ss_one (s1_fz (i := 2) (s_ret (se_c (k := 0) (sc_cmp (o_eq hu) (sb_e (se_cal0X C_verdict (hr.mono (by decide)) (by rfl) (sae_cons (se_var (pv 0)) (sae_cons (se_var (pv 2)) (sae_cons (se_c (k := 0) sc_int) (sae_nil (k := 0))))) (hl := (sae_len (sae_len (sae_len sae_len0)))))) (sb_e (se_tup (sae_cons (se_c (k := 0) sc_str) (sae_cons (se_0 (se_lst (sae_nil (k := 0)))) (sae_nil (k := 0)))))) (nomark _)))))))))
abbrev s__law_reached : Stmt := top 128
theorem sc__law_reached : FnScope ["_law_rows", "_law_length_here", "_law_which", "_law_error", "e"] ["_law_rows", "_law_length_here", "_law_which"] (defScope s__law_reached) := ⟨rfl, rfl, rfl, by decide +kernel, rfl, by decide +kernel, by decide +kernel⟩
theorem ok__law_reached {P : Program} {w : World} {K : PySem.W.Frag} {mg : Str → Option Value} {base : Heap} {κ : Str → Addr} (T : Txt K mg κ) (A : At K mg "_law_reached" s__law_reached) (C_reach : CalX P w K mg base "reach" 6 2 1 κ F_reach) (C_simplest : CalX P w K mg base "simplest" 7 2 0 κ F_simplest) (C__law_word : Cal P w K mg base "_law_word" 1 1 0 (F__law_word κ)) : Cal P w K mg base "_law_reached" 8 3 0 (F__law_reached κ) := by
  obtain ⟨f, fd, F, hm⟩ := A.ex
  refine ⟨f, fd, ["_law_rows", "_law_length_here", "_law_which"], hm, F.kp, F.binds (fun _ _ _ _ _ _ us hl => lst3 (P := fun vs => bindArgs _ { pos := vs } = pure (List.zip _ vs)) (fun _ _ _ => rfl) us hl), def_ok (m := (m__law_reached κ)) F sc__law_reached rfl rfl fun cdv A outer s H E hr => ?_⟩
  have nd := sc__law_reached.nd
  have hu := hr.units
  have hu1 : (A.deeper (envOfC "_law_reached" (defScope s__law_reached) s.heap.objs.size f cdv)).units + 1 < cLine := by omega
  have hu65 : (A.deeper (envOfC "_law_reached" (defScope s__law_reached) s.heap.objs.size f cdv)).units + 65 < cLine := by have := hr.un; omega
  exact (ss_cons (s_set (i := 3) nd rfl (.inl rfl) (se_c (k := 0) sc_non)) (ss_cons (s1_of (s_tryK (i := 4) (Z := [0, 1, 2, 3]) rfl rfl nd rfl (by rfl) (names_own (by rfl) T.c_KnotError) takes0 (tabE_ok T.e_KnotError) (fun _ _ _ tkb hpb => (ss_oneK (s_ifK (st_cmp (o_eq hu) (sb_var (pv 2)) (sb_c sc_int) (nomark _)) (ss_oneK (s_exprK (sx_cal0 C_reach (hr.mono (by decide)) (by rfl) tkb (sae_cons (se_var (pv 0)) (sae_cons (se_c (k := 0) (sc_b (sb_var (pv 1)))) (sae_nil (k := 0)))) (hl := (sae_len (sae_len sae_len0)))))) (ss_oneK (s_exprK (sx_cal0 C_simplest (hr.mono (by decide)) (by rfl) tkb (sae_cons (se_var (pv 0)) (sae_cons (se_c (k := 0) (sc_b (sb_var (pv 1)))) (sae_nil (k := 0)))) (hl := (sae_len (sae_len sae_len0))))))))) (fun _ _ => (ss_one (s_set (i := 3) nd rfl (.inl rfl) (se_var (pv 4))))))) (ss_one (s_ret (se_cal C__law_word (hr.mono (by decide)) (by rfl) (sab_cons (sb_var (pv 3)) sab_nil) (hl := (sab_len sab_len0)))))))
abbrev s_law : Stmt := top 134
theorem sc_law : FnScope ["_law_script", "_law_one", "_law_other", "_law_length_here", "_law_handed", "_law_k", "_law_due_here", "_law_which", "_law_row"] ["_law_script"] (defScope s_law) := ⟨rfl, rfl, rfl, by decide +kernel, rfl, by decide +kernel, by decide +kernel⟩
theorem body_law {P : Program} {w : World} {K : PySem.W.Frag} {mg : Str → Option Value} {base : Heap} {f : Addr} {cdv : Value} {A : Around} {outer : List PySem.Env} {s : Shared} {H : Hp} {E : XK} {κ : Str → Addr} (T : Txt K mg κ) (C__law_drawn : Cal P w K mg base "_law_drawn" 4 4 2 F__law_drawn) (C__law_cell : Cal P w K mg base "_law_cell" 1 2 0 F__law_cell) (C__law_length : Cal P w K mg base "_law_length" 1 1 0 F__law_length) (C__law_due : Cal P w K mg base "_law_due" 1 2 0 F__law_due) (C__law_names : Cal P w K mg base "_law_names" 1 1 1 F__law_names) (C__law_reached : Cal P w K mg base "_law_reached" 8 3 0 (F__law_reached κ)) (C__law_judged : Cal P w K mg base "_law_judged" 9 3 0 (F__law_judged κ)) (C__law_by_none : Cal P w K mg base "_law_by_none" 9 1 0 F__law_by_none) (hr : Room 9 (A.deeper (envOfC "law" (defScope s_law) s.heap.objs.size f cdv))) : SS (cxOf CX0 P w K mg base ["_law_script", "_law_one", "_law_other", "_law_length_here", "_law_handed", "_law_k", "_law_due_here", "_law_which", "_law_row"] "law" (defScope s_law) f cdv A outer s H E).nox 0 (defBody s_law) (m_law κ) := by
  have nd := sc_law.nd
  have hu := hr.units
  have hu1 : (A.deeper (envOfC "law" (defScope s_law) s.heap.objs.size f cdv)).units + 1 < cLine := by omega
  have hu65 : (A.deeper (envOfC "law" (defScope s_law) s.heap.objs.size f cdv)).units + 65 < cLine := by have := hr.un; omega
  exact (ss_cons (s_set (i := 1) nd rfl (.inl rfl) (se_cal C__law_drawn (hr.mono (by decide)) (by rfl) (sab_cons (sb_var (pv 0)) (sab_cons (sb_e (se_cal C__law_cell (hr.mono (by decide)) (by rfl) (sab_cons (sb_var (pv 0)) (sab_cons (sb_c sc_int) sab_nil)) (hl := (sab_len (sab_len sab_len0))))) (sab_cons (sb_c sc_int) (sab_cons (sb_c sc_int) sab_nil)))) (hl := (sab_len (sab_len (sab_len (sab_len sab_len0))))))) (ss_cons (s_set (i := 2) nd rfl (.inl rfl) (se_cal C__law_drawn (hr.mono (by decide)) (by rfl) (sab_cons (sb_var (pv 0)) (sab_cons (sb_e (se_cal C__law_cell (hr.mono (by decide)) (by rfl) (sab_cons (sb_var (pv 0)) (sab_cons (sb_c sc_int) sab_nil)) (hl := (sab_len (sab_len sab_len0))))) (sab_cons (sb_c sc_int) (sab_cons (sb_c sc_int) sab_nil)))) (hl := (sab_len (sab_len (sab_len (sab_len sab_len0))))))) (ss_cons (s_set (i := 3) nd rfl (.inl rfl) (se_cal C__law_length (hr.mono (by decide)) (by rfl) (sab_cons (sb_e (se_cal C__law_cell (hr.mono (by decide)) (by rfl) (sab_cons (sb_var (pv 0)) (sab_cons (sb_c sc_int) sab_nil)) (hl := (sab_len (sab_len sab_len0))))) sab_nil) (hl := (sab_len sab_len0)))) (ss_cons (s1_fz (i := 1) (s1_fz (i := 2) (s_set (i := 4) nd rfl (.inl rfl) (se_lst (sae_cons (se_lc [("_law_row", 8)] (by rfl) nd (blkOk_by (by rfl)) (by rfl) (si_list (se_var (pv 1))) (fun _ _ _ _ _ => (tg_name (i := 8) (pg_name nd rfl (.inl rfl)))) tok_name (by decide) (fun _ _ _ _ _ => spt_nil) (fun _ _ _ _ _ => (se_list (.inl rfl) (by rfl) T.b_list (sl_imm (k := 0) (sb_var (pv 8)))))) (sae_cons (se_lc [("_law_row", 8)] (by rfl) nd (blkOk_by (by rfl)) (by rfl) (si_list (se_var (pv 2))) (fun _ _ _ _ _ => (tg_name (i := 8) (pg_name nd rfl (.inl rfl)))) tok_name (by decide) (fun _ _ _ _ _ => spt_nil) (fun _ _ _ _ _ => (se_list (.inl rfl) (by rfl) T.b_list (sl_imm (k := 0) (sb_var (pv 8)))))) (sae_nil (k := 2)))))))) (ss_cons (s_for .never rfl (si_range1 (by rfl) T.b_range (sb_c sc_int)) (tg_name (i := 5) (pg_name nd rfl (.inl rfl))) (ss_cons (s_set (i := 6) nd rfl (.inl rfl) (se_cal C__law_due (hr.mono (by decide)) (by rfl) (sab_cons (sb_c (sc_len (by rfl) T.b_len (sb_e (se_cal C__law_names (hr.mono (by decide)) (by rfl) (sab_cons (sb_ix (sb_var (pv 4)) (sb_var (pv 5)) (fun _ _ => rfl)) sab_nil) (hl := (sab_len sab_len0)))))) (sab_cons (sb_var (pv 3)) sab_nil)) (hl := (sab_len (sab_len sab_len0))))) (ss_one (s_for .never rfl (si_tup (se_c (k := 0) (sc_tup (sae_cons (se_c (k := 0) sc_int) (sae_cons (se_c (k := 0) sc_int) (sae_nil (k := 0))))))) (tg_name (i := 7) (pg_name nd rfl (.inl rfl))) (ss_one (s_if (st_w (sw_and (st_cmp (o_ne hu) (sb_var (pv 6)) (sb_c sc_str) (nomark _)) (sw_and1 (st_cmp (o_ne hu) (sb_e (se_cal C__law_reached (hr.mono (by decide)) (by rfl) (sab_cons (sb_ix (sb_var (pv 4)) (sb_var (pv 5)) (fun _ _ => rfl)) (sab_cons (sb_var (pv 3)) (sab_cons (sb_var (pv 7)) sab_nil))) (hl := (sab_len (sab_len (sab_len sab_len0)))))) (sb_var (pv 6)) (nomark _))))) (ss_one (s_ret (se_c (k := 0) sc_bl))) ss_nil)) (fg := [7])))) (fg := [5, 6, 7])) (ss_cons (s_set (i := 6) nd rfl (.inl rfl) (se_cal C__law_due (hr.mono (by decide)) (by rfl) (sab_cons (sb_c (sc_max2 rfl (by rfl) T.b_max (sb_c (sc_len (by rfl) T.b_len (sb_e (se_cal C__law_names (hr.mono (by decide)) (by rfl) (sab_cons (sb_var (pv 1)) sab_nil) (hl := (sab_len sab_len0)))))) (sb_c (sc_len (by rfl) T.b_len (sb_e (se_cal C__law_names (hr.mono (by decide)) (by rfl) (sab_cons (sb_var (pv 2)) sab_nil) (hl := (sab_len sab_len0)))))))) (sab_cons (sb_var (pv 3)) sab_nil)) (hl := (sab_len (sab_len sab_len0))))) (ss_cons (s_if (st_w (sw_and (st_cmp (o_ne hu) (sb_var (pv 6)) (sb_c sc_str) (nomark _)) (sw_and1 (st_cmp (o_ne hu) (sb_e (se_cal C__law_judged (hr.mono (by decide)) (by rfl) (sab_cons (sb_ix (sb_var (pv 4)) (sb_c sc_int) (fun _ _ => rfl)) (sab_cons (sb_ix (sb_var (pv 4)) (sb_c sc_int) (fun _ _ => rfl)) (sab_cons (sb_var (pv 3)) sab_nil))) (hl := (sab_len (sab_len (sab_len sab_len0)))))) (sb_var (pv 6)) (nomark _))))) (ss_one (s_ret (se_c (k := 0) sc_bl))) ss_nil) (ss_cons (s_if (st_w (sw_and (st_cmp (o_ne hu) (sb_var (pv 6)) (sb_c sc_str) (nomark _)) (sw_and1 (st_cmp (o_ne hu) (sb_e (se_cal C__law_judged (hr.mono (by decide)) (by rfl) (sab_cons (sb_ix (sb_var (pv 4)) (sb_c sc_int) (fun _ _ => rfl)) (sab_cons (sb_ix (sb_var (pv 4)) (sb_c sc_int) (fun _ _ => rfl)) (sab_cons (sb_var (pv 3)) sab_nil))) (hl := (sab_len (sab_len (sab_len sab_len0)))))) (sb_var (pv 6)) (nomark _))))) (ss_one (s_ret (se_c (k := 0) sc_bl))) ss_nil) (ss_cons (s_if (st_w (sw_and (st_cmp (o_eq hu) (sb_var (pv 3)) (sb_c sc_int) (nomark _)) (sw_and (st_cmp (o_lt hu) (sb_c (sc_len (by rfl) T.b_len (sb_e (se_cal C__law_names (hr.mono (by decide)) (by rfl) (sab_cons (sb_var (pv 1)) sab_nil) (hl := (sab_len sab_len0)))))) (sb_c sc_int) (nomark _)) (sw_and1 (st_not (st_val (sb_e (se_cal C__law_by_none (hr.mono (by decide)) (by rfl) (sab_cons (sb_ix (sb_var (pv 4)) (sb_c sc_int) (fun _ _ => rfl)) sab_nil) (hl := (sab_len sab_len0)))))))))) (ss_one (s_ret (se_c (k := 0) sc_bl))) ss_nil) (ss_one (s_ret (se_c (k := 0) (sc_cmp (o_eq hu) (sb_var (pv 4)) (sb_lst (sab_cons (sb_var (pv 1)) (sab_cons (sb_var (pv 2)) sab_nil))) (nomark _))))))))))))))
theorem all_mk {l : PySem.W.OpenLaw} {w : World} {K : PySem.W.Frag} {h : Heap} {mg : Str → Option Value} {fa : Addr} (X : K.In h) (G : h.Ns mainGlobals mg) (hfa : mg "law" = some (.ref fa))
    {f0 : Addr} {oc0 : Value} {od0 an0 : Option Addr} {sl0 : Array (Option Value)} {kV0 dc0 pm0 cd0 ct0 : Value}
    (a0 : PySem.W.nsIn K mainGlobals "_law_names" = some (some (.ref f0))) (l0 : K.lookup f0 = some ⟨oc0, od0, .func (PySem.W.fnOf "_law_names" "_law_names" (defArgs s__law_names) (defBody s__law_names) (defScope s__law_names) .none kV0 dc0 pm0 an0 cd0 ct0), sl0⟩) (c0 : PySem.W.codeIn K cd0 "_law_names" = true) (k0 : PySem.W.keepIn K (.ref f0) = true)
    {f1 : Addr} {oc1 : Value} {od1 an1 : Option Addr} {sl1 : Array (Option Value)} {kV1 dc1 pm1 cd1 ct1 : Value}
    (a1 : PySem.W.nsIn K mainGlobals "_law_name" = some (some (.ref f1))) (l1 : K.lookup f1 = some ⟨oc1, od1, .func (PySem.W.fnOf "_law_name" "_law_name" (defArgs s__law_name) (defBody s__law_name) (defScope s__law_name) .none kV1 dc1 pm1 an1 cd1 ct1), sl1⟩) (c1 : PySem.W.codeIn K cd1 "_law_name" = true) (k1 : PySem.W.keepIn K (.ref f1) = true)
    {f2 : Addr} {oc2 : Value} {od2 an2 : Option Addr} {sl2 : Array (Option Value)} {kV2 dc2 pm2 cd2 ct2 : Value}
    (a2 : PySem.W.nsIn K mainGlobals "_law_cross" = some (some (.ref f2))) (l2 : K.lookup f2 = some ⟨oc2, od2, .func (PySem.W.fnOf "_law_cross" "_law_cross" (defArgs s__law_cross) (defBody s__law_cross) (defScope s__law_cross) .none kV2 dc2 pm2 an2 cd2 ct2), sl2⟩) (c2 : PySem.W.codeIn K cd2 "_law_cross" = true) (k2 : PySem.W.keepIn K (.ref f2) = true)
    {f3 : Addr} {oc3 : Value} {od3 an3 : Option Addr} {sl3 : Array (Option Value)} {kV3 dc3 pm3 cd3 ct3 : Value}
    (a3 : PySem.W.nsIn K mainGlobals "_law_cell" = some (some (.ref f3))) (l3 : K.lookup f3 = some ⟨oc3, od3, .func (PySem.W.fnOf "_law_cell" "_law_cell" (defArgs s__law_cell) (defBody s__law_cell) (defScope s__law_cell) .none kV3 dc3 pm3 an3 cd3 ct3), sl3⟩) (c3 : PySem.W.codeIn K cd3 "_law_cell" = true) (k3 : PySem.W.keepIn K (.ref f3) = true)
    {f4 : Addr} {oc4 : Value} {od4 an4 : Option Addr} {sl4 : Array (Option Value)} {kV4 dc4 pm4 cd4 ct4 : Value}
    (a4 : PySem.W.nsIn K mainGlobals "_law_drawn" = some (some (.ref f4))) (l4 : K.lookup f4 = some ⟨oc4, od4, .func (PySem.W.fnOf "_law_drawn" "_law_drawn" (defArgs s__law_drawn) (defBody s__law_drawn) (defScope s__law_drawn) .none kV4 dc4 pm4 an4 cd4 ct4), sl4⟩) (c4 : PySem.W.codeIn K cd4 "_law_drawn" = true) (k4 : PySem.W.keepIn K (.ref f4) = true)
    {f5 : Addr} {oc5 : Value} {od5 an5 : Option Addr} {sl5 : Array (Option Value)} {kV5 dc5 pm5 cd5 ct5 : Value}
    (a5 : PySem.W.nsIn K mainGlobals "_law_length" = some (some (.ref f5))) (l5 : K.lookup f5 = some ⟨oc5, od5, .func (PySem.W.fnOf "_law_length" "_law_length" (defArgs s__law_length) (defBody s__law_length) (defScope s__law_length) .none kV5 dc5 pm5 an5 cd5 ct5), sl5⟩) (c5 : PySem.W.codeIn K cd5 "_law_length" = true) (k5 : PySem.W.keepIn K (.ref f5) = true)
    {f6 : Addr} {oc6 : Value} {od6 an6 : Option Addr} {sl6 : Array (Option Value)} {kV6 dc6 pm6 cd6 ct6 : Value}
    (a6 : PySem.W.nsIn K mainGlobals "_law_due" = some (some (.ref f6))) (l6 : K.lookup f6 = some ⟨oc6, od6, .func (PySem.W.fnOf "_law_due" "_law_due" (defArgs s__law_due) (defBody s__law_due) (defScope s__law_due) .none kV6 dc6 pm6 an6 cd6 ct6), sl6⟩) (c6 : PySem.W.codeIn K cd6 "_law_due" = true) (k6 : PySem.W.keepIn K (.ref f6) = true)
    {f7 : Addr} {oc7 : Value} {od7 an7 : Option Addr} {sl7 : Array (Option Value)} {kV7 dc7 pm7 cd7 ct7 : Value}
    (a7 : PySem.W.nsIn K mainGlobals "_law_word" = some (some (.ref f7))) (l7 : K.lookup f7 = some ⟨oc7, od7, .func (PySem.W.fnOf "_law_word" "_law_word" (defArgs s__law_word) (defBody s__law_word) (defScope s__law_word) .none kV7 dc7 pm7 an7 cd7 ct7), sl7⟩) (c7 : PySem.W.codeIn K cd7 "_law_word" = true) (k7 : PySem.W.keepIn K (.ref f7) = true)
    {f8 : Addr} {oc8 : Value} {od8 an8 : Option Addr} {sl8 : Array (Option Value)} {kV8 dc8 pm8 cd8 ct8 : Value}
    (a8 : PySem.W.nsIn K mainGlobals "hands_of" = some (some (.ref f8))) (l8 : K.lookup f8 = some ⟨oc8, od8, .func (PySem.W.fnOf "hands_of" "hands_of" (defArgs s_hands_of) (defBody s_hands_of) (defScope s_hands_of) .none kV8 dc8 pm8 an8 cd8 ct8), sl8⟩) (c8 : PySem.W.codeIn K cd8 "hands_of" = true) (k8 : PySem.W.keepIn K (.ref f8) = true)
    {f9 : Addr} {oc9 : Value} {od9 an9 : Option Addr} {sl9 : Array (Option Value)} {kV9 dc9 pm9 cd9 ct9 : Value}
    (a9 : PySem.W.nsIn K mainGlobals "names_of" = some (some (.ref f9))) (l9 : K.lookup f9 = some ⟨oc9, od9, .func (PySem.W.fnOf "names_of" "names_of" (defArgs s_names_of) (defBody s_names_of) (defScope s_names_of) .none kV9 dc9 pm9 an9 cd9 ct9), sl9⟩) (c9 : PySem.W.codeIn K cd9 "names_of" = true) (k9 : PySem.W.keepIn K (.ref f9) = true)
    {f10 : Addr} {oc10 : Value} {od10 an10 : Option Addr} {sl10 : Array (Option Value)} {kV10 dc10 pm10 cd10 ct10 : Value}
    (a10 : PySem.W.nsIn K mainGlobals "look_at_bounds" = some (some (.ref f10))) (l10 : K.lookup f10 = some ⟨oc10, od10, .func (PySem.W.fnOf "look_at_bounds" "look_at_bounds" (defArgs s_look_at_bounds) (defBody s_look_at_bounds) (defScope s_look_at_bounds) .none kV10 dc10 pm10 an10 cd10 ct10), sl10⟩) (c10 : PySem.W.codeIn K cd10 "look_at_bounds" = true) (k10 : PySem.W.keepIn K (.ref f10) = true)
    {f11 : Addr} {oc11 : Value} {od11 an11 : Option Addr} {sl11 : Array (Option Value)} {kV11 dc11 pm11 cd11 ct11 : Value}
    (a11 : PySem.W.nsIn K mainGlobals "beginnings" = some (some (.ref f11))) (l11 : K.lookup f11 = some ⟨oc11, od11, .func (PySem.W.fnOf "beginnings" "beginnings" (defArgs s_beginnings) (defBody s_beginnings) (defScope s_beginnings) .none kV11 dc11 pm11 an11 cd11 ct11), sl11⟩) (c11 : PySem.W.codeIn K cd11 "beginnings" = true) (k11 : PySem.W.keepIn K (.ref f11) = true)
    {f12 : Addr} {oc12 : Value} {od12 an12 : Option Addr} {sl12 : Array (Option Value)} {kV12 dc12 pm12 cd12 ct12 : Value}
    (a12 : PySem.W.nsIn K mainGlobals "names_by_meeting" = some (some (.ref f12))) (l12 : K.lookup f12 = some ⟨oc12, od12, .func (PySem.W.fnOf "names_by_meeting" "names_by_meeting" (defArgs s_names_by_meeting) (defBody s_names_by_meeting) (defScope s_names_by_meeting) .none kV12 dc12 pm12 an12 cd12 ct12), sl12⟩) (c12 : PySem.W.codeIn K cd12 "names_by_meeting" = true) (k12 : PySem.W.keepIn K (.ref f12) = true)
    {f13 : Addr} {oc13 : Value} {od13 an13 : Option Addr} {sl13 : Array (Option Value)} {kV13 dc13 pm13 cd13 ct13 : Value}
    (a13 : PySem.W.nsIn K mainGlobals "seated" = some (some (.ref f13))) (l13 : K.lookup f13 = some ⟨oc13, od13, .func (PySem.W.fnOf "seated" "seated" (defArgs s_seated) (defBody s_seated) (defScope s_seated) .none kV13 dc13 pm13 an13 cd13 ct13), sl13⟩) (c13 : PySem.W.codeIn K cd13 "seated" = true) (k13 : PySem.W.keepIn K (.ref f13) = true)
    {f14 : Addr} {oc14 : Value} {od14 an14 : Option Addr} {sl14 : Array (Option Value)} {kV14 dc14 pm14 cd14 ct14 : Value}
    (a14 : PySem.W.nsIn K mainGlobals "row_by_names" = some (some (.ref f14))) (l14 : K.lookup f14 = some ⟨oc14, od14, .func (PySem.W.fnOf "row_by_names" "row_by_names" (defArgs s_row_by_names) (defBody s_row_by_names) (defScope s_row_by_names) .none kV14 dc14 pm14 an14 cd14 ct14), sl14⟩) (c14 : PySem.W.codeIn K cd14 "row_by_names" = true) (k14 : PySem.W.keepIn K (.ref f14) = true)
    {f15 : Addr} {oc15 : Value} {od15 an15 : Option Addr} {sl15 : Array (Option Value)} {kV15 dc15 pm15 cd15 ct15 : Value}
    (a15 : PySem.W.nsIn K mainGlobals "by_names" = some (some (.ref f15))) (l15 : K.lookup f15 = some ⟨oc15, od15, .func (PySem.W.fnOf "by_names" "by_names" (defArgs s_by_names) (defBody s_by_names) (defScope s_by_names) .none kV15 dc15 pm15 an15 cd15 ct15), sl15⟩) (c15 : PySem.W.codeIn K cd15 "by_names" = true) (k15 : PySem.W.keepIn K (.ref f15) = true)
    {f16 : Addr} {oc16 : Value} {od16 an16 : Option Addr} {sl16 : Array (Option Value)} {kV16 dc16 pm16 cd16 ct16 : Value}
    (a16 : PySem.W.nsIn K mainGlobals "settling" = some (some (.ref f16))) (l16 : K.lookup f16 = some ⟨oc16, od16, .func (PySem.W.fnOf "settling" "settling" (defArgs s_settling) (defBody s_settling) (defScope s_settling) .none kV16 dc16 pm16 an16 cd16 ct16), sl16⟩) (c16 : PySem.W.codeIn K cd16 "settling" = true) (k16 : PySem.W.keepIn K (.ref f16) = true)
    {f17 : Addr} {oc17 : Value} {od17 an17 : Option Addr} {sl17 : Array (Option Value)} {kV17 dc17 pm17 cd17 ct17 : Value}
    (a17 : PySem.W.nsIn K mainGlobals "settled" = some (some (.ref f17))) (l17 : K.lookup f17 = some ⟨oc17, od17, .func (PySem.W.fnOf "settled" "settled" (defArgs s_settled) (defBody s_settled) (defScope s_settled) .none kV17 dc17 pm17 an17 cd17 ct17), sl17⟩) (c17 : PySem.W.codeIn K cd17 "settled" = true) (k17 : PySem.W.keepIn K (.ref f17) = true)
    {f18 : Addr} {oc18 : Value} {od18 an18 : Option Addr} {sl18 : Array (Option Value)} {kV18 dc18 pm18 cd18 ct18 : Value}
    (a18 : PySem.W.nsIn K mainGlobals "passing_text" = some (some (.ref f18))) (l18 : K.lookup f18 = some ⟨oc18, od18, .func (PySem.W.fnOf "passing_text" "passing_text" (defArgs s_passing_text) (defBody s_passing_text) (defScope s_passing_text) .none kV18 dc18 pm18 an18 cd18 ct18), sl18⟩) (c18 : PySem.W.codeIn K cd18 "passing_text" = true) (k18 : PySem.W.keepIn K (.ref f18) = true)
    {f19 : Addr} {oc19 : Value} {od19 an19 : Option Addr} {sl19 : Array (Option Value)} {kV19 dc19 pm19 cd19 ct19 : Value}
    (a19 : PySem.W.nsIn K mainGlobals "row_text" = some (some (.ref f19))) (l19 : K.lookup f19 = some ⟨oc19, od19, .func (PySem.W.fnOf "row_text" "row_text" (defArgs s_row_text) (defBody s_row_text) (defScope s_row_text) .none kV19 dc19 pm19 an19 cd19 ct19), sl19⟩) (c19 : PySem.W.codeIn K cd19 "row_text" = true) (k19 : PySem.W.keepIn K (.ref f19) = true)
    {f20 : Addr} {oc20 : Value} {od20 an20 : Option Addr} {sl20 : Array (Option Value)} {kV20 dc20 pm20 cd20 ct20 : Value}
    (a20 : PySem.W.nsIn K mainGlobals "text_of" = some (some (.ref f20))) (l20 : K.lookup f20 = some ⟨oc20, od20, .func (PySem.W.fnOf "text_of" "text_of" (defArgs s_text_of) (defBody s_text_of) (defScope s_text_of) .none kV20 dc20 pm20 an20 cd20 ct20), sl20⟩) (c20 : PySem.W.codeIn K cd20 "text_of" = true) (k20 : PySem.W.keepIn K (.ref f20) = true)
    {f21 : Addr} {oc21 : Value} {od21 an21 : Option Addr} {sl21 : Array (Option Value)} {kV21 dc21 pm21 cd21 ct21 : Value}
    (a21 : PySem.W.nsIn K mainGlobals "drawing_of" = some (some (.ref f21))) (l21 : K.lookup f21 = some ⟨oc21, od21, .func (PySem.W.fnOf "drawing_of" "drawing_of" (defArgs s_drawing_of) (defBody s_drawing_of) (defScope s_drawing_of) .none kV21 dc21 pm21 an21 cd21 ct21), sl21⟩) (c21 : PySem.W.codeIn K cd21 "drawing_of" = true) (k21 : PySem.W.keepIn K (.ref f21) = true)
    {f22 : Addr} {oc22 : Value} {od22 an22 : Option Addr} {sl22 : Array (Option Value)} {kV22 dc22 pm22 cd22 ct22 : Value}
    (a22 : PySem.W.nsIn K mainGlobals "reach" = some (some (.ref f22))) (l22 : K.lookup f22 = some ⟨oc22, od22, .func (PySem.W.fnOf "reach" "reach" (defArgs s_reach) (defBody s_reach) (defScope s_reach) .none kV22 dc22 pm22 an22 cd22 ct22), sl22⟩) (c22 : PySem.W.codeIn K cd22 "reach" = true) (k22 : PySem.W.keepIn K (.ref f22) = true)
    {f23 : Addr} {oc23 : Value} {od23 an23 : Option Addr} {sl23 : Array (Option Value)} {kV23 dc23 pm23 cd23 ct23 : Value}
    (a23 : PySem.W.nsIn K mainGlobals "meeting" = some (some (.ref f23))) (l23 : K.lookup f23 = some ⟨oc23, od23, .func (PySem.W.fnOf "meeting" "meeting" (defArgs s_meeting) (defBody s_meeting) (defScope s_meeting) .none kV23 dc23 pm23 an23 cd23 ct23), sl23⟩) (c23 : PySem.W.codeIn K cd23 "meeting" = true) (k23 : PySem.W.keepIn K (.ref f23) = true)
    {f24 : Addr} {oc24 : Value} {od24 an24 : Option Addr} {sl24 : Array (Option Value)} {kV24 dc24 pm24 cd24 ct24 : Value}
    (a24 : PySem.W.nsIn K mainGlobals "back_row" = some (some (.ref f24))) (l24 : K.lookup f24 = some ⟨oc24, od24, .func (PySem.W.fnOf "back_row" "back_row" (defArgs s_back_row) (defBody s_back_row) (defScope s_back_row) .none kV24 dc24 pm24 an24 cd24 ct24), sl24⟩) (c24 : PySem.W.codeIn K cd24 "back_row" = true) (k24 : PySem.W.keepIn K (.ref f24) = true)
    {f25 : Addr} {oc25 : Value} {od25 an25 : Option Addr} {sl25 : Array (Option Value)} {kV25 dc25 pm25 cd25 ct25 : Value}
    {dt25 : Addr} {do25 : Value} {dd25 : Option Addr} {dn25 : Nat} {dk25 : Tok} {ds25 : Array (Option Value)}
    (a25 : PySem.W.nsIn K mainGlobals "verdict" = some (some (.ref f25))) (l25 : K.lookup f25 = some ⟨oc25, od25, .func (PySem.W.fnOf "verdict" "verdict" (defArgs s_verdict) (defBody s_verdict) (defScope s_verdict) (.ref dt25) kV25 dc25 pm25 an25 cd25 ct25), sl25⟩) (c25 : PySem.W.codeIn K cd25 "verdict" = true) (k25 : PySem.W.keepIn K (.ref f25) = true)
    (lD25 : K.lookup dt25 = some ⟨do25, dd25, .seq [Value.int 2 dk25].toArray dn25, ds25⟩)
    {f26 : Addr} {oc26 : Value} {od26 an26 : Option Addr} {sl26 : Array (Option Value)} {kV26 dc26 pm26 cd26 ct26 : Value}
    (a26 : PySem.W.nsIn K mainGlobals "_law_judged" = some (some (.ref f26))) (l26 : K.lookup f26 = some ⟨oc26, od26, .func (PySem.W.fnOf "_law_judged" "_law_judged" (defArgs s__law_judged) (defBody s__law_judged) (defScope s__law_judged) .none kV26 dc26 pm26 an26 cd26 ct26), sl26⟩) (c26 : PySem.W.codeIn K cd26 "_law_judged" = true) (k26 : PySem.W.keepIn K (.ref f26) = true)
    {f27 : Addr} {oc27 : Value} {od27 an27 : Option Addr} {sl27 : Array (Option Value)} {kV27 dc27 pm27 cd27 ct27 : Value}
    (a27 : PySem.W.nsIn K mainGlobals "_law_choices" = some (some (.ref f27))) (l27 : K.lookup f27 = some ⟨oc27, od27, .func (PySem.W.fnOf "_law_choices" "_law_choices" (defArgs s__law_choices) (defBody s__law_choices) (defScope s__law_choices) .none kV27 dc27 pm27 an27 cd27 ct27), sl27⟩) (c27 : PySem.W.codeIn K cd27 "_law_choices" = true) (k27 : PySem.W.keepIn K (.ref f27) = true)
    {f28 : Addr} {oc28 : Value} {od28 an28 : Option Addr} {sl28 : Array (Option Value)} {kV28 dc28 pm28 cd28 ct28 : Value}
    (a28 : PySem.W.nsIn K mainGlobals "_law_seat" = some (some (.ref f28))) (l28 : K.lookup f28 = some ⟨oc28, od28, .func (PySem.W.fnOf "_law_seat" "_law_seat" (defArgs s__law_seat) (defBody s__law_seat) (defScope s__law_seat) .none kV28 dc28 pm28 an28 cd28 ct28), sl28⟩) (c28 : PySem.W.codeIn K cd28 "_law_seat" = true) (k28 : PySem.W.keepIn K (.ref f28) = true)
    {f29 : Addr} {oc29 : Value} {od29 an29 : Option Addr} {sl29 : Array (Option Value)} {kV29 dc29 pm29 cd29 ct29 : Value}
    (a29 : PySem.W.nsIn K mainGlobals "_law_seats" = some (some (.ref f29))) (l29 : K.lookup f29 = some ⟨oc29, od29, .func (PySem.W.fnOf "_law_seats" "_law_seats" (defArgs s__law_seats) (defBody s__law_seats) (defScope s__law_seats) .none kV29 dc29 pm29 an29 cd29 ct29), sl29⟩) (c29 : PySem.W.codeIn K cd29 "_law_seats" = true) (k29 : PySem.W.keepIn K (.ref f29) = true)
    {f30 : Addr} {oc30 : Value} {od30 an30 : Option Addr} {sl30 : Array (Option Value)} {kV30 dc30 pm30 cd30 ct30 : Value}
    (a30 : PySem.W.nsIn K mainGlobals "_law_called" = some (some (.ref f30))) (l30 : K.lookup f30 = some ⟨oc30, od30, .func (PySem.W.fnOf "_law_called" "_law_called" (defArgs s__law_called) (defBody s__law_called) (defScope s__law_called) .none kV30 dc30 pm30 an30 cd30 ct30), sl30⟩) (c30 : PySem.W.codeIn K cd30 "_law_called" = true) (k30 : PySem.W.keepIn K (.ref f30) = true)
    {f31 : Addr} {oc31 : Value} {od31 an31 : Option Addr} {sl31 : Array (Option Value)} {kV31 dc31 pm31 cd31 ct31 : Value}
    (a31 : PySem.W.nsIn K mainGlobals "_law_met" = some (some (.ref f31))) (l31 : K.lookup f31 = some ⟨oc31, od31, .func (PySem.W.fnOf "_law_met" "_law_met" (defArgs s__law_met) (defBody s__law_met) (defScope s__law_met) .none kV31 dc31 pm31 an31 cd31 ct31), sl31⟩) (c31 : PySem.W.codeIn K cd31 "_law_met" = true) (k31 : PySem.W.keepIn K (.ref f31) = true)
    {f32 : Addr} {oc32 : Value} {od32 an32 : Option Addr} {sl32 : Array (Option Value)} {kV32 dc32 pm32 cd32 ct32 : Value}
    (a32 : PySem.W.nsIn K mainGlobals "_law_settled" = some (some (.ref f32))) (l32 : K.lookup f32 = some ⟨oc32, od32, .func (PySem.W.fnOf "_law_settled" "_law_settled" (defArgs s__law_settled) (defBody s__law_settled) (defScope s__law_settled) .none kV32 dc32 pm32 an32 cd32 ct32), sl32⟩) (c32 : PySem.W.codeIn K cd32 "_law_settled" = true) (k32 : PySem.W.keepIn K (.ref f32) = true)
    {f33 : Addr} {oc33 : Value} {od33 an33 : Option Addr} {sl33 : Array (Option Value)} {kV33 dc33 pm33 cd33 ct33 : Value}
    (a33 : PySem.W.nsIn K mainGlobals "simplest" = some (some (.ref f33))) (l33 : K.lookup f33 = some ⟨oc33, od33, .func (PySem.W.fnOf "simplest" "simplest" (defArgs s_simplest) (defBody s_simplest) (defScope s_simplest) .none kV33 dc33 pm33 an33 cd33 ct33), sl33⟩) (c33 : PySem.W.codeIn K cd33 "simplest" = true) (k33 : PySem.W.keepIn K (.ref f33) = true)
    {f34 : Addr} {oc34 : Value} {od34 an34 : Option Addr} {sl34 : Array (Option Value)} {kV34 dc34 pm34 cd34 ct34 : Value}
    (a34 : PySem.W.nsIn K mainGlobals "_law_by_none" = some (some (.ref f34))) (l34 : K.lookup f34 = some ⟨oc34, od34, .func (PySem.W.fnOf "_law_by_none" "_law_by_none" (defArgs s__law_by_none) (defBody s__law_by_none) (defScope s__law_by_none) .none kV34 dc34 pm34 an34 cd34 ct34), sl34⟩) (c34 : PySem.W.codeIn K cd34 "_law_by_none" = true) (k34 : PySem.W.keepIn K (.ref f34) = true)
    {f35 : Addr} {oc35 : Value} {od35 an35 : Option Addr} {sl35 : Array (Option Value)} {kV35 dc35 pm35 cd35 ct35 : Value}
    (a35 : PySem.W.nsIn K mainGlobals "_law_reached" = some (some (.ref f35))) (l35 : K.lookup f35 = some ⟨oc35, od35, .func (PySem.W.fnOf "_law_reached" "_law_reached" (defArgs s__law_reached) (defBody s__law_reached) (defScope s__law_reached) .none kV35 dc35 pm35 an35 cd35 ct35), sl35⟩) (c35 : PySem.W.codeIn K cd35 "_law_reached" = true) (k35 : PySem.W.keepIn K (.ref f35) = true)
    {f36 : Addr} {oc36 : Value} {od36 an36 : Option Addr} {sl36 : Array (Option Value)} {kV36 dc36 pm36 cd36 ct36 : Value}
    (a36 : PySem.W.nsIn K mainGlobals "law" = some (some (.ref f36))) (l36 : K.lookup f36 = some ⟨oc36, od36, .func (PySem.W.fnOf "law" "law" (defArgs s_law) (defBody s_law) (defScope s_law) .none kV36 dc36 pm36 an36 cd36 ct36), sl36⟩) (c36 : PySem.W.codeIn K cd36 "law" = true) (k36 : PySem.W.keepIn K (.ref f36) = true)
    (z_isinstance : PySem.W.nsIn K mainGlobals "isinstance" = some none)
    (z_len : PySem.W.nsIn K mainGlobals "len" = some none)
    (z_list : PySem.W.nsIn K mainGlobals "list" = some none)
    (z_max : PySem.W.nsIn K mainGlobals "max" = some none)
    (z_min : PySem.W.nsIn K mainGlobals "min" = some none)
    (z_range : PySem.W.nsIn K mainGlobals "range" = some none)
    (z_reversed : PySem.W.nsIn K mainGlobals "reversed" = some none)
    (z_sorted : PySem.W.nsIn K mainGlobals "sorted" = some none)
    (z_str : PySem.W.nsIn K mainGlobals "str" = some none)
    (z_zip : PySem.W.nsIn K mainGlobals "zip" = some none)
    {tk_MOST_LENGTH : Tok} (z_MOST_LENGTH : PySem.W.nsIn K mainGlobals "MOST_LENGTH" = some (some (.int 4 tk_MOST_LENGTH)))
    {tk_MOST_REACHED : Tok} (z_MOST_REACHED : PySem.W.nsIn K mainGlobals "MOST_REACHED" = some (some (.int 8 tk_MOST_REACHED)))
    {tk_POINT : Tok} (z_POINT : PySem.W.nsIn K mainGlobals "POINT" = some (some (.str "." tk_POINT)))
    {tk_WAYS : Tok} (z_WAYS : PySem.W.nsIn K mainGlobals "WAYS" = some (some (.str "ou" tk_WAYS)))
    {cl_KnotError : Addr} (z_KnotError : PySem.W.nsIn K mainGlobals "KnotError" = some (some (.ref cl_KnotError))) (i_KnotError : xisB K cl_KnotError = true)
    {cl_NoLength : Addr} (z_NoLength : PySem.W.nsIn K mainGlobals "NoLength" = some (some (.ref cl_NoLength))) (i_NoLength : xisB K cl_NoLength = true)
    {cl_TooMany : Addr} (z_TooMany : PySem.W.nsIn K mainGlobals "TooMany" = some (some (.ref cl_TooMany))) (i_TooMany : xisB K cl_TooMany = true)
    (m_NoLength : xmkB K cl_NoLength = true)
    (m_TooMany : xmkB K cl_TooMany = true)
    (e_KnotError_TooMany : PySem.W.exmOne K (.ref cl_TooMany) (.ref cl_KnotError) = some true)
    (e_KnotError_NoLength : PySem.W.exmOne K (.ref cl_NoLength) (.ref cl_KnotError) = some true)
    (n_NoLength : PySem.W.kitOne K (.type "NoneType") (.ref cl_NoLength) = some false)
    (k_NoLength_TooMany : PySem.W.kitOne K (.ref cl_TooMany) (.ref cl_NoLength) = some false)
    (k_NoLength_NoLength : PySem.W.kitOne K (.ref cl_NoLength) (.ref cl_NoLength) = some true)
    (n_TooMany : PySem.W.kitOne K (.type "NoneType") (.ref cl_TooMany) = some false)
    (k_TooMany_TooMany : PySem.W.kitOne K (.ref cl_TooMany) (.ref cl_TooMany) = some true)
    (k_TooMany_NoLength : PySem.W.kitOne K (.ref cl_NoLength) (.ref cl_TooMany) = some false)
    : ∃ fd : FuncData, (∀ (s : Shared) (v : Value), BindsTo s fd ⟨[v], []⟩ [("_law_script", v)]) ∧ ∀ base : Heap, K.In base → base.Ns mainGlobals mg → FnOk l.prog w K mg base CX0 10 fa fd ["_law_script"] (spF 0 1 (F_law (kOf K))) := by
  have e := hfa.symm.trans (PySem.W.mg_of X G a36)
  cases e
  have T : Txt K mg (kOf K) := ⟨PySem.W.mg_none_of X G z_isinstance, PySem.W.mg_none_of X G z_len, PySem.W.mg_none_of X G z_list, PySem.W.mg_none_of X G z_max, PySem.W.mg_none_of X G z_min, PySem.W.mg_none_of X G z_range, PySem.W.mg_none_of X G z_reversed, PySem.W.mg_none_of X G z_sorted, PySem.W.mg_none_of X G z_str, PySem.W.mg_none_of X G z_zip, ⟨_, PySem.W.mg_of X G z_MOST_LENGTH⟩, ⟨_, PySem.W.mg_of X G z_MOST_REACHED⟩, ⟨_, PySem.W.mg_of X G z_POINT⟩, ⟨_, PySem.W.mg_of X G z_WAYS⟩, xcl_of X G z_KnotError i_KnotError, xcl_of X G z_NoLength i_NoLength, xcl_of X G z_TooMany i_TooMany, ⟨xcl_of X G z_NoLength i_NoLength, by rw [kOf_eq z_NoLength]; exact m_NoLength⟩, ⟨xcl_of X G z_TooMany i_TooMany, by rw [kOf_eq z_TooMany]; exact m_TooMany⟩, ⟨by rw [kOf_eq z_NoLength, kOf_eq z_KnotError]; exact e_KnotError_NoLength, ⟨by rw [kOf_eq z_TooMany, kOf_eq z_KnotError]; exact e_KnotError_TooMany, trivial⟩⟩, by rw [kOf_eq z_NoLength]; exact n_NoLength, ⟨⟨by rw [kOf_eq z_NoLength]; exact k_NoLength_NoLength, xisB_ok (by rw [kOf_eq z_NoLength]; exact i_NoLength)⟩, ⟨⟨by rw [kOf_eq z_TooMany, kOf_eq z_NoLength]; exact k_NoLength_TooMany, xisB_ok (by rw [kOf_eq z_TooMany]; exact i_TooMany)⟩, trivial⟩⟩, by rw [kOf_eq z_TooMany]; exact n_TooMany, ⟨⟨by rw [kOf_eq z_NoLength, kOf_eq z_TooMany]; exact k_TooMany_NoLength, xisB_ok (by rw [kOf_eq z_NoLength]; exact i_NoLength)⟩, ⟨⟨by rw [kOf_eq z_TooMany]; exact k_TooMany_TooMany, xisB_ok (by rw [kOf_eq z_TooMany]; exact i_TooMany)⟩, trivial⟩⟩⟩
  refine ⟨PySem.W.fnOf "law" "law" (defArgs s_law) (defBody s_law) (defScope s_law) .none kV36 dc36 pm36 an36 cd36 ct36, fun s v => .of_eq rfl, fun base _ _ => ?_⟩
  have C__law_names := ok__law_names (P := l.prog) (w := w) (base := base) T (At.mk' X G a0 l0 c0 k0)
  have C__law_name := ok__law_name (P := l.prog) (w := w) (base := base) T (At.mk' X G a1 l1 c1 k1) C__law_names
  have C__law_cross := ok__law_cross (P := l.prog) (w := w) (base := base) T (At.mk' X G a2 l2 c2 k2) C__law_name
  have C__law_cell := ok__law_cell (P := l.prog) (w := w) (base := base) T (At.mk' X G a3 l3 c3 k3)
  have C__law_drawn := ok__law_drawn (P := l.prog) (w := w) (base := base) T (At.mk' X G a4 l4 c4 k4) C__law_cross C__law_cell
  have C__law_length := ok__law_length (P := l.prog) (w := w) (base := base) T (At.mk' X G a5 l5 c5 k5)
  have C__law_due := ok__law_due (P := l.prog) (w := w) (base := base) T (At.mk' X G a6 l6 c6 k6)
  have C__law_word := ok__law_word (P := l.prog) (w := w) (base := base) T (At.mk' X G a7 l7 c7 k7)
  have C_hands_of := ok_hands_of (P := l.prog) (w := w) (base := base) T (At.mk' X G a8 l8 c8 k8)
  have C_names_of := ok_names_of (P := l.prog) (w := w) (base := base) T (At.mk' X G a9 l9 c9 k9) C_hands_of
  have C_look_at_bounds := ok_look_at_bounds (P := l.prog) (w := w) (base := base) T (At.mk' X G a10 l10 c10 k10) C_names_of
  have C_beginnings := ok_beginnings (P := l.prog) (w := w) (base := base) T (At.mk' X G a11 l11 c11 k11)
  have C_names_by_meeting := ok_names_by_meeting (P := l.prog) (w := w) (base := base) T (At.mk' X G a12 l12 c12 k12)
  have C_seated := ok_seated (P := l.prog) (w := w) (base := base) T (At.mk' X G a13 l13 c13 k13)
  have C_row_by_names := ok_row_by_names (P := l.prog) (w := w) (base := base) T (At.mk' X G a14 l14 c14 k14) C_seated
  have C_by_names := ok_by_names (P := l.prog) (w := w) (base := base) T (At.mk' X G a15 l15 c15 k15) C_row_by_names
  have C_settling := ok_settling (P := l.prog) (w := w) (base := base) T (At.mk' X G a16 l16 c16 k16) C_beginnings C_names_by_meeting C_by_names
  have C_settled := ok_settled (P := l.prog) (w := w) (base := base) T (At.mk' X G a17 l17 c17 k17) C_settling
  have C_passing_text := ok_passing_text (P := l.prog) (w := w) (base := base) T (At.mk' X G a18 l18 c18 k18)
  have C_row_text := ok_row_text (P := l.prog) (w := w) (base := base) T (At.mk' X G a19 l19 c19 k19) C_seated C_passing_text
  have C_text_of := ok_text_of (P := l.prog) (w := w) (base := base) T (At.mk' X G a20 l20 c20 k20) C_row_text
  have C_drawing_of := ok_drawing_of (P := l.prog) (w := w) (base := base) T (At.mk' X G a21 l21 c21 k21)
  have C_reach := ok_reach (P := l.prog) (w := w) (base := base) T (At.mk' X G a22 l22 c22 k22) C_look_at_bounds C_settled C_text_of C_drawing_of
  have C_meeting := ok_meeting (P := l.prog) (w := w) (base := base) T (At.mk' X G a23 l23 c23 k23) C_reach C_text_of
  have C_back_row := ok_back_row (P := l.prog) (w := w) (base := base) T (At.mk' X G a24 l24 c24 k24) C_settled
  have C_verdict := ok_verdict (P := l.prog) (w := w) (base := base) T (AtD.mk' X G a25 l25 c25 k25 (dflI lD25 rfl)) C_look_at_bounds C_meeting C_back_row
  have C__law_judged := ok__law_judged (P := l.prog) (w := w) (base := base) T (At.mk' X G a26 l26 c26 k26) C_verdict C__law_word
  have C__law_choices := ok__law_choices (P := l.prog) (w := w) (base := base) T (At.mk' X G a27 l27 c27 k27)
  have C__law_seat := ok__law_seat (P := l.prog) (w := w) (base := base) T (At.mk' X G a28 l28 c28 k28)
  have C__law_seats := ok__law_seats (P := l.prog) (w := w) (base := base) T (At.mk' X G a29 l29 c29 k29) C__law_seat
  have C__law_called := ok__law_called (P := l.prog) (w := w) (base := base) T (At.mk' X G a30 l30 c30 k30)
  have C__law_met := ok__law_met (P := l.prog) (w := w) (base := base) T (At.mk' X G a31 l31 c31 k31)
  have C__law_settled := ok__law_settled (P := l.prog) (w := w) (base := base) T (At.mk' X G a32 l32 c32 k32) C__law_choices C__law_seats C__law_called C__law_met
  have C_simplest := ok_simplest (P := l.prog) (w := w) (base := base) T (At.mk' X G a33 l33 c33 k33) C_reach C_names_of
  have C__law_by_none := ok__law_by_none (P := l.prog) (w := w) (base := base) T (At.mk' X G a34 l34 c34 k34) C__law_settled C_simplest C_reach C_verdict
  have C__law_reached := ok__law_reached (P := l.prog) (w := w) (base := base) T (At.mk' X G a35 l35 c35 k35) C_reach C_simplest C__law_word
  have A : At K mg "law" s_law := At.mk' X G a36 l36 c36 k36
  have F := fun_mk (st := s_law) l36 c36 k36
  refine def_ok (m := (m_law (kOf K))) F sc_law rfl rfl fun cdv A outer s H E hr => ?_
  exact body_law T C__law_drawn C__law_cell C__law_length C__law_due C__law_names C__law_reached C__law_judged C__law_by_none hr

def hCn0 : List PySem.Str := ["KnotError", "NoLength", "TooMany"]
def hCn : List PySem.Str := hCn0
def hFs0 : List FcM := [noG "isinstance", noG "len", noG "list", noG "max", noG "min", noG "range", noG "reversed", noG "sorted", noG "str", noG "zip", iG "MOST_LENGTH" 4, iG "MOST_REACHED" 8, sG "POINT" ".", sG "WAYS" "ou", fun _ as => Nat.blt 0 (as.getD 0 0), fun K as => xisB K (as.getD 0 0), fun _ as => Nat.blt 0 (as.getD 1 0), fun K as => xisB K (as.getD 1 0), fun _ as => Nat.blt 0 (as.getD 2 0), fun K as => xisB K (as.getD 2 0), fun K as => xmkB K (as.getD 1 0), fun K as => xmkB K (as.getD 2 0), fun K as => decide (PySem.W.exmOne K (.ref (as.getD 1 0)) (.ref (as.getD 0 0)) = some true), fun K as => decide (PySem.W.exmOne K (.ref (as.getD 2 0)) (.ref (as.getD 0 0)) = some true), fun K as => decide (PySem.W.kitOne K (.type "NoneType") (.ref (as.getD 1 0)) = some false), fun K as => decide (PySem.W.kitOne K (.ref (as.getD 1 0)) (.ref (as.getD 1 0)) = some true), fun K as => decide (PySem.W.kitOne K (.ref (as.getD 2 0)) (.ref (as.getD 1 0)) = some false), fun K as => decide (PySem.W.kitOne K (.type "NoneType") (.ref (as.getD 2 0)) = some false), fun K as => decide (PySem.W.kitOne K (.ref (as.getD 1 0)) (.ref (as.getD 2 0)) = some false), fun K as => decide (PySem.W.kitOne K (.ref (as.getD 2 0)) (.ref (as.getD 2 0)) = some true)]
def hFs1 : List FcM := [fun K _ => noLists K]
def hFs : List FcM := hFs0 ++ (hFs1)
def hFn0 : List FnM := [⟨none, "_law_names", "_law_names", s__law_names, none⟩, ⟨none, "_law_name", "_law_name", s__law_name, none⟩, ⟨none, "_law_cross", "_law_cross", s__law_cross, none⟩, ⟨none, "_law_cell", "_law_cell", s__law_cell, none⟩, ⟨none, "_law_drawn", "_law_drawn", s__law_drawn, none⟩, ⟨none, "_law_length", "_law_length", s__law_length, none⟩, ⟨none, "_law_due", "_law_due", s__law_due, none⟩, ⟨none, "_law_word", "_law_word", s__law_word, none⟩, ⟨none, "hands_of", "hands_of", s_hands_of, none⟩, ⟨none, "names_of", "names_of", s_names_of, none⟩, ⟨none, "look_at_bounds", "look_at_bounds", s_look_at_bounds, none⟩, ⟨none, "beginnings", "beginnings", s_beginnings, none⟩, ⟨none, "names_by_meeting", "names_by_meeting", s_names_by_meeting, none⟩, ⟨none, "seated", "seated", s_seated, none⟩, ⟨none, "row_by_names", "row_by_names", s_row_by_names, none⟩, ⟨none, "by_names", "by_names", s_by_names, none⟩, ⟨none, "settling", "settling", s_settling, none⟩, ⟨none, "settled", "settled", s_settled, none⟩, ⟨none, "passing_text", "passing_text", s_passing_text, none⟩, ⟨none, "row_text", "row_text", s_row_text, none⟩, ⟨none, "text_of", "text_of", s_text_of, none⟩, ⟨none, "drawing_of", "drawing_of", s_drawing_of, none⟩, ⟨none, "reach", "reach", s_reach, none⟩, ⟨none, "meeting", "meeting", s_meeting, none⟩, ⟨none, "back_row", "back_row", s_back_row, none⟩, ⟨none, "verdict", "verdict", s_verdict, some 2⟩, ⟨none, "_law_judged", "_law_judged", s__law_judged, none⟩, ⟨none, "_law_choices", "_law_choices", s__law_choices, none⟩, ⟨none, "_law_seat", "_law_seat", s__law_seat, none⟩, ⟨none, "_law_seats", "_law_seats", s__law_seats, none⟩]
def hFn1 : List FnM := [⟨none, "_law_called", "_law_called", s__law_called, none⟩, ⟨none, "_law_met", "_law_met", s__law_met, none⟩, ⟨none, "_law_settled", "_law_settled", s__law_settled, none⟩, ⟨none, "simplest", "simplest", s_simplest, none⟩, ⟨none, "_law_by_none", "_law_by_none", s__law_by_none, none⟩, ⟨none, "_law_reached", "_law_reached", s__law_reached, none⟩, ⟨none, "law", "law", s_law, none⟩]
def hFn : List FnM := hFn0 ++ (hFn1)
def hNm0 : List PySem.Str := ["KnotError", "NoName", "NameTaken", "NoSpot", "TooMany", "NoFit", "NoMove", "NoPrime", "NoLength", "NoMark", "MOST_CROSSINGS", "OVER", "UNDER", "BARE", "seated", "hands_of", "names_of", "hand_of", "spots_by_strings", "string_of", "next_of", "put_behind", "without", "spot_ahead", "look_at_new", "look_at_old", "side_by_side", "right_behind", "uncurls", "parts"]
def hNm1 : List PySem.Str := ["slides", "renamed_spot", "exchanged", "Move", "Uncurl", "Curl", "Part", "Lay", "Slide", "move_of", "uncurls_of", "parts_of", "slides_on", "slides_of", "lessening", "beginnings", "names_by_meeting", "row_by_names", "by_names", "settling", "settled", "WAYS", "POINT", "passing_text", "row_text", "text_of", "MOST_LENGTH", "MOST_REACHED", "stepped", "back_step"]
def hNm2 : List PySem.Str := ["back_row", "look_at_bounds", "drawing_of", "farther", "reach", "simplest", "bows", "bow_at", "threes", "needs_prime", "raised_to", "inverse", "cleared", "eliminated", "basis", "count_colourings", "LOOP", "pared", "added", "times", "shifted", "raised", "ALONG", "AGAINST", "pair_of", "threads_of", "joints", "bare_strings", "power_at", "far_end"]
def hNm3 : List PySem.Str := ["joined", "split", "opened_at", "opened", "bracket", "writhe", "linking", "levelled", "MARKS", "strings_mark", "colours_mark", "mark_by", "meeting", "verdict", "_law_cell", "_law_seat", "_law_seats", "_law_names", "_law_name", "_law_cross", "_law_called", "_law_choices", "_law_met", "_law_settled", "_law_word", "_law_reached", "_law_judged", "_law_due", "_law_length", "_law_drawn"]
def hNm4 : List PySem.Str := ["_law_by_none"]
def hNm : List PySem.Str := hNm0 ++ (hNm1 ++ (hNm2 ++ (hNm3 ++ (hNm4))))
abbrev hR : PySem.W.OpenRow := PySem.W.OpenLaw.row PySem.Challenge.rw_knotwise_k77_lengths_and_sizes
abbrev hQ : Program := PySem.W.view hR.prog [134]
abbrev hH : PySem.W.Hook := hookM 6 hCn hFs hFn
def hOb (s : PySem.W.SharedT) : AlM := obsMG 6 hCn hFs hFn (HandSHeadRun.getT s)
theorem hOb_eq (s : PySem.W.SharedT) : hOb s = hH.obs s.abs := obsMG_eq (HandSHeadRun.getT_eq s)
theorem hRunA_false (w : World) : RunA hR 60000 (w.withFollow "special-get-raises" false) := by
  intro os
  kernel_rfl
theorem hRunB_false (w : World) : RunB hR hQ 60000 hNm (w.withFollow "special-get-raises" false) := by
  intro os
  kernel_rfl
theorem hRunC_false (w : World) : RunC hR hH hOb 60000 (w.withFollow "special-get-raises" false) := by
  intro os
  kernel_rfl
theorem hRun_false (w : World) : HandSHeadRun.RunEq hR hQ hH hOb 60000 hNm (w.withFollow "special-get-raises" false) := run3 (hRunA_false w) (hRunB_false w) (hRunC_false w)
theorem hRunA_true (w : World) : RunA hR 60000 (w.withFollow "special-get-raises" true) := by
  intro os
  kernel_rfl
theorem hRunB_true (w : World) : RunB hR hQ 60000 hNm (w.withFollow "special-get-raises" true) := by
  intro os
  kernel_rfl
theorem hRunC_true (w : World) : RunC hR hH hOb 60000 (w.withFollow "special-get-raises" true) := by
  intro os
  kernel_rfl
theorem hRun_true (w : World) : HandSHeadRun.RunEq hR hQ hH hOb 60000 hNm (w.withFollow "special-get-raises" true) := run3 (hRunA_true w) (hRunB_true w) (hRunC_true w)
theorem hRun (w : World) : HandSHeadRun.RunEq hR hQ hH hOb 60000 hNm w := PySem.W.byRow2 "special-get-raises" (P := fun w => HandSHeadRun.RunEq hR hQ hH hOb 60000 hNm w) hRun_false hRun_true w
theorem hFacts {w : World} {K : PySem.W.Frag} {mg : Str → Option Value} {fa : Addr} {h : Heap} (c : SaysM hCn hFs hFn K) (KX : K.In h) (G : h.Ns mainGlobals mg) (hmg : mg "law" = some (.ref fa)) : noLists K = true ∧ ∃ fd : FuncData, (∀ (s : Shared) (v : Value), BindsTo s fd ⟨[v], []⟩ [("_law_script", v)]) ∧ ∀ base : Heap, K.In base → base.Ns mainGlobals mg → FnOk PySem.Challenge.rw_knotwise_k77_lengths_and_sizes.prog w K mg base CX0 10 fa fd ["_law_script"] (spF 0 1 (F_law (kOf K))) := by
  have f0 : noG "isinstance" K (hCn.map (kOf K)) = true := c.fact 0 rfl
  have f1 : noG "len" K (hCn.map (kOf K)) = true := c.fact 1 rfl
  have f2 : noG "list" K (hCn.map (kOf K)) = true := c.fact 2 rfl
  have f3 : noG "max" K (hCn.map (kOf K)) = true := c.fact 3 rfl
  have f4 : noG "min" K (hCn.map (kOf K)) = true := c.fact 4 rfl
  have f5 : noG "range" K (hCn.map (kOf K)) = true := c.fact 5 rfl
  have f6 : noG "reversed" K (hCn.map (kOf K)) = true := c.fact 6 rfl
  have f7 : noG "sorted" K (hCn.map (kOf K)) = true := c.fact 7 rfl
  have f8 : noG "str" K (hCn.map (kOf K)) = true := c.fact 8 rfl
  have f9 : noG "zip" K (hCn.map (kOf K)) = true := c.fact 9 rfl
  have f10 : iG "MOST_LENGTH" 4 K (hCn.map (kOf K)) = true := c.fact 10 rfl
  have f11 : iG "MOST_REACHED" 8 K (hCn.map (kOf K)) = true := c.fact 11 rfl
  have f12 : sG "POINT" "." K (hCn.map (kOf K)) = true := c.fact 12 rfl
  have f13 : sG "WAYS" "ou" K (hCn.map (kOf K)) = true := c.fact 13 rfl
  have f14 : Nat.blt 0 (kOf K "KnotError") = true := c.fact 14 rfl
  have f15 : xisB K (kOf K "KnotError") = true := c.fact 15 rfl
  have f16 : Nat.blt 0 (kOf K "NoLength") = true := c.fact 16 rfl
  have f17 : xisB K (kOf K "NoLength") = true := c.fact 17 rfl
  have f18 : Nat.blt 0 (kOf K "TooMany") = true := c.fact 18 rfl
  have f19 : xisB K (kOf K "TooMany") = true := c.fact 19 rfl
  have f20 : xmkB K (kOf K "NoLength") = true := c.fact 20 rfl
  have f21 : xmkB K (kOf K "TooMany") = true := c.fact 21 rfl
  have f22 : decide (PySem.W.exmOne K (.ref (kOf K "NoLength")) (.ref (kOf K "KnotError")) = some true) = true := c.fact 22 rfl
  have f23 : decide (PySem.W.exmOne K (.ref (kOf K "TooMany")) (.ref (kOf K "KnotError")) = some true) = true := c.fact 23 rfl
  have f24 : decide (PySem.W.kitOne K (.type "NoneType") (.ref (kOf K "NoLength")) = some false) = true := c.fact 24 rfl
  have f25 : decide (PySem.W.kitOne K (.ref (kOf K "NoLength")) (.ref (kOf K "NoLength")) = some true) = true := c.fact 25 rfl
  have f26 : decide (PySem.W.kitOne K (.ref (kOf K "TooMany")) (.ref (kOf K "NoLength")) = some false) = true := c.fact 26 rfl
  have f27 : decide (PySem.W.kitOne K (.type "NoneType") (.ref (kOf K "TooMany")) = some false) = true := c.fact 27 rfl
  have f28 : decide (PySem.W.kitOne K (.ref (kOf K "NoLength")) (.ref (kOf K "TooMany")) = some false) = true := c.fact 28 rfl
  have f29 : decide (PySem.W.kitOne K (.ref (kOf K "TooMany")) (.ref (kOf K "TooMany")) = some true) = true := c.fact 29 rfl
  have f30 : noLists K = true := c.fact 30 rfl
  obtain ⟨z0, k0, _, _, _, _, _, _, _, _, _, l0, c0⟩ := c.fn1 0 rfl rfl
  obtain ⟨z1, k1, _, _, _, _, _, _, _, _, _, l1, c1⟩ := c.fn1 1 rfl rfl
  obtain ⟨z2, k2, _, _, _, _, _, _, _, _, _, l2, c2⟩ := c.fn1 2 rfl rfl
  obtain ⟨z3, k3, _, _, _, _, _, _, _, _, _, l3, c3⟩ := c.fn1 3 rfl rfl
  obtain ⟨z4, k4, _, _, _, _, _, _, _, _, _, l4, c4⟩ := c.fn1 4 rfl rfl
  obtain ⟨z5, k5, _, _, _, _, _, _, _, _, _, l5, c5⟩ := c.fn1 5 rfl rfl
  obtain ⟨z6, k6, _, _, _, _, _, _, _, _, _, l6, c6⟩ := c.fn1 6 rfl rfl
  obtain ⟨z7, k7, _, _, _, _, _, _, _, _, _, l7, c7⟩ := c.fn1 7 rfl rfl
  obtain ⟨z8, k8, _, _, _, _, _, _, _, _, _, l8, c8⟩ := c.fn1 8 rfl rfl
  obtain ⟨z9, k9, _, _, _, _, _, _, _, _, _, l9, c9⟩ := c.fn1 9 rfl rfl
  obtain ⟨z10, k10, _, _, _, _, _, _, _, _, _, l10, c10⟩ := c.fn1 10 rfl rfl
  obtain ⟨z11, k11, _, _, _, _, _, _, _, _, _, l11, c11⟩ := c.fn1 11 rfl rfl
  obtain ⟨z12, k12, _, _, _, _, _, _, _, _, _, l12, c12⟩ := c.fn1 12 rfl rfl
  obtain ⟨z13, k13, _, _, _, _, _, _, _, _, _, l13, c13⟩ := c.fn1 13 rfl rfl
  obtain ⟨z14, k14, _, _, _, _, _, _, _, _, _, l14, c14⟩ := c.fn1 14 rfl rfl
  obtain ⟨z15, k15, _, _, _, _, _, _, _, _, _, l15, c15⟩ := c.fn1 15 rfl rfl
  obtain ⟨z16, k16, _, _, _, _, _, _, _, _, _, l16, c16⟩ := c.fn1 16 rfl rfl
  obtain ⟨z17, k17, _, _, _, _, _, _, _, _, _, l17, c17⟩ := c.fn1 17 rfl rfl
  obtain ⟨z18, k18, _, _, _, _, _, _, _, _, _, l18, c18⟩ := c.fn1 18 rfl rfl
  obtain ⟨z19, k19, _, _, _, _, _, _, _, _, _, l19, c19⟩ := c.fn1 19 rfl rfl
  obtain ⟨z20, k20, _, _, _, _, _, _, _, _, _, l20, c20⟩ := c.fn1 20 rfl rfl
  obtain ⟨z21, k21, _, _, _, _, _, _, _, _, _, l21, c21⟩ := c.fn1 21 rfl rfl
  obtain ⟨z22, k22, _, _, _, _, _, _, _, _, _, l22, c22⟩ := c.fn1 22 rfl rfl
  obtain ⟨z23, k23, _, _, _, _, _, _, _, _, _, l23, c23⟩ := c.fn1 23 rfl rfl
  obtain ⟨z24, k24, _, _, _, _, _, _, _, _, _, l24, c24⟩ := c.fn1 24 rfl rfl
  obtain ⟨z25, k25, _, _, _, _, _, _, _, _, _, _, l25, c25, _, _, _, _, _, d25⟩ := c.fn2 25 rfl rfl
  obtain ⟨z26, k26, _, _, _, _, _, _, _, _, _, l26, c26⟩ := c.fn1 26 rfl rfl
  obtain ⟨z27, k27, _, _, _, _, _, _, _, _, _, l27, c27⟩ := c.fn1 27 rfl rfl
  obtain ⟨z28, k28, _, _, _, _, _, _, _, _, _, l28, c28⟩ := c.fn1 28 rfl rfl
  obtain ⟨z29, k29, _, _, _, _, _, _, _, _, _, l29, c29⟩ := c.fn1 29 rfl rfl
  obtain ⟨z30, k30, _, _, _, _, _, _, _, _, _, l30, c30⟩ := c.fn1 30 rfl rfl
  obtain ⟨z31, k31, _, _, _, _, _, _, _, _, _, l31, c31⟩ := c.fn1 31 rfl rfl
  obtain ⟨z32, k32, _, _, _, _, _, _, _, _, _, l32, c32⟩ := c.fn1 32 rfl rfl
  obtain ⟨z33, k33, _, _, _, _, _, _, _, _, _, l33, c33⟩ := c.fn1 33 rfl rfl
  obtain ⟨z34, k34, _, _, _, _, _, _, _, _, _, l34, c34⟩ := c.fn1 34 rfl rfl
  obtain ⟨z35, k35, _, _, _, _, _, _, _, _, _, l35, c35⟩ := c.fn1 35 rfl rfl
  obtain ⟨z36, k36, _, _, _, _, _, _, _, _, _, l36, c36⟩ := c.fn1 36 rfl rfl
  obtain ⟨_, z_MOST_LENGTH⟩ := (iG_ok f10)
  obtain ⟨_, z_MOST_REACHED⟩ := (iG_ok f11)
  obtain ⟨_, z_POINT⟩ := (sG_ok f12)
  obtain ⟨_, z_WAYS⟩ := (sG_ok f13)
  exact ⟨f30, all_mk (l := PySem.Challenge.rw_knotwise_k77_lengths_and_sizes) KX G hmg (kOf_nz z0) l0 c0 k0 (kOf_nz z1) l1 c1 k1 (kOf_nz z2) l2 c2 k2 (kOf_nz z3) l3 c3 k3 (kOf_nz z4) l4 c4 k4 (kOf_nz z5) l5 c5 k5 (kOf_nz z6) l6 c6 k6 (kOf_nz z7) l7 c7 k7 (kOf_nz z8) l8 c8 k8 (kOf_nz z9) l9 c9 k9 (kOf_nz z10) l10 c10 k10 (kOf_nz z11) l11 c11 k11 (kOf_nz z12) l12 c12 k12 (kOf_nz z13) l13 c13 k13 (kOf_nz z14) l14 c14 k14 (kOf_nz z15) l15 c15 k15 (kOf_nz z16) l16 c16 k16 (kOf_nz z17) l17 c17 k17 (kOf_nz z18) l18 c18 k18 (kOf_nz z19) l19 c19 k19 (kOf_nz z20) l20 c20 k20 (kOf_nz z21) l21 c21 k21 (kOf_nz z22) l22 c22 k22 (kOf_nz z23) l23 c23 k23 (kOf_nz z24) l24 c24 k24 (kOf_nz z25) l25 c25 k25 d25 (kOf_nz z26) l26 c26 k26 (kOf_nz z27) l27 c27 k27 (kOf_nz z28) l28 c28 k28 (kOf_nz z29) l29 c29 k29 (kOf_nz z30) l30 c30 k30 (kOf_nz z31) l31 c31 k31 (kOf_nz z32) l32 c32 k32 (kOf_nz z33) l33 c33 k33 (kOf_nz z34) l34 c34 k34 (kOf_nz z35) l35 c35 k35 (kOf_nz z36) l36 c36 k36 (noG_ok f0) (noG_ok f1) (noG_ok f2) (noG_ok f3) (noG_ok f4) (noG_ok f5) (noG_ok f6) (noG_ok f7) (noG_ok f8) (noG_ok f9) z_MOST_LENGTH z_MOST_REACHED z_POINT z_WAYS (kOf_nz f14) f15 (kOf_nz f16) f17 (kOf_nz f18) f19 f20 f21 (of_decide_eq_true f23) (of_decide_eq_true f22) (of_decide_eq_true f24) (of_decide_eq_true f26) (of_decide_eq_true f25) (of_decide_eq_true f27) (of_decide_eq_true f29) (of_decide_eq_true f28)⟩

end L_k77
open PySem PySem.W PyProof.Rows
set_option maxRecDepth 100000 in
set_option maxHeartbeats 0 in
theorem PySem.Challenge.cw_knotwise_k77_lengths_and_sizes_holds : PySem.Challenge.rw_knotwise_k77_lengths_and_sizes.Holds := by
  w_on; o_law
  refine HandSHeadRun.head_any (r := OpenLaw.row PySem.Challenge.rw_knotwise_k77_lengths_and_sizes) (q := L_k77.hQ) (H := L_k77.hH) (ob := L_k77.hOb) (M := 60000) (loose := L_k77.hNm) (d := HandSHeadRun.topDef (OpenLaw.row PySem.Challenge.rw_knotwise_k77_lengths_and_sizes).prog 134) (kwd := []) L_k77.hOb_eq (by kernel_rfl) (fun s => by kernel_rfl) L_k77.hRun (by kernel_rfl) (by kernel_rfl) (by kernel_rfl) (by rfl) (by first | assumption | decide +kernel) (by decide +kernel) ⟨rfl, rfl, rfl, rfl, rfl, by decide +kernel⟩ ?hw ?hc
  case hw => w_witness2
  case hc =>
    refine Mir.walk_mirE (l := PySem.Challenge.rw_knotwise_k77_lengths_and_sizes) (k := 10) (x := "_law_script") (F := L_k77.F_law) rfl (by kernel_rfl) ⟨rfl, by decide, by decide⟩ L_k77.law_true fun w K mg fa h c KX G hmg0 => ?_
    have hmg : mg ("law" : PySem.Str) = some (.ref fa) := by
      have e : (HandSHeadRun.topDef (OpenLaw.row PySem.Challenge.rw_knotwise_k77_lengths_and_sizes).prog 134).name = ("law" : PySem.Str) := by kernel_rfl
      rw [← e]; exact hmg0
    exact L_k77.hFacts c KX G hmg
