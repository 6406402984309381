import PyProof.Rows.All
import Wide.All
import OpenK.AllK
import Wide.FinOn
import KE.DataFind
import HandS.ForMost
import HandS.Walk
import HandS.Wide
import HandS.Deep
import HandS.IsInst
import HandS.Flow
import HandS.Rev
import HandS.Conv
import HandS.TupLen
import HandS.More
import HandS.SortInts
import HandS.SetFor
import HandS.TupSets
import HandS.SetKeys
import HandS.Records
import HandS.Rev
import HandS.RevTup
import PyProof.ListNew
import KE.SortData
import KE.DataCmp
import KE.DataMinMax
import HandS.More
import KE.KDictWalk
import KE.KDictSum
import HandS.Strs
import HandS.DictEq
import PyProof.P3Eq
import HandS.Keys
import KE.KDictCopyH
import HandS.TupSets
import HandS.Exc
import HandS.ExcOwn
import HandS.WordsExc
import HandS.TryOnly
import KE.KExcIs
import HandS.ExcField
import HandS.ExcInit
import KE.KeyNested
import KE.KDictDisplayH
import HandS.WordsDict
import PyProof.SetRoads
import HandS.Finally
import HandS.Replace
import HandS.Text
import HandS.TryMany
import KE.SortKeyHeap
import HandS.SortKw
import HandS.Defaults
import HandS.ExcValue
import HandS.RaiseMore
import PySem.Challenge.RW_knotwise_k06_refusals_made
set_option maxHeartbeats 0
set_option Elab.async false
set_option linter.all false
set_option maxRecDepth 100000
set_option autoImplicit false
namespace Mir
open PySem PySem.Spec L2

/-! ### data -/
inductive D where
  | non | bl (b : Bool) | int (i : Int) | str (x : Str)
  | lst (xs : List D) | tup (xs : List D)
  | dk (ks : List Key) (ds : List D) | dt (ks : List (List Key)) (ds : List D)
  | ob (c : Str) (C : Addr) (ns : List Str) (ds : List D) | exn (c : Str) (C : Addr) (ns : List Str) (ds : List D)
  | dn (ks : List NestedKey) (ds : List D)
mutual
/-- a key's data -/
def kN : NestedKey → D
  | .none => .non | .num i => .int i | .text x => .str x | .tup ks => .tup (kNs ks)
def kNs : List NestedKey → List D
  | [] => []
  | k :: ks => kN k :: kNs ks
end
/-- an exception's object at a -/
def ExH (cls : Value) (d : Option Addr) (a : Addr) : HO := .ext fun h => ∃ oe vs, h.get? a = some oe ∧ Zc cls d oe ∧ oe.data = .fields vs
/-! a key whose hash is the same in all worlds: no texts in it -/
mutual
def plainK : NestedKey → Bool
  | .none => true | .num _ => true | .text _ => false | .tup ks => plainKs ks
def plainKs : List NestedKey → Bool
  | [] => true
  | k :: ks => plainK k && plainKs ks
end
/-- the dict at a: its keys, their addresses, its values -/
def DnH (a : Addr) (es : List (NestedKey × Addr × V)) : HO := .ext fun h => es.length ≤ sizeLine ∧ (a == sysModules) = false ∧ ∃ (xs : List (NestedKey × Addr × Value)) (o : Obj) (des : Array DictEntry) (ep : Nat),
  Paired (fun (p : NestedKey × Addr × V) (q : NestedKey × Addr × Value) => p.1 = q.1 ∧ p.2.1 = q.2.1 ∧ RelV p.2.2 q.2.2) es xs ∧ h.get? a = some o ∧ o.ExactDict ∧ o.data = .dict des ep ∧ ∀ w : World, des.toList = xs.map (fun x => (⟨x.1.hash w, .ref x.2.1, x.2.2⟩ : DictEntry))
/-- what is asked of such a dict's keys -/
def NkOk (hs ks : List NestedKey) : Prop := hs = ks ∧ ks.Nodup ∧ ∀ k ∈ ks, k.depth ≤ 8 ∧ plainK k = true
/-- what is shared wherever it stands -/
def isIm : HO → Bool
  | .tup _ => true
  | .ins _ _ _ => true
  | _ => false

mutual
def D.imm : D → Bool
  | .non => true | .bl _ => true | .int _ => true | .str _ => true
  | .lst _ => false | .tup xs => immAll xs | .dk _ _ => false | .dt _ _ => false
  | .ob _ _ _ ds => immAll ds | .exn _ _ _ _ => false | .dn _ _ => false
def immAll : List D → Bool
  | [] => true
  | d :: ds => d.imm && immAll ds
end
theorem immAll_iff : ∀ {ds : List D}, immAll ds = true ↔ ∀ d ∈ ds, d.imm = true
  | [] => by simp [immAll]
  | d :: ds => by simp [immAll, immAll_iff (ds := ds)]

/-! ### what a value stands for, over a heap of what is shared -/
mutual
inductive Rp (G : Hp) : V → D → Prop
  | non : Rp G .non .non
  | bl (b : Bool) : Rp G (.bl b) (.bl b)
  | int (i : Int) : Rp G (.int i) (.int i)
  | str (x : Str) : Rp G (.str x) (.str x)
  | lst {a : Addr} {vs : List V} {ds : List D} : G a = some (.lst vs) → RpAll G vs ds → Rp G (.ref a) (.lst ds)
  | tup {a : Addr} {vs : List V} {ds : List D} : G a = some (.tup vs) → RpAll G vs ds → Rp G (.ref a) (.tup ds)
  | dk {a : Addr} {kvs : List (Key × V)} {ks : List Key} {ds : List D} : G a = some (.dK kvs) → kvs.map (·.1) = ks → RpAll G (kvs.map (·.2)) ds → Rp G (.ref a) (.dk ks ds)
  | dt {a : Addr} {kvs : List (List Key × V)} {ks : List (List Key)} {ds : List D} : G a = some (.dT kvs) → kvs.map (·.1) = ks → RpAll G (kvs.map (·.2)) ds → Rp G (.ref a) (.dt ks ds)
  | ob {a C dx : Addr} {kvs : List (Str × V)} {ns : List Str} {ds : List D} {c : Str} : G a = some (.ins C dx kvs) → kvs.map (·.1) = ns → RpAll G (kvs.map (·.2)) ds → Rp G (.ref a) (.ob c C ns ds)
  | exn0 {a C : Addr} {c : Str} : G a = some (ExH (.ref C) none a) → Rp G (.ref a) (.exn c C [] [])
  | exn {a C dx : Addr} {kvs : List (Str × V)} {ns : List Str} {ds : List D} {c : Str} : G a = some (ExH (.ref C) (some dx) a) → G dx = some (.xd kvs) → kvs.map (·.1) = ns → RpAll G (kvs.map (·.2)) ds → Rp G (.ref a) (.exn c C ns ds)
  | dn {a : Addr} {es : List (NestedKey × Addr × V)} {ks : List NestedKey} {ds : List D} : G a = some (DnH a es) → NkOk (es.map (·.1)) ks → RpAll G (es.map fun e => V.ref e.2.1) (kNs ks) → RpAll G (es.map (·.2.2)) ds → Rp G (.ref a) (.dn ks ds)
inductive RpAll (G : Hp) : List V → List D → Prop
  | nil : RpAll G [] []
  | cons {v : V} {vs : List V} {d : D} {ds : List D} : Rp G v d → RpAll G vs ds → RpAll G (v :: vs) (d :: ds)
end

mutual
theorem Rp.mono {G G' : Hp} (k : ∀ a o, G a = some o → G' a = some o) : ∀ {v : V} {d : D}, Rp G v d → Rp G' v d
  | _, _, .non => .non
  | _, _, .bl b => .bl b
  | _, _, .int i => .int i
  | _, _, .str x => .str x
  | _, _, .lst h r => .lst (k _ _ h) (RpAll.mono k r)
  | _, _, .tup h r => .tup (k _ _ h) (RpAll.mono k r)
  | _, _, .dk h e r => .dk (k _ _ h) e (RpAll.mono k r)
  | _, _, .dt h e r => .dt (k _ _ h) e (RpAll.mono k r)
  | _, _, .ob h e r => .ob (k _ _ h) e (RpAll.mono k r)
  | _, _, .exn0 h => .exn0 (k _ _ h)
  | _, _, .exn h1 h2 e r => .exn (k _ _ h1) (k _ _ h2) e (RpAll.mono k r)
  | _, _, .dn h n q r => .dn (k _ _ h) n (RpAll.mono k q) (RpAll.mono k r)
theorem RpAll.mono {G G' : Hp} (k : ∀ a o, G a = some o → G' a = some o) : ∀ {vs : List V} {ds : List D}, RpAll G vs ds → RpAll G' vs ds
  | _, _, .nil => .nil
  | _, _, .cons h r => .cons (Rp.mono k h) (RpAll.mono k r)
end
/-! the tuples are the same in both heaps: what holds no list, no dict stands in both -/
mutual
theorem Rp.immTo {G G' : Hp} (k : ∀ a u, isIm u = true → G a = some u → G' a = some u) : ∀ {v : V} {d : D}, Rp G v d → d.imm = true → Rp G' v d
  | _, _, .non, _ => .non
  | _, _, .bl b, _ => .bl b
  | _, _, .int i, _ => .int i
  | _, _, .str x, _ => .str x
  | _, _, .lst _ _, h => by simp [D.imm] at h
  | _, _, .tup h r, e => .tup (k _ _ rfl h) (RpAll.immTo k r (by simpa [D.imm] using e))
  | _, _, .dk _ _ _, h => by simp [D.imm] at h
  | _, _, .dt _ _ _, h => by simp [D.imm] at h
  | _, _, .ob h e1 r, e => .ob (k _ _ rfl h) e1 (RpAll.immTo k r (by simpa [D.imm] using e))
  | _, _, .exn0 _, h => by simp [D.imm] at h
  | _, _, .exn _ _ _ _, h => by simp [D.imm] at h
  | _, _, .dn _ _ _ _, h => by simp [D.imm] at h
theorem RpAll.immTo {G G' : Hp} (k : ∀ a u, isIm u = true → G a = some u → G' a = some u) : ∀ {vs : List V} {ds : List D}, RpAll G vs ds → immAll ds = true → RpAll G' vs ds
  | _, _, .nil, _ => .nil
  | _, _, .cons h r, e => by
    rw [immAll, Bool.and_eq_true] at e
    exact .cons (Rp.immTo k h e.1) (RpAll.immTo k r e.2)
end
theorem RpAll.length {G : Hp} : ∀ {vs : List V} {ds : List D}, RpAll G vs ds → vs.length = ds.length
  | _, _, .nil => rfl
  | _, _, .cons _ r => by simp [r.length]
theorem RpAll.get {G : Hp} : ∀ {vs : List V} {ds : List D} {i : Nat} {d : D}, RpAll G vs ds → ds[i]? = some d → ∃ v, vs[i]? = some v ∧ Rp G v d
  | _, _, _, _, .nil, e => by simp at e
  | _, _, 0, _, .cons h _, e => by simp at e; subst e; exact ⟨_, rfl, h⟩
  | _, _, i + 1, d, .cons _ r, e => by
    obtain ⟨v, h1, h2⟩ := RpAll.get (i := i) (d := d) r (by simpa using e)
    exact ⟨v, by simpa using h1, h2⟩
theorem RpAll.get' {G : Hp} : ∀ {vs : List V} {ds : List D} {i : Nat} {v : V}, RpAll G vs ds → vs[i]? = some v → ∃ d, ds[i]? = some d ∧ Rp G v d
  | _, _, _, _, .nil, e => by simp at e
  | _, _, 0, _, .cons h _, e => by simp at e; subst e; exact ⟨_, rfl, h⟩
  | _, _, i + 1, d, .cons _ r, e => by
    obtain ⟨v, h1, h2⟩ := RpAll.get' (i := i) (v := d) r (by simpa using e)
    exact ⟨v, by simpa using h1, h2⟩
theorem RpAll.append {G : Hp} : ∀ {vs ws : List V} {ds es : List D}, RpAll G vs ds → RpAll G ws es → RpAll G (vs ++ ws) (ds ++ es)
  | _, _, _, _, .nil, s => s
  | _, _, _, _, .cons h r, s => .cons h (RpAll.append r s)
theorem RpAll.take {G : Hp} : ∀ {vs : List V} {ds : List D} (n : Nat), RpAll G vs ds → RpAll G (vs.take n) (ds.take n)
  | _, _, 0, _ => .nil
  | _, _, _ + 1, .nil => .nil
  | _, _, n + 1, .cons h r => .cons h (RpAll.take n r)
theorem RpAll.drop {G : Hp} : ∀ {vs : List V} {ds : List D} (n : Nat), RpAll G vs ds → RpAll G (vs.drop n) (ds.drop n)
  | _, _, 0, r => r
  | _, _, _ + 1, .nil => .nil
  | _, _, n + 1, .cons _ r => RpAll.drop n r
theorem RpAll.rev {G : Hp} : ∀ {vs : List V} {ds : List D}, RpAll G vs ds → RpAll G vs.reverse ds.reverse
  | _, _, .nil => .nil
  | _, _, .cons h r => by
    rw [List.reverse_cons, List.reverse_cons]
    exact RpAll.append (RpAll.rev r) (.cons h .nil)
theorem RpAll.set {G : Hp} : ∀ {vs : List V} {ds : List D} (i : Nat) {v : V} {d : D}, RpAll G vs ds → Rp G v d → RpAll G (vs.set i v) (ds.set i d)
  | _, _, _, _, _, .nil, _ => .nil
  | _, _, 0, _, _, .cons _ r, h => .cons h r
  | _, _, i + 1, _, _, .cons q r, h => .cons q (RpAll.set i r h)

/-- a heap without its locks -/
def unf : HO → HO
  | .frz _ u => u
  | o => o
def view (H : Hp) : Hp := fun a => (H a).map unf
theorem view_rd {H : Hp} {a : Addr} {u : HO} (h : view H a = some u) : Rd H a u := by
  unfold view at h
  cases e : H a with
  | none => rw [e] at h; cases h
  | some o =>
    rw [e] at h
    have q : unf o = u := Option.some.inj h
    cases o with
    | frz ob w => exact .inr ⟨ob, by rw [e]; exact congrArg some (congrArg _ q)⟩
    | _ => exact .inl (by rw [e]; exact congrArg some q)
theorem view_ext {H H' : Hp} (k : ∀ a o, H a = some o → H' a = some o) : ∀ a o, view H a = some o → view H' a = some o := fun a o h => by
  unfold view at h ⊢
  cases e : H a with
  | none => rw [e] at h; cases h
  | some u => rw [e] at h; rw [k a u e]; exact h

/-! ### what is owned: Od k: the lists and dicts of the first k levels stand at the addresses of the footprint and nowhere else -/
mutual
inductive Od (G H : Hp) : Nat → List Addr → V → D → Prop
  | sh {k : Nat} {v : V} {d : D} : (k = 0 ∨ d.imm = true) → Rp G v d → Od G H k [] v d
  | lst {k : Nat} {a : Addr} {vs : List V} {ds : List D} {f : List Addr} : H a = some (.lst vs) → OdAll G H k f vs ds → Od G H (k + 1) (a :: f) (.ref a) (.lst ds)
  | tup {k : Nat} {a : Addr} {vs : List V} {ds : List D} {f : List Addr} : H a = some (.tup vs) → OdAll G H k f vs ds → Od G H (k + 1) f (.ref a) (.tup ds)
  | dk {k : Nat} {a : Addr} {kvs : List (Key × V)} {ks : List Key} {ds : List D} {f : List Addr} : H a = some (.dK kvs) → kvs.map (·.1) = ks → OdAll G H k f (kvs.map (·.2)) ds → Od G H (k + 1) (a :: f) (.ref a) (.dk ks ds)
  | dt {k : Nat} {a : Addr} {kvs : List (List Key × V)} {ks : List (List Key)} {ds : List D} {f : List Addr} : H a = some (.dT kvs) → kvs.map (·.1) = ks → OdAll G H k f (kvs.map (·.2)) ds → Od G H (k + 1) (a :: f) (.ref a) (.dt ks ds)
  | dn {k : Nat} {a : Addr} {es : List (NestedKey × Addr × V)} {ks : List NestedKey} {ds : List D} {f : List Addr} : H a = some (DnH a es) → NkOk (es.map (·.1)) ks → RpAll G (es.map fun e => V.ref e.2.1) (kNs ks) → OdAll G H k f (es.map (·.2.2)) ds → Od G H (k + 1) (a :: f) (.ref a) (.dn ks ds)
inductive OdAll (G H : Hp) : Nat → List Addr → List V → List D → Prop
  | nil {k : Nat} : OdAll G H k [] [] []
  | cons {k : Nat} {f g : List Addr} {v : V} {vs : List V} {d : D} {ds : List D} : Od G H k f v d → OdAll G H k g vs ds → OdAll G H k (f ++ g) (v :: vs) (d :: ds)
end
end Mir

namespace Mir
open PySem PySem.Spec L2

mutual
theorem Od.frame {G G' H H' : Hp} (hG : ∀ a u, G a = some u → G' a = some u) : ∀ {k : Nat} {f : List Addr} {v : V} {d : D}, (∀ a u, H a = some u → (a ∈ f ∨ ∃ xs, u = .tup xs) → H' a = some u) → Od G H k f v d → Od G' H' k f v d
  | _, _, _, _, _, .sh h r => .sh h (r.mono hG)
  | _, _, _, _, hH, .lst h r => .lst (hH _ _ h (.inl List.mem_cons_self)) (OdAll.frame hG (fun a u e q => hH a u e (q.imp (List.mem_cons_of_mem _) id)) r)
  | _, _, _, _, hH, .tup h r => .tup (hH _ _ h (.inr ⟨_, rfl⟩)) (OdAll.frame hG hH r)
  | _, _, _, _, hH, .dk h e r => .dk (hH _ _ h (.inl List.mem_cons_self)) e (OdAll.frame hG (fun a u e q => hH a u e (q.imp (List.mem_cons_of_mem _) id)) r)
  | _, _, _, _, hH, .dt h e r => .dt (hH _ _ h (.inl List.mem_cons_self)) e (OdAll.frame hG (fun a u e q => hH a u e (q.imp (List.mem_cons_of_mem _) id)) r)
  | _, _, _, _, hH, .dn h n q r => .dn (hH _ _ h (.inl List.mem_cons_self)) n (q.mono hG) (OdAll.frame hG (fun a u e q => hH a u e (q.imp (List.mem_cons_of_mem _) id)) r)
theorem OdAll.frame {G G' H H' : Hp} (hG : ∀ a u, G a = some u → G' a = some u) : ∀ {k : Nat} {f : List Addr} {vs : List V} {ds : List D}, (∀ a u, H a = some u → (a ∈ f ∨ ∃ xs, u = .tup xs) → H' a = some u) → OdAll G H k f vs ds → OdAll G' H' k f vs ds
  | _, _, _, _, _, .nil => .nil
  | _, _, _, _, hH, .cons h r => .cons (Od.frame hG (fun a u e q => hH a u e (q.imp (List.mem_append_left _) id)) h) (OdAll.frame hG (fun a u e q => hH a u e (q.imp (List.mem_append_right _) id)) r)
end
mutual
theorem Od.frozen {G G' H : Hp} (hG : ∀ a u, G a = some u → G' a = some u) (hT : ∀ a xs, H a = some (.tup xs) → G' a = some (.tup xs)) : ∀ {k : Nat} {f : List Addr} {v : V} {d : D}, (∀ a u, H a = some u → a ∈ f → G' a = some u) → Od G H k f v d → Rp G' v d
  | _, _, _, _, _, .sh _ r => r.mono hG
  | _, _, _, _, hH, .lst h r => .lst (hH _ _ h List.mem_cons_self) (OdAll.frozen hG hT (fun a u e q => hH a u e (List.mem_cons_of_mem _ q)) r)
  | _, _, _, _, hH, .tup h r => .tup (hT _ _ h) (OdAll.frozen hG hT hH r)
  | _, _, _, _, hH, .dk h e r => .dk (hH _ _ h List.mem_cons_self) e (OdAll.frozen hG hT (fun a u e q => hH a u e (List.mem_cons_of_mem _ q)) r)
  | _, _, _, _, hH, .dt h e r => .dt (hH _ _ h List.mem_cons_self) e (OdAll.frozen hG hT (fun a u e q => hH a u e (List.mem_cons_of_mem _ q)) r)
  | _, _, _, _, hH, .dn h n q r => .dn (hH _ _ h List.mem_cons_self) n (q.mono hG) (OdAll.frozen hG hT (fun a u e q => hH a u e (List.mem_cons_of_mem _ q)) r)
theorem OdAll.frozen {G G' H : Hp} (hG : ∀ a u, G a = some u → G' a = some u) (hT : ∀ a xs, H a = some (.tup xs) → G' a = some (.tup xs)) : ∀ {k : Nat} {f : List Addr} {vs : List V} {ds : List D}, (∀ a u, H a = some u → a ∈ f → G' a = some u) → OdAll G H k f vs ds → RpAll G' vs ds
  | _, _, _, _, _, .nil => .nil
  | _, _, _, _, hH, .cons h r => .cons (Od.frozen hG hT (fun a u e q => hH a u e (List.mem_append_left _ q)) h) (OdAll.frozen hG hT (fun a u e q => hH a u e (List.mem_append_right _ q)) r)
end
/-- what is owned is a list or a dict -/
def isMu : HO → Prop
  | .lst _ => True
  | .dK _ => True
  | .dT _ => True
  | .ext _ => True
  | _ => False
theorem im_mu {u : HO} (h : isIm u = true) (m : isMu u) : False := by cases u <;> first | exact m.elim | cases h
theorem isMu.unf {u : HO} (h : isMu u) : unf u = u := by cases u <;> first | rfl | exact h.elim
mutual
theorem Od.mu {G H : Hp} : ∀ {k : Nat} {f : List Addr} {v : V} {d : D}, Od G H k f v d → ∀ p ∈ f, ∃ u, H p = some u ∧ isMu u
  | _, _, _, _, .sh _ _, p, hp => by cases hp
  | _, _, _, _, .lst h r, p, hp => by
    rcases List.mem_cons.mp hp with rfl | hp
    · exact ⟨_, h, trivial⟩
    · exact OdAll.mu r p hp
  | _, _, _, _, .tup h r, p, hp => OdAll.mu r p hp
  | _, _, _, _, .dk h _ r, p, hp => by
    rcases List.mem_cons.mp hp with rfl | hp
    · exact ⟨_, h, trivial⟩
    · exact OdAll.mu r p hp
  | _, _, _, _, .dt h _ r, p, hp => by
    rcases List.mem_cons.mp hp with rfl | hp
    · exact ⟨_, h, trivial⟩
    · exact OdAll.mu r p hp
  | _, _, _, _, .dn h _ _ r, p, hp => by
    rcases List.mem_cons.mp hp with rfl | hp
    · exact ⟨_, h, trivial⟩
    · exact OdAll.mu r p hp
theorem OdAll.mu {G H : Hp} : ∀ {k : Nat} {f : List Addr} {vs : List V} {ds : List D}, OdAll G H k f vs ds → ∀ p ∈ f, ∃ u, H p = some u ∧ isMu u
  | _, _, _, _, .nil, p, hp => by cases hp
  | _, _, _, _, .cons h r, p, hp => by
    rcases List.mem_append.mp hp with hp | hp
    · exact Od.mu h p hp
    · exact OdAll.mu r p hp
end
/-- a level's zero owns nothing -/
theorem Od.zero {G H : Hp} {f : List Addr} {v : V} {d : D} (h : Od G H 0 f v d) : f = [] ∧ Rp G v d := by
  cases h with
  | sh _ r => exact ⟨rfl, r⟩
theorem Od.of {G H : Hp} {v : V} {d : D} (r : Rp G v d) : Od G H 0 [] v d := .sh (.inl rfl) r
theorem Od.im {G H : Hp} {k : Nat} {v : V} {d : D} (r : Rp G v d) (h : d.imm = true) : Od G H k [] v d := .sh (.inr h) r

abbrev Hold := V × Nat × D
inductive HoldAll (G H : Hp) : List Hold → List Addr → Prop
  | nil : HoldAll G H [] []
  | cons {v : V} {k : Nat} {d : D} {hs : List Hold} {f g : List Addr} : Od G H k f v d → HoldAll G H hs g → HoldAll G H ((v, k, d) :: hs) (f ++ g)
theorem HoldAll.perm {G H : Hp} {hs hs' : List Hold} (p : hs.Perm hs') : ∀ {fp}, HoldAll G H hs fp → ∃ fp', HoldAll G H hs' fp' ∧ fp.Perm fp' := by
  induction p with
  | nil => intro fp h; exact ⟨fp, h, List.Perm.refl _⟩
  | cons x _ ih =>
    intro fp h
    cases h with
    | cons h1 h2 =>
      obtain ⟨g, h3, q⟩ := ih h2
      exact ⟨_, .cons h1 h3, List.Perm.append_left _ q⟩
  | swap x y l =>
    intro fp h
    cases h with
    | cons h1 h2 =>
      cases h2 with
      | @cons _ _ _ _ f2 g2 h2 h3 =>
        refine ⟨_, .cons h2 (.cons h1 h3), ?_⟩
        rw [← List.append_assoc, ← List.append_assoc]
        exact List.Perm.append_right _ List.perm_append_comm
  | trans _ _ ih1 ih2 =>
    intro fp h
    obtain ⟨g, h1, q1⟩ := ih1 h
    obtain ⟨g', h2, q2⟩ := ih2 h1
    exact ⟨g', h2, q1.trans q2⟩
theorem HoldAll.frame {G G' H H' : Hp} (hG : ∀ a u, G a = some u → G' a = some u) : ∀ {hs : List Hold} {fp : List Addr}, (∀ a u, H a = some u → (a ∈ fp ∨ ∃ xs, u = .tup xs) → H' a = some u) → HoldAll G H hs fp → HoldAll G' H' hs fp
  | _, _, _, .nil => .nil
  | _, _, hH, .cons h r => .cons (h.frame hG (fun a u e q => hH a u e (q.imp (List.mem_append_left _) id))) (HoldAll.frame hG (fun a u e q => hH a u e (q.imp (List.mem_append_right _) id)) r)
theorem HoldAll.mu {G H : Hp} : ∀ {hs : List Hold} {fp : List Addr}, HoldAll G H hs fp → ∀ p ∈ fp, ∃ u, H p = some u ∧ isMu u
  | _, _, .nil, p, hp => by cases hp
  | _, _, .cons h r, p, hp => (List.mem_append.mp hp).elim (Od.mu h p) (HoldAll.mu r p)
/-- all of one level -/
def lev (k : Nat) (vs : List V) (ds : List D) : List Hold := List.zipWith (fun v d => (v, k, d)) vs ds
theorem HoldAll.ofAll {G H : Hp} : ∀ {k : Nat} {f : List Addr} {vs : List V} {ds : List D} {hs : List Hold} {g : List Addr}, OdAll G H k f vs ds → HoldAll G H hs g → HoldAll G H (lev k vs ds ++ hs) (f ++ g)
  | _, _, _, _, _, _, .nil, s => s
  | _, _, _, _, _, _, .cons h r, s => by
    rw [List.append_assoc]
    exact HoldAll.cons h (HoldAll.ofAll r s)
theorem HoldAll.toAll {G H : Hp} : ∀ {k : Nat} {vs : List V} {ds : List D} {hs : List Hold} {fp : List Addr}, vs.length = ds.length → HoldAll G H (lev k vs ds ++ hs) fp → ∃ f g, fp = f ++ g ∧ OdAll G H k f vs ds ∧ HoldAll G H hs g
  | _, [], [], _, fp, _, h => ⟨[], fp, rfl, .nil, h⟩
  | _, [], _ :: _, _, _, e, _ => by simp at e
  | _, _ :: _, [], _, _, e, _ => by simp at e
  | k, v :: vs, d :: ds, hs, fp, e, h => by
    have h' : HoldAll G H ((v, k, d) :: (lev k vs ds ++ hs)) fp := h
    cases h' with
    | cons h1 h2 =>
      obtain ⟨f, g, rfl, h3, h4⟩ := HoldAll.toAll (by simpa using e) h2
      exact ⟨_, g, (List.append_assoc _ _ _).symm, .cons h1 h3, h4⟩

theorem set_self {α : Type} : ∀ {l : List α} {i : Nat} {x : α}, l[i]? = some x → l.set i x = l
  | [], _, _, h => by simp at h
  | y :: l, 0, x, h => by simp at h; subst h; rfl
  | y :: l, i + 1, x, h => congrArg (List.cons y) (set_self (l := l) (by simpa using h))
abbrev Env := List (Option (Nat × D))
def slots : Env → St → List Hold
  | some (k, d) :: e, some v :: s => (v, k, d) :: slots e s
  | some _ :: e, none :: s => slots e s
  | none :: e, _ :: s => slots e s
  | _, _ => []
theorem slots_take : ∀ {env : Env} {σ : St} {i : Nat} {k : Nat} {d : D} {v : V}, env[i]? = some (some (k, d)) → σ[i]? = some (some v) → (slots env σ).Perm ((v, k, d) :: slots (env.set i none) σ)
  | some _ :: e, some w :: s, 0, _, _, _, h1, h2 => by
    simp at h1 h2
    subst h1 h2
    exact List.Perm.refl _
  | some (k', d') :: e, some w :: s, i + 1, k, d, v, h1, h2 => by
    have ih := slots_take (env := e) (σ := s) (i := i) (by simpa using h1) (by simpa using h2)
    exact (List.Perm.cons _ ih).trans (List.Perm.swap _ _ _)
  | some _ :: e, none :: s, i + 1, k, d, v, h1, h2 => slots_take (env := e) (σ := s) (i := i) (by simpa using h1) (by simpa using h2)
  | none :: e, x :: s, i + 1, k, d, v, h1, h2 => by
    have ih := slots_take (env := e) (σ := s) (i := i) (by simpa using h1) (by simpa using h2)
    cases x <;> exact ih
  | none :: e, x :: s, 0, k, d, v, h1, h2 => by simp at h1
  | some _ :: e, none :: s, 0, k, d, v, h1, h2 => by simp at h2
  | [], _, _, _, _, _, h1, _ => by simp at h1
  | _ :: _, [], _, _, _, _, _, h2 => by simp at h2
theorem slots_none : ∀ {env : Env} {σ : St} {i : Nat} {x : Option V}, env[i]? = some none → slots env (σ.set i x) = slots env σ
  | none :: e, y :: s, 0, x, h => by cases x <;> cases y <;> rfl
  | some (k, d) :: e, y :: s, i + 1, x, h => by
    have ih := slots_none (env := e) (σ := s) (i := i) (x := x) (by simpa using h)
    cases y with
    | none => exact ih
    | some v => exact congrArg (List.cons _) ih
  | none :: e, y :: s, i + 1, x, h => by
    have ih := slots_none (env := e) (σ := s) (i := i) (x := x) (by simpa using h)
    cases y <;> exact ih
  | some _ :: e, y :: s, 0, x, h => by simp at h
  | [], _, _, _, h => by simp at h
  | some _ :: _, [], _, _, h => rfl
  | none :: _, [], _, _, h => rfl
/-- the slots of an env that is weaker -/
theorem slots_drop : ∀ {env : Env} {σ : St} (i : Nat), ∃ l, (slots env σ).Perm (l ++ slots (env.set i none) σ)
  | [], _, i => ⟨[], by simp⟩
  | x :: e, [], i => ⟨[], by cases i <;> cases x <;> exact List.Perm.refl _⟩
  | none :: e, y :: s, 0 => ⟨[], by cases y <;> exact List.Perm.refl _⟩
  | some (k, d) :: e, none :: s, 0 => ⟨[], List.Perm.refl _⟩
  | some (k, d) :: e, some v :: s, 0 => ⟨[(v, k, d)], List.Perm.refl _⟩
  | none :: e, y :: s, i + 1 => by
    obtain ⟨l, h⟩ := slots_drop (env := e) (σ := s) i
    exact ⟨l, by cases y <;> exact h⟩
  | some (k, d) :: e, none :: s, i + 1 => by
    obtain ⟨l, h⟩ := slots_drop (env := e) (σ := s) i
    exact ⟨l, h⟩
  | some (k, d) :: e, some v :: s, i + 1 => by
    obtain ⟨l, h⟩ := slots_drop (env := e) (σ := s) i
    exact ⟨l, (List.Perm.cons _ h).trans List.perm_middle.symm⟩

/-- where a def began: the heap, what was shared in it -/
structure Bs where
  h : Hp
  g : Hp
instance : CoeFun Bs (fun _ => Hp) := ⟨Bs.h⟩
structure Good (B : Bs) (G H : Hp) : Prop where
  bs : ∀ a o, B a = some o → H a = some o
  g0 : ∀ a, B a ≠ none → G a = B.g a
  gs : ∀ a u, G a = some u → view H a = some u
  gt : ∀ a u, isIm u = true → view H a = some u → G a = some u
  nf : ∀ a u, isIm u = true → view H a = some u → H a = some u
structure EnvOk (B : Bs) (H : Hp) (env : Env) (σ : St) (tm : List Hold) : Prop where
  ex : ∃ G fp, Good B G H ∧ HoldAll G H (slots env σ ++ tm) fp ∧ fp.Nodup ∧ ∀ p ∈ fp, B p = none ∧ G p = none
  len : env.length = σ.length
  has : ∀ (i : Nat) kd, env[i]? = some (some kd) → ∃ v, σ[i]? = some (some v)

section
variable {B : Bs} {H : Hp} {env : Env} {σ : St} {tm tm' : List Hold}
theorem EnvOk.perm (h : EnvOk B H env σ tm) (p : tm.Perm tm') : EnvOk B H env σ tm' := by
  obtain ⟨⟨G, fp, g, hs, nd, hp⟩, h2, h3⟩ := h
  obtain ⟨fp', hs', q⟩ := hs.perm (List.Perm.append_left _ p)
  exact ⟨⟨G, fp', g, hs', q.nodup_iff.mp nd, fun p hm => hp p (q.mem_iff.mpr hm)⟩, h2, h3⟩
/-- what is held no longer -/
theorem EnvOk.less {l : List Hold} (h : EnvOk B H env σ (l ++ tm)) : EnvOk B H env σ tm := by
  obtain ⟨⟨G, fp, g, hs, nd, hp⟩, h2, h3⟩ := h
  obtain ⟨fp', hs', q⟩ := hs.perm (hs' := l ++ (slots env σ ++ tm)) (by
    rw [← List.append_assoc, ← List.append_assoc]
    exact List.Perm.append_right _ List.perm_append_comm)
  have cut : ∀ (l : List Hold) {fp : List Addr}, HoldAll G H (l ++ (slots env σ ++ tm)) fp → ∃ f g, fp = f ++ g ∧ HoldAll G H (slots env σ ++ tm) g := by
    intro l
    induction l with
    | nil => intro fp h; exact ⟨[], fp, rfl, h⟩
    | cons x l ih =>
      intro fp h
      cases h with
      | cons h1 h2 =>
        obtain ⟨f, g, rfl, h3⟩ := ih h2
        exact ⟨_, g, (List.append_assoc _ _ _).symm, h3⟩
  obtain ⟨f, g', rfl, h4⟩ := cut l hs'
  have nd' := q.nodup_iff.mp nd
  exact ⟨⟨G, g', g, h4, (List.nodup_append.mp nd').2.1, fun p hm => hp p (q.mem_iff.mpr (List.mem_append_right _ hm))⟩, h2, h3⟩
theorem EnvOk.tail {x : Hold} (h : EnvOk B H env σ (x :: tm)) : EnvOk B H env σ tm := EnvOk.less (l := [x]) h
theorem EnvOk.swap {x y : Hold} (h : EnvOk B H env σ (x :: y :: tm)) : EnvOk B H env σ (y :: x :: tm) := h.perm (List.Perm.swap _ _ _)
/-- a slot's content goes to the hand -/
theorem EnvOk.move {i k : Nat} {d : D} {v : V} (h : EnvOk B H env σ tm) (e : env[i]? = some (some (k, d))) (s : σ[i]? = some (some v)) : EnvOk B H (env.set i none) σ ((v, k, d) :: tm) := by
  obtain ⟨⟨G, fp, g, hs, nd, hp⟩, h2, h3⟩ := h
  obtain ⟨fp', hs', q⟩ := hs.perm (hs' := slots (env.set i none) σ ++ (v, k, d) :: tm) (((slots_take e s).append_right _).trans List.perm_middle.symm)
  refine ⟨⟨G, fp', g, hs', q.nodup_iff.mp nd, fun p hm => hp p (q.mem_iff.mpr hm)⟩, by simpa using h2, fun j kd e' => ?_⟩
  by_cases ej : i = j
  · subst ej
    rw [List.getElem?_set_self (List.getElem?_eq_some_iff.mp e).1] at e'
    cases e'
  · rw [List.getElem?_set_ne ej] at e'
    exact h3 j kd e'
theorem EnvOk.forget (h : EnvOk B H env σ tm) (i : Nat) : EnvOk B H (env.set i none) σ tm := by
  obtain ⟨l, q⟩ := slots_drop (env := env) (σ := σ) i
  obtain ⟨⟨G, fp, g, hs, nd, hp⟩, h2, h3⟩ := h
  obtain ⟨fp', hs', q'⟩ := hs.perm (hs' := slots (env.set i none) σ ++ (l ++ tm)) (by
    refine (q.append_right _).trans ?_
    rw [← List.append_assoc]
    exact List.Perm.append_right _ List.perm_append_comm)
  have h' : EnvOk B H (env.set i none) σ (l ++ tm) := by
    refine ⟨⟨G, fp', g, hs', q'.nodup_iff.mp nd, fun p hm => hp p (q'.mem_iff.mpr hm)⟩, by simpa using h2, fun j kd e' => ?_⟩
    by_cases ej : i = j
    · subst ej
      rw [List.getElem?_set] at e'
      simp at e'
    · rw [List.getElem?_set_ne ej] at e'
      exact h3 j kd e'
  exact h'.less
def clear : Env → List Nat → Env
  | env, [] => env
  | env, i :: is => clear (env.set i none) is
theorem EnvOk.clear : ∀ {env : Env} (is : List Nat), EnvOk B H env σ tm → EnvOk B H (clear env is) σ tm
  | _, [], h => h
  | _, i :: is, h => EnvOk.clear is (h.forget i)
/-- .. and to a slot -/
theorem EnvOk.store {i k : Nat} {d : D} {v : V} (h : EnvOk B H env σ ((v, k, d) :: tm)) (hi : i < env.length) : EnvOk B H (env.set i (some (k, d))) (σ.set i (some v)) tm := by
  have h1 := h.forget i
  obtain ⟨⟨G, fp, g, hs, nd, hp⟩, h2, h3⟩ := h1
  have e1 : (env.set i none)[i]? = some none := List.getElem?_set_self hi
  have e2 : (env.set i (some (k, d)))[i]? = some (some (k, d)) := List.getElem?_set_self hi
  have hσ : i < σ.length := by rw [← h.len]; exact hi
  have e3 : (σ.set i (some v))[i]? = some (some v) := List.getElem?_set_self hσ
  have q := slots_take e2 e3
  rw [List.set_set, slots_none e1] at q
  obtain ⟨fp', hs', q'⟩ := hs.perm (hs' := slots (env.set i (some (k, d))) (σ.set i (some v)) ++ tm) (List.perm_middle.trans (q.symm.append_right _))
  refine ⟨⟨G, fp', g, hs', q'.nodup_iff.mp nd, fun p hm => hp p (q'.mem_iff.mpr hm)⟩, by simpa using h.len, fun j kd e' => ?_⟩
  by_cases ej : i = j
  · subst ej
    exact ⟨v, e3⟩
  · rw [List.getElem?_set_ne ej] at e'
    rw [List.getElem?_set_ne ej]
    exact h.has j kd e'
/-- σ may change where env knows nothing -/
theorem EnvOk.blank {i : Nat} {x : Option V} (h : EnvOk B H env σ tm) (e : env[i]? = some none) : EnvOk B H env (σ.set i x) tm := by
  obtain ⟨⟨G, fp, g, hs, nd, hp⟩, h2, h3⟩ := h
  refine ⟨⟨G, fp, g, by rw [slots_none e]; exact hs, nd, hp⟩, by simpa using h2, fun j kd e' => ?_⟩
  by_cases ej : i = j
  · subst ej
    rw [e] at e'
    cases e'
  · rw [List.getElem?_set_ne ej]
    exact h3 j kd e'
theorem Good.rp {G : Hp} (g : Good B G H) {k : Nat} {f : List Addr} {v : V} {d : D} (h : Od G H k f v d) (hf : ∀ p ∈ f, ∃ u, H p = some u ∧ isMu u) : Rp (view H) v d := by
  refine h.frozen g.gs (fun a xs e => by unfold view; rw [e]; rfl) fun a u e m => ?_
  obtain ⟨u', e', m'⟩ := hf a m
  rw [e] at e'
  cases e'
  unfold view
  rw [e]
  exact congrArg some m'.unf
/-- the first thing in the hand may be read -/
theorem EnvOk.rp {k : Nat} {d : D} {v : V} (h : EnvOk B H env σ ((v, k, d) :: tm)) : Rp (view H) v d := by
  obtain ⟨⟨G, fp, g, hs, nd, hp⟩, h2, h3⟩ := h
  obtain ⟨fp', hs', q⟩ := hs.perm (hs' := (v, k, d) :: (slots env σ ++ tm)) List.perm_middle
  cases hs' with
  | cons h1 _ => exact g.rp h1 h1.mu
theorem EnvOk.slot {i k : Nat} {d : D} (h : EnvOk B H env σ tm) (e : env[i]? = some (some (k, d))) : ∃ v, σ[i]? = some (some v) ∧ Rp (view H) v d := by
  obtain ⟨v, hv⟩ := h.has i _ e
  exact ⟨v, hv, (h.move e hv).rp⟩
/-- a thing that may be read and holds no list and no dict -/
theorem EnvOk.imm {k : Nat} {d : D} {v : V} (h : EnvOk B H env σ tm) (r : Rp (view H) v d) (hd : d.imm = true) : EnvOk B H env σ ((v, k, d) :: tm) := by
  obtain ⟨⟨G, fp, g, hs, nd, hp⟩, h2, h3⟩ := h
  have r' : Rp G v d := r.immTo g.gt hd
  obtain ⟨fp2, hs2, q2⟩ := (HoldAll.cons (Od.im (H := H) (k := k) r' hd) hs).perm (hs' := slots env σ ++ (v, k, d) :: tm) List.perm_middle.symm
  simp only [List.nil_append] at q2
  exact ⟨⟨G, fp2, g, hs2, q2.nodup_iff.mp nd, fun p hm => hp p (q2.mem_iff.mpr hm)⟩, h2, h3⟩
/-- G and H grow, what is owned stays -/
theorem EnvOk.grow {H' : Hp} (h : EnvOk B H env σ tm) (hH : ∀ a u, H a = some u → H' a = some u) (hB : ∀ a, H a = none → B a = none)
    (more : List Hold) (mk : ∀ G, Good B G H → ∃ G' f, (∀ a u, G a = some u → G' a = some u) ∧ (∀ a, H a ≠ none → G' a = G a) ∧ Good B G' H' ∧ HoldAll G' H' more f ∧ f.Nodup ∧ ∀ p ∈ f, H p = none ∧ G' p = none) : EnvOk B H' env σ (more ++ tm) := by
  obtain ⟨⟨G, fp, g, hs, nd, hp⟩, h2, h3⟩ := h
  obtain ⟨G', f, g1, g2, g3, g4, g5, g6⟩ := mk G g
  have hs' : HoldAll G' H' (slots env σ ++ tm) fp := hs.frame g1 fun a u e _ => hH a u e
  have app : ∀ {l : List Hold} {f : List Addr} {m : List Hold} {g : List Addr}, HoldAll G' H' l f → HoldAll G' H' m g → HoldAll G' H' (l ++ m) (f ++ g) := by
    intro l
    induction l with
    | nil => intro f m g a b; cases a; exact b
    | cons x l ih =>
      intro f m g a b
      cases a with
      | cons a1 a2 =>
        rw [List.append_assoc]
        exact .cons a1 (ih a2 b)
  obtain ⟨fp2, hs2, q2⟩ := (app g4 hs').perm (hs' := slots env σ ++ (more ++ tm)) (by
    rw [← List.append_assoc, ← List.append_assoc]
    exact List.Perm.append_right _ List.perm_append_comm)
  have mu := hs.mu
  have nd2 : (f ++ fp).Nodup := List.nodup_append.mpr ⟨g5, nd, fun a ha b hb e => by
    subst e
    obtain ⟨u, e, _⟩ := mu a hb
    rw [(g6 a ha).1] at e
    cases e⟩
  refine ⟨⟨G', fp2, g3, hs2, q2.nodup_iff.mp nd2, fun p hm => ?_⟩, h2, h3⟩
  rcases List.mem_append.mp (q2.mem_iff.mpr hm) with hm | hm
  · exact ⟨hB p (g6 p hm).1, (g6 p hm).2⟩
  · obtain ⟨u, e, _⟩ := mu p hm
    exact ⟨(hp p hm).1, by rw [g2 p (by rw [e]; simp)]; exact (hp p hm).2⟩
theorem EnvOk.bnone (h : EnvOk B H env σ tm) : ∀ a, H a = none → B a = none := fun a e => by
  obtain ⟨⟨G, fp, g, _⟩, _⟩ := h
  cases q : B a with
  | none => rfl
  | some o => rw [g.bs a o q] at e; cases e
theorem view_none {H : Hp} {a : Addr} (h : H a = none) : view H a = none := by unfold view; rw [h]; rfl
theorem view_upd {H : Hp} {p : Addr} {o : HO} : view (upd H p o) = upd (view H) p (unf o) := by
  funext a
  unfold view upd
  by_cases e : a = p
  · rw [if_pos e, if_pos e]; rfl
  · rw [if_neg e, if_neg e]
theorem up_keep {H : Hp} {p : Addr} {o : HO} (hp : H p = none) : ∀ a u, H a = some u → upd H p o a = some u := fun a u e => by
  rw [upd_ne (ne_of_none e hp)]; exact e
theorem Good.gnone {G : Hp} (g : Good B G H) {p : Addr} (hp : H p = none) : G p = none := by
  cases q : G p with
  | none => rfl
  | some u => rw [← g.gs p u q, view_none hp] 
/-- a new list or dict at p; its items go with it -/
theorem Good.newMu {G : Hp} (g : Good B G H) {p : Addr} {o : HO} (hp : H p = none) (hu : unf o = o) (ho : isIm o = false) : Good B G (upd H p o) where
  g0 := g.g0
  bs := fun a u e => up_keep hp a u (g.bs a u e)
  gs := fun a u e => by
    rw [view_upd, hu]
    exact up_keep (view_none hp) a u (g.gs a u e)
  gt := fun a xs im e => by
    rw [view_upd, hu] at e
    by_cases q : a = p
    · subst q
      rw [upd_same] at e
      rw [Option.some.inj e, im] at ho; cases ho
    · rw [upd_ne q] at e
      exact g.gt a xs im e
  nf := fun a xs im e => by
    rw [view_upd, hu] at e
    by_cases q : a = p
    · subst q
      rw [upd_same] at e
      rw [Option.some.inj e, im] at ho; cases ho
    · rw [upd_ne q] at e ⊢
      exact g.nf a xs im e
theorem Good.newSh {G : Hp} (g : Good B G H) {p : Addr} {o : HO} (hp : H p = none) (hu : unf o = o) : Good B (upd G p o) (upd H p o) where
  g0 := fun a e => by
    have : a ≠ p := fun z => by
      subst z
      cases q : B a with
      | none => exact e q
      | some u => rw [g.bs a u q] at hp; cases hp
    rw [upd_ne this]
    exact g.g0 a e
  bs := fun a u e => up_keep hp a u (g.bs a u e)
  gs := fun a u e => by
    rw [view_upd, hu]
    by_cases q : a = p
    · subst q
      rw [upd_same] at e ⊢
      exact e
    · rw [upd_ne q] at e ⊢
      exact g.gs a u e
  gt := fun a xs im e => by
    rw [view_upd, hu] at e
    by_cases q : a = p
    · subst q
      rw [upd_same] at e ⊢
      exact e
    · rw [upd_ne q] at e ⊢
      exact g.gt a xs im e
  nf := fun a xs im e => by
    rw [view_upd, hu] at e
    by_cases q : a = p
    · subst q
      rw [upd_same] at e ⊢
      exact e
    · rw [upd_ne q] at e ⊢
      exact g.nf a xs im e
theorem EnvOk.imAt {a : Addr} {u : HO} (h : EnvOk B H env σ tm) (im : isIm u = true) (e : view H a = some u) : H a = some u := by
  obtain ⟨⟨G, fp, g, _⟩, _⟩ := h
  exact g.nf a _ im e
/-- the hand's first things, taken apart -/
theorem EnvOk.apart {l : List Hold} (h : EnvOk B H env σ (l ++ tm)) : ∃ G f g, Good B G H ∧ HoldAll G H l f ∧ HoldAll G H (slots env σ ++ tm) g ∧ (f ++ g).Nodup ∧ (∀ p ∈ f ++ g, B p = none ∧ G p = none) := by
  obtain ⟨⟨G, fp, g, hs, nd, hp⟩, h2, h3⟩ := h
  obtain ⟨fp', hs', q⟩ := hs.perm (hs' := l ++ (slots env σ ++ tm)) (by
    rw [← List.append_assoc, ← List.append_assoc]
    exact List.Perm.append_right _ List.perm_append_comm)
  have cut : ∀ (l : List Hold) {fp : List Addr}, HoldAll G H (l ++ (slots env σ ++ tm)) fp → ∃ f g, fp = f ++ g ∧ HoldAll G H l f ∧ HoldAll G H (slots env σ ++ tm) g := by
    intro l
    induction l with
    | nil => intro fp h; exact ⟨[], fp, rfl, .nil, h⟩
    | cons x l ih =>
      intro fp h
      cases h with
      | cons h1 h2 =>
        obtain ⟨f, g, rfl, h3, h4⟩ := ih h2
        exact ⟨_, g, (List.append_assoc _ _ _).symm, .cons h1 h3, h4⟩
  obtain ⟨f, g', rfl, h4, h5⟩ := cut l hs'
  exact ⟨G, f, g', g, h4, h5, q.nodup_iff.mp nd, fun p hm => hp p (q.mem_iff.mpr hm)⟩
/-- .. and put together -/
theorem EnvOk.join {G : Hp} {l : List Hold} {f g : List Addr} (h2 : env.length = σ.length) (h3 : ∀ (i : Nat) kd, env[i]? = some (some kd) → ∃ v, σ[i]? = some (some v)) (hg : Good B G H) (hl : HoldAll G H l f) (hr : HoldAll G H (slots env σ ++ tm) g) (nd : (f ++ g).Nodup) (hp : ∀ p ∈ f ++ g, B p = none ∧ G p = none) : EnvOk B H env σ (l ++ tm) := by
  have app : ∀ {l : List Hold} {f : List Addr} {m : List Hold} {g : List Addr}, HoldAll G H l f → HoldAll G H m g → HoldAll G H (l ++ m) (f ++ g) := by
    intro l
    induction l with
    | nil => intro f m g a b; cases a; exact b
    | cons x l ih =>
      intro f m g a b
      cases a with
      | cons a1 a2 =>
        rw [List.append_assoc]
        exact .cons a1 (ih a2 b)
  obtain ⟨fp2, hs2, q2⟩ := (app hl hr).perm (hs' := slots env σ ++ (l ++ tm)) (by
    rw [← List.append_assoc, ← List.append_assoc]
    exact List.Perm.append_right _ List.perm_append_comm)
  exact ⟨⟨G, fp2, hg, hs2, q2.nodup_iff.mp nd, fun p hm => hp p (q2.mem_iff.mpr hm)⟩, h2, h3⟩
/-- what is owned becomes shared -/
theorem EnvOk.freeze {k : Nat} {d : D} {v : V} (h : EnvOk B H env σ ((v, k, d) :: tm)) : EnvOk B H env σ ((v, 0, d) :: tm) := by
  have h2 := h.len
  have h3 := h.has
  obtain ⟨G, f, g, hg, hl, hr, nd, hp⟩ := EnvOk.apart (l := [(v, k, d)]) h
  cases hl with
  | @cons _ _ _ _ f1 g1 h1 hn =>
    cases hn
    rw [List.append_nil] at nd hp
    have m1 := h1.mu
    obtain ⟨nd1, nd2, nd3⟩ := List.nodup_append.mp nd
    let G' : Hp := fun a => if a ∈ f1 then H a else G a
    have out : ∀ a, a ∉ f1 → G' a = G a := fun a ha => if_neg ha
    have inn : ∀ a, a ∈ f1 → G' a = H a := fun a ha => if_pos ha
    have e1 : ∀ a u, G a = some u → G' a = some u := fun a u e => by
      by_cases q : a ∈ f1
      · rw [(hp a (List.mem_append_left _ q)).2] at e; cases e
      · rw [out a q]; exact e
    have hg' : Good B G' H := ⟨hg.bs, fun a e => by
      rw [out a fun q => e (hp a (List.mem_append_left _ q)).1]
      exact hg.g0 a e, fun a u e => by
      by_cases q : a ∈ f1
      · rw [inn a q] at e
        obtain ⟨u', e', m'⟩ := m1 a q
        rw [e] at e'; cases e'
        unfold view; rw [e]; exact congrArg some m'.unf
      · rw [out a q] at e; exact hg.gs a u e, fun a xs im e => by
      by_cases q : a ∈ f1
      · obtain ⟨u', e', m'⟩ := m1 a q
        unfold view at e; rw [e'] at e
        have e2 : unf u' = xs := Option.some.inj e
        rw [m'.unf] at e2
        rw [e2] at m'
        exact (im_mu im m').elim
      · rw [out a q]; exact hg.gt a xs im e, hg.nf⟩
    have r : Rp G' v d := h1.frozen e1 (fun a xs e => hg'.gt a _ rfl (by unfold view; rw [e]; rfl)) fun a u e m => by rw [inn a m]; exact e
    refine EnvOk.join (l := [(v, 0, d)]) (G := G') (f := []) (g := g) h2 h3 hg' (HoldAll.cons (f := []) (g := []) (.of r) .nil) (hr.frame e1 fun _ _ e _ => e) nd2 fun p hm => ?_
    have hm' : p ∈ g := hm
    refine ⟨(hp p (List.mem_append_right _ hm')).1, ?_⟩
    rw [out p fun q => nd3 p q p hm' rfl]
    exact (hp p (List.mem_append_right _ hm')).2
end
end Mir

namespace Mir
open PySem PySem.Spec L2

section
variable {B : Bs} {H : Hp} {env : Env} {σ : St} {tm tm' : List Hold} {k : Nat} {vs : List V} {ds : List D} {p : Addr}
theorem EnvOk.newMu {o : HO} {d : D} (h : EnvOk B H env σ (lev k vs ds ++ tm)) (hl : vs.length = ds.length) (hp : H p = none) (hu : unf o = o) (ho : isIm o = false)
    (mk : ∀ (G H' : Hp) (f : List Addr), Good B G H → H' p = some o → OdAll G H' k f vs ds → Od G H' (k + 1) (p :: f) (.ref p) d) : EnvOk B (upd H p o) env σ ((.ref p, k + 1, d) :: tm) := by
  have h2 := h.len
  have h3 := h.has
  have hb := h.bnone p hp
  obtain ⟨G, f, g, hg, hf, hr, nd, hq⟩ := h.apart
  have hfm := hf.mu
  have hrm := hr.mu
  have hf' : HoldAll G H (lev k vs ds ++ []) f := by rw [List.append_nil]; exact hf
  obtain ⟨f1, f2, e, ha, hn⟩ := HoldAll.toAll hl hf'
  cases hn
  rw [List.append_nil] at e
  subst e
  have hH : ∀ a u, H a = some u → upd H p o a = some u := up_keep hp
  have hgp := hg.gnone hp
  refine EnvOk.join (l := [(.ref p, k + 1, d)]) (G := G) (f := (p :: f) ++ []) (g := g) h2 h3 (hg.newMu hp hu ho) (.cons (mk _ _ _ hg upd_same (ha.frame (fun _ _ e => e) fun a u e _ => hH a u e)) .nil) (hr.frame (fun _ _ e => e) fun a u e _ => hH a u e) ?_ ?_
  · rw [List.append_nil, List.cons_append]
    refine List.nodup_cons.mpr ⟨fun m => ?_, nd⟩
    rcases List.mem_append.mp m with m | m
    · obtain ⟨u, e, _⟩ := hfm p m; rw [hp] at e; cases e
    · obtain ⟨u, e, _⟩ := hrm p m; rw [hp] at e; cases e
  · rw [List.append_nil, List.cons_append]
    intro q m
    rcases List.mem_cons.mp m with rfl | m
    · exact ⟨hb, hgp⟩
    · exact hq q m
theorem EnvOk.newLst (h : EnvOk B H env σ (lev k vs ds ++ tm)) (hl : vs.length = ds.length) (hp : H p = none) : EnvOk B (upd H p (.lst vs)) env σ ((.ref p, k + 1, .lst ds) :: tm) :=
  h.newMu hl hp rfl rfl fun _ _ _ _ e r => .lst e r
theorem EnvOk.newDk {kvs : List (Key × V)} {ks : List Key} (h : EnvOk B H env σ (lev k (kvs.map (·.2)) ds ++ tm)) (hl : kvs.length = ds.length) (hk : kvs.map (·.1) = ks) (hp : H p = none) : EnvOk B (upd H p (.dK kvs)) env σ ((.ref p, k + 1, .dk ks ds) :: tm) :=
  h.newMu (by simpa using hl) hp rfl rfl fun _ _ _ _ e r => .dk e hk r
mutual
theorem kN_imm : ∀ k : NestedKey, (kN k).imm = true
  | .none => rfl | .num _ => rfl | .text _ => rfl
  | .tup ks => by rw [kN, D.imm]; exact kNs_imm ks
theorem kNs_imm : ∀ ks : List NestedKey, immAll (kNs ks) = true
  | [] => rfl
  | k :: ks => by rw [kNs, immAll, kN_imm k, kNs_imm ks]; rfl
end
/-- the heap without p -/
def del (H : Hp) (p : Addr) : Hp := fun a => if a = p then none else H a
theorem del_self {H : Hp} {p : Addr} : del H p p = none := if_pos rfl
theorem del_ne {H : Hp} {p a : Addr} (h : a ≠ p) : del H p a = H a := if_neg h
theorem upd_del {H : Hp} {p : Addr} {o : HO} : upd (del H p) p o = upd H p o := by
  funext a
  unfold upd
  by_cases e : a = p
  · rw [if_pos e, if_pos e]
  · rw [if_neg e, if_neg e]; exact del_ne e
/-- what is owned is taken out of the heap, its items go to the hand -/
theorem EnvOk.takeMu {d : D} (h : EnvOk B H env σ ((.ref p, k + 1, d) :: tm)) (im : d.imm = false) (nt : ∀ xs, d ≠ .tup xs) (nn : ∀ ks ds, d ≠ .dn ks ds) :
    ∃ o vs ds, H p = some o ∧ vs.length = ds.length ∧ ((o = .lst vs ∧ d = .lst ds) ∨ (∃ kvs, o = .dK kvs ∧ d = .dk (kvs.map (·.1)) ds ∧ vs = kvs.map (·.2)) ∨ (∃ kvs, o = .dT kvs ∧ d = .dt (kvs.map (·.1)) ds ∧ vs = kvs.map (·.2))) ∧ EnvOk B (del H p) env σ (lev k vs ds ++ tm) := by
  have h2 := h.len
  have h3 := h.has
  obtain ⟨G, f, g, hg, hf, hr, nd, hq⟩ := EnvOk.apart (l := [(.ref p, k + 1, d)]) h
  have fin : ∀ {f1 : List Addr} {vs : List V} {ds : List D} {o : HO}, f = p :: f1 → H p = some o → (∀ xs, o ≠ .tup xs) → OdAll G H k f1 vs ds → EnvOk B (del H p) env σ (lev k vs ds ++ tm) := fun {f1 vs ds o} ef hp hnt ha => by
    subst ef
    rw [List.cons_append] at nd hq
    obtain ⟨nd1, nd2⟩ := List.nodup_cons.mp nd
    have hH : ∀ {l : List Addr}, p ∉ l → ∀ a u, H a = some u → (a ∈ l ∨ ∃ xs, u = .tup xs) → del H p a = some u := fun {l} hl a u e q => by
      have : a ≠ p := fun z => by
        subst z
        rcases q with q | ⟨xs, q⟩
        · exact hl q
        · rw [hp] at e; cases e; exact hnt xs q
      rw [del_ne this]; exact e
    have hgp : G p = none := (hq p List.mem_cons_self).2
    have hbp : B p = none := (hq p List.mem_cons_self).1
    have np : ∀ {F : Hp} {a : Addr} {u : HO}, F p = none → F a = some u → a ≠ p := fun n e z => by subst z; rw [n] at e; cases e
    have hg' : Good B G (del H p) := ⟨fun a o e => by rw [del_ne (np hbp e)]; exact hg.bs a o e, hg.g0, fun a u e => by
      have := hg.gs a u e
      unfold view at this ⊢
      rw [del_ne (np hgp e)]; exact this, fun a xs im e => by
      unfold view at e
      by_cases q : a = p
      · subst q; rw [del_self] at e; cases e
      · rw [del_ne q] at e; exact hg.gt a xs im e, fun a xs im e => by
      unfold view at e
      by_cases q : a = p
      · subst q; rw [del_self] at e; cases e
      · rw [del_ne q] at e ⊢; exact hg.nf a xs im e⟩
    have hv : HoldAll G (del H p) (lev k vs ds ++ []) (f1 ++ []) := HoldAll.ofAll (ha.frame (fun _ _ e => e) (hH fun m => nd1 (List.mem_append_left _ m))) .nil
    rw [List.append_nil, List.append_nil] at hv
    exact EnvOk.join h2 h3 hg' hv (hr.frame (fun _ _ e => e) (hH fun m => nd1 (List.mem_append_right _ m))) nd2 fun q m => hq q (List.mem_cons_of_mem _ m)
  cases hf with
  | @cons _ _ _ _ f1 g1 h1 hn =>
    cases hn
    rw [List.append_nil] at fin
    have len : ∀ {k : Nat} {f : List Addr} {vs : List V} {ds : List D}, OdAll G H k f vs ds → vs.length = ds.length := fun {k f vs ds} r => by
      induction vs generalizing ds f with
      | nil => cases r; rfl
      | cons v vs ih => cases r with | cons _ r => simp [ih r]
    cases h1 with
    | sh hz r => rcases hz with hz | hz
                 · cases hz
                 · rw [im] at hz; cases hz
    | lst e r => exact ⟨_, _, _, e, len r, .inl ⟨rfl, rfl⟩, fin rfl e (fun _ z => nomatch z) r⟩
    | tup e r => exact absurd rfl (nt _)
    | dn => exact absurd rfl (nn _ _)
    | dk e ek r =>
      subst ek
      exact ⟨_, _, _, e, len r, .inr (.inl ⟨_, rfl, rfl, rfl⟩), fin rfl e (fun _ z => nomatch z) r⟩
    | dt e ek r =>
      subst ek
      exact ⟨_, _, _, e, len r, .inr (.inr ⟨_, rfl, rfl, rfl⟩), fin rfl e (fun _ z => nomatch z) r⟩
theorem EnvOk.takeLst (h : EnvOk B H env σ ((.ref p, k + 1, .lst ds) :: tm)) : ∃ vs, H p = some (.lst vs) ∧ vs.length = ds.length ∧ EnvOk B (del H p) env σ (lev k vs ds ++ tm) := by
  obtain ⟨o, vs, ds', hp, hl, q, h'⟩ := h.takeMu rfl (fun _ z => nomatch z) (fun _ _ z => nomatch z)
  rcases q with ⟨rfl, e⟩ | ⟨kvs, rfl, e, rfl⟩ | ⟨kvs, rfl, e, rfl⟩
  · cases e; exact ⟨vs, hp, hl, h'⟩
  · cases e
  · cases e
theorem EnvOk.takeDk {ks : List Key} (h : EnvOk B H env σ ((.ref p, k + 1, .dk ks ds) :: tm)) : ∃ kvs, H p = some (.dK kvs) ∧ kvs.map (·.1) = ks ∧ kvs.length = ds.length ∧ EnvOk B (del H p) env σ (lev k (kvs.map (·.2)) ds ++ tm) := by
  obtain ⟨o, vs, ds', hp, hl, q, h'⟩ := h.takeMu rfl (fun _ z => nomatch z) (fun _ _ z => nomatch z)
  rcases q with ⟨rfl, e⟩ | ⟨kvs, rfl, e, rfl⟩ | ⟨kvs, rfl, e, rfl⟩
  · cases e
  · cases e; exact ⟨kvs, hp, rfl, by simpa using hl, h'⟩
  · cases e
/-- an owned thing stands at an address -/
theorem EnvOk.isRef {v : V} {d : D} (h : EnvOk B H env σ ((v, k, d) :: tm)) (im : d.imm = false) : ∃ p, v = .ref p := by
  have r := h.rp
  cases r with
  | lst => exact ⟨_, rfl⟩
  | tup => exact ⟨_, rfl⟩
  | dk => exact ⟨_, rfl⟩
  | dt => exact ⟨_, rfl⟩
  | ob => exact ⟨_, rfl⟩
  | exn0 => exact ⟨_, rfl⟩
  | exn => exact ⟨_, rfl⟩
  | dn => exact ⟨_, rfl⟩
  | _ => simp [D.imm] at im
theorem lev_append {k : Nat} : ∀ {vs : List V} {ds : List D} (ws : List V) (es : List D), vs.length = ds.length → lev k (vs ++ ws) (ds ++ es) = lev k vs ds ++ lev k ws es
  | [], [], _, _, _ => rfl
  | [], _ :: _, _, _, e => by simp at e
  | _ :: _, [], _, _, e => by simp at e
  | v :: vs, d :: ds, ws, es, e => congrArg (List.cons _) (lev_append (vs := vs) (ds := ds) ws es (by simpa using e))
/-- the items of a shared list, tuple are shared -/
theorem EnvOk.items {d : D} {v : V} (h : EnvOk B H env σ ((v, 0, d) :: tm)) : ∀ {ds : List D}, (d = .lst ds ∨ d = .tup ds ∨ (∃ ks, d = .dk ks ds) ∨ ∃ ks, d = .dt ks ds) → ∃ (p : Addr) (o : HO) (vs : List V), v = .ref p ∧ view H p = some o ∧ vs.length = ds.length ∧
    (d = .lst ds → o = .lst vs) ∧ (d = .tup ds → o = .tup vs) ∧ (∀ ks, d = .dk ks ds → ∃ kvs, o = .dK kvs ∧ kvs.map (·.1) = ks ∧ vs = kvs.map (·.2)) ∧ (∀ ks, d = .dt ks ds → ∃ kvs, o = .dT kvs ∧ kvs.map (·.1) = ks ∧ vs = kvs.map (·.2)) ∧ RpAll (view H) vs ds ∧ EnvOk B H env σ (lev 0 vs ds ++ (v, 0, d) :: tm) := by
  intro ds hd
  have h2 := h.len
  have h3 := h.has
  obtain ⟨G, f, g, hg, hf, hr, nd, hq⟩ := EnvOk.apart (l := [(v, 0, d)]) h
  cases hf with
  | @cons _ _ _ _ f1 g1 h1 hn =>
    cases hn
    obtain ⟨rfl, r⟩ := h1.zero
    have fin : ∀ {vs : List V}, RpAll G vs ds → EnvOk B H env σ (lev 0 vs ds ++ (v, 0, d) :: tm) := fun {vs} ra => by
      have hv : HoldAll G H (lev 0 vs ds ++ [(v, 0, d)]) [] := by
        clear hd
        induction ra using RpAll.rec (motive_1 := fun _ _ _ => True) with
        | nil => exact HoldAll.cons (f := []) (g := []) (.of r) .nil
        | cons hr _ _ ih => exact HoldAll.cons (f := []) (g := []) (.of hr) ih
        | _ => trivial
      have := EnvOk.join (l := lev 0 vs ds ++ [(v, 0, d)]) (f := []) h2 h3 hg hv hr nd hq
      rw [List.append_assoc] at this
      exact this
    cases r with
    | lst e ra =>
      rcases hd with q | q | ⟨_, q⟩ | ⟨_, q⟩ <;> cases q
      exact ⟨_, _, _, rfl, hg.gs _ _ e, ra.length, fun _ => rfl, (fun q => nomatch q), (fun _ q => nomatch q), (fun _ q => nomatch q), ra.mono hg.gs, fin ra⟩
    | tup e ra =>
      rcases hd with q | q | ⟨_, q⟩ | ⟨_, q⟩ <;> cases q
      exact ⟨_, _, _, rfl, hg.gs _ _ e, ra.length, (fun q => nomatch q), fun _ => rfl, (fun _ q => nomatch q), (fun _ q => nomatch q), ra.mono hg.gs, fin ra⟩
    | dk e ek ra =>
      rcases hd with q | q | ⟨_, q⟩ | ⟨_, q⟩ <;> cases q
      exact ⟨_, _, _, rfl, hg.gs _ _ e, ra.length, (fun q => nomatch q), (fun q => nomatch q), (fun ks q => by cases q; exact ⟨_, rfl, ek, rfl⟩), (fun _ q => nomatch q), ra.mono hg.gs, fin ra⟩
    | dt e ek ra =>
      rcases hd with q | q | ⟨_, q⟩ | ⟨_, q⟩ <;> cases q
      exact ⟨_, _, _, rfl, hg.gs _ _ e, ra.length, (fun q => nomatch q), (fun q => nomatch q), (fun _ q => nomatch q), (fun ks q => by cases q; exact ⟨_, rfl, ek, rfl⟩), ra.mono hg.gs, fin ra⟩
    | _ => rcases hd with q | q | ⟨_, q⟩ | ⟨_, q⟩ <;> cases q
end
end Mir

namespace Mir
open PySem PySem.Spec L2

/-! ### results -/
inductive Res (α : Type) where
  | ok (a : α) | exc (c : Str) (ns : List Str) (as : List D) | bad
def Res.bind {α β : Type} : Res α → (α → Res β) → Res β
  | .ok a, f => f a
  | .exc c ns as, _ => .exc c ns as
  | .bad, _ => .bad
instance : Monad Res where
  pure := .ok
  bind := Res.bind
theorem bind_ok {α β : Type} {x : Res α} {f : α → Res β} {b : β} (h : (x >>= f) = .ok b) : ∃ a, x = .ok a ∧ f a = .ok b := by
  cases x with
  | ok a => exact ⟨a, rfl, h⟩
  | exc c ns as => cases h
  | bad => cases h
@[simp] theorem ok_bind {α β : Type} (a : α) (f : α → Res β) : (Res.ok a >>= f) = f a := rfl
@[simp] theorem pure_ok {α : Type} (a : α) : (pure a : Res α) = .ok a := rfl
/-- a guard -/
def chk (b : Bool) : Res Unit := if b then .ok () else .bad
theorem chk_ok {b : Bool} {u : Unit} (h : chk b = .ok u) : b = true := by
  cases b with
  | true => rfl
  | false => cases h
@[simp] theorem chk_true : chk true = .ok () := rfl
inductive Ctl where
  | nx (e : Env) | bk (e : Env) | ct (e : Env) | rt (d : D)

def Ext (H H' : Hp) : Prop := ∀ a o, H a = some o → H' a = some o
theorem Ext.refl (H : Hp) : Ext H H := fun _ _ h => h
theorem Ext.trans {H H1 H2 : Hp} (a : Ext H H1) (b : Ext H1 H2) : Ext H H2 := fun c o h => b c o (a c o h)
theorem Ext.upd {H : Hp} {p : Addr} {o : HO} (h : H p = none) : Ext H (upd H p o) := up_keep h
theorem Ext.rp {H H' : Hp} (h : Ext H H') {v : V} {d : D} (r : Rp (view H) v d) : Rp (view H') v d := r.mono (view_ext h)
theorem Ext.rpAll {H H' : Hp} (h : Ext H H') {v : List V} {d : List D} (r : RpAll (view H) v d) : RpAll (view H') v d := r.mono (view_ext h)

/-! ### the readings by meaning -/
def wE (X : Cx) (e : Expr) : TE := fun σ H Q => ∀ (pins : List (Addr × Obj)) (s : Shared), Inv X pins σ H s → wpAny (model X.prog X.w) X.A (eval e X.env) (EP X pins σ Q) X.xe s
theorem pe_sem {X : Cx} {e : Expr} : PE X e (wE X e) := ⟨fun pins s _ _ _ I h => h pins s I⟩
theorem wE_of {X : Cx} {e : Expr} {t : TE} (h : PE X e t) {σ : St} {H : Hp} {Q : VK} (ht : t σ H Q) : wE X e σ H Q := fun pins s I => h.run pins s σ H Q I ht
def wT (X : Cx) (e : Expr) : TT := fun σ H Q => ∀ (pins : List (Addr × Obj)) (s : Shared), Inv X pins σ H s → wpAny (model X.prog X.w) X.A (isTrue e X.env (eval e X.env)) (TP X pins σ Q) X.xe s
theorem pt_sem {X : Cx} {e : Expr} : PT X e (wT X e) := ⟨fun pins s _ _ _ I h => h pins s I⟩
theorem wT_of {X : Cx} {e : Expr} {t : TT} (h : PT X e t) {σ : St} {H : Hp} {Q : Bool → Hp → Prop} (ht : t σ H Q) : wT X e σ H Q := fun pins s I => h.run pins s σ H Q I ht
def wW (X : Cx) (e : Expr) : TT := fun σ H Q => ∀ (whole : Sem Value) (pins : List (Addr × Obj)) (s : Shared), Inv X pins σ H s → wpAny (model X.prog X.w) X.A (isTrue e X.env whole) (TP X pins σ Q) X.xe s
theorem pw_sem {X : Cx} {e : Expr} : PW X e (wW X e) := ⟨fun w pins s _ _ _ I h => h w pins s I⟩
theorem wW_of {X : Cx} {e : Expr} {t : TT} (h : PW X e t) {σ : St} {H : Hp} {Q : Bool → Hp → Prop} (ht : t σ H Q) : wW X e σ H Q := fun w pins s I => h.run w pins s σ H Q I ht
def wA (X : Cx) (es : List Expr) : TA := fun σ H Q => ∀ (pos : Pos) (pins : List (Addr × Obj)) (s : Shared), Inv X pins σ H s → wpAny (model X.prog X.w) X.A (spliced (backTo pos (starEach es X.env))) (AP X pins σ Q) X.xe s
theorem pa_sem {X : Cx} {e : List Expr} : PA X e (wA X e) := ⟨fun p pins s _ _ _ I h => h p pins s I⟩
theorem wA_of {X : Cx} {e : List Expr} {t : TA} (h : PA X e t) {σ : St} {H : Hp} {Q : List V → Hp → Prop} (ht : t σ H Q) : wA X e σ H Q := fun p pins s I => h.run p pins s σ H Q I ht
def wS (X : Cx) (st : Stmt) : TS := fun D σ H => ∀ (pins : List (Addr × Obj)) (s : Shared), Inv X pins σ H s → wpAny (model X.prog X.w) X.A (exec st X.env) (SP X pins D) X.xe s
theorem ps_sem {X : Cx} {e : Stmt} : PS X e (wS X e) := ⟨fun pins s _ _ _ I h => h pins s I⟩
theorem wS_of {X : Cx} {e : Stmt} {t : TS} (h : PS X e t) {σ : St} {H : Hp} {D : Ends} (ht : t D σ H) : wS X e D σ H := fun pins s I => h.run pins s σ H D I ht
def wB (X : Cx) (st : List Stmt) : TS := fun D σ H => ∀ (pins : List (Addr × Obj)) (s : Shared), Inv X pins σ H s → wpAny (model X.prog X.w) X.A (execs st X.env) (SP X pins D) X.xe s
theorem pss_sem {X : Cx} {e : List Stmt} : PSs X e (wB X e) := ⟨fun pins s _ _ _ I h => h pins s I⟩
theorem wB_of {X : Cx} {e : List Stmt} {t : TS} (h : PSs X e t) {σ : St} {H : Hp} {D : Ends} (ht : t D σ H) : wB X e D σ H := fun pins s I => h.run pins s σ H D I ht

/-! ### the judgements: an expression's worth by its mirror m -/
/-- its value is handed on, owned to the level k; the slots cs are given away -/
def SE (X : Cx) (k : Nat) (cs : List Nat) (e : Expr) (m : Env → Res D) : Prop := ∀ (B : Bs) (H : Hp) (env : Env) (σ : St) (tm : List Hold) (d : D) (Q : VK), EnvOk B H env σ tm → m env = .ok d →
  (∀ v H', Ext H H' → EnvOk B H' (clear env cs) σ ((v, k, d) :: tm) → Q v H') → wE X e σ H Q
/-- its value may be read -/
def SB (X : Cx) (e : Expr) (m : Env → Res D) : Prop := ∀ (B : Bs) (H : Hp) (env : Env) (σ : St) (tm : List Hold) (d : D) (Q : VK), EnvOk B H env σ tm → m env = .ok d →
  (∀ v H', Ext H H' → EnvOk B H' env σ tm → Rp (view H') v d → Q v H') → wE X e σ H Q
/-- .. and holds no list, no dict -/
def SC (X : Cx) (e : Expr) (m : Env → Res D) : Prop := ∀ (B : Bs) (H : Hp) (env : Env) (σ : St) (tm : List Hold) (d : D) (Q : VK), EnvOk B H env σ tm → m env = .ok d →
  (∀ v H', Ext H H' → EnvOk B H' env σ tm → Rp (view H') v d → d.imm = true → Q v H') → wE X e σ H Q
/-- a test -/
def ST (X : Cx) (e : Expr) (m : Env → Res Bool) : Prop := ∀ (B : Bs) (H : Hp) (env : Env) (σ : St) (tm : List Hold) (b : Bool) (Q : Bool → Hp → Prop), EnvOk B H env σ tm → m env = .ok b →
  (∀ H', Ext H H' → EnvOk B H' env σ tm → Q b H') → wT X e σ H Q
def SW (X : Cx) (e : Expr) (m : Env → Res Bool) : Prop := ∀ (B : Bs) (H : Hp) (env : Env) (σ : St) (tm : List Hold) (b : Bool) (Q : Bool → Hp → Prop), EnvOk B H env σ tm → m env = .ok b →
  (∀ H', Ext H H' → EnvOk B H' env σ tm → Q b H') → wW X e σ H Q
/-- arguments that may be read -/
def SAB (X : Cx) (es : List Expr) (m : Env → Res (List D)) : Prop := ∀ (B : Bs) (H : Hp) (env : Env) (σ : St) (tm : List Hold) (ds : List D) (Q : List V → Hp → Prop), EnvOk B H env σ tm → m env = .ok ds →
  (∀ vs H', Ext H H' → EnvOk B H' env σ tm → RpAll (view H') vs ds → Q vs H') → wA X es σ H Q
/-- items that are handed on -/
def SAE (X : Cx) (k : Nat) (cs : List Nat) (es : List Expr) (m : Env → Res (List D)) : Prop := ∀ (B : Bs) (H : Hp) (env : Env) (σ : St) (tm : List Hold) (ds : List D) (Q : List V → Hp → Prop), EnvOk B H env σ tm → m env = .ok ds →
  (∀ vs H', Ext H H' → vs.length = ds.length → EnvOk B H' (clear env cs) σ (lev k vs ds ++ tm) → Q vs H') → wA X es σ H Q

section
variable {X : Cx} {e a b : Expr} {m ma mb : Env → Res D} {k : Nat} {cs : List Nat} {pos : Pos}
theorem sb_c (h : SC X e m) : SB X e m := fun B H env σ tm d Q ok hm q => h B H env σ tm d Q ok hm fun v H' x ok' r _ => q v H' x ok' r
theorem se_c (h : SC X e m) : SE X k [] e m := fun B H env σ tm d Q ok hm q => h B H env σ tm d Q ok hm fun v H' x ok' r i => q v H' x (ok'.imm r i)
theorem sb_e (h : SE X k [] e m) : SB X e m := fun B H env σ tm d Q ok hm q => h B H env σ tm d Q ok hm fun v H' x ok' => q v H' x ok'.tail ok'.rp
/-- what is read and holds no list, no dict -/
def mImm (m : Env → Res D) : Env → Res D := fun env => m env >>= fun d => if d.imm then .ok d else .bad
theorem sc_b (h : SB X e m) : SC X e (mImm m) := fun B H env σ tm d Q ok hm q => by
  obtain ⟨d', h1, h2⟩ := bind_ok hm
  by_cases hi : d'.imm = true
  · rw [if_pos hi] at h2
    cases h2
    exact h B H env σ tm d Q ok h1 fun v H' x ok' r => q v H' x ok' r hi
  · rw [if_neg hi] at h2; cases h2
theorem se_0 (h : SE X k cs e m) : SE X 0 cs e m := fun B H env σ tm d Q ok hm q => h B H env σ tm d Q ok hm fun v H' x ok' => q v H' x ok'.freeze

/-! ### names -/
def mVar (i : Nat) : Env → Res D := fun env => match env[i]? with
  | some (some (_, d)) => .ok d
  | _ => .bad
def mVarK (i k : Nat) : Env → Res D := fun env => match env[i]? with
  | some (some (j, d)) => if j = k then .ok d else .bad
  | _ => .bad
theorem sb_var {i : Nat} (h : PE X e (tVar i)) : SB X e (mVar i) := fun B H env σ tm d Q ok hm q => by
  unfold mVar at hm
  split at hm
  · rename_i j d' e1
    cases hm
    obtain ⟨v, hv, r⟩ := ok.slot e1
    exact wE_of h ⟨v, hv, q v H (Ext.refl H) ok r⟩
  · cases hm
/-- a slot's content is given away -/
theorem se_move {i : Nat} (h : PE X e (tVar i)) : SE X k [i] e (mVarK i k) := fun B H env σ tm d Q ok hm q => by
  unfold mVarK at hm
  split at hm
  · rename_i j d' e1
    split at hm
    · rename_i ej
      subst ej
      cases hm
      obtain ⟨v, hv, r⟩ := ok.slot e1
      exact wE_of h ⟨v, hv, q v H (Ext.refl H) (ok.move e1 hv)⟩
    · cases hm
  · cases hm

/-! ### constants -/
def mC (d : D) : Env → Res D := fun _ => .ok d
theorem sc_of {d : D} {v : V} (h : PE X e (tC v)) (r : ∀ G, Rp G v d) (hi : d.imm = true) : SC X e (mC d) := fun B H env σ tm d' Q ok hm q => by
  cases hm
  exact wE_of h (q v H (Ext.refl H) ok (r _) hi)
theorem sc_int {i : Int} {j pos} : SC X (.Constant (.int i) j pos) (mC (.int i)) := sc_of pe_int (fun _ => .int i) rfl
theorem sc_bl {i : Bool} {j pos} : SC X (.Constant (.bool i) j pos) (mC (.bl i)) := sc_of pe_bl (fun _ => .bl i) rfl
theorem sc_str {i : Str} {j pos} : SC X (.Constant (.str i) j pos) (mC (.str i)) := sc_of pe_str (fun _ => .str i) rfl

/-! ### operators on values -/
def OpC (X : Cx) (f : Value → Value → Sem Value) (g : D → D → Res D) : Prop := ∃ r : R2, OpR X f r ∧ ∀ (x y : V) (dx dy d : D) (H : Hp) (Q : VK), Rp (view H) x dx → Rp (view H) y dy → g dx dy = .ok d →
  (∀ v, Rp (view H) v d → d.imm = true → Q v H) → r x y H Q
def mOp (g : D → D → Res D) (ma mb : Env → Res D) : Env → Res D := fun env => ma env >>= fun x => mb env >>= fun y => g x y
theorem two {g : D → D → Res D} {env : Env} {d : D} (h : mOp g ma mb env = .ok d) : ∃ x y, ma env = .ok x ∧ mb env = .ok y ∧ g x y = .ok d := by
  obtain ⟨x, h1, h2⟩ := bind_ok h
  obtain ⟨y, h3, h4⟩ := bind_ok h2
  exact ⟨x, y, h1, h3, h4⟩
theorem sb2 (ha : SB X a ma) (hb : SB X b mb) {B : Bs} {H : Hp} {env : Env} {σ : St} {tm : List Hold} {x y : D} (ok : EnvOk B H env σ tm) (hx : ma env = .ok x) (hy : mb env = .ok y) {R : V → V → Hp → Prop}
    (q : ∀ v u H', Ext H H' → EnvOk B H' env σ tm → Rp (view H') v x → Rp (view H') u y → R v u H') : wE X a σ H fun v H1 => wE X b σ H1 fun u H2 => R v u H2 :=
  ha B H env σ tm x _ ok hx fun v H1 x1 ok1 r1 => hb B H1 env σ tm y _ ok1 hy fun u H2 x2 ok2 r2 => q v u H2 (x1.trans x2) ok2 (x2.rp r1) r2
theorem sc_op {op : Operator} {g : D → D → Res D} (ho : OpC X (binaryOp op) g) (ha : SB X a ma) (hb : SB X b mb) : SC X (.BinOp a op b pos) (mOp g ma mb) := fun B H env σ tm d Q ok hm q => by
  obtain ⟨x, y, hx, hy, hg⟩ := two hm
  obtain ⟨r, hr, hq⟩ := ho
  exact wE_of (pe_op hr pe_sem pe_sem) (sb2 ha hb ok hx hy fun v u H' x' ok' r1 r2 => hq v u _ _ _ H' Q r1 r2 hg fun z rz iz => q z H' x' ok' rz iz)
theorem sc_cmp {op : CmpOp} {g : D → D → Res D} (ho : OpC X (compareOp op) g) (ha : SB X a ma) (hb : SB X b mb) (hm : behindInMarks op b = false) : SC X (.Compare a [op] [b] pos) (mOp g ma mb) := fun B H env σ tm d Q ok hm' q => by
  obtain ⟨x, y, hx, hy, hg⟩ := two hm'
  obtain ⟨r, hr, hq⟩ := ho
  exact wE_of (pe_cmpR hr pe_sem pe_sem hm) (sb2 ha hb ok hx hy fun v u H' x' ok' r1 r2 => hq v u _ _ _ H' Q r1 r2 hg fun z rz iz => q z H' x' ok' rz iz)
def toB : D → Res Bool
  | .bl b => .ok b
  | _ => .bad
def mTb (m : Env → Res D) : Env → Res Bool := fun env => m env >>= toB
theorem toB_ok {d : D} {b : Bool} (h : toB d = .ok b) : d = .bl b := by
  cases d with
  | bl c => cases h; rfl
  | _ => cases h
theorem st_cmp {op : CmpOp} {g : D → D → Res D} (ho : OpC X (compareOp op) g) (ha : SB X a ma) (hb : SB X b mb) (hm : behindInMarks op b = false) : ST X (.Compare a [op] [b] pos) (mTb (mOp g ma mb)) := fun B H env σ tm d Q ok hm' q => by
  obtain ⟨z, hz, hd⟩ := bind_ok hm'
  have hd' := toB_ok hd
  subst hd'
  obtain ⟨x, y, hx, hy, hg⟩ := two hz
  obtain ⟨r, hr, hq⟩ := ho
  refine wT_of (pt_cmpR hr pe_sem pe_sem hm) (sb2 ha hb ok hx hy fun v u H' x' ok' r1 r2 => hq v u _ _ _ H' _ r1 r2 hg fun z rz iz => ?_)
  cases rz
  exact ⟨_, rfl, q H' x' ok'⟩
/-- a value True or False as a test -/
theorem st_val (h : SB X e m) (he : ∀ whole, isTrue e X.env whole = (do let v ← whole; standAt e.pos; holding [v] (truthy v)) := by intro _; rfl) : ST X e (mTb m) := fun B H env σ tm d Q ok hm' q => by
  obtain ⟨z, hz, hd⟩ := bind_ok hm'
  have hd' := toB_ok hd
  subst hd'
  refine wT_of (pt_val pe_sem he) (h B H env σ tm _ _ ok hz fun v H' x ok' r => ?_)
  cases r
  exact ⟨_, rfl, q H' x ok'⟩

/-! ### unary -/
def mUn (g : D → Res D) (m : Env → Res D) : Env → Res D := fun env => m env >>= g
def gNeg : D → Res D
  | .int i => .ok (.int (-i))
  | _ => .bad
/-! ### and, or, not -/
def mNotB (m : Env → Res Bool) : Env → Res Bool := fun env => m env >>= fun b => .ok (!b)
def mAndB (m n : Env → Res Bool) : Env → Res Bool := fun env => m env >>= fun b => if b then n env else .ok false
def mOrB (m n : Env → Res Bool) : Env → Res Bool := fun env => m env >>= fun b => if b then .ok true else n env
variable {ta tb : Env → Res Bool} {rest : List Expr}
theorem st_not (ha : ST X a ta) : ST X (.UnaryOp .Not a pos) (mNotB ta) := fun B H env σ tm d Q ok hm q => by
  obtain ⟨x, hx, hg⟩ := bind_ok hm
  cases hg
  exact wT_of (pt_not pt_sem) (ha B H env σ tm x _ ok hx fun H' x' ok' => q H' x' ok')
theorem sw_or1 (ha : ST X a ta) : SW X (.BoolOp .Or [a] pos) ta := fun B H env σ tm d Q ok hm q => wW_of (pw_or1 pt_sem) (ha B H env σ tm d Q ok hm q)
theorem sw_or (ha : ST X a ta) (hb : SW X (.BoolOp .Or (b :: rest) pos) tb) : SW X (.BoolOp .Or (a :: b :: rest) pos) (mOrB ta tb) := fun B H env σ tm d Q ok hm q => by
  obtain ⟨x, hx, hg⟩ := bind_ok hm
  refine wW_of (pw_or pt_sem pw_sem) (ha B H env σ tm x _ ok hx fun H1 x1 ok1 => ?_)
  cases x with
  | false => exact hb B H1 env σ tm d Q ok1 hg fun H2 x2 ok2 => q H2 (x1.trans x2) ok2
  | true => cases hg; exact q H1 x1 ok1
theorem st_w (h : SW X e ta) : ST X e ta := fun B H env σ tm d Q ok hm q pins s I => h B H env σ tm d Q ok hm q _ pins s I
/-- .. as values -/
def mAndV (ma mb : Env → Res D) : Env → Res D := fun env => ma env >>= fun x => toB x >>= fun b => if b then mb env else .ok (.bl false)
def mOrV (ma mb : Env → Res D) : Env → Res D := fun env => ma env >>= fun x => toB x >>= fun b => if b then .ok (.bl true) else mb env
theorem sc_one {op} (h : SC X a ma) : SC X (.BoolOp op [a] pos) ma := fun B H env σ tm d Q ok hm q => wE_of (pe_one pe_sem) (h B H env σ tm d Q ok hm q)
theorem sc_and (ha : SB X a ma) (hb : SC X (.BoolOp .And (b :: rest) pos) mb) : SC X (.BoolOp .And (a :: b :: rest) pos) (mAndV ma mb) := fun B H env σ tm d Q ok hm q => by
  obtain ⟨x, hx, hg⟩ := bind_ok hm
  obtain ⟨c, hc, hg⟩ := bind_ok hg
  have := toB_ok hc
  subst this
  refine wE_of (pe_and pe_sem pe_sem) (ha B H env σ tm _ _ ok hx fun v H1 x1 ok1 r1 => ?_)
  cases r1
  refine ⟨c, rfl, ?_⟩
  cases c with
  | true => rw [if_pos rfl]; exact hb B H1 env σ tm d Q ok1 hg fun v H2 x2 ok2 => q v H2 (x1.trans x2) ok2
  | false => cases hg; exact q _ H1 x1 ok1 (.bl false) rfl
/-- not e as a value -/
def mNotV (m : Env → Res D) : Env → Res D := fun env => m env >>= fun x => toB x >>= fun b => .ok (.bl (!b))
theorem sc_not (ha : SB X a ma) : SC X (.UnaryOp .Not a pos) (mNotV ma) := fun B H env σ tm d Q ok hm q => by
  obtain ⟨x, hx, hg⟩ := bind_ok hm
  obtain ⟨c, hc, hg⟩ := bind_ok hg
  have := toB_ok hc
  subst this
  cases hg
  refine wE_of (pe_not pe_sem) (ha B H env σ tm _ _ ok hx fun v H1 x1 ok1 r1 => ?_)
  cases r1
  exact ⟨c, rfl, q _ H1 x1 ok1 (.bl _) rfl⟩
/-- a if t else b -/
def mIf {α : Type} (t : Env → Res Bool) (ma mb : Env → Res α) : Env → Res α := fun env => t env >>= fun c => if c then ma env else mb env
/-! ### arguments, displays -/
def mNilA : Env → Res (List D) := fun _ => .ok []
def mConsA (m : Env → Res D) (n : Env → Res (List D)) : Env → Res (List D) := fun env => m env >>= fun x => n env >>= fun xs => .ok (x :: xs)
theorem sab_nil : SAB X [] mNilA := fun B H env σ tm ds Q ok hm q => by
  cases hm
  exact wA_of pa_nil (q [] H (Ext.refl H) ok .nil)
theorem sab_cons {es : List Expr} {ms : Env → Res (List D)} (he : SB X e m) (hs : SAB X es ms) (hst : starEach (e :: es) X.env = (false, eval e X.env) :: starEach es X.env := by rfl) : SAB X (e :: es) (mConsA m ms) := fun B H env σ tm ds Q ok hm q => by
  obtain ⟨x, hx, hg⟩ := bind_ok hm
  obtain ⟨xs, hxs, hg⟩ := bind_ok hg
  cases hg
  refine wA_of (pa_cons pe_sem pa_sem hst) (he B H env σ tm x _ ok hx fun v H1 x1 ok1 r1 => hs B H1 env σ tm xs _ ok1 hxs fun vs H2 x2 ok2 r2 => ?_)
  exact q _ H2 (x1.trans x2) ok2 (.cons (x2.rp r1) r2)
/-- items: the mirror of what stands behind sees the slots that are left -/
def mConsE (m : Env → Res D) (cs : List Nat) (n : Env → Res (List D)) : Env → Res (List D) := fun env => m env >>= fun x => n (clear env cs) >>= fun xs => .ok (x :: xs)
theorem clear_app : ∀ (env : Env) (cs cs' : List Nat), clear (clear env cs) cs' = clear env (cs ++ cs')
  | _, [], _ => rfl
  | env, c :: cs, cs' => clear_app (env.set c none) cs cs'
theorem sae_nil : SAE X k [] [] mNilA := fun B H env σ tm ds Q ok hm q => by
  cases hm
  exact wA_of pa_nil (q [] H (Ext.refl H) rfl ok)
theorem sae_cons {es : List Expr} {cs' : List Nat} {ms : Env → Res (List D)} (he : SE X k cs e m) (hs : SAE X k cs' es ms) (hst : starEach (e :: es) X.env = (false, eval e X.env) :: starEach es X.env := by rfl) : SAE X k (cs ++ cs') (e :: es) (mConsE m cs ms) := fun B H env σ tm ds Q ok hm q => by
  obtain ⟨x, hx, hg⟩ := bind_ok hm
  obtain ⟨xs, hxs, hg⟩ := bind_ok hg
  cases hg
  refine wA_of (pa_cons pe_sem pa_sem hst) (he B H env σ tm x _ ok hx fun v H1 x1 ok1 => hs B H1 (clear env cs) σ _ xs _ ok1 hxs fun vs H2 x2 hl ok2 => ?_)
  refine q _ H2 (x1.trans x2) (by simp [hl]) ?_
  rw [← clear_app]
  exact ok2.perm (List.perm_middle (l₁ := lev k vs xs) (a := (v, k, x)) (l₂ := tm))
def mTup (n : Env → Res (List D)) : Env → Res D := fun env => n env >>= fun xs => if xs.length ≤ sizeLine then .ok (.tup xs) else .bad
def mLst (n : Env → Res (List D)) : Env → Res D := fun env => n env >>= fun xs => if xs.length ≤ sizeLine then .ok (.lst xs) else .bad
theorem se_lst {es : List Expr} {ms : Env → Res (List D)} (hs : SAE X k cs es ms) : SE X (k + 1) cs (.List es pos) (mLst ms) := fun B H env σ tm d Q ok hm q => by
  obtain ⟨xs, hx, hg⟩ := bind_ok hm
  by_cases hl : xs.length ≤ sizeLine
  · rw [if_pos hl] at hg
    cases hg
    refine wE_of (pe_lst pa_sem) (hs B H env σ tm xs _ ok hx fun vs H1 x1 e1 ok1 => ⟨by rw [e1]; exact hl, fun p hp => ?_⟩)
    exact q _ _ (x1.trans (Ext.upd hp)) (ok1.newLst e1 hp)
  · rw [if_neg hl] at hg; cases hg
end
end Mir

namespace Mir
open PySem PySem.Spec L2

/-! ### as the library's data -/
mutual
def D.py : D → PyData
  | .non => .none | .bl b => .bool b | .int i => .int i | .str x => .str x
  | .lst xs => .list (pyAll xs) | .tup xs => .tuple (pyAll xs) | .dk _ _ => .dict [] | .dt _ _ => .dict []
  | .ob _ _ _ _ => .dict [] | .exn _ _ _ _ => .dict [] | .dn _ _ => .dict []
def pyAll : List D → List PyData
  | [] => []
  | d :: ds => d.py :: pyAll ds
end
theorem pyAll_map : ∀ ds : List D, pyAll ds = ds.map D.py
  | [] => rfl
  | d :: ds => by rw [pyAll, pyAll_map ds]; rfl
mutual
theorem Rp.dp {K : PySem.W.Frag} {H : Hp} : ∀ {v : V} {d : D}, Rp (view H) v d → PyData.canLay0 d.py = true → Dp K H v d.py
  | _, _, .non, _ => .non
  | _, _, .bl b, _ => .bl b
  | _, _, .int i, _ => .int i
  | _, _, .str x, _ => .str x
  | _, _, .lst h r, e => .lst (.inl (view_rd h)) (RpAll.dp r (by simpa [D.py, PyData.canLay0] using e))
  | _, _, .tup h r, e => .tup (.inl (view_rd h)) (RpAll.dp r (by simpa [D.py, PyData.canLay0] using e))
  | _, _, .dk _ _ _, e => by simp [D.py, PyData.canLay0] at e
  | _, _, .dt _ _ _, e => by simp [D.py, PyData.canLay0] at e
  | _, _, .ob _ _ _, e => by simp [D.py, PyData.canLay0] at e
  | _, _, .exn0 _, e => by simp [D.py, PyData.canLay0] at e
  | _, _, .exn _ _ _ _, e => by simp [D.py, PyData.canLay0] at e
  | _, _, .dn _ _ _ _, e => by simp [D.py, PyData.canLay0] at e
theorem RpAll.dp {K : PySem.W.Frag} {H : Hp} : ∀ {v : List V} {d : List D}, RpAll (view H) v d → PyData.canLayAll0 (pyAll d) = true → DpAll K H v (pyAll d)
  | _, _, .nil, _ => .nil
  | _, _, .cons h r, e => by
    rw [pyAll, PyData.canLayAll0, Bool.and_eq_true] at e
    exact .cons (Rp.dp h e.1) (RpAll.dp r e.2)
end
theorem shaped_lay {d : PyData} (h : SeqAt.shaped d = true) : PyData.canLay0 d = true := by
  unfold SeqAt.shaped at h
  rw [Bool.and_eq_true] at h
  exact h.1

/-! ### arithmetic -/
def gAdd : D → D → Res D
  | .int i, .int j => .ok (.int (i + j))
  | .str a, .str b => if a.length + b.length ≤ sizeLine then .ok (.str (a ++ b)) else .bad
  | _, _ => .bad
def gSub : D → D → Res D
  | .int i, .int j => .ok (.int (i - j))
  | _, _ => .bad
def gMod : D → D → Res D
  | .int i, .int j => if 0 < j then .ok (.int (i % j)) else .bad
  | _, _ => .bad
def gPow : D → D → Res D
  | .int i, .int j => if 0 ≤ j ∧ j ≤ 1000000 ∧ i.natAbs < 2 ^ 64 then .ok (.int (i ^ j.toNat)) else .bad
  | _, _ => .bad
section
variable {X : Cx}
theorem op_i {f : Value → Value → Sem Value} {C : Int → Int → Prop} {g : Int → Int → Int} {gg : D → D → Res D} (ho : OpR X f (rI C fun i j => .int (g i j)))
    (hg : ∀ x y d, gg x y = .ok d → ∃ i j, x = .int i ∧ y = .int j ∧ C i j ∧ d = .int (g i j)) : OpC X f gg := ⟨_, ho, fun x y dx dy d H Q rx ry e q => by
  obtain ⟨i, j, rfl, rfl, c, rfl⟩ := hg _ _ _ e
  cases rx
  cases ry
  exact ⟨i, j, rfl, rfl, c, q _ (.int _) rfl⟩⟩
theorem o_mod : OpC X (binaryOp .Mod) gMod := op_i op_mod fun x y d h => by
  unfold gMod at h
  split at h
  · split at h
    · rename_i hj; cases h; exact ⟨_, _, rfl, rfl, hj, rfl⟩
    · cases h
  · cases h
theorem o_pow : OpC X (binaryOp .Pow) gPow := op_i op_pow fun x y d h => by
  unfold gPow at h
  split at h
  · split at h
    · rename_i hj; cases h; exact ⟨_, _, rfl, rfl, hj, rfl⟩
    · cases h
  · cases h
theorem o_add : OpC X (binaryOp .Add) gAdd := by
  have h1 : OpR X (binaryOp .Add) (fun x y H Q => (rI0 fun i j => .int (i + j)) x y H Q ∨ (∃ i j, x = .str i ∧ y = .str j ∧ i.length + j.length ≤ sizeLine ∧ Q (.str (i ++ j)) H)) := fun pins s σ H x y v u Q I rx ry h => h.elim (fun h => op_add pins s σ H x y v u Q I rx ry h) fun h => op_add_str pins s σ H x y v u Q I rx ry h
  refine ⟨_, h1, fun x y dx dy d H Q rx ry e q => ?_⟩
  unfold gAdd at e
  split at e
  · cases e; cases rx; cases ry
    exact .inl ⟨_, _, rfl, rfl, q _ (.int _) rfl⟩
  · split at e
    · rename_i hl
      cases e; cases rx; cases ry
      exact .inr ⟨_, _, rfl, rfl, hl, q _ (.str _) rfl⟩
    · cases e
  · cases e

/-! ### comparisons -/
def shp (d : D) : Bool := SeqAt.shaped d.py
def gEq (x y : D) : Res D := if shp x && shp y then .ok (.bl (PyData.eqv x.py y.py)) else .bad
def gNe (x y : D) : Res D := if shp x && shp y then .ok (.bl (!PyData.eqv x.py y.py)) else .bad
theorem o_eq (hu : X.A.units + 64 < cLine) : OpC X (compareOp .Eq) gEq := by
  refine ⟨_, op_eqD hu, fun x y dx dy d H Q rx ry e q => ?_⟩
  unfold gEq at e
  split at e
  · rename_i hs
    rw [Bool.and_eq_true] at hs
    cases e
    exact ⟨_, _, rx.dp (shaped_lay hs.1), ry.dp (shaped_lay hs.2), hs.1, hs.2, q _ (.bl _) rfl⟩
  · cases e
theorem o_ne (hu : X.A.units + 64 < cLine) : OpC X (compareOp .NotEq) gNe := by
  refine ⟨_, op_neD hu, fun x y dx dy d H Q rx ry e q => ?_⟩
  unfold gNe at e
  split at e
  · rename_i hs
    rw [Bool.and_eq_true] at hs
    cases e
    exact ⟨_, _, rx.dp (shaped_lay hs.1), ry.dp (shaped_lay hs.2), hs.1, hs.2, q _ (.bl _) rfl⟩
  · cases e
/-- what may be set in order -/
def ordOk (x y : D) : Bool := shp x && shp y && PySem.W.alike x.py y.py && (match x with | .non => false | _ => true) && decide (min x.py.depth y.py.depth ≤ 60)
def gLt : D → D → Res D
  | .int i, .int j => .ok (.bl (decide (i < j)))
  | x, y => if ordOk x y then .ok (.bl (PySem.W.dataLt x.py y.py)) else .bad
def gGt : D → D → Res D
  | .int i, .int j => .ok (.bl (decide (j < i)))
  | x, y => if ordOk x y then .ok (.bl (PySem.W.dataLt y.py x.py)) else .bad
def gLe : D → D → Res D
  | .int i, .int j => .ok (.bl (decide (i ≤ j)))
  | x, y => if ordOk x y then .ok (.bl (!PySem.W.dataLt y.py x.py)) else .bad
def gGe : D → D → Res D
  | .int i, .int j => .ok (.bl (decide (j ≤ i)))
  | x, y => if ordOk x y then .ok (.bl (!PySem.W.dataLt x.py y.py)) else .bad
def rOrd (K : PySem.W.Frag) (f : PyData → PyData → Bool) : R2 := fun x y H Q => ∃ d e, Dp K H x d ∧ Dp K H y e ∧ PySem.W.alike d e = true ∧ d ≠ .none ∧ min d.depth e.depth ≤ 60 ∧ Q (.bl (f d e)) H
theorem op_ord {op : CmpOp} {f : PyData → PyData → Bool} (hu : X.A.units + 64 < cLine)
    (rule : ∀ {a b : Value} {da db : PyData} {as bs : List Addr} {s : Shared} {Q : Value → Shared → Prop}, Reads s.heap a da as → Reads s.heap b db bs → PySem.W.alike da db = true → da ≠ .none → X.A.units + min da.depth db.depth < cLine → Q (.bool (f da db)) s → wpAny (model X.prog X.w) X.A (compareOp op a b) Q X.xe s) : OpR X (compareOp op) (rOrd X.K f) := by
  intro pins s σ H x y v u Q I rx ry h
  obtain ⟨d, e, hd, he, ha, hn, hm, q⟩ := h
  obtain ⟨as, r1⟩ := Dp.reads I d x v hd rx
  obtain ⟨bs, r2⟩ := Dp.reads I e y u he ry
  exact rule r1 r2 ha hn (by omega) ⟨.bl _, H, I, rfl, q⟩
theorem ord_ok {x y : D} {H : Hp} {K : PySem.W.Frag} {v u : V} (h : ordOk x y = true) (rx : Rp (view H) v x) (ry : Rp (view H) u y) : Dp K H v x.py ∧ Dp K H u y.py ∧ PySem.W.alike x.py y.py = true ∧ x.py ≠ .none ∧ min x.py.depth y.py.depth ≤ 60 := by
  unfold ordOk at h
  simp only [Bool.and_eq_true, decide_eq_true_eq] at h
  obtain ⟨⟨⟨⟨h1, h2⟩, h3⟩, h4⟩, h5⟩ := h
  refine ⟨rx.dp (shaped_lay h1), ry.dp (shaped_lay h2), h3, ?_, h5⟩
  cases x <;> simp [D.py] at h4 ⊢
theorem o_ord {op : CmpOp} {f : PyData → PyData → Bool} {p : Int → Int → Bool} {g : D → D → Res D} (h1 : OpR X (compareOp op) (rI0 fun i j => .bl (p i j))) (h2 : OpR X (compareOp op) (rOrd X.K f))
    (hg : ∀ x y d, g x y = .ok d → (∃ i j, x = .int i ∧ y = .int j ∧ d = .bl (p i j)) ∨ (ordOk x y = true ∧ d = .bl (f x.py y.py))) : OpC X (compareOp op) g := by
  have h3 : OpR X (compareOp op) (fun x y H Q => (rI0 fun i j => .bl (p i j)) x y H Q ∨ rOrd X.K f x y H Q) := fun pins s σ H x y v u Q I rx ry h => h.elim (fun h => h1 pins s σ H x y v u Q I rx ry h) fun h => h2 pins s σ H x y v u Q I rx ry h
  refine ⟨_, h3, fun x y dx dy d H Q rx ry e q => ?_⟩
  rcases hg _ _ _ e with ⟨i, j, rfl, rfl, rfl⟩ | ⟨ho, rfl⟩
  · cases rx; cases ry
    exact .inl ⟨_, _, rfl, rfl, q _ (.bl _) rfl⟩
  · obtain ⟨a1, a2, a3, a4, a5⟩ := ord_ok (K := X.K) ho rx ry
    exact .inr ⟨_, _, a1, a2, a3, a4, a5, q _ (.bl _) rfl⟩
theorem o_lt (hu : X.A.units + 64 < cLine) : OpC X (compareOp .Lt) gLt := o_ord op_lt (op_ord (f := fun d e => PySem.W.dataLt d e) hu fun r1 r2 a n u q => PySem.W.lt_data r1 r2 a n u q) fun x y d h => by
  unfold gLt at h
  split at h
  · cases h; exact .inl ⟨_, _, rfl, rfl, rfl⟩
  · split at h
    · rename_i ho; cases h; exact .inr ⟨ho, rfl⟩
    · cases h
/-- is None -/
def gIsN : D → Res D := fun d => .ok (.bl (match d with | .non => true | _ => false))
def gNotN : D → Res D := fun d => .ok (.bl (match d with | .non => false | _ => true))
variable {a b e : Expr} {ma mb m : Env → Res D} {pos : Pos} {k : Nat}
/-! ### truth -/
def gTru : D → Res Bool
  | .non => .ok false
  | .bl b => .ok b
  | .int i => .ok (i != 0)
  | .str z => if z.length ≤ sizeLine then .ok ((z.length : Int) != 0) else .bad
  | .lst xs => .ok (!xs.isEmpty)
  | .tup xs => .ok (!xs.isEmpty)
  | _ => .bad
/-! ### subscripts -/
def gIx : D → D → Res D
  | .lst xs, .int i => match atI xs i with | some d => .ok d | none => .bad
  | .tup xs, .int i => match atI xs i with | some d => .ok d | none => .bad
  | .str z, .int i => if z.length ≤ sizeLine then (match atI z.cps.toList i with | some c => .ok (.str ⟨#[c]⟩) | none => .bad) else .bad
  | _, _ => .bad
theorem atI_rp {G : Hp} {vs : List V} {ds : List D} {i : Int} {d : D} (r : RpAll G vs ds) (h : atI ds i = some d) : ∃ v, atI vs i = some v ∧ Rp G v d := by
  unfold atI at h ⊢
  rw [r.length]
  cases e : ixN ds.length i with
  | none => rw [e] at h; cases h
  | some j =>
    rw [e] at h
    exact r.get (show ds[j]? = some d from h)
theorem sb_ix (ha : SB X a ma) (hb : SB X b mb) (hs : PlainIx b) : SB X (.Subscript a b pos) (mOp gIx ma mb) := fun B H env σ tm d Q ok hm q => by
  obtain ⟨x, y, hx, hy, hg⟩ := two hm
  refine wE_of (pe_ix ix_seq pe_sem pe_sem hs) (sb2 ha hb ok hx hy fun v u H' x' ok' r1 r2 => ?_)
  unfold gIx at hg
  split at hg
  · cases r1 with
    | lst h r =>
      cases r2
      split at hg
      · rename_i d' he
        cases hg
        obtain ⟨z, hz, rz⟩ := atI_rp r he
        exact .inl ⟨_, _, _, _, rfl, rfl, .inl (view_rd h), hz, q z H' x' ok' rz⟩
      · cases hg
  · cases r1 with
    | tup h r =>
      cases r2
      split at hg
      · rename_i d' he
        cases hg
        obtain ⟨z, hz, rz⟩ := atI_rp r he
        exact .inr (.inl ⟨_, _, _, _, rfl, rfl, .inl (view_rd h), hz, q z H' x' ok' rz⟩)
      · cases hg
  · cases r1
    cases r2
    split at hg
    · rename_i hl
      split at hg
      · rename_i c he
        cases hg
        exact .inr (.inr ⟨_, _, c, rfl, rfl, hl, he, q _ H' x' ok' (.str _)⟩)
      · cases hg
    · cases hg
  · cases hg
theorem lev_get {vs : List V} {ds : List D} {k i : Nat} {v : V} {d : D} (h1 : vs[i]? = some v) (h2 : ds[i]? = some d) : ∃ l, (lev k vs ds).Perm ((v, k, d) :: l) := by
  have : (v, k, d) ∈ lev k vs ds := by
    unfold lev
    rw [List.mem_iff_getElem?]
    exact ⟨i, by rw [List.getElem?_zipWith, h1, h2]⟩
  obtain ⟨l1, l2, e⟩ := List.append_of_mem this
  exact ⟨l1 ++ l2, by rw [e]; exact List.perm_middle⟩
end
end Mir

namespace Mir
open PySem PySem.Spec L2

def wG (X : Cx) (tg : Expr) : TG := fun v σ H Q => ∀ (pins : List (Addr × Obj)) (s : Shared) (u : Value), Inv X pins σ H s → RelV v u → wpAny (model X.prog X.w) X.A (assign tg X.env u) (fun _ s' => ∃ σ' H', Inv X pins σ' H' s' ∧ Q σ' H') X.xe s
theorem pg_sem {X : Cx} {tg : Expr} : PG X tg (wG X tg) := ⟨fun pins s σ H v u Q I r h => h pins s u I r⟩
theorem wG_of {X : Cx} {tg : Expr} {t : TG} (h : PG X tg t) {v : V} {σ : St} {H : Hp} {Q : St → Hp → Prop} (ht : t v σ H Q) : wG X tg v σ H Q := fun pins s u I r => h.run pins s σ H v u Q I r ht
def wI (X : Cx) (tg it : Expr) : TI := fun σ H R => ∀ (pins : List (Addr × Obj)) (s : Shared), Inv X pins σ H s → wpAny (model X.prog X.w) X.A (eval it X.env) (fun v s1 => wpAny (model X.prog X.w) X.A (pyIter v) (PIE X pins σ tg R) X.xe s1) X.xe s
theorem pi_sem {X : Cx} {tg it : Expr} : PI X tg it (wI X tg it) := ⟨fun pins s σ H R I h => h pins s I⟩
theorem wI_of {X : Cx} {tg it : Expr} {t : TI} (h : PI X tg it t) {σ : St} {H : Hp} {R : It → Hp → Prop} (ht : t σ H R) : wI X tg it σ H R := fun pins s I => h.run pins s σ H R I ht

/-- a target: what stands in the hand goes into the slots -/
def Off (is : List Nat) (σ σ' : St) : Prop := σ'.length = σ.length ∧ ∀ j, j ∉ is → σ'[j]? = σ[j]?
def STg (X : Cx) (tg : Expr) (is : List Nat) (m : Nat → D → Env → Res Env) : Prop := ∀ (k : Nat) (B : Bs) (H : Hp) (env : Env) (σ : St) (tm : List Hold) (d : D) (v : V) (env' : Env) (Q : St → Hp → Prop), EnvOk B H env σ ((v, k, d) :: tm) → m k d env = .ok env' →
  (∀ σ', Off is σ σ' → EnvOk B H env' σ' tm → Q σ' H) → wG X tg v σ H Q
def tName (i : Nat) : Nat → D → Env → Res Env := fun k d env => if i < env.length then .ok (env.set i (some (k, d))) else .bad
theorem tg_name {X : Cx} {tg : Expr} {i : Nat} (h : PG X tg (gName i)) : STg X tg [i] (tName i) := fun k B H env σ tm d v env' Q ok hm q => by
  unfold tName at hm
  split at hm
  · rename_i hi
    cases hm
    exact wG_of h (q _ ⟨by simp, fun j hj => by rw [List.getElem?_set_ne (fun z => hj (by simp [z]))]⟩ (ok.store hi))
  · cases hm
def tNil : Nat → List D → Env → Res Env := fun _ ds env => match ds with
  | [] => .ok env
  | _ => .bad
def tCons (t : Nat → D → Env → Res Env) (u : Nat → List D → Env → Res Env) : Nat → List D → Env → Res Env := fun k ds env => match ds with
  | d :: r => t k d env >>= fun e => u k r e
  | _ => .bad
section
variable {X : Cx} {e a b tg it : Expr} {m ma mb : Env → Res D} {k : Nat} {cs : List Nat} {pos : Pos}
/-- a tuple, taken apart -/
def tTupT (n : Nat) (u : Nat → List D → Env → Res Env) : Nat → D → Env → Res Env := fun k d env => match d with
  | .tup ds => if ds.length = n then u (k - 1) ds env else .bad
  | _ => .bad
/-! ### statements -/
def Post (kr : Nat) (B : Bs) (tm : List Hold) (D : Ends) : Ctl → Prop
  | .nx e => ∀ σ' H', EnvOk B H' e σ' tm → D.nx σ' H'
  | .bk e => ∀ σ' H', EnvOk B H' e σ' tm → D.bk σ' H'
  | .ct e => ∀ σ' H', EnvOk B H' e σ' tm → D.ct σ' H'
  | .rt d => ∀ v H', EnvOk B H' [] [] ((v, kr, d) :: tm) → D.rt v H'
def S1 (X : Cx) (kr : Nat) (st : Stmt) (m : Env → Res Ctl) : Prop := ∀ (B : Bs) (H : Hp) (env : Env) (σ : St) (tm : List Hold) (D : Ends) (r : Ctl), EnvOk B H env σ tm → m env = .ok r → Post kr B tm D r → wS X st D σ H
def SS (X : Cx) (kr : Nat) (ss : List Stmt) (m : Env → Res Ctl) : Prop := ∀ (B : Bs) (H : Hp) (env : Env) (σ : St) (tm : List Hold) (D : Ends) (r : Ctl), EnvOk B H env σ tm → m env = .ok r → Post kr B tm D r → wB X ss D σ H
variable {kr : Nat} {st : Stmt} {ss : List Stmt} {m1 m2 : Env → Res Ctl}
def mSkip : Env → Res Ctl := fun env => .ok (.nx env)
def mSeq (m n : Env → Res Ctl) : Env → Res Ctl := fun env => m env >>= fun c => match c with
  | .nx e => n e
  | c => .ok c
theorem ss_nil : SS X kr [] mSkip := fun B H env σ tm D r ok hm p => by
  cases hm
  exact wB_of pss_nil (p σ H ok)
theorem ss_cons (h1 : S1 X kr st m1) (h2 : SS X kr ss m2) : SS X kr (st :: ss) (mSeq m1 m2) := fun B H env σ tm D r ok hm p => by
  obtain ⟨c, hc, hd⟩ := bind_ok hm
  refine wB_of (pss_cons ps_sem pss_sem) (h1 B H env σ tm { D with nx := wB X ss D } c ok hc ?_)
  cases c with
  | nx e => exact fun σ' H' ok' => h2 B H' e σ' tm D r ok' hd p
  | bk e => cases hd; exact p
  | ct e => cases hd; exact p
  | rt d => cases hd; exact p
theorem ss_one (h1 : S1 X kr st m1) : SS X kr [st] m1 := fun B H env σ tm D r ok hm p => wB_of (pss_one ps_sem) (h1 B H env σ tm D r ok hm p)
/-- something is forgotten ahead of a block -/
def mForget (is : List Nat) (m : Env → Res Ctl) : Env → Res Ctl := fun env => m (clear env is)
/-- a slot is shared from here on -/
def fz (i : Nat) (env : Env) : Env := match env[i]? with
  | some (some (_, d)) => env.set i (some (0, d))
  | _ => env
theorem EnvOk.fz {B : Bs} {H : Hp} {env : Env} {σ : St} {tm : List Hold} (h : EnvOk B H env σ tm) (i : Nat) : EnvOk B H (fz i env) σ tm := by
  unfold Mir.fz
  split
  · rename_i k d e
    obtain ⟨v, hv⟩ := h.has i _ e
    have hi : i < env.length := (List.getElem?_eq_some_iff.mp e).1
    have h1 := ((h.move e hv).freeze).store (i := i) (by simpa using hi)
    rw [List.set_set, set_self hv] at h1
    exact h1
  · exact h
def mFz (i : Nat) (m : Env → Res Ctl) : Env → Res Ctl := fun env => m (fz i env)
def mSet (i k : Nat) (cs : List Nat) (m : Env → Res D) : Env → Res Ctl := fun env => m env >>= fun d => tName i k d (clear env cs) >>= fun e => .ok (.nx e)
theorem s_set {i : Nat} {x : Str} {pos' : Pos} (hN : X.N.Nodup) (hi : X.N[i]? = some x) (hx : Loc X.env.scope x) (he : SE X k cs e m) (hs : swapsWith e (some (.Name x pos')) pos.line X.env = pure false := by rfl)
    (hf : X.fn x = true ∨ X.env.scope.names.lookup x = some .local := by first | exact .inl rfl | exact .inr rfl | assumption) : S1 X kr (.Assign [.Name x pos'] e pos) (mSet i k cs m) := fun B H env σ tm D r ok hm p => by
  obtain ⟨d, hd, h2⟩ := bind_ok hm
  obtain ⟨e', h3, h4⟩ := bind_ok h2
  cases h4
  unfold tName at h3
  split at h3
  · rename_i hl
    cases h3
    exact wS_of (ps_set hN hi hx pe_sem hs hf) (he B H env σ tm d _ ok hd fun v H' x' ok' => p _ _ (ok'.store hl))
  · cases h3
theorem EnvOk.noSlots {B : Bs} {H : Hp} {env : Env} {σ : St} {tm : List Hold} (h : EnvOk B H env σ tm) : EnvOk B H [] [] tm := by
  obtain ⟨⟨G, fp, g, hs, nd, hp⟩, h2, h3⟩ := h
  have h' : EnvOk B H [] [] (slots env σ ++ tm) := ⟨⟨G, fp, g, hs, nd, hp⟩, rfl, fun i kd e => by simp at e⟩
  exact h'.less
def mRet (m : Env → Res D) : Env → Res Ctl := fun env => m env >>= fun d => .ok (.rt d)
theorem s_ret (he : SE X kr cs e m) : S1 X kr (.Return (some e) pos) (mRet m) := fun B H env σ tm D r ok hm p => by
  obtain ⟨d, hd, h2⟩ := bind_ok hm
  cases h2
  exact wS_of (ps_ret pe_sem) (he B H env σ tm d _ ok hd fun v H' x' ok' => p v H' ok'.noSlots)
theorem s_if {c : Expr} {as bs : List Stmt} {t : Env → Res Bool} (hc : ST X c t) (ha : SS X kr as m1) (hb : SS X kr bs m2) : S1 X kr (.If c as bs pos) (mIf t m1 m2) := fun B H env σ tm D r ok hm p => by
  obtain ⟨b, hb', h2⟩ := bind_ok hm
  refine wS_of (ps_if pt_sem pss_sem pss_sem) (hc B H env σ tm b _ ok hb' fun H' x' ok' => ?_)
  cases b with
  | true => rw [if_pos rfl] at h2 ⊢; exact ha B H' env σ tm D r ok' h2 p
  | false => exact hb B H' env σ tm D r ok' h2 p
/-! ### for -/
/-- what an iterator gives, while what it leans on is held -/
def Yields (B : Bs) (J : It) (ex : List Hold) (ds : List D) : Prop := ∀ (i : Nat) (H : Hp) (env : Env) (σ : St) (tm : List Hold), EnvOk B H env σ (ex ++ tm) → (i = ds.length → J.stop i H) ∧ (i < ds.length → J.go i H ∧
  ∀ x H', J.yld i H x H' → ∃ d, ds[i]? = some d ∧ Ext H H' ∧ EnvOk B H' env σ ((x, 0, d) :: (ex ++ tm)))
def SI (X : Cx) (tg it : Expr) (m : Env → Res (List D)) : Prop := ∀ (B : Bs) (H : Hp) (env : Env) (σ : St) (tm : List Hold) (ds : List D) (R : It → Hp → Prop), EnvOk B H env σ tm → m env = .ok ds →
  (∀ J H' ex, Ext H H' → EnvOk B H' env σ (ex ++ tm) → Yields B J ex ds → R J H') → wI X tg it σ H R
def loop (t : Nat → D → Env → Res Env) (body : Env → Res Ctl) (fg : List Nat) : List D → Env → Res Ctl
  | [], env => .ok (.nx env)
  | x :: xs, env => t 0 x env >>= fun e1 => body e1 >>= fun c => match c with
    | .nx e => loop t body fg xs (clear e fg)
    | .ct e => loop t body fg xs (clear e fg)
    | .bk e => .ok (.nx (clear e fg))
    | .rt d => .ok (.rt d)
def mFor (m : Env → Res (List D)) (t : Nat → D → Env → Res Env) (body : Env → Res Ctl) (fg : List Nat) : Env → Res Ctl := fun env => m env >>= fun ds => loop t body fg ds env
theorem s_for {body : List Stmt} {mi : Env → Res (List D)} {t : Nat → D → Env → Res Env} {fg : List Nat} (hp : PassesOwn (model X.prog X.w) X.A X.env X.xe) (hc : X.calm = true) (hi : SI X tg it mi) {is : List Nat} (hg : STg X tg is t) (hb : SS X kr body m1)
    (hs : ∀ x, foldedSetIterable it X.env x = pure x := by intro _; rfl) : S1 X kr (.For tg it body [] pos) (mFor mi t m1 fg) := fun B H env σ tm D r ok hm p => by
  obtain ⟨ds, hd, hl⟩ := bind_ok hm
  refine wS_of (ps_for hp hc pi_sem pg_sem pss_sem hs) (hi B H env σ tm ds _ ok hd fun J H1 ex x1 ok1 Y => ?_)
  refine ⟨fun i m σ H => m = ds.length - i ∧ i ≤ ds.length ∧ ∃ env, EnvOk B H env σ (ex ++ tm) ∧ loop t m1 fg (ds.drop i) env = .ok r, ⟨ds.length, by simp, Nat.zero_le _, env, ok1, by simpa using hl⟩, ?_⟩
  rintro i n σ2 H2 ⟨rfl, hi2, env2, ok2, hr⟩
  obtain ⟨y1, y2⟩ := Y i H2 env2 σ2 tm ok2
  by_cases hlt : i < ds.length
  · obtain ⟨go, yl⟩ := y2 hlt
    refine .inr ⟨go, fun σ' H' => i + 1 ≤ ds.length ∧ ∃ env, EnvOk B H' env σ' (ex ++ tm) ∧ loop t m1 fg (ds.drop (i + 1)) env = .ok r, fun σ' H' ⟨h1, h2⟩ => ⟨ds.length - (i + 1), by omega, rfl, h1, h2⟩, fun x H3 hy => ?_⟩
    obtain ⟨d, hd2, x3, ok3⟩ := yl x H3 hy
    have hdr : ds.drop i = d :: ds.drop (i + 1) := by
      obtain ⟨h1, h2⟩ := List.getElem?_eq_some_iff.mp hd2
      rw [← h2]
      exact List.drop_eq_getElem_cons h1
    rw [hdr] at hr
    obtain ⟨e1, h3, h4⟩ := bind_ok hr
    obtain ⟨c, h5, h6⟩ := bind_ok h4
    refine hg 0 B H3 env2 σ2 (ex ++ tm) d x e1 _ ok3 h3 fun σ4 _ ok4 => ?_
    refine hb B H3 e1 σ4 (ex ++ tm) _ c ok4 h5 ?_
    cases c with
    | nx e => exact fun σ5 H5 ok5 => ⟨hlt, _, ok5.clear fg, h6⟩
    | ct e => exact fun σ5 H5 ok5 => ⟨hlt, _, ok5.clear fg, h6⟩
    | bk e =>
      cases h6
      exact fun σ5 H5 ok5 => p σ5 H5 ((ok5.clear fg).less)
    | rt d' =>
      cases h6
      refine fun v H5 ok5 => p v H5 (EnvOk.less (l := ex) (ok5.perm ?_))
      exact List.perm_middle.symm
  · have ei : i = ds.length := by omega
    refine .inl ⟨y1 ei, ?_⟩
    rw [ei, List.drop_length] at hr
    cases hr
    exact p σ2 H2 ok2.less

/-! ### iterators -/
def items : D → Res (List D)
  | .lst xs => .ok xs
  | .tup xs => .ok xs
  | _ => .bad
def itemsL : D → Res (List D)
  | .lst xs => .ok xs
  | _ => .bad
def itemsT : D → Res (List D)
  | .tup xs => .ok xs
  | _ => .bad
theorem EnvOk.item {B : Bs} {H : Hp} {env : Env} {σ : St} {tm : List Hold} {v x : V} {d y : D} {ds : List D} {vs : List V} {p : Addr} {i : Nat} (h : EnvOk B H env σ ((v, 0, d) :: tm)) (hd : d = .lst ds ∨ d = .tup ds) (ev : v = .ref p) (hp : view H p = some (.lst vs) ∨ view H p = some (.tup vs)) (hx : vs[i]? = some x) (hy : ds[i]? = some y) :
    EnvOk B H env σ ((x, 0, y) :: (v, 0, d) :: tm) := by
  obtain ⟨q, o, ws, ev', hq, hl, f1, f2, _, _, ra, ok⟩ := h.items (ds := ds) (hd.imp id .inl)
  rw [ev] at ev'
  cases ev'
  have ew : ws = vs := by
    rcases hd with rfl | rfl
    · rw [f1 rfl] at hq
      rcases hp with hp | hp <;> rw [hq] at hp <;> cases hp
      rfl
    · rw [f2 rfl] at hq
      rcases hp with hp | hp <;> rw [hq] at hp <;> cases hp
      rfl
  subst ew
  obtain ⟨l, hp'⟩ := lev_get (k := 0) hx hy
  refine EnvOk.less (l := l) (ok.perm ((hp'.append_right _).trans ?_))
  exact (List.perm_middle (l₁ := l) (a := (x, 0, y)) (l₂ := (v, 0, d) :: tm)).symm
def intsD (lo : Int) (n : Nat) : List D := (List.range n).map fun i => .int (lo + (i : Nat))
def rangeOk (i : Int) : Bool := decide (-(2 ^ 62) ≤ i) && decide (i < 2 ^ 62)
def gRng1 : D → Res (List D)
  | .int j => if rangeOk j then .ok (intsD 0 j.toNat) else .bad
  | _ => .bad
theorem rangeOk_iff {i : Int} : rangeOk i = true ↔ -(2 ^ 62) ≤ i ∧ i < 2 ^ 62 := by
  unfold rangeOk
  rw [Bool.and_eq_true, decide_eq_true_eq, decide_eq_true_eq]
theorem yields_range {B : Bs} {lo : Int} {n : Nat} : Yields B (Itr lo n) [] (intsD lo n) := fun i H env σ tm ok => by
  have hl : (intsD lo n).length = n := by unfold intsD; simp
  rw [hl]
  refine ⟨fun e => Nat.le_of_eq e.symm, fun hi => ⟨hi, fun x H' hy => ?_⟩⟩
  obtain ⟨rfl, rfl⟩ := hy
  refine ⟨.int (lo + i), ?_, Ext.refl _, ok.imm (.int _) rfl⟩
  unfold intsD
  rw [List.getElem?_map, List.getElem?_range hi]
  rfl
theorem si_range1 {p : Pos} (hg : Gl X "range") (hm : X.mg "range" = none) (ha : SB X a ma) (hs : starEach [a] X.env = [(false, eval a X.env)] := by rfl) : SI X tg (.Call (.Name "range" p) [a] [] pos) (fun env => ma env >>= gRng1) := fun B H env σ tm ds R ok hm' q => by
  obtain ⟨d, hd, h2⟩ := bind_ok hm'
  unfold gRng1 at h2
  split at h2
  · split at h2
    · rename_i hr
      cases h2
      obtain ⟨r1, r2⟩ := rangeOk_iff.mp hr
      refine wI_of (pi_range1 hg hm (pa_cons pe_sem pa_nil (by rw [hs]; rfl)) hs) (ha B H env σ tm _ _ ok hd fun v H1 x1 ok1 rv => ?_)
      cases rv
      exact ⟨_, rfl, r1, r2, q _ H1 [] x1 ok1 yields_range⟩
    · cases h2
  · cases h2
end
end Mir

namespace Mir
open PySem PySem.Spec L2

theorem slots_cong : ∀ {env : Env} {σ σ' : St}, σ'.length = σ.length → (∀ (j : Nat) kd, env[j]? = some (some kd) → σ'[j]? = σ[j]?) → slots env σ' = slots env σ
  | [], σ, σ', _, _ => by cases σ <;> cases σ' <;> rfl
  | x :: e, [], [], _, _ => rfl
  | x :: e, [], _ :: _, h, _ => by simp at h
  | x :: e, _ :: _, [], h, _ => by simp at h
  | none :: e, y :: s, y' :: s', hl, h => by
    have ih := slots_cong (env := e) (σ := s) (σ' := s') (by simpa using hl) (fun j kd hj => by simpa using h (j + 1) kd (by simpa using hj))
    cases y <;> cases y' <;> exact ih
  | some kd :: e, y :: s, y' :: s', hl, h => by
    have ih := slots_cong (env := e) (σ := s) (σ' := s') (by simpa using hl) (fun j kd hj => by simpa using h (j + 1) kd (by simpa using hj))
    have e0 : y' = y := by simpa using h 0 kd rfl
    subst e0
    obtain ⟨k, d⟩ := kd
    cases y' with
    | none => exact ih
    | some v => exact congrArg (List.cons _) ih
theorem EnvOk.cong {B : Bs} {H : Hp} {env : Env} {σ σ' : St} {tm : List Hold} (h : EnvOk B H env σ tm) (hl : σ'.length = σ.length) (hs : ∀ (j : Nat) kd, env[j]? = some (some kd) → σ'[j]? = σ[j]?) : EnvOk B H env σ' tm := by
  obtain ⟨⟨G, fp, g, hh, nd, hp⟩, h2, h3⟩ := h
  exact ⟨⟨G, fp, g, by rw [slots_cong hl hs]; exact hh, nd, hp⟩, h2.trans hl.symm, fun i kd e => by rw [hs i kd e]; exact h3 i kd e⟩
theorem wipe_len : ∀ (σ : St) (vs : List Nat), (wipe σ vs).length = σ.length
  | _, [] => rfl
  | σ, v :: vs => by unfold wipe; rw [List.length_set, wipe_len σ vs]
theorem wipe_get : ∀ (σ : St) (vs : List Nat) (j : Nat), (wipe σ vs)[j]? = if j ∈ vs then (σ[j]?).map (fun _ => none) else σ[j]?
  | σ, [], j => by simp [wipe]
  | σ, v :: vs, j => by
    unfold wipe
    rw [List.getElem?_set]
    by_cases e : v = j
    · subst e
      rw [if_pos rfl, if_pos List.mem_cons_self, wipe_len]
      by_cases h : v < σ.length
      · rw [if_pos h, List.getElem?_eq_getElem h]; rfl
      · rw [if_neg h, List.getElem?_eq_none (by omega)]; rfl
    · rw [if_neg e, wipe_get σ vs j]
      have : (j ∈ v :: vs) ↔ j ∈ vs := by simp [Ne.symm e]
      by_cases h : j ∈ vs
      · rw [if_pos h, if_pos (this.mpr h)]
      · rw [if_neg h, if_neg fun z => h (this.mp z)]
theorem clear_get : ∀ (is : List Nat) (env : Env) (j : Nat), (clear env is)[j]? = if j ∈ is then (env[j]?).map (fun _ => none) else env[j]?
  | [], env, j => by simp [clear]
  | i :: is, env, j => by
    unfold clear
    rw [clear_get is, List.getElem?_set]
    by_cases e : i = j
    · subst e
      rw [if_pos rfl, if_pos List.mem_cons_self]
      by_cases h : i < env.length
      · rw [if_pos h, List.getElem?_eq_getElem h]
        split <;> rfl
      · rw [if_neg h, List.getElem?_eq_none (by omega)]
        split <;> rfl
    · rw [if_neg e]
      have : (j ∈ i :: is) ↔ j ∈ is := by simp [Ne.symm e]
      by_cases h : j ∈ is
      · rw [if_pos h, if_pos (this.mpr h)]
      · rw [if_neg h, if_neg fun z => h (this.mp z)]
/-- a target's mirror changes just its slots -/
def TgOk (is : List Nat) (t : Nat → D → Env → Res Env) : Prop := ∀ k d env env', t k d env = .ok env' → env'.length = env.length ∧ ∀ j, j ∉ is → env'[j]? = env[j]?
theorem tok_name {i : Nat} : TgOk [i] (tName i) := fun k d env env' h => by
  unfold tName at h
  split at h
  · cases h
    exact ⟨by simp, fun j hj => by rw [List.getElem?_set_ne (fun z => hj (by simp [z]))]⟩
  · cases h
theorem wipe_off {σ σ' : St} {vs is : List Nat} (o : Off is (wipe σ vs) σ') (hs : ∀ i ∈ is, i ∈ vs) : wipe σ' vs = wipe σ vs := by
  refine List.ext_getElem? fun j => ?_
  rw [wipe_get, wipe_get]
  have hl : σ'.length = σ.length := o.1.trans (wipe_len σ vs)
  by_cases h : j ∈ vs
  · rw [if_pos h, if_pos h]
    by_cases hj : j < σ.length
    · rw [List.getElem?_eq_getElem hj, List.getElem?_eq_getElem (by omega)]; rfl
    · rw [List.getElem?_eq_none (by omega), List.getElem?_eq_none (by omega)]
  · rw [if_neg h, if_neg h, o.2 j fun z => h (hs j z), wipe_get, if_neg h]

/-! ### list comprehensions -/
section
variable {X : Cx} {e a b tg it elt : Expr} {m ma mb me : Env → Res D} {k : Nat} {cs : List Nat} {pos : Pos}
def SPT (X : Cx) (ifs : List Expr) (m : Env → Res Bool) : Prop := ∀ (B : Bs) (H : Hp) (env : Env) (σ : St) (tm : List Hold) (b : Bool) (Q : Bool → Hp → Prop), EnvOk B H env σ tm → m env = .ok b → (∀ H', Ext H H' → EnvOk B H' env σ tm → Q b H') →
  ∀ (pins : List (Addr × Obj)) (s : Shared), Inv X pins σ H s → wpAny (model X.prog X.w) X.A (forIn ifs true fun c r => if r = true then do let ok ← isTrue c X.env (eval c X.env); pure (ForInStep.yield ok) else pure (ForInStep.yield r)) (TP X pins σ Q) X.xe s
theorem spt_nil : SPT X [] (fun _ => .ok true) := fun B H env σ tm b Q ok hm q pins s I => by
  cases hm
  exact pts_nil.run pins s σ H Q I (q H (Ext.refl H) ok)
def lcLoop (t : Nat → D → Env → Res Env) (mt : Env → Res Bool) (me : Env → Res D) (env : Env) : List D → Res (List D)
  | [] => .ok []
  | x :: xs => t 0 x env >>= fun e1 => mt e1 >>= fun b => if b then me e1 >>= fun y => lcLoop t mt me env xs >>= fun ys => .ok (y :: ys) else lcLoop t mt me env xs
/-- the comprehension's own slots hold nothing -/
def noOwn (own : List Nat) (env : Env) : Bool := own.all fun i => match env[i]? with
  | some none => true
  | _ => false
def mLc (mi : Env → Res (List D)) (t : Nat → D → Env → Res Env) (mt : Env → Res Bool) (me : Env → Res D) (own : List Nat) : Env → Res D := fun env =>
  chk (noOwn own env) >>= fun _ => mi env >>= fun ds => lcLoop t mt me env ds >>= fun ys => if ys.length ≤ sizeLine then .ok (.lst ys) else .bad
theorem noOwn_iff {own : List Nat} {env : Env} (h : noOwn own env = true) : ∀ i ∈ own, env[i]? = some none := fun i hi => by
  unfold noOwn at h
  have := List.all_eq_true.mp h i hi
  cases q : env[i]? with
  | none => rw [q] at this; cases this
  | some x =>
    cases x with
    | none => rfl
    | some y => rw [q] at this; cases this
abbrev Blk (X : Cx) (scope : Scope) (P : Cx → Prop) : Prop := ∀ (s : Shared) (H : Hp) (C : Addr) (cl : List (Str × Addr)) (fp : List Addr), P (X.blk s H scope (compEnvC scope cl C X.env) fp)
/-- the reading of the comprehension, at its mirror -/
theorem lc_read {wi : TI} {B : Bs} {H : Hp} {env : Env} {σ : St} {tm : List Hold} {own is : List Nat} {scope : Scope} {ifs : List Expr} {mi : Env → Res (List D)} {t : Nat → D → Env → Res Env} {mt : Env → Res Bool} {d : D} {Q : VK}
    (hi : ∀ (ds : List D) (R : It → Hp → Prop), mi env = .ok ds → (∀ J H' ex, Ext H H' → EnvOk B H' env σ (ex ++ tm) → Yields B J ex ds → R J H') → wi σ H R) (hg : Blk X scope fun Y => STg Y tg is t) (htg : TgOk is t) (his : ∀ i ∈ is, i ∈ own) (ht : Blk X scope fun Y => SPT Y ifs mt) (he : Blk X scope fun Y => SE Y k [] elt me) (ok : EnvOk B H env σ tm) (hm : mLc mi t mt me own env = .ok d)
    (q : ∀ v H', Ext H H' → EnvOk B H' env σ ((v, k + 1, d) :: tm) → Q v H') :
    tLc wi (fun v σ H Q => Blk X scope fun Y => wG Y tg v σ H Q) (fun σ H Q => Blk X scope fun Y => ∀ (pins : List (Addr × Obj)) (s : Shared), Inv Y pins σ H s → wpAny (model Y.prog Y.w) Y.A (forIn ifs true fun c r => if r = true then do let ok ← isTrue c Y.env (eval c Y.env); pure (ForInStep.yield ok) else pure (ForInStep.yield r)) (TP Y pins σ Q) Y.xe s)
      (fun σ H Q => Blk X scope fun Y => wE Y elt σ H Q) own σ H Q := by
  obtain ⟨u, hc, h2⟩ := bind_ok hm
  have hno := noOwn_iff (chk_ok hc)
  obtain ⟨ds, hds, h3⟩ := bind_ok h2
  obtain ⟨ys, hys, h4⟩ := bind_ok h3
  by_cases hl : ys.length ≤ sizeLine
  · rw [if_pos hl] at h4
    cases h4
    have offOwn : ∀ (j : Nat) kd, env[j]? = some (some kd) → j ∉ own := fun j kd e z => by rw [hno j z] at e; cases e
    refine hi ds _ hds fun J H1 ex x1 ok1 Y L hD => ?_
    have ok1' : EnvOk B H1 env (wipe σ own) (ex ++ tm) := ok1.cong (wipe_len _ _) fun j kd e => by rw [wipe_get, if_neg (offOwn j kd e)]
    have ok2 : EnvOk B (upd H1 L (.lst [])) env (wipe σ own) ((.ref L, k + 1, .lst []) :: (ex ++ tm)) := EnvOk.newLst (vs := []) (ds := []) ok1' rfl hD
    refine ⟨fun i m H' => m = ds.length - i ∧ i ≤ ds.length ∧ Ext H1 (del H' L) ∧ ∃ acc rest, ys = acc ++ rest ∧ lcLoop t mt me env (ds.drop i) = .ok rest ∧ EnvOk B H' env (wipe σ own) ((.ref L, k + 1, .lst acc) :: (ex ++ tm)), ⟨ds.length, by simp, Nat.zero_le _, fun a o e => ?_, [], ys, rfl, by simpa using hys, ok2⟩, ?_⟩
    · rw [del_ne (ne_of_none e hD), upd_ne (ne_of_none e hD)]; exact e
    rintro i n H2 ⟨rfl, hi2, x2, acc, rest, ey, hr, ok3⟩
    have swp : ∀ {H : Hp} {x : Hold}, EnvOk B H env (wipe σ own) (x :: (ex ++ tm)) → EnvOk B H env (wipe σ own) (ex ++ x :: tm) := fun h => h.perm List.perm_middle.symm
    obtain ⟨y1, y2⟩ := Y i H2 env (wipe σ own) _ (swp ok3)
    by_cases hlt : i < ds.length
    · obtain ⟨go, yl⟩ := y2 hlt
      refine .inr ⟨go, fun H' => i + 1 ≤ ds.length ∧ Ext H1 (del H' L) ∧ ∃ acc rest, ys = acc ++ rest ∧ lcLoop t mt me env (ds.drop (i + 1)) = .ok rest ∧ EnvOk B H' env (wipe σ own) ((.ref L, k + 1, .lst acc) :: (ex ++ tm)), fun H' ⟨h1, h2, h3⟩ => ⟨ds.length - (i + 1), by omega, rfl, h1, h2, h3⟩, fun x H3 hy => ?_⟩
      obtain ⟨d, hd2, x3, ok4⟩ := yl x H3 hy
      have hdr : ds.drop i = d :: ds.drop (i + 1) := by
        obtain ⟨h1, h2⟩ := List.getElem?_eq_some_iff.mp hd2
        rw [← h2]
        exact List.drop_eq_getElem_cons h1
      rw [hdr] at hr
      obtain ⟨e1, g1, hr⟩ := bind_ok hr
      obtain ⟨b, g2, hr⟩ := bind_ok hr
      have xd : ∀ {Ha Hb : Hp}, Ext Ha Hb → Ext H1 (del Ha L) → Ext H1 (del Hb L) := fun {Ha Hb} p r a o e => by
        have ha : a ≠ L := ne_of_none e hD
        have := r a o e
        rw [del_ne ha] at this ⊢
        exact p a o this
      intro sX HX CX clX fpX
      refine hg sX HX CX clX fpX 0 B H3 env (wipe σ own) (ex ++ (V.ref L, k + 1, D.lst acc) :: tm) d x e1 _ ok4 g1 fun σ4 o4 ok5 => ⟨wipe_off o4 his, ?_⟩
      intro sY HY CY clY fpY pins s I
      refine ht sY HY CY clY fpY B H3 e1 σ4 (ex ++ (V.ref L, k + 1, D.lst acc) :: tm) b _ ok5 g2 (fun H5 x5 ok6 => ?_) pins s I
      -- back to the frame's env
      obtain ⟨tl, tk⟩ := htg _ _ _ _ g1
      have ec : clear e1 own = env := List.ext_getElem? fun j => by
        rw [clear_get]
        by_cases h : j ∈ own
        · rw [if_pos h, hno j h]
          have hj : j < env.length := (List.getElem?_eq_some_iff.mp (hno j h)).1
          rw [List.getElem?_eq_getElem (by omega)]; rfl
        · rw [if_neg h, tk j fun z => h (his j z)]
      have back : ∀ {H : Hp} {tm : List Hold}, EnvOk B H e1 σ4 tm → EnvOk B H env (wipe σ own) tm := fun {H tm} h => by
        have h1 := h.clear own
        rw [ec] at h1
        exact h1.cong (by rw [o4.1]) fun j kd e => (o4.2 j fun z => offOwn j kd e (his j z)).symm
      cases b with
      | false =>
        refine (show i + 1 ≤ ds.length ∧ _ from ⟨hlt, xd (x3.trans x5) x2, acc, rest, ey, hr, (back ok6).perm List.perm_middle⟩)
      | true =>
        rw [if_pos rfl] at hr ⊢
        obtain ⟨y, g3, hr⟩ := bind_ok hr
        obtain ⟨rest', g4, hr⟩ := bind_ok hr
        cases hr
        intro sZ HZ CZ clZ fpZ
        refine he sZ HZ CZ clZ fpZ B H5 e1 σ4 (ex ++ (V.ref L, k + 1, D.lst acc) :: tm) y _ ok6 g3 fun v H6 x6 ok7 => ?_
        have ok8 : EnvOk B H6 env (wipe σ own) ((V.ref L, k + 1, D.lst acc) :: (v, k, y) :: (ex ++ tm)) := by
          have h1 : EnvOk B H6 env (wipe σ own) ((v, k, y) :: (ex ++ (V.ref L, k + 1, D.lst acc) :: tm)) := back ok7
          refine h1.perm ?_
          refine (List.Perm.cons _ (List.perm_middle (l₁ := ex) (a := (V.ref L, k + 1, D.lst acc)) (l₂ := tm))).trans (List.Perm.swap _ _ _)
        obtain ⟨vs, hL, hvl, ok9⟩ := ok8.takeLst
        have ok10 : EnvOk B (del H6 L) env (wipe σ own) (lev k (vs ++ [v]) (acc ++ [y]) ++ (ex ++ tm)) := by
          rw [lev_append [v] [y] hvl, List.append_assoc]
          exact ok9
        have ok11 := ok10.newLst (p := L) (by simp [hvl]) del_self
        rw [upd_del] at ok11
        refine ⟨vs, hL, ?_, hlt, fun a o e => ?_, acc ++ [y], rest', by rw [ey, List.append_assoc]; rfl, g4, ok11⟩
        · have : acc.length + (rest'.length + 1) ≤ sizeLine := by rw [ey] at hl; simpa using hl
          omega
        · have ha : a ≠ L := ne_of_none e hD
          have := xd (x3.trans (x5.trans x6)) x2 a o e
          rw [del_ne ha] at this ⊢
          rw [upd_ne ha]; exact this
    · have ei : i = ds.length := by omega
      refine .inl ⟨y1 ei, ?_⟩
      rw [ei, List.drop_length] at hr
      cases hr
      rw [List.append_nil] at ey
      subst ey
      refine q _ _ (fun a o e => ?_) ?_
      · have e1 := x1 a o e
        have := x2 a o e1
        rw [del_ne (ne_of_none e1 hD)] at this
        exact this
      · have ok5 := ok3.cong (σ' := σ) (wipe_len _ _).symm fun j kd e => by rw [wipe_get, if_neg (offOwn j kd e)]
        exact EnvOk.less (l := ex) (ok5.perm List.perm_middle.symm)
  · rw [if_neg hl] at h4; cases h4
theorem se_lc {own is : List Nat} {scope : Scope} {ifs : List Expr} {mi : Env → Res (List D)} {t : Nat → D → Env → Res Env} {mt : Env → Res Bool} (ow : List (Str × Nat)) (hc : X.calm = true) (hN : X.N.Nodup) (ok : BlkOk X.N X.env.scope scope ow) (eo : ow.map (·.2) = own)
    (hi : SI X tg it mi) (hg : Blk X scope fun Y => STg Y tg is t) (htg : TgOk is t) (his : ∀ i ∈ is, i ∈ own) (ht : Blk X scope fun Y => SPT Y ifs mt) (he : Blk X scope fun Y => SE Y k [] elt me)
    (hs : ∀ x, foldedSetIterable it X.env x = pure x := by intro _; rfl) : SE X (k + 1) [] (.ListComp elt [⟨tg, it, ifs, 0⟩] scope pos) (mLc mi t mt me own) := fun B H env σ tm d Q ok1 hm q => by
  subst eo
  exact wE_of (pe_lc hc hN pi_sem ok (fun s H C cl fp => ⟨fun pins s' σ H' v u Q I r h => h s H C cl fp pins s' u I r⟩) (fun s H C cl fp => ⟨fun pins s' σ H' Q I h => h s H C cl fp pins s' I⟩) (fun s H C cl fp => ⟨fun pins s' σ H' Q I h => h s H C cl fp pins s' I⟩) hs) (lc_read (fun ds R h q => hi B H env σ tm ds R ok1 h q) hg htg his ht he ok1 hm q)
end
end Mir

namespace Mir
open PySem PySem.Spec L2

section
variable {X : Cx}
theorem lstR {X : Cx} {pins : List (Addr × Obj)} {σ : St} {H : Hp} {s : Shared} {l : Addr} {xs : List V} (I : Inv X pins σ H s) (hH : Rd H l (.lst xs)) : xs.length ≤ sizeLine ∧ ∃ (its : List Value) (n : Nat), Vals xs its ∧ xs.length = its.length ∧ s.heap.get? l = some { cls := .type "list", data := .seq its.toArray n } := by
  obtain ⟨z, its, n, r, e⟩ := hH.ok I.hok
  exact ⟨z, its, n, r, r.length, e⟩
def rExtR : V → List V → Hp → VK → Prop := fun x vs H Q => ∃ l b xs zs, x = .ref l ∧ vs = [.ref b] ∧ H l = some (.lst xs) ∧ Rd H b (.lst zs) ∧ xs.length + zs.length ≤ sizeLine ∧ Q .non (upd H l (.lst (xs ++ zs)))
theorem mt_extR : MtM X "list.extend" rExtR := by
  intro pins s σ H x vs v us Q I rx rv h
  obtain ⟨l, b, xs, zs, rfl, rfl, hH, hB, hz, q⟩ := h
  cases rx
  obtain ⟨u, rfl, ru⟩ := rv.one
  cases ru
  obtain ⟨z, its, n, r, hl, e⟩ := I.lstM hH
  obtain ⟨z2, its2, n2, r2, hl2, e2⟩ := lstR I hB
  have hsz : its.toArray.size + its2.toArray.size ≤ sizeLine := by rw [List.size_toArray, List.size_toArray]; omega
  have hlong : ¬ (!its.toArray.isEmpty && Builtin.List.listTooLong (its.toArray.size + its2.toArray.size)) = true := by
    rw [notLongL hsz, Bool.and_false]
    exact Bool.false_ne_true
  refine call_meets F.slot_list_extend ⟨_, e, rfl⟩ F.entry_list_extend (F.args_list_extend_2 _ _)
    (AutoSeq1.list_extend_list_list_0 l its.toArray n b its2.toArray n2 hlong (by rw [List.size_toArray]; omega) (by omega)) ⟨e, e2, ?_⟩
  refine ⟨.non, _, I.lset (its' := its ++ its2) hH e (by simp) (r.append r2) ?_, rfl, q⟩
  rw [List.length_append]
  omega
end

/-! ### lists that are read as a whole: their items go to new lists -/
def Sel (vs : List V) (ds : List D) (ws : List V) (es : List D) : Prop := ws.length = es.length ∧ ∀ (i : Nat) w e, ws[i]? = some w → es[i]? = some e → ∃ j : Nat, vs[j]? = some w ∧ ds[j]? = some e
def Pick (k : Nat) (B : Bs) (H : Hp) (ex : List Hold) (vs : List V) (ds : List D) : Prop := ∀ (H' : Hp) (env : Env) (σ : St) (tm : List Hold), Ext H H' → EnvOk B H' env σ (ex ++ tm) → ∀ ws es, Sel vs ds ws es → EnvOk B H' env σ (lev k ws es ++ (ex ++ tm))
theorem Sel.tail {vs : List V} {ds : List D} {w : V} {e : D} {ws : List V} {es : List D} (h : Sel vs ds (w :: ws) (e :: es)) : Sel vs ds ws es := ⟨by simpa using h.1, fun i w' e' h1 h2 => h.2 (i + 1) w' e' (by simpa using h1) (by simpa using h2)⟩
theorem pick_imm {k : Nat} {B : Bs} {H : Hp} {vs : List V} {ds : List D} (r : RpAll (view H) vs ds) (hi : immAll ds = true) : Pick k B H [] vs ds := fun H' env σ tm x ok ws es => by
  have r' := x.rpAll r
  induction ws generalizing es with
  | nil => intro s; cases es with
    | nil => exact ok
    | cons => exact absurd s.1 (by simp)
  | cons w ws ih =>
    intro s
    cases es with
    | nil => exact absurd s.1 (by simp)
    | cons e es =>
      obtain ⟨j, h1, h2⟩ := s.2 0 w e rfl rfl
      obtain ⟨d, h3, h4⟩ := r'.get' h1
      rw [h2] at h3
      cases h3
      exact (ih es s.tail).imm h4 (immAll_iff.mp hi e (List.mem_of_getElem? h2))
theorem pick_sh {B : Bs} {H : Hp} {v : V} {d : D} {p : Addr} {vs : List V} {ds : List D} (hd : d = .lst ds ∨ d = .tup ds) (ev : v = .ref p) (hp : view H p = some (.lst vs) ∨ view H p = some (.tup vs)) : Pick 0 B H [(v, 0, d)] vs ds := fun H' env σ tm x ok ws es => by
  have hp' : view H' p = some (.lst vs) ∨ view H' p = some (.tup vs) := hp.imp (view_ext x _ _) (view_ext x _ _)
  induction ws generalizing es with
  | nil => intro s; cases es with
    | nil => exact ok
    | cons => exact absurd s.1 (by simp)
  | cons w ws ih =>
    intro s
    cases es with
    | nil => exact absurd s.1 (by simp)
    | cons e es =>
      obtain ⟨j, h1, h2⟩ := s.2 0 w e rfl rfl
      have h3 : EnvOk B H' env σ ((v, 0, d) :: (lev 0 ws es ++ tm)) := (ih es s.tail).perm List.perm_middle
      have h4 := EnvOk.item h3 hd ev hp' h1 h2
      refine h4.perm (List.Perm.cons _ ?_)
      exact (List.perm_middle (l₁ := lev 0 ws es) (a := (v, 0, d)) (l₂ := tm)).symm
/-- c: a list, a tuple -/
def SL (X : Cx) (k : Nat) (c : List V → HO) (e : Expr) (m : Env → Res (List D)) : Prop := ∀ (B : Bs) (H : Hp) (env : Env) (σ : St) (tm : List Hold) (ds : List D) (Q : VK), EnvOk B H env σ tm → m env = .ok ds →
  (∀ p vs H' ex, Ext H H' → view H' p = some (c vs) → vs.length = ds.length → RpAll (view H') vs ds → EnvOk B H' env σ (ex ++ tm) → Pick k B H' ex vs ds → Q (.ref p) H') → wE X e σ H Q
section
variable {X : Cx} {e a b : Expr} {m ma mb : Env → Res D} {k : Nat} {cs : List Nat} {pos : Pos}
def immL (ds : List D) : Res (List D) := if immAll ds then .ok ds else .bad
theorem sl_imm (h : SB X e m) : SL X k .lst e (fun env => m env >>= fun d => itemsL d >>= immL) := fun B H env σ tm ds Q ok hm q => by
  obtain ⟨d, hd, h2⟩ := bind_ok hm
  obtain ⟨ds', h3, h4⟩ := bind_ok h2
  unfold itemsL at h3
  split at h3
  · cases h3
    unfold immL at h4
    split at h4
    · rename_i hi
      cases h4
      refine h B H env σ tm _ _ ok hd fun v H1 x1 ok1 r => ?_
      cases r with
      | lst hv ra => exact q _ _ H1 [] x1 hv ra.length ra ok1 (pick_imm ra hi)
    · cases h4
  · cases h3
theorem sl_sh (h : SE X 0 [] e m) : SL X 0 .lst e (fun env => m env >>= itemsL) := fun B H env σ tm ds Q ok hm q => by
  obtain ⟨d, hd, h2⟩ := bind_ok hm
  unfold itemsL at h2
  split at h2
  · cases h2
    refine h B H env σ tm _ _ ok hd fun v H1 x1 ok1 => ?_
    have r := ok1.rp
    cases r with
    | lst hv ra => exact q _ _ H1 [_] x1 hv ra.length ra ok1 (pick_sh (.inl rfl) rfl (.inl hv))
  · cases h2
/-! ### slices -/
def SO (X : Cx) (o : Option Expr) (m : Env → Res (Option Int)) : Prop := ∀ (B : Bs) (H : Hp) (env : Env) (σ : St) (tm : List Hold) (i : Option Int) (Q : Option Int → Hp → Prop), EnvOk B H env σ tm → m env = .ok i → (∀ H', Ext H H' → EnvOk B H' env σ tm → Q i H') →
  ∀ (pins : List (Addr × Obj)) (s : Shared), Inv X pins σ H s → wpAny (model X.prog X.w) X.A (evalPart o X.env) (fun u s' => ∃ o H', Inv X pins σ H' s' ∧ IsPart u o ∧ Q o H') X.xe s
def wO (X : Cx) (o : Option Expr) : TO := fun σ H Q => ∀ (pins : List (Addr × Obj)) (s : Shared), Inv X pins σ H s → wpAny (model X.prog X.w) X.A (evalPart o X.env) (fun u s' => ∃ o H', Inv X pins σ H' s' ∧ IsPart u o ∧ Q o H') X.xe s
theorem po_sem {o : Option Expr} : PO X o (wO X o) := ⟨fun pins s _ _ _ I h => h pins s I⟩
theorem so_none : SO X none (fun _ => .ok none) := fun B H env σ tm i Q ok hm q pins s I => by
  cases hm
  exact po_none.run pins s σ H Q I (q H (Ext.refl H) ok)
def toI : D → Res Int
  | .int i => .ok i
  | _ => .bad
theorem toI_ok {d : D} {i : Int} (h : toI d = .ok i) : d = .int i := by
  cases d with
  | int j => cases h; rfl
  | _ => cases h
theorem so_some (h : SB X e m) : SO X (some e) (fun env => m env >>= toI >>= fun i => .ok (some i)) := fun B H env σ tm i Q ok hm q pins s I => by
  obtain ⟨j, hj, h2⟩ := bind_ok hm
  obtain ⟨d, hd, h3⟩ := bind_ok hj
  have := toI_ok h3
  subst this
  cases h2
  refine (po_some pe_sem).run pins s σ H Q I (h B H env σ tm _ _ ok hd fun v H1 x1 ok1 r => ?_)
  cases r
  exact ⟨j, rfl, q H1 x1 ok1⟩
def cutD (xs : List D) (lo hi : Option Int) : List D := (xs.drop (HT.sIx xs.length 0 lo)).take (HT.sIx xs.length xs.length hi - HT.sIx xs.length 0 lo)
def mSlice (m : Env → Res (List D)) (l u : Env → Res (Option Int)) : Env → Res D := fun env => m env >>= fun ds => l env >>= fun lo => u env >>= fun hi => .ok (.lst (cutD ds lo hi))
/-- a text's slice -/
def gCutS (z : D) (lo hi : Option Int) : Res D := match z with
  | .str z => if z.length ≤ sizeLine then .ok (.str (cutS z lo hi)) else .bad
  | _ => .bad
theorem sc_sliceS {lo hi : Option Expr} {p2 : Pos} {ml mu : Env → Res (Option Int)} (h : SB X e m) (hl : SO X lo ml) (hu : SO X hi mu) : SC X (.Subscript e (.Slice lo hi none p2) pos) (fun env => m env >>= fun z => ml env >>= fun lo => mu env >>= fun hi => gCutS z lo hi) := fun B H env σ tm d Q ok hm q => by
  obtain ⟨z, hz, h2⟩ := bind_ok hm
  obtain ⟨i, hi', h3⟩ := bind_ok h2
  obtain ⟨j, hj', h4⟩ := bind_ok h3
  unfold gCutS at h4
  split at h4
  · split at h4
    · rename_i hlz
      cases h4
      refine wE_of (pe_slice sl_str pe_sem po_sem po_sem) (h B H env σ tm _ _ ok hz fun v H1 x1 ok1 r => hl B H1 env σ tm i _ ok1 hi' fun H2 x2 ok2 => hu B H2 env σ tm j _ ok2 hj' fun H3 x3 ok3 => ?_)
      cases r
      exact ⟨_, rfl, hlz, q _ H3 (x1.trans (x2.trans x3)) ok3 (.str _) rfl⟩
    · cases h4
  · cases h4
/-- a tuple's slice, shorter than the tuple -/
def gCutT (ds : List D) (lo hi : Option Int) : Res D := if immAll ds && !(decide (HT.sIx ds.length 0 lo = 0) && decide (HT.sIx ds.length ds.length hi = ds.length)) then .ok (.tup (cutD ds lo hi)) else .bad
/-! ### lists joined, copied -/
theorem sel_refl {vs : List V} {ds : List D} (hl : vs.length = ds.length) : Sel vs ds vs ds := ⟨hl, fun i w e h1 h2 => ⟨i, h1, h2⟩⟩
/-- len(x) -/
def gLen : D → Res D
  | .lst xs => .ok (.int xs.length)
  | .tup xs => .ok (.int xs.length)
  | .str z => if z.length ≤ sizeLine then .ok (.int z.length) else .bad
  | _ => .bad
theorem sc_len {p : Pos} (hg : Gl X "len") (hm0 : X.mg "len" = none) (h : SB X e m) (he : starEach [e] X.env = (false, eval e X.env) :: starEach [] X.env := by rfl) (hpl : (backTo pos (starEach [] X.env)).any (·.1) = false := by rfl) : SC X (.Call (.Name "len" p) [e] [] pos) (mUn gLen m) := fun B H env σ tm d Q ok hm q => by
  obtain ⟨x, hx, h2⟩ := bind_ok hm
  refine wE_of (pe_callB call_len hg hm0 PySem.boot_len (pa_cons pe_sem pa_nil he) (by decide) (by decide) he hpl) (h B H env σ tm _ _ ok hx fun v H1 x1 ok1 r => ?_)
  cases r with
  | lst hv ra => cases h2; exact ⟨_, _, rfl, .inl ⟨_, .inl (view_rd hv), rfl⟩, by rw [ra.length]; exact q _ H1 x1 ok1 (.int _) rfl⟩
  | tup hv ra => cases h2; exact ⟨_, _, rfl, .inr ⟨_, .inl (view_rd hv), rfl⟩, by rw [ra.length]; exact q _ H1 x1 ok1 (.int _) rfl⟩
  | str z =>
    have h3 : (if z.length ≤ sizeLine then Res.ok (D.int z.length) else .bad) = .ok d := h2
    split at h3
    · rename_i hl
      cases h3
      exact ⟨_, _, rfl, ⟨hl, rfl⟩, q _ H1 x1 ok1 (.int _) rfl⟩
    · cases h3
  | _ => cases h2
end
end Mir

namespace Mir
open PySem PySem.Spec L2
open PyProof.Rows (envOfC)

/-! ### what a def promises -/
structure RetOk (kr : Nat) (G H H' : Hp) (v : V) (d : D) : Prop where
  ex : ∃ (G' : Hp) (fp : List Addr), Good ⟨H, G⟩ G' H' ∧ Od G' H' kr fp v d ∧ fp.Nodup ∧ ∀ p ∈ fp, H p = none ∧ G' p = none
def spF (kr n : Nat) (F : List D → Res D) : Sp := fun vs H Q _ => vs.length = n ∧ ∃ (G : Hp) (ds : List D) (d : D), Good ⟨H, G⟩ G H ∧ RpAll G vs ds ∧ F ds = .ok d ∧ ∀ v H', RetOk kr G H H' v d → Q v H'
/-- the mirror of a def: its body's mirror, run -/
def runD (n : Nat) (m : Env → Res Ctl) : List D → Res D := fun ds => m (ds.map (fun d => some (0, d)) ++ List.replicate (n - ds.length) none) >>= fun c => match c with
  | .rt d => .ok d
  | .nx _ => .ok .non
  | _ => .bad
theorem slots_start : ∀ (vs : List V) (ds : List D) (n : Nat), vs.length = ds.length → slots (ds.map (fun d => some (0, d)) ++ List.replicate n none) (vs.map some ++ List.replicate n none) = lev 0 vs ds
  | [], [], n, _ => by
    induction n with
    | zero => rfl
    | succ n ih => exact ih
  | v :: vs, d :: ds, n, h => congrArg (List.cons (v, 0, d)) (slots_start vs ds n (by simpa using h))
  | [], _ :: _, _, h => by simp at h
  | _ :: _, [], _, h => by simp at h
theorem hold_lev {G H : Hp} {vs : List V} {ds : List D} (r : RpAll G vs ds) : HoldAll G H (lev 0 vs ds) [] := by
  induction r using RpAll.rec (motive_1 := fun _ _ _ => True) with
  | nil => exact .nil
  | cons hr _ _ ih => exact HoldAll.cons (f := []) (g := []) (.of hr) ih
  | _ => trivial
section
variable {P : Program} {w : World} {K : PySem.W.Frag} {mg : Str → Option Value} {base : Heap}
/-- THE RULE for a def -/
theorem def_ok {x qual : Str} {st : Stmt} {f : Addr} {fd : FuncData} {N ps : List Str} {k kr : Nat} {m : Env → Res Ctl} {n : Nat} {FF : List D → Res D} (F : Fun K x qual st f fd) (S : FnScope N ps (defScope st)) (hn : ps.length = n) (hFF : FF = runD N.length m)
    (hb : ∀ (cdv : Value) (A : Around) (outer : List PySem.Env) (s : Shared) (H : Hp) (E : XK), Room k (A.deeper (envOfC qual (defScope st) s.heap.objs.size f cdv)) → SS (cxOf CX0 P w K mg base N qual (defScope st) f cdv A outer s H E).nox kr (defBody st) m) :
    FnOk P w K mg base CX0 (k + 1) f fd ps (spF kr n FF) := by
  subst hn hFF
  refine F.ok S (fun vs H Q E h => h.1) (fun cdv A outer s H vs Q E hr h => ?_)
  obtain ⟨hl, G, ds, d, hg, ra, hF, q⟩ := h
  have hlen := ra.length
  refine ⟨_, pss_sem, ?_⟩
  have hF' : (m (ds.map (fun d => some (0, d)) ++ List.replicate (N.length - ds.length) none) >>= fun c => match c with | .rt d => .ok d | .nx _ => .ok .non | _ => Res.bad) = .ok d := hF
  obtain ⟨c, hc, hd⟩ := bind_ok hF'
  have ok : EnvOk ⟨H, G⟩ H (ds.map (fun d => some (0, d)) ++ List.replicate (N.length - ds.length) none) (L2.start N vs) [] := by
    unfold L2.start
    rw [hlen]
    refine ⟨⟨G, [], hg, by rw [slots_start _ _ _ hlen, List.append_nil]; exact hold_lev ra, List.nodup_nil, fun p hp => by cases hp⟩, by simp [hlen], fun i kd e => ?_⟩
    by_cases hi : i < ds.length
    · have hv : i < (vs.map some).length := by rw [List.length_map]; omega
      rw [List.getElem?_append_left hv, List.getElem?_map, List.getElem?_eq_getElem (by omega)]
      exact ⟨_, rfl⟩
    · rw [List.getElem?_append_right (by simpa using hi), List.getElem?_replicate] at e
      split at e <;> cases e
  refine hb cdv A outer s H E hr ⟨H, G⟩ H _ _ [] _ c ok hc ?_
  have fin : ∀ {v : V} {H' : Hp} {e : Env} {σ : St}, EnvOk ⟨H, G⟩ H' e σ [(v, kr, d)] → Q v H' := fun {v H' e σ} ok' => by
    obtain ⟨⟨G', fp, g, hh, nd, hp⟩, _⟩ := ok'.noSlots
    have hh' : HoldAll G' H' [(v, kr, d)] fp := hh
    cases hh' with
    | @cons _ _ _ _ f1 g1 h1 h2 =>
      cases h2
      rw [List.append_nil] at nd hp
      exact q v H' ⟨G', f1, g, h1, nd, hp⟩
  cases c with
  | nx e =>
    cases hd
    exact fun σ' H' ok' => fin (ok'.imm (k := kr) .non rfl)
  | rt d' =>
    cases hd
    exact fun v H' ok' => fin ok'
  | bk e => cases hd
  | ct e => cases hd
end

/-! ### calls -/
mutual
/-- below the first k levels stands no list, no dict -/
def immAt : Nat → D → Bool
  | 0, d => d.imm
  | k + 1, .lst ds => immAtL k ds
  | k + 1, .tup ds => immAtL k ds
  | k + 1, .dk _ ds => immAtL k ds
  | k + 1, .dt _ ds => immAtL k ds
  | k + 1, .dn _ ds => immAtL k ds
  | _ + 1, _ => true
def immAtL : Nat → List D → Bool
  | _, [] => true
  | k, d :: ds => immAt k d && immAtL k ds
end
mutual
theorem Od.toImm {G G' H : Hp} (hT : ∀ a u, isIm u = true → G a = some u → G' a = some u) : ∀ {k : Nat} {f : List Addr} {v : V} {d : D}, Od G H k f v d → immAt k d = true → Od G' H k f v d
  | 0, _, _, _, .sh h r, e => .sh h (r.immTo hT (by simpa [immAt] using e))
  | k + 1, _, _, _, .sh h r, e => by
    rcases h with h | h
    · cases h
    · exact .sh (.inr h) (r.immTo hT h)
  | _, _, _, _, .lst h r, e => .lst h (OdAll.toImm hT r (by simpa [immAt] using e))
  | _, _, _, _, .tup h r, e => .tup h (OdAll.toImm hT r (by simpa [immAt] using e))
  | _, _, _, _, .dk h e1 r, e => .dk h e1 (OdAll.toImm hT r (by simpa [immAt] using e))
  | _, _, _, _, .dt h e1 r, e => .dt h e1 (OdAll.toImm hT r (by simpa [immAt] using e))
  | _, _, _, _, .dn h n q r, e => .dn h n (q.immTo hT (kNs_imm _)) (OdAll.toImm hT r (by simpa [immAt] using e))
theorem OdAll.toImm {G G' H : Hp} (hT : ∀ a u, isIm u = true → G a = some u → G' a = some u) : ∀ {k : Nat} {f : List Addr} {v : List V} {d : List D}, OdAll G H k f v d → immAtL k d = true → OdAll G' H k f v d
  | _, _, _, _, .nil, _ => .nil
  | _, _, _, _, .cons h r, e => by
    rw [immAtL, Bool.and_eq_true] at e
    exact .cons (Od.toImm hT h e.1) (OdAll.toImm hT r e.2)
end
theorem Good.ne {B : Bs} {G H : Hp} (g : Good B G H) {a : Addr} {u : HO} (e : G a = some u) : H a ≠ none := fun z => by
  have := g.gs a u e
  rw [view_none z] at this
  cases this
/-- what has come of a call, its arguments read -/
theorem EnvOk.retB {B : Bs} {H H' : Hp} {env : Env} {σ : St} {tm : List Hold} {kr : Nat} {v : V} {d : D} (ok : EnvOk B H env σ tm) (r : RetOk kr (view H) H H' v d) (hi : immAt kr d = true) : Ext H H' ∧ EnvOk B H' env σ ((v, kr, d) :: tm) := by
  obtain ⟨G', f, g, od, nd, hf⟩ := r.ex
  have x : Ext H H' := g.bs
  refine ⟨x, ?_⟩
  refine ok.grow x ok.bnone [(v, kr, d)] fun G1 g1 => ?_
  refine ⟨fun a => if H a = none then G' a else G1 a, f, fun a u e => ?_, fun a e => if_neg e, ⟨fun a o e => x a o (g1.bs a o e), fun a e => ?_, fun a u e => ?_, fun a xs im e => ?_, g.nf⟩, ?_, nd, fun p hp => ?_⟩
  · show (if H a = none then G' a else G1 a) = some u
    rw [if_neg (g1.ne e)]; exact e
  · show (if H a = none then G' a else G1 a) = _
    have : H a ≠ none := fun z => e (ok.bnone a z)
    rw [if_neg this]; exact g1.g0 a e
  · have e' : (if H a = none then G' a else G1 a) = some u := e
    split at e'
    · exact g.gs a u e'
    · exact view_ext x a u (g1.gs a u e')
  · show (if H a = none then G' a else G1 a) = _
    split
    · exact g.gt a xs im e
    · rename_i hn
      cases q : H a with
      | none => exact absurd q hn
      | some o =>
        have e2 : H' a = some o := x a o q
        refine g1.gt a xs im ?_
        unfold view at e ⊢
        rw [q]; rw [e2] at e; exact e
  · refine HoldAll.cons (f := f) (g := []) (od.toImm (fun a xs im e => ?_) hi) .nil |> fun h => by rw [List.append_nil] at h; exact h
    show (if H a = none then G' a else G1 a) = _
    split
    · exact e
    · rename_i hn
      have e1 : G' a = view H a := g.g0 a hn
      exact g1.gt a xs im (e1.symm.trans e)
  · refine ⟨(hf p hp).1, ?_⟩
    show (if H p = none then G' p else G1 p) = _
    rw [if_pos (hf p hp).1]; exact (hf p hp).2
/-- .. its arguments shared -/
theorem EnvOk.ret0 {B : Bs} {H H' : Hp} {env : Env} {σ : St} {tm : List Hold} {kr : Nat} {vs : List V} {ds : List D} (hl : vs.length = ds.length) (ok : EnvOk B H env σ (lev 0 vs ds ++ tm)) :
    ∃ G, Good ⟨H, G⟩ G H ∧ RpAll G vs ds ∧ ∀ H' v d, RetOk kr G H H' v d → Ext H H' ∧ EnvOk B H' env σ ((v, kr, d) :: tm) := by
  have h2 := ok.len
  have h3 := ok.has
  obtain ⟨G1, f, g, hg, hf, hr, nd, hq⟩ := ok.apart
  have hf' : HoldAll G1 H (lev 0 vs ds ++ []) f := by rw [List.append_nil]; exact hf
  obtain ⟨f1, f2, e, ha, hn⟩ := HoldAll.toAll hl hf'
  cases hn
  rw [List.append_nil] at e
  subst e
  have ra : ∀ {f : List Addr} {vs : List V} {ds : List D}, OdAll G1 H 0 f vs ds → RpAll G1 vs ds := fun {f vs ds} r => by
    induction vs generalizing ds f with
    | nil => cases r; exact .nil
    | cons v vs ih => cases r with | cons h r => exact .cons h.zero.2 (ih r)
  refine ⟨G1, ⟨fun _ _ e => e, fun _ _ => rfl, hg.gs, hg.gt, hg.nf⟩, ra ha, fun H' v d r => ?_⟩
  obtain ⟨G', fr, gr, od, ndr, hfr⟩ := r.ex
  have x : Ext H H' := gr.bs
  refine ⟨x, ?_⟩
  have hG : ∀ a u, G1 a = some u → G' a = some u := fun a u e => (gr.g0 a (hg.ne e)).trans e
  have hrm := hr.mu
  refine EnvOk.join (l := [(v, kr, d)]) (G := G') (f := fr) (g := g) h2 h3 ⟨fun a o e => x a o (hg.bs a o e), fun a e => ?_, gr.gs, gr.gt, gr.nf⟩ ?_ (hr.frame hG fun a u e _ => x a u e) ?_ ?_
  · have : H a ≠ none := fun z => e (ok.bnone a z)
    exact (gr.g0 a this).trans (hg.g0 a e)
  · have := HoldAll.cons od (.nil (G := G') (H := H'))
    rw [List.append_nil] at this; exact this
  · refine List.nodup_append.mpr ⟨ndr, (List.nodup_append.mp nd).2.1, fun a m1 b m2 e => ?_⟩
    subst e
    obtain ⟨u, e, _⟩ := hrm a m2
    rw [(hfr a m1).1] at e; cases e
  · intro p m
    rcases List.mem_append.mp m with m | m
    · exact ⟨ok.bnone p (hfr p m).1, (hfr p m).2⟩
    · obtain ⟨u, e, _⟩ := hrm p m
      refine ⟨(hq p (List.mem_append_right _ m)).1, ?_⟩
      have : H p ≠ none := by rw [e]; simp
      exact (gr.g0 p this).trans (hq p (List.mem_append_right _ m)).2
section
variable {X : Cx} {e a b : Expr} {es : List Expr} {m ma mb : Env → Res D} {ms : Env → Res (List D)} {k kr n : Nat} {cs : List Nat} {pos p : Pos} {x : Str} {F : List D → Res D} {j : Nat} {f : Addr} {fd : FuncData} {ps : List Str}
/-- f(..), its arguments read, its worth owned to the level kr -/
def mCall (kr : Nat) (F : List D → Res D) (ms : Env → Res (List D)) : Env → Res D := fun env => ms env >>= fun ds => F ds >>= fun d => if immAt kr d then .ok d else .bad
theorem se_call (Fo : FnOk X.prog X.w X.K X.mg X.base CX0 j f fd ps (spF kr n F)) (hr : Room j X.A) (hg : Gl X x) (hm : X.mg x = some (.ref f)) (hk : PySem.W.keepIn X.K (.ref f) = true) (hb : Binds X.K fd ps [])
    (ha : SAB X (e :: es) ms) (hdb : (x == ("__debug__" : Str)) = false := by decide) (he : starEach (e :: es) X.env = (false, eval e X.env) :: starEach es X.env := by rfl) (hpl : (backTo pos (starEach es X.env)).any (·.1) = false := by rfl) (hl : ∀ env ds, ms env = .ok ds → ds.length = n) :
    SE X kr [] (.Call (.Name x p) (e :: es) [] pos) (mCall kr F ms) := fun B H env σ tm d Q ok hm' q => by
  obtain ⟨ds, hds, h2⟩ := bind_ok hm'
  obtain ⟨d', hF, h3⟩ := bind_ok h2
  split at h3
  · rename_i hi
    cases h3
    refine wE_of (pe_call Fo hr hg hm hk hb .nil pass0 pa_sem hdb he hpl) (ha B H env σ tm ds _ ok hds fun vs H1 x1 ok1 ra => ?_)
    rw [List.append_nil]
    refine ⟨by rw [ra.length]; exact hl _ _ hds, view H1, ds, _, ⟨fun _ _ e => e, fun _ _ => rfl, fun _ _ e => e, fun _ _ _ e => e, fun a xs im e => ok1.imAt im e⟩, ra, hF, fun v H' r => ?_⟩
    obtain ⟨x2, ok2⟩ := ok1.retB r hi
    exact q v H' (x1.trans x2) ok2
  · cases h3
theorem sab_len {ms : Env → Res (List D)} : ∀ {n : Nat}, (∀ env ds, ms env = .ok ds → ds.length = n) → ∀ {m : Env → Res D}, ∀ env ds, mConsA m ms env = .ok ds → ds.length = n + 1 := fun {n} h {m} env ds hm => by
  obtain ⟨y, _, h2⟩ := bind_ok hm
  obtain ⟨ys, h3, h4⟩ := bind_ok h2
  cases h4
  simp [h env ys h3]
theorem sab_len0 : ∀ env ds, mNilA env = .ok ds → ds.length = 0 := fun env ds h => by cases h; rfl
end
end Mir

namespace Mir
open PySem PySem.Spec L2

/-! ### dicts in the mirror -/
section
variable {κ : Type} [DecidableEq κ]
def dFind : List κ → List D → κ → Option D
  | k :: ks, d :: ds, x => if k = x then some d else dFind ks ds x
  | _, _, _ => none
def dPutK (ks : List κ) (x : κ) : List κ := if x ∈ ks then ks else ks ++ [x]
def dPutD : List κ → List D → κ → D → List D
  | k :: ks, d :: ds, x, y => (if k = x then y else d) :: dPutD ks ds x y
  | _, _, _, _ => []
def dPutV (ks : List κ) (ds : List D) (x : κ) (y : D) : List D := if x ∈ ks then dPutD ks ds x y else ds ++ [y]
end
/-- keys -/
def keyOf : D → Option Key
  | .int i => some (.inl i)
  | .str z => some (.inr z)
  | _ => none
def keysOf : List D → Option (List Key)
  | [] => some []
  | d :: ds => match keyOf d, keysOf ds with
    | some k, some ks => some (k :: ks)
    | _, _ => none
def keyT : D → Option (List Key)
  | .tup ds => keysOf ds
  | _ => none
/-- what a dict holds at a key: none where the key isn't one -/
def dGet : D → D → Option (Option D)
  | .dk ks ds, key => (keyOf key).map fun k => dFind ks ds k
  | .dt ks ds, key => (keyT key).map fun k => dFind ks ds k
  | _, _ => none
section
variable {X : Cx} {e o i a b : Expr} {m ma mb md mk : Env → Res D} {k kr : Nat} {cs : List Nat} {pos cpos apos : Pos}
/-- d.get(k, x): what it tells may be read -/
def mGet2 (md mk m : Env → Res D) : Env → Res D := fun env => md env >>= fun d => mk env >>= fun y => m env >>= fun z => match dGet d y with
  | some o => .ok (o.getD z)
  | none => .bad
/-! ### what a slot holds is changed -/
theorem EnvOk.slotMu {B : Bs} {H : Hp} {env : Env} {σ : St} {tm : List Hold} {j : Nat} {d : D} (ok : EnvOk B H env σ tm) (e : env[j]? = some (some (k + 1, d))) (im : d.imm = false) : ∃ p, σ[j]? = some (some (.ref p)) ∧ EnvOk B H (env.set j none) σ ((.ref p, k + 1, d) :: tm) := by
  obtain ⟨v, hv⟩ := ok.has j _ e
  have ok1 := ok.move e hv
  obtain ⟨p, rfl⟩ := ok1.isRef im
  exact ⟨p, hv, ok1⟩
theorem EnvOk.putBack {B : Bs} {H : Hp} {env : Env} {σ : St} {tm : List Hold} {j : Nat} {d d0 : D} {v : V} (hj : env[j]? = some (some (k, d0))) (hv : σ[j]? = some (some v)) (ok : EnvOk B H (env.set j none) σ ((v, k, d) :: tm)) : EnvOk B H (env.set j (some (k, d))) σ tm := by
  have hi : j < env.length := (List.getElem?_eq_some_iff.mp hj).1
  have h1 := ok.store (i := j) (by simpa using hi)
  rw [List.set_set, set_self hv] at h1
  exact h1
/-- the slot's list, the hand -/
def atL (env : Env) (j k : Nat) : Res (List D) := match env[j]? with
  | some (some (k', .lst ds)) => if k' = k then .ok ds else .bad
  | _ => .bad
theorem atL_ok {env : Env} {j k : Nat} {ds : List D} (h : atL env j k = .ok ds) : env[j]? = some (some (k, .lst ds)) := by
  unfold atL at h
  split at h
  · rename_i k' ds' he
    split at h
    · rename_i ek
      subst ek
      cases h
      exact he
    · cases h
  · cases h
/-- x.append(e) -/
def mAppend (j k : Nat) (cs : List Nat) (m : Env → Res D) : Env → Res Ctl := fun env => m env >>= fun d => atL (clear env cs) j (k + 1) >>= fun ds =>
  if ds.length < sizeLine then .ok (.nx ((clear env cs).set j (some (k + 1, .lst (ds ++ [d]))))) else .bad
/-- x.extend(e) -/
def mExtend (j k : Nat) (m : Env → Res (List D)) : Env → Res Ctl := fun env => m env >>= fun es => atL env j (k + 1) >>= fun ds =>
  if ds.length + es.length ≤ sizeLine then .ok (.nx (env.set j (some (k + 1, .lst (ds ++ es))))) else .bad
theorem s_extend {j : Nat} {mm : Env → Res (List D)} (hx : PE X o (tVar j)) (he : SL X k .lst e mm)
    (hbase : attributeBase o "extend" X.env (eval o X.env) = eval o X.env := by rfl)
    (hfew : ((backTo cpos (starEach [e] X.env)).all (fun x => !x.1) && (backToKw cpos (keywordEach [] X.env)).all (fun x => x.1.isSome)
      && decide ([e].length + ([] : List Keyword).length + (if ([] : List Keyword).isEmpty then 0 else 1) < 30)) = true := by rfl)
    (hline : (apos.endLine == cpos.line) = true := by rfl) (hs : starEach [e] X.env = (false, eval e X.env) :: starEach [] X.env := by rfl) (hplain : (backTo cpos (starEach [] X.env)).any (·.1) = false := by rfl)
    (hsw : swapsWith (.Call (.Attribute o "extend" apos) [e] [] cpos) none pos.line X.env = pure false := by rfl) : S1 X kr (.Expr (.Call (.Attribute o "extend" apos) [e] [] cpos) pos) (mExtend j k mm) := fun B H env σ tm D r ok hm p => by
  obtain ⟨es, hd, h2⟩ := bind_ok hm
  obtain ⟨ds, hds, h3⟩ := bind_ok h2
  split at h3
  · rename_i hl
    cases h3
    have he1 := atL_ok hds
    obtain ⟨v, hv, rv⟩ := ok.slot he1
    refine wS_of (ps_expr (pe_bm F.plainAttrs_list F.slot_list_extend F.type_list_extend mt_extR hx (pa_cons pe_sem pa_nil hs) hbase hfew hline hs hplain) hsw) ?_
    refine ⟨v, hv, ?_⟩
    cases rv with
    | @lst q vs0 _ hq ra0 =>
      refine ⟨.inl ⟨rfl, _, .inl (view_rd hq)⟩, ?_⟩
      refine he B H env σ tm es _ ok hd fun w ws H1 ex x1 hw hwl raw ok1 pk => ?_
      have okp := pk H1 env σ tm (Ext.refl _) ok1 _ _ (sel_refl hwl)
      obtain ⟨q', hv', ok2⟩ := okp.slotMu he1 rfl
      rw [hv] at hv'
      cases hv'
      obtain ⟨vs, hL, hvl, ok3⟩ := ok2.takeLst
      refine ⟨q, w, vs, ws, rfl, rfl, hL, view_rd hw, by omega, ?_⟩
      have ok4 : EnvOk B (del H1 q) (env.set j none) σ (lev k (vs ++ ws) (ds ++ es) ++ (ex ++ tm)) := by
        rw [lev_append ws es hvl, List.append_assoc]
        exact ok3
      have ok5 := ok4.newLst (p := q) (by simp [hvl, hwl]) del_self
      rw [upd_del] at ok5
      exact p σ _ ((ok5.putBack he1 hv).less)
  · cases h3
/-- d[key] = e, d a dict whose values are shared -/
def atK (env : Env) (j : Nat) : Res D := match env[j]? with
  | some (some (1, d)) => .ok d
  | _ => .bad
def dSet (d key v : D) : Res D := match d with
  | .dk ks ds => if ds.length < sizeLine ∧ ks.length = ds.length then (match keyOf key with | some k => .ok (.dk (dPutK ks k) (dPutV ks ds k v)) | none => .bad) else .bad
  | .dt ks ds => if ds.length < sizeLine ∧ ks.length = ds.length then (match keyT key with | some k => .ok (.dt (dPutK ks k) (dPutV ks ds k v)) | none => .bad) else .bad
  | _ => .bad
def mDput (j : Nat) (cs : List Nat) (m mk : Env → Res D) : Env → Res Ctl := fun env => m env >>= fun d => mk (clear env cs) >>= fun y => atK (clear env cs) j >>= fun dd => dSet dd y d >>= fun d' => .ok (.nx ((clear env cs).set j (some (1, d'))))
end
end Mir

namespace Mir
open PySem PySem.Spec L2

section
variable {X : Cx} {e a b tg it o : Expr} {m ma mb md : Env → Res D} {k kr : Nat} {cs : List Nat} {pos cpos apos : Pos} {m1 : Env → Res Ctl}
/-! ### dicts, walked -/
def kD : Key → D
  | .inl i => .int i
  | .inr z => .str z
/-- what a dict gives when it is walked -/
def dKeys : D → Res (List D)
  | .dk ks _ => .ok (ks.map kD)
  | .dt ks _ => .ok (ks.map fun k => .tup (k.map kD))
  | _ => .bad
def dItems : D → Res (List D)
  | .dk ks ds => if ks.length = ds.length then .ok (List.zipWith (fun k d => .tup [kD k, d]) ks ds) else .bad
  | _ => .bad
end
end Mir

namespace Mir
open PySem PySem.Spec L2

/-! ### isinstance -/
inductive Ty6 where | int | bool | str | list | tuple | dict
def Ty6.s : Ty6 → String
  | .int => "int" | .bool => "bool" | .str => "str" | .list => "list" | .tuple => "tuple" | .dict => "dict"
inductive Tg where | non | bl | int | str | lst | tup | dic
def Tg.s : Tg → String
  | .non => "NoneType" | .bl => "bool" | .int => "int" | .str => "str" | .lst => "list" | .tup => "tuple" | .dic => "dict"
def tgD : D → Tg
  | .non => .non | .bl _ => .bl | .int _ => .int | .str _ => .str | .lst _ => .lst | .tup _ => .tup | .dk _ _ => .dic | .dt _ _ => .dic | .ob _ _ _ _ => .non | .exn _ _ _ _ => .non | .dn _ _ => .dic
/-- an object of an own class -/
def isOb : D → Bool
  | .ob _ _ _ _ => true
  | .exn _ _ _ _ => true
  | _ => false
def isiT : Ty6 → Tg → Bool
  | .int, .int => true | .int, .bl => true | .bool, .bl => true | .str, .str => true | .list, .lst => true | .tuple, .tup => true | .dict, .dic => true
  | _, _ => false
def isi (T : Ty6) (d : D) : Bool := isiT T (tgD d)
theorem kit_tab (T : Ty6) (t : Tg) : kitB t.s T.s = some (isiT T t) := by
  cases T <;> cases t <;> decide +kernel
abbrev tyN (d : D) : String := (tgD d).s
theorem kit_isi (T : Ty6) (d : D) : kitB (tyN d) T.s = some (isi T d) := kit_tab T (tgD d)
theorem kit_rp {X : Cx} {pins : List (Addr × Obj)} {σ : St} {H : Hp} {s : Shared} {x : V} {u : Value} {d : D} (I : Inv X pins σ H s) (rx : RelV x u) (r : Rp (view H) x d) (hob : isOb d = false) : ∃ P : Heap → Prop, PySem.W.KitX X.K u (.type (tyN d)) P ∧ P s.heap ∧ u ≠ .builtin "__main__.__loader__#opaque" := by
  cases r with
  | non => cases (show u = Value.none from rx); exact ⟨_, PySem.W.kitx_none, True.intro, fun z => nomatch z⟩
  | bl y => cases (show u = Value.bool y from rx); exact ⟨_, PySem.W.kitx_bool, True.intro, fun z => nomatch z⟩
  | int i => obtain ⟨t, q⟩ := (show ∃ t, u = Value.int i t from rx); cases q; exact ⟨_, PySem.W.kitx_int, True.intro, fun z => nomatch z⟩
  | str y => obtain ⟨t, q⟩ := (show ∃ t, u = Value.str y t from rx); cases q; exact ⟨_, PySem.W.kitx_str, True.intro, fun z => nomatch z⟩
  | @lst a xs _ ea =>
    cases (show u = Value.ref a from rx)
    obtain ⟨_, _, n, _, h1⟩ := (show ObjOk X.prog X.w H s.heap a (.lst xs) from (view_rd ea).ok I.hok)
    exact ⟨_, PySem.W.kitx_list, ⟨_, h1, rfl⟩, fun z => nomatch z⟩
  | @tup a xs _ ea =>
    cases (show u = Value.ref a from rx)
    obtain ⟨_, _, _, o, h1, h2, _⟩ := (show ObjOk X.prog X.w H s.heap a (.tup xs) from (view_rd ea).ok I.hok)
    exact ⟨_, PySem.W.kitx_tuple, ⟨o, h1, h2⟩, fun z => nomatch z⟩
  | @dk a kvs _ _ ea =>
    cases (show u = Value.ref a from rx)
    obtain ⟨_, _, vs, _, o, es, ep, h1, h2, _⟩ := (show ObjOk X.prog X.w H s.heap a (.dK kvs) from (view_rd ea).ok I.hok)
    exact ⟨_, PySem.W.kitx_dict, ⟨o, h1, h2.1⟩, fun z => nomatch z⟩
  | @dt a kvs _ _ ea =>
    cases (show u = Value.ref a from rx)
    obtain ⟨_, _, xs, _, o, es, ep, h1, h2, _⟩ := (show ObjOk X.prog X.w H s.heap a (.dT kvs) from (view_rd ea).ok I.hok)
    exact ⟨_, PySem.W.kitx_dict, ⟨o, h1, h2.1⟩, fun z => nomatch z⟩
  | ob => cases hob
  | exn0 => cases hob
  | @dn a es _ _ ea =>
    cases (show u = Value.ref a from rx)
    obtain ⟨⟨_, _, _, o, _, _, _, h1, h2, _⟩, _⟩ := (show ObjOk X.prog X.w H s.heap a (DnH a es) from (view_rd ea).ok I.hok)
    exact ⟨_, PySem.W.kitx_dict, ⟨o, h1, h2.1⟩, fun z => nomatch z⟩
  | exn => cases hob
theorem call_isiD {X : Cx} : CallR X (.builtin "isinstance") (fun xs H Q => ∃ x d T, xs = [x, .ty (Ty6.s T)] ∧ Rp (view H) x d ∧ isOb d = false ∧ Q (.bl (isi T d)) H) := by
  intro pins s σ H xs us Q I r h
  obtain ⟨x, d, T, rfl, rp, hob, q⟩ := h
  obtain ⟨u1, u2, rfl, r1, r2⟩ := vals2 r
  cases (show u2 = Value.type T.s from r2)
  obtain ⟨P, Z, p, hx⟩ := kit_rp I r1 rp hob
  exact PySem.W.kia_one Z I.kIn p (kit_ty (kit_isi T d)) hx fun tk => ⟨.bl _, H, I.tok tk, rfl, q⟩
section
variable {X : Cx} {e a b c : Expr} {m ma mb mc : Env → Res D} {k kr : Nat} {cs : List Nat} {pos p cpos apos : Pos}
def mIsi (T : Ty6) (m : Env → Res D) : Env → Res D := fun env => m env >>= fun d => if isOb d = true then .bad else .ok (.bl (isi T d))
theorem sc_isi {T : Ty6} (hg : Gl X "isinstance") (hm0 : X.mg "isinstance" = none) (h : SB X a m) (hT : PE X b (tC (.ty T.s))) (he : starEach [a, b] X.env = (false, eval a X.env) :: starEach [b] X.env := by rfl) (he2 : starEach [b] X.env = (false, eval b X.env) :: starEach [] X.env := by rfl) (hpl : (backTo pos (starEach [b] X.env)).any (·.1) = false := by rfl) :
    SC X (.Call (.Name "isinstance" p) [a, b] [] pos) (mIsi T m) := fun B H env σ tm d Q ok hm q => by
  obtain ⟨x, hx, h2⟩ := bind_ok hm
  split at h2
  · cases h2
  rename_i hob
  cases h2
  refine wE_of (pe_callB call_isiD hg hm0 (by decide +kernel) (pa_cons pe_sem (pa_cons hT pa_nil he2) he) (by decide) (by decide) he hpl) (h B H env σ tm _ _ ok hx fun v H1 x1 ok1 r => ?_)
  exact ⟨v, x, T, rfl, r, by simpa using hob, q _ H1 x1 ok1 (.bl _) rfl⟩
theorem pe_tyD {x : Str} {n : String} {pos : Pos} (hg : Gl X x) (hm : X.mg x = none) (hv : bootBuiltins x = some (.type n)) (hn : x ≠ "__name__" := by decide) (hd : (x == ("__debug__" : Str)) = false := by decide) : PE X (.Name x pos) (tC (.ty n)) := pe_bltn hg hm hv rfl hn hd

/-! ### dict(d), == of dicts -/
/-- dict(d) of a dict with keys that are numbers, texts; its values shared or of one level -/
def gDictC : D → Res D
  | .dk ks ds => if immAll ds then .ok (.dk ks ds) else .bad
  | _ => .bad
end
end Mir

namespace Mir
open PySem PySem.Spec L2

/-- a def as it stands; as it is called -/
structure At (K : PySem.W.Frag) (mg : Str → Option Value) (x : Str) (st : Stmt) : Prop where
  ex : ∃ f fd, Fun K x x st f fd ∧ mg x = some (.ref f)
structure Cal (P : Program) (w : World) (K : PySem.W.Frag) (mg : Str → Option Value) (base : Heap) (x : Str) (j n kr : Nat) (F : List D → Res D) : Prop where
  ex : ∃ f fd ps, mg x = some (.ref f) ∧ PySem.W.keepIn K (.ref f) = true ∧ Binds K fd ps [] ∧ FnOk P w K mg base CX0 j f fd ps (spF kr n F)
theorem se_cal {X : Cx} {e : Expr} {es : List Expr} {ms : Env → Res (List D)} {j n kr : Nat} {F : List D → Res D} {x : Str} {p pos : Pos} (C : Cal X.prog X.w X.K X.mg X.base x j n kr F) (hr : Room j X.A) (hg : Gl X x)
    (ha : SAB X (e :: es) ms) (hl : ∀ env ds, ms env = .ok ds → ds.length = n) (hdb : (x == ("__debug__" : Str)) = false := by decide) (he : starEach (e :: es) X.env = (false, eval e X.env) :: starEach es X.env := by rfl) (hpl : (backTo pos (starEach es X.env)).any (·.1) = false := by rfl) :
    SE X kr [] (.Call (.Name x p) (e :: es) [] pos) (mCall kr F ms) := by
  obtain ⟨f, fd, ps, hm, hk, hb, Fo⟩ := C.ex
  exact se_call Fo hr hg hm hk hb ha hdb he hpl hl
theorem At.mk' {K : PySem.W.Frag} {mg : Str → Option Value} {h : Heap} {x : Str} {st : Stmt} {f : Addr} {oc : Value} {od an : Option Addr} {osl : Array (Option Value)} {kV doc pm cdv ct : Value} (X : K.In h) (G : h.Ns mainGlobals mg) (a : PySem.W.nsIn K mainGlobals x = some (some (.ref f)))
    (l : K.lookup f = some ⟨oc, od, .func (PySem.W.fnOf x x (defArgs st) (defBody st) (defScope st) .none kV doc pm an cdv ct), osl⟩) (c : PySem.W.codeIn K cdv x = true) (k : PySem.W.keepIn K (.ref f) = true) : At K mg x st :=
  ⟨f, _, fun_mk l c k, PySem.W.mg_of X G a⟩
/-- no list stands in the written part -/
def noLists (K : PySem.W.Frag) : Bool := K.all fun p => match p.2.cls with
  | .type n => n != "list"
  | _ => true
theorem noLists_lookup : ∀ {K : PySem.W.Frag} {a : Addr} {o : Obj}, noLists K = true → K.lookup a = some o → o.cls ≠ .type "list"
  | [], _, _, _, h => by simp at h
  | (b, ob) :: K, a, o, hn, h => by
    unfold noLists at hn
    rw [List.all_cons, Bool.and_eq_true] at hn
    rw [List.lookup_cons] at h
    split at h
    · cases h
      intro e
      have := hn.1
      rw [e] at this
      simp at this
    · exact noLists_lookup (K := K) hn.2 h
theorem ints_rp {G : Hp} : ∀ ns : List Int, RpAll G (ns.map V.int) (ns.map D.int)
  | [] => .nil
  | n :: ns => .cons (.int n) (ints_rp ns)
theorem law_sp {F : List D → Res D} {K : PySem.W.Frag} {H : Hp} {a : Addr} {ns : List Int} (hK : noLists K = true) (hO : Only H) (hS : SqL K H a (ns.map V.int)) (hF : F [.lst (ns.map D.int)] = .ok (.bl true)) : spF 0 1 F [.ref a] H (fun v _ => v = .bl true) fun _ _ _ => False := by
  have hv : view H a = some (.lst (ns.map V.int)) := by
    rcases hS with (h | ⟨o, h⟩) | ⟨o, its, n, h1, h2, _⟩
    · unfold view; rw [h]; rfl
    · unfold view; rw [h]; rfl
    · exact absurd h2 (noLists_lookup hK h1)
  refine ⟨rfl, view H, [.lst (ns.map D.int)], .bl true, ⟨fun _ _ e => e, fun _ _ => rfl, fun _ _ e => e, fun _ _ _ e => e, fun b xs im e => ?_⟩, .cons (.lst hv (ints_rp ns)) .nil, hF, fun v H' r => ?_⟩
  · rcases hO b with h | ⟨o, ys, h⟩
    · rw [view_none h] at e; cases e
    · unfold view at e; rw [h] at e
      rw [← Option.some.inj e] at im; cases im
  · obtain ⟨G', fp, g, od, _⟩ := r.ex
    obtain ⟨_, rp⟩ := od.zero
    cases rp
    rfl
end Mir

namespace Mir
open PySem PySem.Spec L2

/-! ### the mirror, reckoned -/
@[simp] theorem exc_bind {α β : Type} (c : Str) (ns : List Str) (as : List D) (f : α → Res β) : (Res.exc c ns as >>= f) = .exc c ns as := rfl
@[simp] theorem bad_bind {α β : Type} (f : α → Res β) : ((Res.bad : Res α) >>= f) = .bad := rfl
@[simp] theorem res_assoc {α β γ : Type} (x : Res α) (f : α → Res β) (g : β → Res γ) : (x >>= f >>= g) = (x >>= fun a => f a >>= g) := by cases x <;> rfl
section
variable (env : Mir.Env) (m n : Mir.Env → Res D) (m1 m2 : Mir.Env → Res Ctl) (ma mb : Mir.Env → Res Bool) (g : D → D → Res D) (g1 : D → Res D) (ms ns : Mir.Env → Res (List D)) (i j k : Nat) (cs fg : List Nat) (d : D) (F : List D → Res D)
@[simp] theorem e_mSeq : mSeq m1 m2 env = (m1 env >>= fun c => match c with | .nx e => m2 e | c => .ok c) := rfl
@[simp] theorem e_mIf {α : Type} (x y : Mir.Env → Res α) : mIf ma x y env = (ma env >>= fun c => if c then x env else y env) := rfl
@[simp] theorem e_mTb : mTb m env = (m env >>= toB) := rfl
@[simp] theorem e_toB (b : Bool) : toB (.bl b) = .ok b := rfl
@[simp] theorem e_mOp : mOp g m n env = (m env >>= fun x => n env >>= fun y => g x y) := rfl
@[simp] theorem e_mUn : mUn g1 m env = (m env >>= g1) := rfl
@[simp] theorem e_mVar : mVar i env = (match env[i]? with | some (some (_, d)) => .ok d | _ => .bad) := rfl
@[simp] theorem e_mVarK : mVarK i k env = (match env[i]? with | some (some (j, d)) => if j = k then .ok d else .bad | _ => .bad) := rfl
@[simp] theorem e_mC : mC d env = .ok d := rfl
@[simp] theorem e_mRet : mRet m env = (m env >>= fun d => .ok (.rt d)) := rfl
@[simp] theorem e_mImm : mImm m env = (m env >>= fun d => if d.imm then .ok d else .bad) := rfl
@[simp] theorem e_mSkip : mSkip env = .ok (.nx env) := rfl
@[simp] theorem e_mSet : mSet i k cs m env = (m env >>= fun d => tName i k d (clear env cs) >>= fun e => .ok (.nx e)) := rfl
@[simp] theorem e_tName : tName i k d env = if i < env.length then .ok (env.set i (some (k, d))) else .bad := rfl
@[simp] theorem e_mCall : mCall k F ms env = (ms env >>= fun ds => F ds >>= fun d => if immAt k d then .ok d else .bad) := rfl
@[simp] theorem e_mNilA : mNilA env = .ok [] := rfl
@[simp] theorem e_mConsA : mConsA m ms env = (m env >>= fun x => ms env >>= fun xs => .ok (x :: xs)) := rfl
@[simp] theorem e_mConsE : mConsE m cs ms env = (m env >>= fun x => ms (clear env cs) >>= fun xs => .ok (x :: xs)) := rfl
@[simp] theorem e_mTup : mTup ms env = (ms env >>= fun xs => if xs.length ≤ sizeLine then .ok (.tup xs) else .bad) := rfl
@[simp] theorem e_mLst : mLst ms env = (ms env >>= fun xs => if xs.length ≤ sizeLine then .ok (.lst xs) else .bad) := rfl
@[simp] theorem e_mNotB : mNotB ma env = (ma env >>= fun b => .ok (!b)) := rfl
@[simp] theorem e_mAndB : mAndB ma mb env = (ma env >>= fun b => if b then mb env else .ok false) := rfl
@[simp] theorem e_mOrB : mOrB ma mb env = (ma env >>= fun b => if b then .ok true else mb env) := rfl
@[simp] theorem e_mAndV : mAndV m n env = (m env >>= fun x => toB x >>= fun b => if b then n env else .ok (.bl false)) := rfl
@[simp] theorem e_mOrV : mOrV m n env = (m env >>= fun x => toB x >>= fun b => if b then .ok (.bl true) else n env) := rfl
@[simp] theorem e_mNotV : mNotV m env = (m env >>= fun x => toB x >>= fun b => .ok (.bl (!b))) := rfl
@[simp] theorem e_mFz : mFz i m1 env = m1 (fz i env) := rfl
@[simp] theorem e_fz : fz i env = (match env[i]? with | some (some (_, d)) => env.set i (some (0, d)) | _ => env) := rfl
@[simp] theorem e_mForget : mForget cs m1 env = m1 (clear env cs) := rfl
@[simp] theorem e_clear0 : clear env [] = env := rfl
@[simp] theorem e_clear1 (i : Nat) (is : List Nat) : clear env (i :: is) = clear (env.set i none) is := rfl
@[simp] theorem e_mGet2 (o : Mir.Env → Res D) : mGet2 m n o env = (m env >>= fun d => n env >>= fun y => o env >>= fun z => match dGet d y with | some o => .ok (o.getD z) | none => .bad) := rfl
@[simp] theorem e_mIsi (T : Ty6) : mIsi T m env = (m env >>= fun d => if isOb d = true then .bad else .ok (.bl (isi T d))) := rfl
@[simp] theorem isOb_n : isOb .non = false := rfl
@[simp] theorem isOb_b (b : Bool) : isOb (.bl b) = false := rfl
@[simp] theorem isOb_i (i : Int) : isOb (.int i) = false := rfl
@[simp] theorem isOb_s (z : Str) : isOb (.str z) = false := rfl
@[simp] theorem isOb_l (xs : List D) : isOb (.lst xs) = false := rfl
@[simp] theorem isOb_t (xs : List D) : isOb (.tup xs) = false := rfl
@[simp] theorem isOb_dk (ks : List Key) (ds : List D) : isOb (.dk ks ds) = false := rfl
@[simp] theorem isOb_dt (ks : List (List Key)) (ds : List D) : isOb (.dt ks ds) = false := rfl
@[simp] theorem isOb_ob (c : Str) (C : Addr) (ns : List Str) (ds : List D) : isOb (.ob c C ns ds) = true := rfl
@[simp] theorem isOb_exn (c : Str) (C : Addr) (ns : List Str) (ds : List D) : isOb (.exn c C ns ds) = true := rfl
@[simp] theorem e_mSlice (l u : Mir.Env → Res (Option Int)) : mSlice ms l u env = (ms env >>= fun ds => l env >>= fun lo => u env >>= fun hi => .ok (.lst (cutD ds lo hi))) := rfl
@[simp] theorem e_mFor (t : Nat → D → Mir.Env → Res Mir.Env) : mFor ms t m1 fg env = (ms env >>= fun ds => loop t m1 fg ds env) := rfl
@[simp] theorem e_mDput : mDput j cs m n env = (m env >>= fun d => n (clear env cs) >>= fun y => atK (clear env cs) j >>= fun dd => dSet dd y d >>= fun d' => .ok (.nx ((clear env cs).set j (some (1, d'))))) := rfl
@[simp] theorem e_atK : atK env j = (match env[j]? with | some (some (1, d)) => .ok d | _ => .bad) := rfl
@[simp] theorem e_mAppend : mAppend j k cs m env = (m env >>= fun d => atL (clear env cs) j (k + 1) >>= fun ds => if ds.length < sizeLine then .ok (.nx ((clear env cs).set j (some (k + 1, .lst (ds ++ [d]))))) else .bad) := rfl
@[simp] theorem e_atL : atL env j k = (match env[j]? with | some (some (k', d)) => if k' = k then itemsL d else .bad | _ => .bad) := by
  unfold atL
  cases env[j]? with
  | none => rfl
  | some x =>
    cases x with
    | none => rfl
    | some y =>
      obtain ⟨k', d⟩ := y
      cases d <;> simp [itemsL]
end
@[simp] theorem e_itemsL (xs : List D) : itemsL (.lst xs) = .ok xs := rfl
@[simp] theorem e_itemsT (xs : List D) : itemsT (.tup xs) = .ok xs := rfl
@[simp] theorem e_toI (i : Int) : toI (.int i) = .ok i := rfl
@[simp] theorem e_gAdd (i j : Int) : gAdd (.int i) (.int j) = .ok (.int (i + j)) := rfl
@[simp] theorem e_gSub (i j : Int) : gSub (.int i) (.int j) = .ok (.int (i - j)) := rfl
@[simp] theorem e_gNeg (i : Int) : gNeg (.int i) = .ok (.int (-i)) := rfl
@[simp] theorem e_gLt (i j : Int) : gLt (.int i) (.int j) = .ok (.bl (decide (i < j))) := rfl
@[simp] theorem e_gLe (i j : Int) : gLe (.int i) (.int j) = .ok (.bl (decide (i ≤ j))) := rfl
@[simp] theorem e_gGt (i j : Int) : gGt (.int i) (.int j) = .ok (.bl (decide (j < i))) := rfl
@[simp] theorem e_gGe (i j : Int) : gGe (.int i) (.int j) = .ok (.bl (decide (j ≤ i))) := rfl
@[simp] theorem e_gLenL (xs : List D) : gLen (.lst xs) = .ok (.int xs.length) := rfl
@[simp] theorem e_gLenT (xs : List D) : gLen (.tup xs) = .ok (.int xs.length) := rfl
theorem e_gMod (i j : Int) (h : 0 < j) : gMod (.int i) (.int j) = .ok (.int (i % j)) := if_pos h
@[simp] theorem e_int_imm (i : Int) : (D.int i).imm = true := rfl
@[simp] theorem e_bl_imm (i : Bool) : (D.bl i).imm = true := rfl
@[simp] theorem e_str_imm (i : Str) : (D.str i).imm = true := rfl
@[simp] theorem e_non_imm : D.non.imm = true := rfl
@[simp] theorem e_tup_imm (xs : List D) : (D.tup xs).imm = immAll xs := rfl
@[simp] theorem e_immAll_nil : immAll [] = true := rfl
@[simp] theorem e_immAll_cons (d : D) (ds : List D) : immAll (d :: ds) = (d.imm && immAll ds) := rfl
@[simp] theorem e_immAll_map {α : Type} (f : α → D) (xs : List α) : immAll (xs.map f) = xs.all fun x => (f x).imm := by
  induction xs with
  | nil => rfl
  | cons x xs ih => simp [ih]
@[simp] theorem e_immAt0 (d : D) : immAt 0 d = d.imm := by unfold immAt; rfl
@[simp] theorem e_shp_int (i : Int) : shp (.int i) = true := rfl
@[simp] theorem e_shp_bl (i : Bool) : shp (.bl i) = true := rfl
@[simp] theorem e_py_int (i : Int) : (D.int i).py = .int i := rfl
@[simp] theorem e_eqv_int (i j : Int) : PyData.eqv (.int i) (.int j) = (i == j) := by simp [PyData.eqv]
@[simp] theorem e_gEq_int (i j : Int) : gEq (.int i) (.int j) = .ok (.bl (i == j)) := by unfold gEq; simp
@[simp] theorem e_gNe_int (i j : Int) : gNe (.int i) (.int j) = .ok (.bl (!(i == j))) := by unfold gNe; simp
theorem sizeLine_big {n : Nat} (h : n ≤ 16000000) : n ≤ sizeLine := by rw [sizeLine_eq]; omega
/-! ### dicts of whole numbers -/
abbrev Pol := List (Int × Int)
def look (p : Pol) (k : Int) : Option Int := (p.find? fun x => decide (x.1 = k)).map (·.2)
def put (p : Pol) (k v : Int) : Pol := if k ∈ p.map (·.1) then p.map (fun x => if x.1 = k then (x.1, v) else x) else p ++ [(k, v)]
def encP (p : Pol) : D := .dk (p.map fun x => .inl x.1) (p.map fun x => .int x.2)
theorem dFind_enc : ∀ (p : Pol) (k : Int), dFind (p.map fun x => (Sum.inl x.1 : Key)) (p.map fun x => D.int x.2) (Sum.inl k) = (look p k).map D.int
  | [], k => rfl
  | x :: p, k => by
    show (if (Sum.inl x.1 : Key) = Sum.inl k then some (D.int x.2) else dFind (p.map fun x => (Sum.inl x.1 : Key)) (p.map fun x => D.int x.2) (Sum.inl k)) = _
    rw [dFind_enc p k]
    unfold look
    by_cases e : x.1 = k
    · simp [e]
    · have : ¬ (Sum.inl x.1 : Key) = Sum.inl k := fun z => e (Sum.inl.inj z)
      rw [if_neg this]
      simp [e]
@[simp] theorem dGet_enc (p : Pol) (k : Int) : dGet (encP p) (.int k) = some ((look p k).map D.int) := by
  show some (dFind _ _ _) = _
  rw [dFind_enc]
@[simp] theorem immAtL0 : ∀ ds : List D, immAtL 0 ds = immAll ds
  | [] => by unfold immAtL; rfl
  | d :: ds => by rw [immAtL, immAtL0 ds, e_immAt0]; rfl
@[simp] theorem immAt_enc (p : Pol) : immAt 1 (encP p) = true := by
  show immAt 1 (.dk _ _) = true
  unfold immAt
  simp
theorem put_keys (p : Pol) (k v : Int) : (put p k v).map (·.1) = if k ∈ p.map (·.1) then p.map (·.1) else p.map (·.1) ++ [k] := by
  unfold put
  split
  · rw [List.map_map]
    refine List.map_congr_left fun x _ => ?_
    by_cases e : x.1 = k <;> simp [e]
  · simp
theorem put_nodup {p : Pol} (h : (p.map (·.1)).Nodup) (k v : Int) : ((put p k v).map (·.1)).Nodup := by
  rw [put_keys]
  split
  · exact h
  · rename_i hk
    refine List.nodup_append.mpr ⟨h, by simp, fun a ha b hb e => ?_⟩
    rw [List.mem_singleton.mp hb] at e
    exact hk (e ▸ ha)
@[simp] theorem dKeys_enc (p : Pol) : dKeys (encP p) = .ok (p.map fun x => D.int x.1) := by
  show Res.ok ((p.map fun x => (Sum.inl x.1 : Key)).map kD) = _
  rw [List.map_map]; rfl
@[simp] theorem dItems_enc (p : Pol) : dItems (encP p) = .ok (p.map fun x => D.tup [.int x.1, .int x.2]) := by
  show (if (p.map fun x => (Sum.inl x.1 : Key)).length = (p.map fun x => D.int x.2).length then Res.ok _ else .bad) = _
  rw [if_pos (by simp)]
  congr 1
  induction p with
  | nil => rfl
  | cons x p ih => exact congrArg (List.cons _) ih
@[simp] theorem gDictC_enc (p : Pol) : gDictC (encP p) = .ok (encP p) := by
  show (if immAll _ then _ else _) = _
  rw [if_pos (by simp)]; rfl
@[simp] theorem isi_dict_enc (p : Pol) : isi .dict (encP p) = true := rfl
@[simp] theorem isOb_encP (p : Pol) : isOb (encP p) = false := rfl
end Mir

namespace Mir
open PySem PySem.Spec L2
end Mir

namespace Mir
open PySem PySem.Spec L2
/-! ### polynomials: what a sum over the terms says -/
abbrev ND (p : Pol) : Prop := (p.map (·.1)).Nodup
def ev : Pol → (Int → Int) → Int
  | [], _ => 0
  | x :: p, w => x.2 * w x.1 + ev p w
theorem look_cons (x : Int × Int) (p : Pol) (k : Int) : look (x :: p) k = if x.1 = k then some x.2 else look p k := by
  unfold look
  by_cases e : x.1 = k <;> simp [e]
theorem look_in {p : Pol} {k v : Int} (h : look p k = some v) : (k, v) ∈ p := by
  induction p with
  | nil => cases h
  | cons x p ih =>
    rw [look_cons] at h
    split at h
    · rename_i e
      have := Option.some.inj h
      rw [← e, ← this]; exact List.mem_cons_self
    · exact List.mem_cons_of_mem _ (ih h)
theorem nodup_le : ∀ {xs ys : List Int}, xs.Nodup → (∀ x ∈ xs, x ∈ ys) → xs.length ≤ ys.length
  | [], _, _, _ => Nat.zero_le _
  | x :: xs, ys, h, s => by
    have h2 := List.nodup_cons.mp h
    have hx := s x List.mem_cons_self
    have := nodup_le (ys := ys.erase x) h2.2 fun y hy => (List.mem_erase_of_ne (fun e : y = x => h2.1 (e ▸ hy))).mpr (s y (List.mem_cons_of_mem _ hy))
    rw [List.length_erase_of_mem hx] at this
    have pos : 0 < ys.length := List.length_pos_of_mem hx
    rw [List.length_cons]; omega
theorem nodup_range {xs : List Int} (h : xs.Nodup) {m : Nat} (b : ∀ x ∈ xs, -(m : Int) ≤ x ∧ x ≤ m) : xs.length ≤ 2 * m + 1 := by
  have := nodup_le (ys := (List.range (2 * m + 1)).map fun i : Nat => (i : Int) - m) h fun x hx => by
    obtain ⟨h1, h2⟩ := b x hx
    refine List.mem_map.mpr ⟨(x + m).toNat, List.mem_range.mpr (by omega), by omega⟩
  simpa using this
end Mir

namespace Mir
open PySem PySem.Spec L2
/-- unlike powers, none beyond R, numbers of at most B -/
structure PB (R B : Nat) (p : Pol) : Prop where
  nd : ND p
  rg : ∀ x ∈ p, x.1.natAbs ≤ R
  vb : ∀ x ∈ p, x.2.natAbs ≤ B
theorem PB.nil {R B : Nat} : PB R B [] := ⟨List.nodup_nil, fun x h => absurd h List.not_mem_nil, fun x h => absurd h List.not_mem_nil⟩
theorem PB.len {R B : Nat} {p : Pol} (h : PB R B p) : p.length ≤ 2 * R + 1 := by
  have := nodup_range h.nd (m := R) fun x hx => by
    obtain ⟨y, hy, rfl⟩ := List.mem_map.mp hx
    have := h.rg y hy
    omega
  simpa using this
theorem mem_put {p : Pol} {k v : Int} {x : Int × Int} (h : x ∈ put p k v) : x = (k, v) ∨ x ∈ p := by
  unfold put at h
  split at h
  · obtain ⟨y, hy, e⟩ := List.mem_map.mp h
    split at e
    · rename_i ek; exact .inl (by rw [← e, ek])
    · exact .inr (e ▸ hy)
  · rcases List.mem_append.mp h with h | h
    · exact .inr h
    · exact .inl (List.mem_singleton.mp h)
theorem PB.put {R B : Nat} {p : Pol} (h : PB R B p) {k v : Int} (hk : k.natAbs ≤ R) (hv : v.natAbs ≤ B) : PB R B (put p k v) :=
  ⟨put_nodup h.nd k v, fun x hx => by rcases mem_put hx with rfl | hx; exact hk; exact h.rg x hx, fun x hx => by rcases mem_put hx with rfl | hx; exact hv; exact h.vb x hx⟩
theorem PB.look {R B : Nat} {p : Pol} (h : PB R B p) (k : Int) : ((look p k).getD 0).natAbs ≤ B := by
  cases e : Mir.look p k with
  | none => exact Nat.zero_le _
  | some v => exact h.vb _ (look_in e)
/-- the product -/
def ter (x : Int × Int) (t : Pol) (y : Int × Int) : Pol := Mir.put t (x.1 + y.1) ((Mir.look t (x.1 + y.1)).getD 0 + x.2 * y.2)
def row (b : Pol) (t : Pol) (x : Int × Int) : Pol := b.foldl (ter x) t
/-- of few bits -/
def Sm (A : Nat) : Prop := ∃ k, k < 400000 ∧ A ≤ 2 ^ k
theorem Sm.lt {A : Nat} {i : Int} (h : Sm A) (hi : i.natAbs ≤ A) : i.natAbs.log2 < 400001 := by
  obtain ⟨k, hk, hA⟩ := h
  have h1 : i.natAbs < 2 ^ (k + 1) := Nat.lt_of_le_of_lt (Nat.le_trans hi hA) (Nat.pow_lt_pow_right (by decide) (by omega))
  exact Nat.lt_of_lt_of_le (PySem.Flt.log2_lt_of (by omega) h1) (by omega)
end Mir

namespace Mir
open PySem PySem.Spec L2
/-! ### dict displays, unlike keys, values without lists and dicts -/
def mDispP : List ((Env → Res D) × (Env → Res D)) → Env → Res (List (Key × D))
  | [], _ => .ok []
  | (mk, mv) :: r, env => mk env >>= fun x => mv env >>= fun d => mDispP r env >>= fun t => match keyOf x with
    | some k => if d.imm then .ok ((k, d) :: t) else .bad
    | none => .bad
def mDisp (l : List ((Env → Res D) × (Env → Res D))) : Env → Res D := fun env => mDispP l env >>= fun kds => if (kds.map (·.1)).Nodup ∧ kds.length ≤ 15 then .ok (.dk (kds.map (·.1)) (kds.map (·.2))) else .bad
section
variable {X : Cx} {pos : Pos}
end
variable (env : Mir.Env)
@[simp] theorem e_mDisp (l : List ((Mir.Env → Res D) × (Mir.Env → Res D))) : mDisp l env = (mDispP l env >>= fun kds => if (kds.map (·.1)).Nodup ∧ kds.length ≤ 15 then .ok (.dk (kds.map (·.1)) (kds.map (·.2))) else .bad) := rfl
@[simp] theorem e_mDispP0 : mDispP [] env = .ok [] := rfl
@[simp] theorem e_mDispP1 (mk mv : Mir.Env → Res D) (r : List ((Mir.Env → Res D) × (Mir.Env → Res D))) : mDispP ((mk, mv) :: r) env = (mk env >>= fun x => mv env >>= fun d => mDispP r env >>= fun t => match keyOf x with
    | some k => if d.imm then .ok ((k, d) :: t) else .bad
    | none => .bad) := rfl
@[simp] theorem e_keyOf_int (i : Int) : keyOf (.int i) = some (.inl i) := rfl
@[simp] theorem e_keyOf_str (i : Str) : keyOf (.str i) = some (.inr i) := rfl
theorem rangeOk_nat (n : Nat) (h : n ≤ 1000) : rangeOk (n : Int) = true := by
  have h1 : -(2 ^ 62) ≤ (n : Int) := Int.le_trans (by decide) (Int.natCast_nonneg n)
  have h2 : (n : Int) < 2 ^ 62 := Int.lt_of_le_of_lt (Int.ofNat_le.mpr h) (by decide)
  unfold rangeOk
  rw [decide_eq_true h1, decide_eq_true h2, Bool.true_and]
theorem gRng1_nat (n : Nat) (h : n ≤ 1000) : gRng1 (.int n) = .ok ((List.range n).map fun i : Nat => D.int i) := by
  show (if rangeOk (n : Int) = true then Res.ok (intsD 0 (n : Int).toNat) else .bad) = _
  rw [if_pos (rangeOk_nat n h)]
  simp [intsD]
end Mir

namespace Mir
open PySem PySem.Spec L2
/-! ### a number laid into each dict of a list -/
section
variable {X : Cx} {kr : Nat} {pos p2 p3 p4 p5 p6 p7 : Pos} {o it : Expr} {v : Str}
end
end Mir

namespace Mir
open PySem PySem.Spec L2
/-! ### texts of numbers, joined texts, sorted dicts, the truth of a dict -/
section
variable {X : Cx} {e o : Expr} {m mo : Env → Res D} {k : Nat} {pos p apos : Pos}
end
end Mir

namespace Mir
open PySem PySem.Spec PyProof.Rows RT
section
variable {prog : Program} {w : World} {A : Around} {E : Value → Shared → Prop} {s : Shared}
end
end Mir
namespace Mir
open PySem PySem.Spec PyProof.Rows L2 RT
section
variable {X : Cx} {e : Expr} {te : TE} {k : Nat} {p p2 pos pos2 : Pos} {mm : Env → Res (List D)}
end
end Mir

namespace Mir
open PySem PySem.Spec L2
/-! ### a list that is made to be read alone: its items stay where they are -/
theorem EnvOk.extra {B : Bs} {H : Hp} {env : Env} {σ : St} {tm : List Hold} {p : Addr} {o : HO} (h : EnvOk B H env σ tm) (hp : H p = none) (hu : unf o = o) (ho : isIm o = false) : EnvOk B (upd H p o) env σ tm := by
  obtain ⟨⟨G, fp, g, hs, nd, hq⟩, h2, h3⟩ := h
  exact ⟨⟨G, fp, g.newMu hp hu ho, hs.frame (fun a u e => e) (fun a u e _ => up_keep hp a u e), nd, hq⟩, h2, h3⟩
section
variable {X : Cx} {pos : Pos} {es : List Expr} {ms : Env → Res (List D)}
/-- [..] that is read alone -/
theorem sb_lst (hs : SAB X es ms) : SB X (.List es pos) (mLst ms) := fun B H env σ tm d Q ok hm q => by
  obtain ⟨xs, hx, hg⟩ := bind_ok hm
  by_cases hl : xs.length ≤ sizeLine
  · rw [if_pos hl] at hg
    cases hg
    refine wE_of (pe_lst pa_sem) (hs B H env σ tm xs _ ok hx fun vs H1 x1 ok1 ra => ⟨by rw [ra.length]; exact hl, fun p hp => ?_⟩)
    have x2 : Ext H1 (upd H1 p (.lst vs)) := Ext.upd hp
    refine q _ _ (x1.trans x2) (ok1.extra hp rfl rfl) (.lst ?_ (x2.rpAll ra))
    unfold view
    rw [upd_same]; rfl
  · rw [if_neg hl] at hg; cases hg
end
end Mir

namespace Mir
open PySem PySem.Spec L2
/-! ### in a list, the place in a list, all -/
section
variable {X : Cx}
variable {e o : Expr} {m mo : Env → Res D} {pos p apos cpos : Pos}
end
end Mir

namespace Mir
open PySem PySem.Spec L2
/-! ### x = d.setdefault(k, v) -/
def mSetd (i j : Nat) (mk mz : Env → Res D) : Env → Res Ctl := fun env => mk env >>= fun y => mz env >>= fun z => atK env j >>= fun dd => match dd, keyOf y with
  | .dk ks ds, some kk => if i < env.length ∧ z.imm = true ∧ ds.length < sizeLine then (match dFind ks ds kk with
    | some w => if w.imm then .ok (.nx (env.set i (some (0, w)))) else .bad
    | none => .ok (.nx ((env.set j (some (1, .dk (dPutK ks kk) (dPutV ks ds kk z)))).set i (some (0, z))))) else .bad
  | _, _ => .bad
section
variable {X : Cx} {kr : Nat} {o e f : Expr} {pos apos cpos : Pos} {mk mz : Env → Res D}
end
end Mir

namespace Mir
open PySem PySem.Spec L2
/-! ### min of a list of alike data -/
end Mir

namespace Mir
open PySem PySem.Spec L2
mutual
def unpy : PyData → D
  | .none => .non | .bool b => .bl b | .int i => .int i | .str x => .str x
  | .list xs => .lst (unpyAll xs) | .tuple xs => .tup (unpyAll xs)
  | _ => .non
def unpyAll : List PyData → List D
  | [] => []
  | x :: xs => unpy x :: unpyAll xs
end
mutual
theorem unpy_py : ∀ d : D, d.imm = true → PyData.canLay0 d.py = true → unpy d.py = d
  | .non, _, _ => by simp [D.py, unpy]
  | .bl _, _, _ => by simp [D.py, unpy]
  | .int _, _, _ => by simp [D.py, unpy]
  | .str _, _, _ => by simp [D.py, unpy]
  | .lst _, h, _ => by simp [D.imm] at h
  | .tup xs, h, e => by
    have := unpyAll_py xs (by simpa [D.imm] using h) (by simpa [D.py, PyData.canLay0] using e)
    simp [D.py, unpy, this]
  | .dk _ _, h, _ => by simp [D.imm] at h
  | .dt _ _, h, _ => by simp [D.imm] at h
  | .ob _ _ _ _, _, e => by simp [D.py, PyData.canLay0] at e
  | .exn _ _ _ _, h, _ => by simp [D.imm] at h
  | .dn _ _, h, _ => by simp [D.imm] at h
theorem unpyAll_py : ∀ ds : List D, immAll ds = true → PyData.canLayAll0 (pyAll ds) = true → unpyAll (pyAll ds) = ds
  | [], _, _ => by simp [pyAll, unpyAll]
  | d :: ds, h, e => by
    have h2 : d.imm = true ∧ immAll ds = true := by simpa [immAll] using h
    rw [pyAll, PyData.canLayAll0, Bool.and_eq_true] at e
    simp [pyAll, unpyAll, unpy_py d h2.1 e.1, unpyAll_py ds h2.2 e.2]
end
section
variable {X : Cx} {e : Expr} {m : Env → Res D} {pos p : Pos}
end
end Mir

namespace Mir
open PySem PySem.Spec L2
/-! ### data with a Lean type: ==, <, in, index, min told of the Lean values -/
class Dat (α : Type) [DecidableEq α] where
  enc : α → D
  lt : α → α → Bool
  dep : Nat
  eqv : ∀ a b, PyData.eqv (enc a).py (enc b).py = decide (a = b)
  alike : ∀ a b, PySem.W.alike (enc a).py (enc b).py = true
  lay : ∀ a, PyData.canLay0 (enc a).py = true
  depth : ∀ a, (enc a).py.depth ≤ dep
  dlt : ∀ a b, PySem.W.dataLt (enc a).py (enc b).py = lt a b
  nn : ∀ a, enc a ≠ .non
  tot : ∀ a b, lt a b = false → lt b a = false → a = b
  tr : ∀ a b c, lt a b = true → lt b c = true → lt a c = true
  asy : ∀ a b, lt a b = true → lt b a = false
open Dat
theorem Dat.irr {α : Type} [DecidableEq α] [Dat α] (a : α) : Dat.lt a a = false := by
  cases h : Dat.lt a a with
  | false => rfl
  | true => exact absurd h (by rw [Dat.asy a a h]; decide)
instance : Dat Int where
  enc := D.int
  lt a b := decide (a < b)
  dep := 1
  eqv a b := by
    show PyData.eqv (PyData.int a) (PyData.int b) = _
    simp only [e_eqv_int]; by_cases h : a = b <;> simp [h]
  alike a b := by simp [D.py, PySem.W.alike]
  lay a := by simp [D.py, PyData.canLay0]
  depth a := by simp [D.py, PyData.depth]
  dlt a b := by simp only [D.py, PySem.W.dataLt_int]
  nn a := by simp
  tot a b := by simp; omega
  tr a b c := by simp; omega
  asy a b := by simp; omega
section
variable {α β γ : Type} [DecidableEq α] [Dat α] [DecidableEq β] [Dat β] [DecidableEq γ] [Dat γ]
theorem depthAll_le {ds : List PyData} {n : Nat} (h : ∀ d ∈ ds, d.depth ≤ n) : PyData.depthAll ds ≤ n := by
  induction ds with
  | nil => simp [PyData.depthAll]
  | cons d ds ih =>
    simp only [PyData.depthAll]
    exact Nat.max_le.mpr ⟨h d List.mem_cons_self, ih fun x hx => h x (List.mem_cons_of_mem _ hx)⟩
theorem eqvAll_enc : ∀ xs ys : List α, PyData.eqvAll (pyAll (xs.map enc)) (pyAll (ys.map enc)) = decide (xs = ys)
  | [], [] => by simp [pyAll, PyData.eqvAll]
  | [], y :: ys => by simp [pyAll, PyData.eqvAll]
  | x :: xs, [] => by simp [pyAll, PyData.eqvAll]
  | x :: xs, y :: ys => by
    simp only [List.map_cons, pyAll, PyData.eqvAll, eqv, eqvAll_enc xs ys]
    by_cases h : x = y <;> by_cases h2 : xs = ys <;> simp [h, h2]
theorem alikeAll_enc : ∀ xs ys : List α, PySem.W.alikeAll (pyAll (xs.map enc)) (pyAll (ys.map enc)) = true
  | [], _ => by rw [List.map_nil, pyAll, PySem.W.alikeAll]
  | x :: xs, [] => by rw [List.map_nil, List.map_cons, pyAll, pyAll, PySem.W.alikeAll]
  | x :: xs, y :: ys => by
    simp only [List.map_cons, pyAll, PySem.W.alikeAll, alike x y, alikeAll_enc xs ys, Bool.and_self]
theorem layAll_enc : ∀ xs : List α, PyData.canLayAll0 (pyAll (xs.map enc)) = true
  | [] => by simp [pyAll, PyData.canLayAll0]
  | x :: xs => by simp only [List.map_cons, pyAll, PyData.canLayAll0, lay x, layAll_enc xs, Bool.and_self]
theorem depthAll_enc (xs : List α) : PyData.depthAll (pyAll (xs.map (enc (α := α)))) ≤ dep α := depthAll_le fun d hd => by
  rw [pyAll_map, List.map_map] at hd
  obtain ⟨a, _, rfl⟩ := List.mem_map.mp hd
  exact depth a
/-- the first difference decides, else the shorter one is the less -/
def listLt (lt : α → α → Bool) : List α → List α → Bool
  | [], [] => false
  | [], _ :: _ => true
  | _ :: _, [] => false
  | x :: xs, y :: ys => if x = y then listLt lt xs ys else lt x y
theorem lexAll_enc : ∀ xs ys : List α, PyProof.Rows.lexLt PyProof.Rows.itemOrd (PySem.W.keyToksAll (pyAll (xs.map enc))) (PySem.W.keyToksAll (pyAll (ys.map enc))) = listLt lt xs ys
  | [], [] => PyProof.Rows.lex_irrefl _
  | [], y :: ys => by
    rw [List.map_nil, List.map_cons, pyAll, pyAll, PySem.W.toks_all_cons]
    simp only [PySem.W.keyToksAll]
    rw [PyProof.Rows.lex_diff (O := PyProof.Rows.itemOrd) (by simp)]
    rfl
  | x :: xs, [] => by
    rw [List.map_nil, List.map_cons, pyAll, pyAll, PySem.W.toks_all_cons]
    simp only [PySem.W.keyToksAll]
    rw [PyProof.Rows.lex_diff (O := PyProof.Rows.itemOrd) (by simp)]
    rfl
  | x :: xs, y :: ys => by
    rw [List.map_cons, List.map_cons, pyAll, pyAll, listLt]
    by_cases h : x = y
    · rw [if_pos h, PySem.W.dataLt_all_yes (alike x y) (by rw [eqv, decide_eq_true_eq]; exact h), lexAll_enc xs ys]
    · rw [if_neg h, PySem.W.dataLt_all_no (alike x y) (by rw [eqv, decide_eq_false_iff_not]; exact h), dlt]
theorem listLt_tot {lt : α → α → Bool} (h : ∀ a b, lt a b = false → lt b a = false → a = b) : ∀ xs ys : List α, listLt lt xs ys = false → listLt lt ys xs = false → xs = ys
  | [], [], _, _ => rfl
  | [], _ :: _, h1, _ => by simp [listLt] at h1
  | _ :: _, [], _, h1 => by simp [listLt] at h1
  | x :: xs, y :: ys, h1, h2 => by
    unfold listLt at h1 h2
    by_cases e : x = y
    · subst e
      rw [if_pos rfl] at h1 h2
      rw [listLt_tot h xs ys h1 h2]
    · rw [if_neg e] at h1
      rw [if_neg (Ne.symm e)] at h2
      exact absurd (h x y h1 h2) e
theorem listLt_tr {lt : α → α → Bool} (h : ∀ a b c, lt a b = true → lt b c = true → lt a c = true) (ha : ∀ a b, lt a b = true → lt b a = false) : ∀ xs ys zs : List α, listLt lt xs ys = true → listLt lt ys zs = true → listLt lt xs zs = true
  | [], [], _, h1, _ => by simp [listLt] at h1
  | _, _ :: _, [], _, h1 => by simp [listLt] at h1
  | _ :: _, [], _, h1, _ => by simp [listLt] at h1
  | [], y :: ys, z :: zs, _, _ => rfl
  | x :: xs, y :: ys, z :: zs, h1, h2 => by
    unfold listLt at h1 h2 ⊢
    by_cases e : x = y
    · subst e
      rw [if_pos rfl] at h1
      by_cases e2 : x = z
      · rw [if_pos e2] at h2 ⊢
        exact listLt_tr h ha xs ys zs h1 h2
      · rw [if_neg e2] at h2 ⊢
        exact h2
    · rw [if_neg e] at h1
      by_cases e2 : y = z
      · subst e2
        rw [if_neg e]; exact h1
      · rw [if_neg e2] at h2
        have h3 := h _ _ _ h1 h2
        have e3 : x ≠ z := fun e => by
          subst e
          rw [ha _ _ h1] at h2
          cases h2
        rw [if_neg e3]; exact h3
theorem listLt_asy {lt : α → α → Bool} (ha : ∀ a b, lt a b = true → lt b a = false) : ∀ xs ys : List α, listLt lt xs ys = true → listLt lt ys xs = false
  | [], [], h1 => by simp [listLt] at h1
  | _ :: _, [], h1 => by simp [listLt] at h1
  | [], y :: ys, _ => rfl
  | x :: xs, y :: ys, h1 => by
    unfold listLt at h1 ⊢
    by_cases e : x = y
    · subst e
      rw [if_pos rfl] at h1 ⊢
      exact listLt_asy ha xs ys h1
    · rw [if_neg e] at h1
      rw [if_neg (Ne.symm e)]
      exact ha _ _ h1
instance : Dat (List α) where
  enc xs := .lst (xs.map enc)
  lt := listLt lt
  dep := dep α + 1
  eqv a b := by simp only [D.py, PyData.eqv]; exact eqvAll_enc a b
  alike a b := by simp only [D.py, PySem.W.alike]; exact alikeAll_enc a b
  lay a := by simp only [D.py, PyData.canLay0]; exact layAll_enc a
  depth a := by
    simp only [D.py, PyData.depth]
    have := depthAll_enc a
    omega
  dlt a b := by simp only [D.py, PySem.W.dataLt_list]; exact lexAll_enc a b
  nn a := by simp
  tot := listLt_tot tot
  tr := listLt_tr tr asy
  asy := listLt_asy asy
theorem nilTok : PyProof.Rows.lexLt PyProof.Rows.itemOrd (PySem.W.keyToksAll []) (PySem.W.keyToksAll []) = false := PyProof.Rows.lex_irrefl _
theorem consTok (x y : α) (xs ys : List PyData) : PyProof.Rows.lexLt PyProof.Rows.itemOrd (PySem.W.keyToksAll ((enc x).py :: xs)) (PySem.W.keyToksAll ((enc y).py :: ys)) = if x = y then PyProof.Rows.lexLt PyProof.Rows.itemOrd (PySem.W.keyToksAll xs) (PySem.W.keyToksAll ys) else lt x y := by
  by_cases h : x = y
  · rw [if_pos h, PySem.W.dataLt_all_yes (alike x y) (by rw [eqv, decide_eq_true_eq]; exact h)]
  · rw [if_neg h, PySem.W.dataLt_all_no (alike x y) (by rw [eqv, decide_eq_false_iff_not]; exact h), dlt]
instance : Dat (α × β) where
  enc p := .tup [enc p.1, enc p.2]
  lt p q := if p.1 = q.1 then lt p.2 q.2 else lt p.1 q.1
  dep := max (dep α) (dep β) + 1
  eqv a b := by
    obtain ⟨a1, a2⟩ := a
    obtain ⟨b1, b2⟩ := b
    simp only [D.py, pyAll, PyData.eqv, PyData.eqvAll, eqv]
    by_cases h : a1 = b1 <;> by_cases h2 : a2 = b2 <;> simp [h, h2]
  alike a b := by simp only [D.py, pyAll, PySem.W.alike, PySem.W.alikeAll, alike, Bool.and_self]
  lay a := by simp only [D.py, pyAll, PyData.canLay0, PyData.canLayAll0, lay, Bool.and_self]
  depth a := by
    simp only [D.py, pyAll, PyData.depth, PyData.depthAll]
    have h1 := depth a.1
    have h2 := depth a.2
    omega
  dlt a b := by
    simp only [D.py, pyAll, PySem.W.dataLt_tuple, consTok, nilTok]
    by_cases h : a.1 = b.1
    · rw [if_pos h, if_pos h]
      by_cases h2 : a.2 = b.2
      · rw [if_pos h2, h2, irr]
      · rw [if_neg h2]
    · rw [if_neg h, if_neg h]
  nn a := by simp
  tot a b h1 h2 := by
    obtain ⟨a1, a2⟩ := a
    obtain ⟨b1, b2⟩ := b
    dsimp only at h1 h2
    by_cases e : a1 = b1
    · subst e
      rw [if_pos rfl] at h1 h2
      rw [tot _ _ h1 h2]
    · rw [if_neg e] at h1
      rw [if_neg (Ne.symm e)] at h2
      exact absurd (tot _ _ h1 h2) e
  tr a b c h1 h2 := by
    obtain ⟨a1, a2⟩ := a
    obtain ⟨b1, b2⟩ := b
    obtain ⟨c1, c2⟩ := c
    dsimp only at h1 h2 ⊢
    by_cases e : a1 = b1
    · subst e
      rw [if_pos rfl] at h1
      by_cases e2 : a1 = c1
      · rw [if_pos e2] at h2 ⊢
        exact tr _ _ _ h1 h2
      · rw [if_neg e2] at h2 ⊢
        exact h2
    · rw [if_neg e] at h1
      by_cases e2 : b1 = c1
      · subst e2
        rw [if_neg e]; exact h1
      · rw [if_neg e2] at h2
        have h3 := tr _ _ _ h1 h2
        have e3 : a1 ≠ c1 := fun e => by
          subst e
          rw [asy _ _ h1] at h2
          cases h2
        rw [if_neg e3]; exact h3
  asy a b h1 := by
    obtain ⟨a1, a2⟩ := a
    obtain ⟨b1, b2⟩ := b
    dsimp only at h1 ⊢
    by_cases e : a1 = b1
    · subst e
      rw [if_pos rfl] at h1 ⊢
      exact asy _ _ h1
    · rw [if_neg e] at h1
      rw [if_neg (Ne.symm e)]
      exact asy _ _ h1
end
/-- three whole numbers, a tuple: a passing, a side -/
structure T3 where
  a : Int
  b : Int
  c : Int
  deriving DecidableEq
def T3.lt (x y : T3) : Bool := decide (x.a < y.a ∨ (x.a = y.a ∧ (x.b < y.b ∨ (x.b = y.b ∧ x.c < y.c))))
def t3 (x : T3) : D := .tup [.int x.a, .int x.b, .int x.c]
theorem T3.eq_iff (x y : T3) : x = y ↔ x.a = y.a ∧ x.b = y.b ∧ x.c = y.c := by
  cases x; cases y; simp
instance : Dat T3 where
  enc := t3
  lt := T3.lt
  dep := 2
  eqv x y := by
    simp only [t3, D.py, pyAll, PyData.eqv, PyData.eqvAll]
    by_cases h1 : x.a = y.a <;> by_cases h2 : x.b = y.b <;> by_cases h3 : x.c = y.c <;> simp [h1, h2, h3, T3.eq_iff]
  alike x y := by simp [t3, D.py, pyAll, PySem.W.alike, PySem.W.alikeAll]
  lay a := by simp [t3, D.py, pyAll, PyData.canLay0, PyData.canLayAll0]
  depth a := by simp [t3, D.py, pyAll, PyData.depth, PyData.depthAll]
  dlt x y := by
    have h := fun (i j : Int) (xs ys : List PyData) => consTok i j xs ys
    simp only [enc, e_py_int] at h
    show PySem.W.dataLt (D.tup _).py (D.tup _).py = _
    simp only [D.py, pyAll, PySem.W.dataLt_tuple, h, nilTok, lt, T3.lt]
    by_cases h1 : x.a = y.a <;> by_cases h2 : x.b = y.b <;> by_cases h3 : x.c = y.c <;> simp [h1, h2, h3]
  nn a := by simp [t3]
  tot x y := by simp only [T3.lt, decide_eq_false_iff_not, T3.eq_iff]; omega
  tr x y z := by simp only [T3.lt, decide_eq_true_eq]; omega
  asy x y := by simp only [T3.lt, decide_eq_true_eq, decide_eq_false_iff_not]; omega
section
variable {α : Type} [DecidableEq α] [Dat α]
theorem shp_enc (a : α) (h : dep α ≤ 64) : shp (enc a) = true := by
  unfold shp SeqAt.shaped
  rw [lay a, Bool.true_and, decide_eq_true_eq]
  exact Nat.le_trans (depth a) h
theorem gEq_enc (a b : α) (h : dep α ≤ 64) : gEq (enc a) (enc b) = .ok (.bl (decide (a = b))) := by
  unfold gEq
  rw [shp_enc a h, shp_enc b h, eqv]; rfl
theorem gNe_enc (a b : α) (h : dep α ≤ 64) : gNe (enc a) (enc b) = .ok (.bl (!decide (a = b))) := by
  unfold gNe
  rw [shp_enc a h, shp_enc b h, eqv]; rfl
end
end Mir

namespace Mir
open PySem PySem.Spec L2
/-! ### branches brought together -/
section
variable {c : Prop} [Decidable c]
end
def setdM (i j : Nat) (y z dd : D) (env : Mir.Env) : Res Ctl := match dd, keyOf y with
  | .dk ks ds, some kk => if i < env.length ∧ z.imm = true ∧ ds.length < sizeLine then (match dFind ks ds kk with
    | some w => if w.imm then .ok (.nx (env.set i (some (0, w)))) else .bad
    | none => .ok (.nx ((env.set j (some (1, .dk (dPutK ks kk) (dPutV ks ds kk z)))).set i (some (0, z))))) else .bad
  | _, _ => .bad
@[simp] theorem e_mSetd (i j : Nat) (mk mz : Mir.Env → Res D) (env : Mir.Env) : mSetd i j mk mz env = (mk env >>= fun y => mz env >>= fun z => atK env j >>= fun dd => setdM i j y z dd env) := rfl
theorem gIx_map {α : Type} {f : α → D} {xs : List α} {i : Nat} {a : α} (h : xs[i]? = some a) : gIx (.lst (xs.map f)) (.int i) = .ok (f a) := by
  have hl := (List.getElem?_eq_some_iff.mp h).1
  have h2 : xs[i] = a := (List.getElem?_eq_some_iff.mp h).2
  simp [gIx, atI, ixN, hl, h2]
theorem gRng1_d {n : Nat} (h : n ≤ 1000) : gRng1 (.int n) = .ok ((List.range n).map fun i : Nat => D.int i) := gRng1_nat n h
@[simp] theorem t3_imm (x : T3) : (t3 x).imm = true := rfl
@[simp] theorem t3_isi (x : T3) : isi .tuple (t3 x) = true := rfl
@[simp] theorem t3_isOb (x : T3) : isOb (t3 x) = false := rfl
@[simp] theorem t3_len (x : T3) : gLen (t3 x) = .ok (.int 3) := rfl
@[simp] theorem t3_items (x : T3) : itemsT (t3 x) = .ok [.int x.a, .int x.b, .int x.c] := rfl
@[simp] theorem t3_0 (x : T3) : gIx (t3 x) (.int 0) = .ok (.int x.a) := rfl
@[simp] theorem t3_1 (x : T3) : gIx (t3 x) (.int 1) = .ok (.int x.b) := rfl
@[simp] theorem t3_2 (x : T3) : gIx (t3 x) (.int 2) = .ok (.int x.c) := rfl
theorem immAll_drop {ds : List D} (h : immAll ds = true) (k : Nat) : immAll (ds.drop k) = true := immAll_iff.mpr fun d hd => immAll_iff.mp h d (List.mem_of_mem_drop hd)
theorem immAll_take {ds : List D} (h : immAll ds = true) (k : Nat) : immAll (ds.take k) = true := immAll_iff.mpr fun d hd => immAll_iff.mp h d (List.mem_of_mem_take hd)
theorem immAll_t3 (xs : List T3) : immAll (xs.map t3) = true := by simp
@[simp] theorem immAll_dt3 (xs : List T3) (k : Nat) : immAll ((xs.map t3).drop k) = true := immAll_drop (immAll_t3 xs) k
@[simp] theorem immAll_tt3 (xs : List T3) (k : Nat) : immAll ((xs.map t3).take k) = true := immAll_take (immAll_t3 xs) k
@[simp] theorem isi_ll (xs : List D) : isi .list (.lst xs) = true := rfl
@[simp] theorem isi_tt (xs : List D) : isi .tuple (.tup xs) = true := rfl
@[simp] theorem isi_ii (i : Int) : isi .int (.int i) = true := rfl
@[simp] theorem isi_bi (i : Int) : isi .bool (.int i) = false := rfl
@[simp] theorem immAt_l (k : Nat) (ds : List D) : immAt (k + 1) (.lst ds) = immAtL k ds := by unfold immAt; rfl
@[simp] theorem immAt_1l (ds : List D) : immAt 1 (.lst ds) = immAll ds := by rw [show (1 : Nat) = 0 + 1 from rfl, immAt_l, immAtL0]
@[simp] theorem e_immL (ds : List D) : immL ds = if immAll ds = true then .ok ds else .bad := rfl
@[simp] theorem gTru_l (ds : List D) : gTru (.lst ds) = .ok (!ds.isEmpty) := rfl
@[simp] theorem gTru_i (i : Int) : gTru (.int i) = .ok (i != 0) := rfl
@[simp] theorem gTru_b (b : Bool) : gTru (.bl b) = .ok b := rfl
@[simp] theorem gTru_n : gTru .non = .ok false := rfl
@[simp] theorem gTru_t (ds : List D) : gTru (.tup ds) = .ok (!ds.isEmpty) := rfl
@[simp] theorem sz1 : 1 ≤ sizeLine := sizeLine_big (by decide)
@[simp] theorem sz2 : 2 ≤ sizeLine := sizeLine_big (by decide)
@[simp] theorem sz3 : 3 ≤ sizeLine := sizeLine_big (by decide)
@[simp] theorem sz4 : 4 ≤ sizeLine := sizeLine_big (by decide)
@[simp] theorem sz5 : 5 ≤ sizeLine := sizeLine_big (by decide)
@[simp] theorem sz6 : 6 ≤ sizeLine := sizeLine_big (by decide)
@[simp] theorem sz7 : 7 ≤ sizeLine := sizeLine_big (by decide)
@[simp] theorem sz8 : 8 ≤ sizeLine := sizeLine_big (by decide)
@[simp] theorem sz9 : 9 ≤ sizeLine := sizeLine_big (by decide)
@[simp] theorem sz10 : 10 ≤ sizeLine := sizeLine_big (by decide)
@[simp] theorem sz11 : 11 ≤ sizeLine := sizeLine_big (by decide)
@[simp] theorem sz12 : 12 ≤ sizeLine := sizeLine_big (by decide)
@[simp] theorem sz13 : 13 ≤ sizeLine := sizeLine_big (by decide)
@[simp] theorem sz14 : 14 ≤ sizeLine := sizeLine_big (by decide)
@[simp] theorem sz15 : 15 ≤ sizeLine := sizeLine_big (by decide)
@[simp] theorem sz16 : 16 ≤ sizeLine := sizeLine_big (by decide)
def t2 (x : Int × Int) : D := .tup [.int x.1, .int x.2]
@[simp] theorem t2_imm (x : Int × Int) : (t2 x).imm = true := rfl
@[simp] theorem t2_isi (x : Int × Int) : isi .tuple (t2 x) = true := rfl
@[simp] theorem t2_isOb (x : Int × Int) : isOb (t2 x) = false := rfl
@[simp] theorem t2_len (x : Int × Int) : gLen (t2 x) = .ok (.int 2) := rfl
@[simp] theorem t2_items (x : Int × Int) : itemsT (t2 x) = .ok [.int x.1, .int x.2] := rfl
@[simp] theorem t2_0 (x : Int × Int) : gIx (t2 x) (.int 0) = .ok (.int x.1) := rfl
@[simp] theorem t2_1 (x : Int × Int) : gIx (t2 x) (.int 1) = .ok (.int x.2) := rfl
theorem lc_run {α : Type} {t : Nat → D → Mir.Env → Res Mir.Env} {me : Mir.Env → Res D} {mt : Mir.Env → Res Bool} {env : Mir.Env} (enc : α → D) (p : α → Bool) (f : α → D) : ∀ xs : List α, (∀ a ∈ xs, ∃ e1, t 0 (enc a) env = .ok e1 ∧ mt e1 = .ok (p a) ∧ (p a = true → me e1 = .ok (f a))) → lcLoop t mt me env (xs.map enc) = .ok ((xs.filter p).map f)
  | [], _ => rfl
  | x :: xs, h => by
    obtain ⟨e1, h1, h2, h3⟩ := h x List.mem_cons_self
    have ih := lc_run enc p f xs fun a ha => h a (List.mem_cons_of_mem _ ha)
    rw [List.filter_cons]
    simp only [List.map_cons, lcLoop, h1, ok_bind, h2]
    cases hp : p x with
    | true => simp [h3 hp, ih]
    | false => simp [ih]
theorem lc_all {α : Type} {t : Nat → D → Mir.Env → Res Mir.Env} {me : Mir.Env → Res D} {env : Mir.Env} (enc : α → D) (f : α → D) (xs : List α) (h : ∀ a ∈ xs, (t 0 (enc a) env >>= me) = .ok (f a)) : lcLoop t (fun _ => .ok true) me env (xs.map enc) = .ok (xs.map f) := by
  have := lc_run (mt := fun _ => .ok true) (me := me) (t := t) (env := env) enc (fun _ => true) f xs fun a ha => by
    obtain ⟨e1, h1, h2⟩ := bind_ok (h a ha)
    exact ⟨e1, h1, rfl, fun _ => h2⟩
  rw [this, List.filter_eq_self.mpr fun _ _ => rfl]
/-! ### loops, with what comes behind them -/
def stepc (fg : List Nat) : Ctl → Res Mir.Env
  | .nx e => .ok (clear e fg)
  | .ct e => .ok (clear e fg)
  | _ => .bad
@[simp] theorem stepc_nx (fg : List Nat) (e : Mir.Env) : stepc fg (.nx e) = .ok (clear e fg) := rfl
@[simp] theorem stepc_ct (fg : List Nat) (e : Mir.Env) : stepc fg (.ct e) = .ok (clear e fg) := rfl
theorem loop_step {t : Nat → D → Mir.Env → Res Mir.Env} {body : Mir.Env → Res Ctl} {fg : List Nat} {x : D} {xs : List D} {env env' : Mir.Env} (h : (t 0 x env >>= fun e => body e >>= stepc fg) = .ok env') : loop t body fg (x :: xs) env = loop t body fg xs env' := by
  obtain ⟨e1, h1, h2⟩ := bind_ok h
  obtain ⟨c, h3, h4⟩ := bind_ok h2
  show (t 0 x env >>= fun e1 => body e1 >>= fun c => match c with | .nx e => loop t body fg xs (clear e fg) | .ct e => loop t body fg xs (clear e fg) | .bk e => .ok (.nx (clear e fg)) | .rt d => .ok (.rt d)) = _
  rw [h1, ok_bind, h3, ok_bind]
  cases c with
  | nx e => cases h4; rfl
  | ct e => cases h4; rfl
  | bk e => cases h4
  | rt e => cases h4
/-- it is told, and Q holds of it -/
def Tells {β : Type} (r : Res β) (Q : β → Prop) : Prop := ∃ b, r = .ok b ∧ Q b
theorem Tells.eq {β : Type} {r : Res β} {b : β} (h : Tells r (· = b)) : r = .ok b := by
  obtain ⟨_, h1, rfl⟩ := h
  exact h1
theorem Tells.of {β : Type} {r : Res β} {b : β} {Q : β → Prop} (h : r = .ok b) (q : Q b) : Tells r Q := ⟨b, h, q⟩
theorem Tells.ok {β : Type} {b : β} {Q : β → Prop} (q : Q b) : Tells (.ok b) Q := ⟨b, rfl, q⟩
theorem Tells.eqI {β : Type} {r : Res β} {b : β} (h : r = .ok b) : Tells r (· = b) := ⟨b, h, rfl⟩
end Mir

namespace Mir
open PySem PySem.Spec L2
section
variable {X : Cx} {e a b tg it : Expr} {m ma mb : Env → Res D} {k kr : Nat} {cs : List Nat} {pos p : Pos} {m1 : Env → Res Ctl}
/-! ### names of the module -/
/-! ### while -/
/-! ### sum of whole numbers -/
def intsD? : List D → Option (List Int)
  | [] => some []
  | .int i :: ds => (intsD? ds).map fun is => i :: is
  | _ :: _ => none
/-! ### enumerate, zip -/
end
end Mir

namespace Mir
open PySem PySem.Spec L2
section
variable {X : Cx} {e a b o i : Expr} {m ma mb mi mv : Env → Res D} {k kr : Nat} {cs : List Nat} {pos p : Pos} {m1 : Env → Res Ctl}
/-! ### [..] * n -/
/-! ### x[i] = e -/
def mPutI (j k : Nat) (cs : List Nat) (mv mi : Env → Res D) : Env → Res Ctl := fun env => mv env >>= fun d => mi (clear env cs) >>= fun y => atL (clear env cs) j (k + 1) >>= fun ds => match y with
  | .int n => (match ixN ds.length n with | some jj => .ok (.nx ((clear env cs).set j (some (k + 1, .lst (ds.set jj d))))) | none => .bad)
  | _ => .bad
/-- x[i][j] = e, e without lists, dicts -/
def mPutII (j k : Nat) (mv mi mj : Env → Res D) : Env → Res Ctl := fun env => mv env >>= fun d => mi env >>= fun y => mj env >>= fun z => atL env j (k + 2) >>= fun ds => match y, z with
  | .int n, .int n2 => (match ixN ds.length n with
    | some jj => (match ds[jj]? with
      | some (.lst es) => (match ixN es.length n2 with
        | some j2 => if d.imm = true then .ok (.nx (env.set j (some (k + 2, .lst (ds.set jj (.lst (es.set j2 d))))))) else .bad
        | none => .bad)
      | _ => .bad)
    | none => .bad)
  | _, _ => .bad
end
end Mir

namespace Mir
open PySem PySem.Spec L2
/-! ### a list's item is taken by a name and changed: x = xs[i]; x.insert(p, v) -/
def Bs.lent (B : Bs) (q : Addr) (o : HO) : Bs := ⟨upd B.h q o, fun a => if a = q then none else B.g a⟩
section
variable {B : Bs} {H : Hp} {env : Env} {σ : St} {tm : List Hold} {k : Nat} {vs : List V} {ds : List D} {q : Addr}
end
section
variable {X : Cx} {e ep o ix o2 : Expr} {mi mp mv : Env → Res D} {k kr : Nat} {pos p pos' pos2 spos apos cpos spos2 : Pos} {mr : Env → Res Ctl} {rest : List Stmt} {x : Str}
end
end Mir

namespace Mir
open PySem PySem.Spec L2
/-! ### sorted, of data that are alike -/
abbrev VD := V × D
section
variable {X : Cx} {e : Expr} {m : Env → Res D} {k : Nat} {cs : List Nat} {pos p : Pos}
end
/-! what it is, for data with a Lean type -/
section
variable {α : Type} [DecidableEq α] [Dat α]
def sorted (xs : List α) : List α := xs.mergeSort fun a b => !Dat.lt b a
end
end Mir

namespace Mir
open PySem PySem.Spec L2
/-! ### sorted(d), list(d): a dict's keys, be they tuples or not -/
section
variable {prog : Program} {w : World} {A : Around} {E : Value → Shared → Prop} {s : Shared}
end
/-- the keys as they stand in the heap -/
structure KeysAt (X : Cx) (H : Hp) (s : Shared) (a : Addr) (l : List VD) : Prop where
  ex : ∃ es ep, s.heap.DictRaw a es ep ∧ es.size = l.length ∧ Vals (l.map (·.1)) (es.toList.map (·.key))
  lo : (a == sysModules) = false
  few : l.length ≤ sizeLine
  rp : RpAll (view H) (l.map (·.1)) (l.map (·.2))
section
variable {X : Cx} {e : Expr} {m : Env → Res D} {k : Nat} {pos p : Pos}
end
end Mir

namespace Mir
open PySem PySem.Spec L2
@[simp] theorem e_tNil (k : Nat) (env : Mir.Env) : Mir.tNil k [] env = .ok env := rfl
@[simp] theorem e_tCons (t : Nat → D → Mir.Env → Res Mir.Env) (u : Nat → List D → Mir.Env → Res Mir.Env) (k : Nat) (d : D) (ds : List D) (env : Mir.Env) : Mir.tCons t u k (d :: ds) env = (t k d env >>= fun e => u k ds e) := rfl
@[simp] theorem e_tTupT (n : Nat) (u : Nat → List D → Mir.Env → Res Mir.Env) (k : Nat) (ds : List D) (env : Mir.Env) : tTupT n u k (.tup ds) env = if ds.length = n then u (k - 1) ds env else .bad := rfl
@[simp] theorem e_tTup2 (u : Nat → List D → Mir.Env → Res Mir.Env) (k : Nat) (x : Int × Int) (env : Mir.Env) : tTupT 2 u k (t2 x) env = u (k - 1) [.int x.1, .int x.2] env := rfl
@[simp] theorem e_tTup3 (u : Nat → List D → Mir.Env → Res Mir.Env) (k : Nat) (x : T3) (env : Mir.Env) : tTupT 3 u k (t3 x) env = u (k - 1) [.int x.a, .int x.b, .int x.c] env := rfl
/-! ### dicts with a Lean type: rows of keys and values -/
section
variable {κ β α : Type} [DecidableEq κ]
variable {key : α → κ} {val : α → β}
end
/-! ### as data -/
section
variable {κ κ' β : Type} [DecidableEq κ] [DecidableEq κ'] {g : κ → κ'} (hg : ∀ a b, g a = g b → a = b) (f : β → D)
include hg
end
section
variable {β : Type} (f : β → D)
def k2 (k : Int × Int) : List Key := [.inl k.1, .inl k.2]
end
/-- drawings -/
abbrev Drw := List (List T3)
def encR (r : List T3) : D := .lst (r.map t3)
def encD (ds : Drw) : D := .lst (ds.map encR)
end Mir

namespace Mir
open PySem PySem.Spec L2
/-! ### stores, reckoned -/
def putIm (j k : Nat) (cs : List Nat) (d y : D) (ds : List D) (env : Mir.Env) : Res Ctl := match y with
  | .int n => (match ixN ds.length n with | some jj => .ok (.nx ((clear env cs).set j (some (k + 1, .lst (ds.set jj d))))) | none => .bad)
  | _ => .bad
@[simp] theorem e_mPutI (j k : Nat) (cs : List Nat) (mv mi : Mir.Env → Res D) (env : Mir.Env) : mPutI j k cs mv mi env = (mv env >>= fun d => mi (clear env cs) >>= fun y => atL (clear env cs) j (k + 1) >>= fun ds => putIm j k cs d y ds env) := rfl
def putIIm (j k : Nat) (d y z : D) (ds : List D) (env : Mir.Env) : Res Ctl := match y, z with
  | .int n, .int n2 => (match ixN ds.length n with
    | some jj => (match ds[jj]? with
      | some (.lst es) => (match ixN es.length n2 with
        | some j2 => if d.imm = true then .ok (.nx (env.set j (some (k + 2, .lst (ds.set jj (.lst (es.set j2 d))))))) else .bad
        | none => .bad)
      | _ => .bad)
    | none => .bad)
  | _, _ => .bad
@[simp] theorem e_mPutII (j k : Nat) (mv mi mj : Mir.Env → Res D) (env : Mir.Env) : mPutII j k mv mi mj env = (mv env >>= fun d => mi env >>= fun y => mj env >>= fun z => atL env j (k + 2) >>= fun ds => putIIm j k d y z ds env) := rfl
abbrev Mat := List (List Int)
def encM (T : Mat) : D := .lst (T.map fun r => .lst (r.map D.int))
/-! ### a name that is free -/
end Mir

namespace Mir
open PySem PySem.Spec L2
/-! ### drawings, rows, tables: the mirror's operations -/
@[simp] theorem D_items (ds : Drw) : itemsL (encD ds) = .ok (ds.map encR) := rfl
@[simp] theorem D_len (ds : Drw) : gLen (encD ds) = .ok (.int ds.length) := by unfold encD; simp
@[simp] theorem D_isi (ds : Drw) : isi .list (encD ds) = true := rfl
@[simp] theorem D_isOb (ds : Drw) : isOb (encD ds) = false := rfl
@[simp] theorem R_items (r : List T3) : itemsL (encR r) = .ok (r.map t3) := rfl
@[simp] theorem R_len (r : List T3) : gLen (encR r) = .ok (.int r.length) := by unfold encR; simp
@[simp] theorem R_isi (r : List T3) : isi .list (encR r) = true := rfl
@[simp] theorem R_isOb (r : List T3) : isOb (encR r) = false := rfl
@[simp] theorem R_tru (r : List T3) : gTru (encR r) = .ok (!r.isEmpty) := by unfold encR; simp
@[simp] theorem M_items (T : Mat) : itemsL (encM T) = .ok (T.map fun r => .lst (r.map D.int)) := rfl
@[simp] theorem M_len (T : Mat) : gLen (encM T) = .ok (.int T.length) := by unfold encM; simp
@[simp] theorem M_isi (T : Mat) : isi .list (encM T) = true := rfl
@[simp] theorem M_isOb (T : Mat) : isOb (encM T) = false := rfl
@[simp] theorem immAt_2D (ds : Drw) : immAt 2 (encD ds) = true := by
  unfold encD
  rw [show (2 : Nat) = 1 + 1 from rfl, immAt_l]
  induction ds with
  | nil => rfl
  | cons r ds ih =>
    rw [List.map_cons, immAtL, ih]
    show (immAt 1 (.lst (r.map t3)) && true) = true
    simp
@[simp] theorem immAt_2M (T : Mat) : immAt 2 (encM T) = true := by
  unfold encM
  rw [show (2 : Nat) = 1 + 1 from rfl, immAt_l]
  induction T with
  | nil => rfl
  | cons r T ih =>
    rw [List.map_cons, immAtL, ih]
    simp
@[simp] theorem immAt_1R (r : List T3) : immAt 1 (encR r) = true := by unfold encR; simp
@[simp] theorem imm_R (r : List T3) : (encR r).imm = false := by unfold encR; simp [D.imm]
@[simp] theorem atL_M (T : Mat) (env : Mir.Env) (j k : Nat) (h : env[j]? = some (some (k, encM T))) : atL env j k = .ok (T.map fun r => .lst (r.map D.int)) := by
  unfold atL; rw [h]; simp [encM]
@[simp] theorem atL_D (ds : Drw) (env : Mir.Env) (j k : Nat) (h : env[j]? = some (some (k, encD ds))) : atL env j k = .ok (ds.map encR) := by
  unfold atL; rw [h]; simp [encD]
theorem e_mLc (mi : Mir.Env → Res (List D)) (t : Nat → D → Mir.Env → Res Mir.Env) (mt : Mir.Env → Res Bool) (me : Mir.Env → Res D) (own : List Nat) (env : Mir.Env) : mLc mi t mt me own env = (chk (noOwn own env) >>= fun _ => mi env >>= fun ds => lcLoop t mt me env ds >>= fun ys => if ys.length ≤ sizeLine then .ok (.lst ys) else .bad) := rfl
@[simp] theorem noOwn_nil (env : Mir.Env) : noOwn [] env = true := rfl
@[simp] theorem noOwn_cons (i : Nat) (is : List Nat) (env : Mir.Env) : noOwn (i :: is) env = ((match env[i]? with | some none => true | _ => false) && noOwn is env) := rfl
end Mir

namespace Mir
open PySem PySem.Spec L2
section
variable {X : Cx} {e a b tg it o elt : Expr} {m ma mb me mk mx : Env → Res D} {k kr : Nat} {cs : List Nat} {pos p p2 cpos apos cpos2 apos2 lp : Pos}
/-! ### list(range(n)) -/
/-! ### [.. for x in d.values()] -/
end
end Mir

namespace Mir
open PySem PySem.Spec L2
/-! ### d.setdefault(k, []).append(x) -/
section
variable {X : Cx} {kr : Nat} {o e x : Expr} {pos apos cpos apos2 cpos2 lp : Pos} {mk mx : Env → Res D}
end
end Mir

namespace Mir
open PySem PySem.Spec PyProof.Rows L2
section
variable {P : Program} {w : World} {A : Around} {E : Value → Shared → Prop} {s : Shared}
end
end Mir
namespace Mir
open PySem PySem.Spec L2
section
variable {X : Cx} {e : Expr} {m : Env → Res D} {k : Nat} {pos p p2 pos2 : Pos}
end
end Mir

namespace Mir
open PySem PySem.Spec L2
/-! ### insert into a drawing's row; groups -/
end Mir

namespace Mir
open PySem PySem.Spec L2
/-! ### for a, b in call().items(): dicts of tuple keys -/
section
variable {P : Program} {w : World} {K : PySem.W.Frag} {tg : Expr} {d : Addr} {o : Obj} {es : Array DictEntry} {ep : Nat}
end
section
variable {X : Cx} {tg e : Expr} {td : TE} {apos cpos : Pos}
end
section
variable {X : Cx} {o : Expr} {m : Env → Res D} {kr : Nat} {pos cpos apos : Pos} {m1 : Env → Res Ctl}
end
end Mir

namespace Mir
open PySem PySem.Spec L2
/-! ### d.setdefault(k, []).append(x): keys that are tuples -/
section
variable {X : Cx} {pins : List (Addr × Obj)} {σ : St} {H : Hp} {s : Shared} {a b : Addr} {r : Value} {d : V} {k : List Key} {A : Around} {E : Value → Shared → Prop}
end
section
variable {X : Cx} {o e f : Expr} {td ty tx : TE} {apos cpos : Pos}
end
section
variable {X : Cx} {kr : Nat} {o e x : Expr} {pos apos cpos apos2 cpos2 lp : Pos} {mk mx : Env → Res D}
end
end Mir

namespace Mir
open PySem PySem.Spec L2
/-! ### [.. for x in d.values()]: dicts of tuple keys -/
section
variable {P : Program} {w : World} {K : PySem.W.Frag} {tg : Expr} {d : Addr} {o : Obj} {es : Array DictEntry} {ep : Nat}
end
section
variable {X : Cx} {tg e : Expr} {td : TE} {apos cpos : Pos}
end
section
variable {X : Cx} {e a b tg it o elt : Expr} {m ma mb me mk mx : Env → Res D} {k kr : Nat} {cs : List Nat} {pos p p2 cpos apos cpos2 apos2 lp : Pos}
/-! ### list(range(n)) -/
end
end Mir

namespace Mir
open PySem PySem.Spec L2
@[simp] theorem e_mExtend (j k : Nat) (m : Mir.Env → Res (List D)) (env : Mir.Env) : mExtend j k m env = (m env >>= fun es => atL env j (k + 1) >>= fun ds => if ds.length + es.length ≤ sizeLine then .ok (.nx (env.set j (some (k + 1, .lst (ds ++ es))))) else .bad) := rfl
/-! ### dicts whose keys are tuples of three whole numbers; groups of any keys -/
def k3 (k : T3) : List Key := [.inl k.a, .inl k.b, .inl k.c]
section
variable {β : Type} (f : β → D)
end
/-! groups -/
section
variable {κ τ : Type} [DecidableEq κ]
end
end Mir

namespace Mir
open PySem PySem.Spec L2
/-! ### t + u, tuples -/
section
variable {X : Cx} {a b : Expr} {ma mb : Env → Res D} {pos : Pos}
end
end Mir

namespace Mir
open PySem PySem.Spec L2
/-! ### == of dicts whose keys are tuples -/
section
variable {prog : Program} {w : World} {K : Type} [DecidableEq K] {knd : HeapKind prog w K} {A : Around} {E : Value → Shared → Prop} {s : Shared}
end
section
variable {X : Cx}
end
end Mir

namespace Mir
open PySem PySem.Spec L2
/-! ### sorted(set(pairs)) -/
def lp (p : Int × Int) : List Int := [p.1, p.2]
def fp (l : List Int) : Int × Int := (l.getD 0 0, l.getD 1 0)
section
variable {X : Cx} {e : Expr} {m : Env → Res D} {k : Nat} {pos p p2 pos2 : Pos}
variable {f : Expr} {m' : Env → Res D}
/-! ### list(d), list(d.values()): dicts of tuple keys -/
end
section
variable {X : Cx} {e : Expr} {te : TE} {apos cpos : Pos}
end
section
variable {X : Cx} {e : Expr} {m : Env → Res D} {k : Nat} {pos p apos cpos : Pos}
end
end Mir

namespace Mir
open PySem PySem.Spec L2
/-! ### [.. for k in d]: dicts of tuple keys -/
section
variable {X : Cx} {e a b tg it o elt : Expr} {m ma mb me mk mx : Env → Res D} {k kr : Nat} {cs : List Nat} {pos p p2 cpos apos cpos2 apos2 lp : Pos}
/-! ### list(range(n)) -/
end
end Mir

namespace Mir
open PySem PySem.Spec L2
open PyProof.Rows (envOfC)

/-! ### exceptions -/
/-- what is known of an exception's own dict: its names, its values -/
def XAt (B : Bs) (H' : Hp) (dd : Option Addr) (ns : List Str) (as : List D) : Prop :=
  (ns = [] ∧ as = [] ∧ dd = none) ∨ ∃ dx kvs, dd = some dx ∧ B.h dx = none ∧ H' dx = some (.xd kvs) ∧ kvs.map (·.1) = ns ∧ RpAll (view H') (kvs.map (·.2)) as ∧ immAll as = true
def Kp (Z : List Nat) (σ σ' : St) : Prop := ∀ z ∈ Z, σ'[z]? = σ[z]?
theorem Kp.refl {Z : List Nat} {σ : St} : Kp Z σ σ := fun _ _ => rfl
theorem Kp.trans {Z : List Nat} {a b c : St} (h : Kp Z a b) (g : Kp Z b c) : Kp Z a c := fun z hz => (g z hz).trans (h z hz)
theorem Kp.set {Z : List Nat} {σ σ' : St} {i : Nat} {x : Option V} (h : Kp Z σ σ') (hi : Z.all (fun z => z != i) = true) : Kp Z σ (σ'.set i x) := fun z hz => by
  have := List.all_eq_true.mp hi z hz
  have ne : i ≠ z := fun e => by subst e; simp at this
  rw [List.getElem?_set_ne ne]; exact h z hz
/-- what a statement's mirror asks of what stands behind it -/
def PostK (κ : Str → Addr) (kr : Nat) (Z : List Nat) (W : WX) (B : Bs) (tm : List Hold) (σ : St) (D : Ends) : Res Ctl → Prop
  | .ok (.nx e) => ∀ σ' H', EnvOk B H' e σ' tm → Kp Z σ σ' → D.nx σ' H'
  | .ok (.bk e) => ∀ σ' H', EnvOk B H' e σ' tm → Kp Z σ σ' → D.bk σ' H'
  | .ok (.ct e) => ∀ σ' H', EnvOk B H' e σ' tm → Kp Z σ σ' → D.ct σ' H'
  | .ok (.rt d) => ∀ v H', EnvOk B H' [] [] ((v, kr, d) :: tm) → D.rt v H'
  | .exc c ns as => ∀ σ' H' dd, XAt B H' dd ns as → EnvOk B H' [] [] tm → Kp Z σ σ' → W (.ref (κ c)) dd σ' H'
  | .bad => False
/-- no exception -/
def nx {α : Type} : Res α → Res α
  | .exc _ _ _ => .bad
  | r => r
@[simp] theorem nx_ok {α : Type} (a : α) : nx (.ok a) = .ok a := rfl
def mN {α : Type} (m : Env → Res α) : Env → Res α := fun env => nx (m env)
section
variable {X : Cx} {κ : Str → Addr} {kr k : Nat} {Z : List Nat} {W : WX} {st : Stmt} {ss : List Stmt} {m m1 m2 : Env → Res Ctl} {me : Env → Res D} {e : Expr} {cs : List Nat} {pos : Pos}
theorem PostK.from {B : Bs} {tm : List Hold} {σ σ1 : St} {D : Ends} : ∀ {r : Res Ctl}, Kp Z σ σ1 → PostK κ kr Z W B tm σ D r → PostK κ kr Z W B tm σ1 D r := fun {r} k p => by
  cases r with
  | ok c =>
    cases c with
    | nx e => exact fun σ' H' ok' k' => p σ' H' ok' (k.trans k')
    | bk e => exact fun σ' H' ok' k' => p σ' H' ok' (k.trans k')
    | ct e => exact fun σ' H' ok' k' => p σ' H' ok' (k.trans k')
    | rt d => exact p
  | exc c ns as => exact fun σ' H' dd x ok' k' => p σ' H' dd x ok' (k.trans k')
  | bad => exact p
def mExpr (m : Env → Res D) : Env → Res Ctl := fun env => m env >>= fun _ => .ok (.nx env)
/-! ### raise -/
def mRaise (c : Str) : Env → Res Ctl := fun _ => .exc c [] []
end
end Mir

namespace Mir
open PySem PySem.Spec L2
open PyProof.Rows (envOfC)
section
variable {X : Cx} {κ : Str → Addr} {kr k : Nat} {Z : List Nat} {W : WX} {st : Stmt} {ss : List Stmt} {m m1 m2 : Env → Res Ctl} {me : Env → Res D} {e tg it : Expr} {cs : List Nat} {pos : Pos}
def nT (t : Nat → D → Env → Res Env) : Nat → D → Env → Res Env := fun k d e => nx (t k d e)
end
/-! ### what a def promises -/
def XRet (G H H' : Hp) (dd : Option Addr) (ns : List Str) (as : List D) : Prop := (∃ G', Good ⟨H, G⟩ G' H') ∧ XAt ⟨H, G⟩ H' dd ns as
def PostF (κ : Str → Addr) (kr : Nat) (G H : Hp) (Q : VK) (E : XK) : Res D → Prop
  | .ok d => ∀ v H', RetOk kr G H H' v d → Q v H'
  | .exc c ns as => ∀ H' dd, XRet G H H' dd ns as → E (.ref (κ c)) dd H'
  | .bad => False
def spX (kr n : Nat) (κ : Str → Addr) (F : List D → Res D) : Sp := fun vs H Q E => vs.length = n ∧ ∃ (G : Hp) (ds : List D), Good ⟨H, G⟩ G H ∧ RpAll G vs ds ∧ PostF κ kr G H Q E (F ds)
section
variable {P : Program} {w : World} {K : PySem.W.Frag} {mg : Str → Option Value} {base : Heap}
end
structure CalX (P : Program) (w : World) (K : PySem.W.Frag) (mg : Str → Option Value) (base : Heap) (x : Str) (j n kr : Nat) (κ : Str → Addr) (F : List D → Res D) : Prop where
  ex : ∃ f fd ps, mg x = some (.ref f) ∧ PySem.W.keepIn K (.ref f) = true ∧ Binds K fd ps [] ∧ FnOk P w K mg base (L2.CX P w) j f fd ps (spX kr n κ F)
section
variable {X : Cx} {κ : Str → Addr} {kr k n j : Nat} {W : WX} {e : Expr} {es : List Expr} {ms : Env → Res (List D)} {F : List D → Res D} {x : Str} {p pos : Pos}
def mCallX (kr : Nat) (F : List D → Res D) (ms : Env → Res (List D)) : Env → Res D := fun env => nx (ms env) >>= fun ds => F ds >>= fun d => if immAt kr d then .ok d else .bad
end
end Mir

namespace L2
open PySem PySem.Spec PyProof.Rows
theorem exH_ok {P : Program} {w : World} {H : Hp} {h : Heap} {a : Addr} {cls : Value} {d : Option Addr} {oe : Obj} (e : h.get? a = some oe) (z : Zc cls d oe) (dt : ∃ vs, oe.data = .fields vs) : ObjOk P w H h a (Mir.ExH cls d a) := by
  obtain ⟨vs, dt⟩ := dt
  exact ⟨⟨oe, vs, e, z, dt⟩, ⟨oe, e⟩, fun h1 h2 ⟨o, v, q, r⟩ k => ⟨o, v, k o q, r⟩⟩
section
variable {X : Cx} {pins : List (Addr × Obj)} {σ : St} {H : Hp} {s sI s' : Shared} {B : Heap}
end
section
variable {X : Cx} {x n : Str} {c : Value} {i : Nat} {body suite : List Stmt} {b₀ : Stmt} {np pos pos' : Pos} {tb : WX → TS} {ts : Addr → TS} {Wout : WX}
end
end L2

namespace Mir
open PySem PySem.Spec L2
/-! ### what is shared stays in its slots where a body raises -/
def onlyF (Z : List Nat) : Nat → Env → Env
  | _, [] => []
  | j, x :: e => (if Z.contains j = true then (match x with | some (0, d) => some (0, d) | _ => none) else none) :: onlyF Z (j + 1) e
def only (Z : List Nat) (env : Env) : Env := onlyF Z 0 env
section
variable {B : Bs} {H H' : Hp} {env : Env} {σ σ' : St} {tm : List Hold}
/-- an exception's object, as a thing that is shared -/
theorem EnvOk.addExn {a C : Addr} {dd : Option Addr} {ns : List Str} {as : List D} {c : Str} (ok : EnvOk B H env σ tm) (na : H a = none) (xa : XAt B H dd ns as) : EnvOk B (upd H a (ExH (.ref C) dd a)) env σ ((.ref a, 0, .exn c C ns as) :: tm) := by
  obtain ⟨⟨G, fp, g, hs, nd, hp⟩, h2, h3⟩ := ok
  have fin : ∀ (G1 : Hp), Good B G1 H → (∀ b u, G b = some u → G1 b = some u) → (∀ p ∈ fp, G1 p = none) → Rp (upd G1 a (ExH (.ref C) dd a)) (.ref a) (.exn c C ns as) → EnvOk B (upd H a (ExH (.ref C) dd a)) env σ ((.ref a, 0, .exn c C ns as) :: tm) := fun G1 g1 hG hp1 r => by
    have g2 := g1.newSh na (o := ExH (.ref C) dd a) rfl
    have gn := g1.gnone na
    have hG2 : ∀ b u, G b = some u → upd G1 a (ExH (.ref C) dd a) b = some u := fun b u e => up_keep gn b u (hG b u e)
    have hm := hs.mu
    have hs1 : HoldAll (upd G1 a (ExH (.ref C) dd a)) (upd H a (ExH (.ref C) dd a)) (slots env σ ++ tm) fp := hs.frame hG2 fun b u e _ => up_keep na b u e
    obtain ⟨fp2, hs2, q2⟩ := (HoldAll.cons (Od.of r) hs1).perm (hs' := slots env σ ++ (.ref a, 0, .exn c C ns as) :: tm) List.perm_middle.symm
    rw [List.nil_append] at q2
    refine ⟨⟨_, fp2, g2, hs2, q2.nodup_iff.mp nd, fun p hpm => ?_⟩, h2, h3⟩
    have hpf := q2.mem_iff.mpr hpm
    obtain ⟨u, e, _⟩ := hm p hpf
    have pa : p ≠ a := fun z => by rw [z, na] at e; cases e
    exact ⟨(hp p hpf).1, by rw [upd_ne pa]; exact hp1 p hpf⟩
  rcases xa with ⟨rfl, rfl, rfl⟩ | ⟨dx, kvs, rfl, h4, h5, h6, h7, h8⟩
  · exact fin G g (fun _ _ e => e) (fun p hm => (hp p hm).2) (.exn0 upd_same)
  · have hv : view H dx = some (.xd kvs) := by unfold view; rw [h5]; rfl
    have hG : ∀ b u, G b = some u → upd G dx (.xd kvs) b = some u := fun b u e => by
      by_cases z : b = dx
      · subst z
        rw [upd_same, ← hv]; exact g.gs b u e
      · rw [upd_ne z]; exact e
    have dxa : dx ≠ a := fun z => by rw [z, na] at h5; cases h5
    have g1 : Good B (upd G dx (.xd kvs)) H := ⟨g.bs, fun b e => by
      have z : b ≠ dx := fun z => by rw [z] at e; exact e h4
      rw [upd_ne z]; exact g.g0 b e, fun b u e => by
      by_cases z : b = dx
      · subst z; rw [upd_same] at e; rw [hv]; exact e
      · rw [upd_ne z] at e; exact g.gs b u e, fun b u im e => hG b u (g.gt b u im e), g.nf⟩
    refine fin _ g1 hG (fun p hm => ?_) (.exn (dx := dx) upd_same (by rw [upd_ne dxa, upd_same]) h6 ?_)
    · obtain ⟨u, e, mu⟩ := hs.mu p hm
      have z : p ≠ dx := fun z => by rw [z, h5] at e; cases e; exact mu
      rw [upd_ne z]; exact (hp p hm).2
    · have r1 : RpAll (upd G dx (.xd kvs)) (kvs.map (·.2)) as := h7.immTo g1.gt h8
      exact r1.mono (up_keep (g1.gnone na))
end
theorem EnvOk.gone {B : Bs} {H : Hp} {e : Env} {σ : St} {tm : List Hold} (h : EnvOk B H e σ tm) (i : Nat) : EnvOk B H (e.set i none) (σ.set i none) tm := by
  by_cases hi : i < e.length
  · exact (h.forget i).blank (List.getElem?_set_self hi)
  · rw [List.set_eq_of_length_le (by omega), List.set_eq_of_length_le (by rw [← h.len]; omega)]
    exact h
/-! ### try: .. except X as e: .. -/
section
variable {X : Cx} {κ : Str → Addr} {kr : Nat} {Z : List Nat} {x n : Str} {c : Value} {i : Nat} {body suite : List Stmt} {b₀ : Stmt} {np pos pos' : Pos} {Wout : WX} {mb ms : Env → Res Ctl} {tab : Str → Option Bool}
end
end Mir

namespace Mir
open PySem PySem.Spec L2
open PyProof.Rows (envOfC)
/-! ### own exception classes -/
def xisB (K : PySem.W.Frag) (C : Addr) : Bool := (PySem.W.clsIn K C).isSome && (decide (PySem.W.findIn K (.ref C) "__getattribute__" = some (some (.builtin "BaseException.__getattribute__"))) && (decide (PySem.W.findIn K (.ref C) "__getattr__" = some none) && (decide (PySem.W.subIn K (.ref C) (.type "BaseException") = some true)
  && (decide (PySem.W.findIn K (.ref C) "__class__" = some (some (.builtin "object.__class__"))) && (decide (PySem.W.specialIn K (.builtin "object.__class__") "__get__" = some (some (.builtin "getset_descriptor.__get__"))) && (decide (PySem.W.takesIn K (.builtin "object.__class__") = some true)
  && (decide (PySem.W.mroIn K C (.type "object") = some true) && (PySem.W.hasDictIn K C && (decide (PySem.W.typeIn K (.ref C) = some (.type "type")) && PySem.W.keepIn K (.ref C))))))))))
structure XIs (K : PySem.W.Frag) (C : Addr) : Prop where
  hcl : (PySem.W.clsIn K C).isSome = true
  ga : PySem.W.findIn K (.ref C) "__getattribute__" = some (some (.builtin "BaseException.__getattribute__"))
  gg : PySem.W.findIn K (.ref C) "__getattr__" = some none
  sub : PySem.W.subIn K (.ref C) (.type "BaseException") = some true
  ca : PySem.W.findIn K (.ref C) "__class__" = some (some (.builtin "object.__class__"))
  hn : PySem.W.specialIn K (.builtin "object.__class__") "__get__" = some (some (.builtin "getset_descriptor.__get__"))
  ht : PySem.W.takesIn K (.builtin "object.__class__") = some true
  hm : PySem.W.mroIn K C (.type "object") = some true
  hd : PySem.W.hasDictIn K C = true
  ty : PySem.W.typeIn K (.ref C) = some (.type "type")
  kp : PySem.W.keepIn K (.ref C) = true
theorem xisB_ok {K : PySem.W.Frag} {C : Addr} (h : xisB K C = true) : XIs K C := by
  unfold xisB at h
  simp only [Bool.and_eq_true, decide_eq_true_eq] at h
  obtain ⟨h1, h2, h3, h4, h5, h6, h7, h8, h9, h10, h11⟩ := h
  exact ⟨h1, h2, h3, h4, h5, h6, h7, h8, h9, h10, h11⟩
def xmkB (K : PySem.W.Frag) (C : Addr) : Bool := PySem.W.excIn K C [.type "ValueError", .type "Exception", .type "BaseException", .type "object"] "ValueError.__new__"
/-- the class named c stands at κ c -/
structure XCl (K : PySem.W.Frag) (mg : Str → Option Value) (κ : Str → Addr) (c : Str) : Prop where
  g : mg c = some (.ref (κ c))
  is : xisB K (κ c) = true
structure XMk (K : PySem.W.Frag) (mg : Str → Option Value) (κ : Str → Addr) (c : Str) : Prop where
  cl : XCl K mg κ c
  mkx : xmkB K (κ c) = true
section
variable {X : Cx} {κ : Str → Addr} {kr : Nat} {Z : List Nat} {W : WX} {pos : Pos}
theorem rd_exn {P : Program} {w : World} {K : PySem.W.Frag} {H : Hp} {h : Heap} {a C : Addr} {dd : Option Addr} (hok : HOk P w H h) (e : view H a = some (ExH (.ref C) dd a)) : ∃ oe vs, h.get? a = some oe ∧ Zc (.ref C) dd oe ∧ oe.data = .fields vs := by
  have := (view_rd e).ok hok
  exact this.1
/-- what an exception's object is to the library -/
theorem inst_exn {K : PySem.W.Frag} {P : Program} {w : World} {H : Hp} {h : Heap} {a : Addr} {c : Str} {C : Addr} {ns : List Str} {as : List D} (hok : HOk P w H h) (r : Rp (view H) (.ref a) (.exn c C ns as)) :
    ∃ oe od, PySem.W.InstAt h a oe C od ∧ (ns = [] ∨ ∃ dx kvs o, od = some o ∧ h.get? dx = some o ∧ view H dx = some (.xd kvs) ∧ kvs.map (·.1) = ns ∧ RpAll (view H) (kvs.map (·.2)) as) := by
  cases r with
  | exn0 e =>
    obtain ⟨oe, vs, h1, h2, h3⟩ := rd_exn (K := K) hok e
    exact ⟨oe, none, ⟨h1, h2.1, by unfold PySem.W.notCls; rw [h3] <;> rfl, by rw [h2.2]; exact True.intro⟩, .inl rfl⟩
  | @exn _ _ dx kvs _ _ _ e e2 e3 ra =>
    obtain ⟨oe, vs, h1, h2, h3⟩ := rd_exn (K := K) hok e
    obtain ⟨mA, ⟨od, es, ep, q, r2⟩, hr⟩ := (show ObjOk P w H h dx (.xd kvs) from (view_rd e2).ok hok)
    exact ⟨oe, some od, ⟨h1, h2.1, by unfold PySem.W.notCls; rw [h3] <;> rfl, by rw [h2.2]; exact q⟩, .inr ⟨dx, kvs, od, rfl, q, e2, e3, ra⟩⟩
/-- isinstance(e, C): e an exception or None -/
def mIsO (κ : Str → Addr) (tab : Str → Option Bool) (m : Env → Res D) : Env → Res D := fun env => m env >>= fun d => match d with
  | .non => .ok (.bl false)
  | .exn c C _ _ => if C = κ c then (match tab c with | some b => .ok (.bl b) | none => .bad) else .bad
  | _ => .bad
def rIsO (K : PySem.W.Frag) (κ : Str → Addr) (tab : Str → Option Bool) (cv : Value) : List V → Hp → VK → Prop := fun xs H Q => ∃ (x c : V) (d : D) (b : Bool), xs = [x, c] ∧ RelV c cv ∧ Rp (view H) x d ∧ (d = .non ∧ b = false ∨ ∃ s ns as, d = .exn s (κ s) ns as ∧ tab s = some b) ∧ Q (.bl b) H
theorem call_isO {tab : Str → Option Bool} {cv : Value} (hcv : ∀ c u, RelV c cv → RelV c u → u = cv) (hnon : PySem.W.kitOne X.K (.type "NoneType") cv = some false) (htab : ∀ s b, tab s = some b → PySem.W.kitOne X.K (.ref (κ s)) cv = some b ∧ XIs X.K (κ s)) : CallR X (.builtin "isinstance") (rIsO X.K κ tab cv) := by
  intro pins s σ H xs us Q I r h
  obtain ⟨x, c, d, b, rfl, rc, rp, hd, q⟩ := h
  obtain ⟨u1, u2, rfl, r1, r2⟩ := vals2 r
  have e2 : u2 = cv := hcv c u2 rc r2
  subst e2
  rcases hd with ⟨rfl, rfl⟩ | ⟨sn, ns, as, rfl, ht⟩
  · cases rp
    cases (show u1 = Value.none from r1)
    exact PySem.W.kia_one PySem.W.kitx_none I.kIn True.intro hnon (fun z => nomatch z) fun tk => ⟨.bl false, H, I.tok tk, rfl, q⟩
  · obtain ⟨hk, Y⟩ := htab sn b ht
    have : ∃ a, x = .ref a := by cases rp <;> exact ⟨_, rfl⟩
    obtain ⟨a, rfl⟩ := this
    cases (show u1 = Value.ref a from r1)
    obtain ⟨oe, od, J, _⟩ := inst_exn (K := X.K) I.hok rp
    exact PySem.W.kia_one (PySem.W.kitx_exc Y.hcl Y.ga Y.gg Y.sub Y.ca Y.hn Y.ht Y.hm) I.kIn J hk (fun z => nomatch z) fun tk => ⟨.bl b, H, I.tok tk, rfl, q⟩
variable {a b : Expr} {m : Env → Res D} {p : Pos}
theorem sc_isO {tab : Str → Option Bool} {cv : Value} {c : V} (hg : Gl X "isinstance") (hm0 : X.mg "isinstance" = none) (h : SB X a m) (hT : PE X b (tC c)) (rc : RelV c cv) (hcv : ∀ c u, RelV c cv → RelV c u → u = cv) (hnon : PySem.W.kitOne X.K (.type "NoneType") cv = some false) (htab : ∀ s b, tab s = some b → PySem.W.kitOne X.K (.ref (κ s)) cv = some b ∧ XIs X.K (κ s))
    (he : starEach [a, b] X.env = (false, eval a X.env) :: starEach [b] X.env := by rfl) (he2 : starEach [b] X.env = (false, eval b X.env) :: starEach [] X.env := by rfl) (hpl : (backTo pos (starEach [b] X.env)).any (·.1) = false := by rfl) :
    SC X (.Call (.Name "isinstance" p) [a, b] [] pos) (mIsO κ tab m) := fun B H env σ tm d Q ok hm q => by
  obtain ⟨x, hx, h2⟩ := bind_ok hm
  have key : ∃ bb, d = .bl bb ∧ (x = .non ∧ bb = false ∨ ∃ s ns as, x = .exn s (κ s) ns as ∧ tab s = some bb) := by
    split at h2
    · cases h2; exact ⟨false, rfl, .inl ⟨rfl, rfl⟩⟩
    · rename_i s C ns as
      split at h2
      · rename_i hC
        subst hC
        split at h2
        · rename_i bb ht
          cases h2
          exact ⟨bb, rfl, .inr ⟨s, ns, as, rfl, ht⟩⟩
        · cases h2
      · cases h2
    · cases h2
  obtain ⟨bb, rfl, hk⟩ := key
  refine wE_of (pe_callB (call_isO hcv hnon htab) hg hm0 (by decide +kernel) (pa_cons pe_sem (pa_cons hT pa_nil he2) he) (by decide) (by decide) he hpl) (h B H env σ tm _ _ ok hx fun v H1 x1 ok1 r => ?_)
  exact ⟨v, c, x, bb, rfl, rc, r, hk, q _ H1 x1 ok1 (.bl _) rfl⟩
theorem rel_ref {C : Addr} : ∀ c u, RelV c (.ref C) → RelV c u → u = .ref C := fun c u h1 h2 => by
  cases c with
  | ref a => cases (show Value.ref C = Value.ref a from h1); exact h2
  | non => cases (show Value.ref C = Value.none from h1)
  | bl b => cases (show Value.ref C = Value.bool b from h1)
  | int i => obtain ⟨t, e⟩ := (show ∃ t, Value.ref C = Value.int i t from h1); cases e
  | str i => obtain ⟨t, e⟩ := (show ∃ t, Value.ref C = Value.str i t from h1); cases e
  | byt i => obtain ⟨t, e⟩ := (show ∃ t, Value.ref C = Value.bytes i t from h1); cases e
  | flt i => obtain ⟨t, e⟩ := (show ∃ t, Value.ref C = Value.float i t from h1); cases e
  | ty n => cases (show Value.ref C = Value.type n from h1)
theorem rel_ty {n : String} : ∀ c u, RelV c (.type n) → RelV c u → u = .type n := fun c u h1 h2 => by
  cases c with
  | ty a => cases (show Value.type n = Value.type a from h1); exact h2
  | non => cases (show Value.type n = Value.none from h1)
  | bl b => cases (show Value.type n = Value.bool b from h1)
  | int i => obtain ⟨t, e⟩ := (show ∃ t, Value.type n = Value.int i t from h1); cases e
  | str i => obtain ⟨t, e⟩ := (show ∃ t, Value.type n = Value.str i t from h1); cases e
  | byt i => obtain ⟨t, e⟩ := (show ∃ t, Value.type n = Value.bytes i t from h1); cases e
  | flt i => obtain ⟨t, e⟩ := (show ∃ t, Value.type n = Value.float i t from h1); cases e
  | ref C => cases (show Value.type n = Value.ref C from h1)
/-- .. an own class -/
theorem sc_isOwn {tab : Str → Option Bool} {x : Str} {p2 : Pos} (Y : XCl X.K X.mg κ x) (hg : Gl X "isinstance") (hm0 : X.mg "isinstance" = none) (hx : Gl X x) (h : SB X a m) (hnon : PySem.W.kitOne X.K (.type "NoneType") (.ref (κ x)) = some false) (htab : ∀ s b, tab s = some b → PySem.W.kitOne X.K (.ref (κ s)) (.ref (κ x)) = some b ∧ XIs X.K (κ s))
    (hd : (x == ("__debug__" : Str)) = false := by decide)
    (he : starEach [a, .Name x p2] X.env = (false, eval a X.env) :: starEach [.Name x p2] X.env := by rfl) (he2 : starEach [.Name x p2] X.env = (false, eval (.Name x p2) X.env) :: starEach [] X.env := by rfl) (hpl : (backTo pos (starEach [.Name x p2] X.env)).any (·.1) = false := by rfl) :
    SC X (.Call (.Name "isinstance" p) [a, .Name x p2] [] pos) (mIsO κ tab m) :=
  sc_isO (cv := .ref (κ x)) (c := .ref (κ x)) hg hm0 h (pe_glob hx Y.g rfl hd) rfl rel_ref hnon htab he he2 hpl
/-- .. ValueError -/
theorem sc_isVal {tab : Str → Option Bool} {x : Str} {n : String} {p2 : Pos} (hg : Gl X "isinstance") (hm0 : X.mg "isinstance" = none) (hT : PE X (.Name x p2) (tC (.ty n))) (h : SB X a m) (hnon : PySem.W.kitOne X.K (.type "NoneType") (.type n) = some false) (htab : ∀ s b, tab s = some b → PySem.W.kitOne X.K (.ref (κ s)) (.type n) = some b ∧ XIs X.K (κ s))
    (he : starEach [a, .Name x p2] X.env = (false, eval a X.env) :: starEach [.Name x p2] X.env := by rfl) (he2 : starEach [.Name x p2] X.env = (false, eval (.Name x p2) X.env) :: starEach [] X.env := by rfl) (hpl : (backTo pos (starEach [.Name x p2] X.env)).any (·.1) = false := by rfl) :
    SC X (.Call (.Name "isinstance" p) [a, .Name x p2] [] pos) (mIsO κ tab m) :=
  sc_isO (cv := .type n) (c := .ty n) hg hm0 h hT rfl rel_ty hnon htab he he2 hpl
/-- e.f, e an exception -/
def mXf (κ : Str → Addr) (c f : Str) (m : Env → Res D) : Env → Res D := fun env => m env >>= fun d => match d with
  | .exn s C ns as => if s = c ∧ C = κ c ∧ ns.length = as.length then (match (ns.zip as).lookup f with | some d => .ok d | none => .bad) else .bad
  | _ => .bad
theorem look_all {G : Hp} {f : Str} {d : D} : ∀ {kvs : List (Str × V)} {as : List D}, RpAll G (kvs.map (·.2)) as → ((kvs.map (·.1)).zip as).lookup f = some d → ∃ v, kvs.lookup f = some v ∧ Rp G v d
  | [], _, _, h => by simp at h
  | (g, v) :: kvs, as, r, h => by
    cases r with
    | cons r1 r2 =>
      simp only [List.map_cons, List.zip_cons_cons, List.lookup_cons] at h ⊢
      split at h
      · cases h; exact ⟨v, by simp, r1⟩
      · obtain ⟨v', h1, h2⟩ := look_all r2 h
        exact ⟨v', h1, h2⟩
theorem sb_xf {c f : Str} (Y : XIs X.K (κ c)) (hno : PySem.W.findIn X.K (.ref (κ c)) f = some none) (h : SB X a m) (hb : attributeBase a f X.env (eval a X.env) = eval a X.env := by rfl) : SB X (.Attribute a f pos) (mXf κ c f m) := fun B H env σ tm d Q ok hm q => by
  obtain ⟨x, hx, h2⟩ := bind_ok hm
  refine fun pins s I => attr_of hb (thn (h B H env σ tm x (fun v H1 => Ext H H1 ∧ EnvOk B H1 env σ tm ∧ Rp (view H1) v x) ok hx (fun v H1 x1 ok1 r1 => ⟨x1, ok1, r1⟩) pins s I) fun u s1 hh => ?_)
  obtain ⟨v, H1, I1, rv, x1, ok1, r1⟩ := hh
  split at h2
  · rename_i sn C ns as
    split at h2
    · rename_i hc
      obtain ⟨rfl, rfl, hl⟩ := hc
      have : ∃ a, v = .ref a := by cases r1 <;> exact ⟨_, rfl⟩
      obtain ⟨aa, rfl⟩ := this
      cases (show u = Value.ref aa from rv)
      split at h2
      · rename_i d' hd
        cases h2
        obtain ⟨oe, od, J, hh⟩ := inst_exn (K := X.K) I1.hok r1
        rcases hh with rfl | ⟨dx, kvs, o, rfl, ho, hvw, hns, ra⟩
        · simp at hd
        · subst hns
          obtain ⟨y, hy, ry⟩ := look_all ra hd
          obtain ⟨mA, hN, hr⟩ := (show ObjOk X.prog X.w H1 s1.heap dx (.xd kvs) from (view_rd hvw).ok I1.hok)
          obtain ⟨od2, ho2, hl2⟩ := lookIn_ns hN
          rw [ho] at ho2
          cases ho2
          obtain ⟨u2, hu, ru⟩ := RelO.some_of (v := y) (o := mA f) (by rw [← hy]; exact hr f)
          exact HandSPX.exc_get I1.kIn J Y.ga Y.gg Y.sub (PySem.W.findObj_own Y.hd hno rfl (by rw [hl2, hu])) (handed_of ru) ⟨y, H1, I1.tok _, ru, q y H1 x1 ok1 ry⟩
      · cases h2
    · cases h2
  · cases h2
end
/-! ### the end, with the classes' places -/
def kOf (K : PySem.W.Frag) (c : Str) : Addr := match PySem.W.nsIn K mainGlobals c with
  | some (some (.ref a)) => a
  | _ => 0
theorem kOf_eq {K : PySem.W.Frag} {c : Str} {a : Addr} (h : PySem.W.nsIn K mainGlobals c = some (some (.ref a))) : kOf K c = a := by unfold kOf; rw [h]
theorem xcl_of {K : PySem.W.Frag} {mg : Str → Option Value} {h : Heap} {c : Str} {a : Addr} (X : K.In h) (G : h.Ns mainGlobals mg) (z : PySem.W.nsIn K mainGlobals c = some (some (.ref a))) (i : xisB K a = true) : XCl K mg (kOf K) c :=
  ⟨by rw [kOf_eq z]; exact PySem.W.mg_of X G z, by rw [kOf_eq z]; exact i⟩
theorem walk_mirX {l : PySem.W.OpenLaw} {k : Nat} {q : Program} {loose : List Str} {XP : (Str → Option Value) → Heap → Prop} {YP : World → Heap → Prop} {d : DefRec} {K : Params → PySem.W.Frag} {x : Str} {F : (Str → Addr) → List D → Res D}
    (hn : l.most = some 63) (hdf : d.params.defaults = []) (hr : Room k callerA) (hY : ∀ (w : World) (h : Heap), YP w h → (K w.params).In h) (hK : ∀ w : World, noLists (K w.params) = true) (hF : ∀ (κ : Str → Addr) (ns : List Int), ns.length ≤ 63 → F κ [.lst (ns.map D.int)] = .ok (.bl true))
    (Fo : ∀ (w : World) (mg : Str → Option Value) (fa : Addr) (h : Heap), (K w.params).In h → h.Ns mainGlobals mg → mg d.name = some (.ref fa) →
      ∃ fd : FuncData, (∀ (s : Shared) (u : Value), BindsTo s fd ⟨[u], []⟩ [(x, u)]) ∧ ∀ base : Heap, (K w.params).In base → base.Ns mainGlobals mg → FnOk l.prog w (K w.params) mg base CX0 k fa fd [x] (spF 0 1 (F (kOf (K w.params))))) :
    PySem.W.WalkO q loose XP YP l.row.toRowW d [] (fun f vs => PySem.call f vs) :=
  L2.walk_of (n := 63) (k := k) (x := x) (CX := fun _ => CX0) (sp := fun w => spF 0 1 (F (kOf (K w.params)))) hn (by decide) hdf hr hY Fo (fun w H a ns hl hO hS => law_sp (hK w) hO hS (hF _ ns hl)) fun _ _ _ _ _ z => z
end Mir
namespace Mir
open PySem PySem.Spec L2
/-! ### tables of classes -/
def tb (l : List (Str × Bool)) : Str → Option Bool := fun c => l.lookup c
def TabK (K : PySem.W.Frag) (κ : Str → Addr) (cv : Value) : List (Str × Bool) → Prop
  | [] => True
  | (s, b) :: l => (PySem.W.kitOne K (.ref (κ s)) cv = some b ∧ XIs K (κ s)) ∧ TabK K κ cv l
theorem tabK_ok {K : PySem.W.Frag} {κ : Str → Addr} {cv : Value} : ∀ {l : List (Str × Bool)}, TabK K κ cv l → ∀ s b, tb l s = some b → PySem.W.kitOne K (.ref (κ s)) cv = some b ∧ XIs K (κ s)
  | [], _, s, b, h => by simp [tb] at h
  | (t, c) :: l, h, s, b, e => by
    unfold tb at e
    rw [List.lookup_cons] at e
    split at e
    · rename_i z
      have : s = t := by simpa using z
      subst this
      cases e
      exact h.1
    · exact tabK_ok h.2 s b e
end Mir

namespace Mir
open PySem PySem.Spec L2
open PyProof.Rows (is_bool isnot_bool)
section
variable {X : Cx} {e a b c : Expr} {m ma mb mc : Env → Res D} {pos p : Pos} {k : Nat}
/-! ### is True, is False -/
def gIsB : D → D → Res D
  | .bl x, .bl y => .ok (.bl (x == y))
  | _, _ => .bad
def gIsnB : D → D → Res D
  | .bl x, .bl y => .ok (.bl (x != y))
  | _, _ => .bad
/-! ### a < b < c -/
def mChain (g g' : D → D → Res D) (ma mb mc : Env → Res D) : Env → Res D := fun env => ma env >>= fun x => mb env >>= fun y => g x y >>= toB >>= fun k => if k then mc env >>= fun z => g' y z else .ok (.bl false)
/-! ### abs, int -/
def gAbs : D → Res D
  | .int i => .ok (.int (if i < 0 then -i else i))
  | _ => .bad
def gInt : D → Res D
  | .int i => .ok (.int i)
  | .bl k => .ok (.int (if k then 1 else 0))
  | _ => .bad
end
/-! ### raising within an expression -/
section
variable {X : Cx} {κ : Str → Addr} {W : WX} {e : Expr} {es : List Expr} {m : Env → Res D} {ms : Env → Res (List D)} {pos p : Pos} {k kr j n : Nat} {x : Str} {F : List D → Res D}
end
end Mir

namespace Mir
open PySem PySem.Spec L2
/-! ### in a tuple of numbers -/
def gInT : D → D → Res D
  | .int i, .tup ds => match intsD? ds with | some is => .ok (.bl (decide (i ∈ is))) | none => .bad
  | _, _ => .bad
def gNotInT : D → D → Res D
  | .int i, .tup ds => match intsD? ds with | some is => .ok (.bl (!decide (i ∈ is))) | none => .bad
  | _, _ => .bad
section
variable {X : Cx}
end
end Mir

namespace Mir
open PySem PySem.Spec L2
/-! ### equations of the mirrors that may raise -/
section
variable {α : Type} {m mb ms : Mir.Env → Res Ctl} {me : Mir.Env → Res D} {msA : Mir.Env → Res (List D)} {env : Mir.Env} {κ : Str → Addr}
@[simp] theorem nx_bad : nx (.bad : Res α) = .bad := rfl
@[simp] theorem nx_exc (c : Str) (ns : List Str) (as : List D) : nx (.exc c ns as : Res α) = .bad := rfl
@[simp] theorem e_mN (f : Mir.Env → Res α) : mN f env = nx (f env) := rfl
@[simp] theorem e_mExpr : mExpr me env = (me env >>= fun _ => .ok (.nx env)) := rfl
@[simp] theorem e_mRaise (c : Str) : mRaise c env = .exc c [] [] := rfl
@[simp] theorem e_mCallX (k : Nat) (F : List D → Res D) : mCallX k F msA env = (nx (msA env) >>= fun ds => F ds >>= fun d => if immAt k d then .ok d else .bad) := rfl
@[simp] theorem e_nT (t : Nat → D → Mir.Env → Res Mir.Env) (k : Nat) (d : D) : nT t k d env = nx (t k d env) := rfl
@[simp] theorem e_only (Z : List Nat) : only Z env = onlyF Z 0 env := rfl
@[simp] theorem e_onlyF_nil (Z : List Nat) (j : Nat) : onlyF Z j [] = [] := rfl
@[simp] theorem e_onlyF_cons (Z : List Nat) (j : Nat) (x : Option (Nat × D)) (e : Mir.Env) : onlyF Z j (x :: e) = (if Z.contains j = true then (match x with | some (0, d) => some (0, d) | _ => none) else none) :: onlyF Z (j + 1) e := rfl
@[simp] theorem e_mIsO (tab : Str → Option Bool) : mIsO κ tab me env = (me env >>= fun d => match d with
  | .non => .ok (.bl false)
  | .exn c C _ _ => if C = κ c then (match tab c with | some b => .ok (.bl b) | none => .bad) else .bad
  | _ => .bad) := rfl
@[simp] theorem e_mChain (g g' : D → D → Res D) (ma mb mc : Mir.Env → Res D) : mChain g g' ma mb mc env = (ma env >>= fun x => mb env >>= fun y => g x y >>= toB >>= fun k => if k then mc env >>= fun z => g' y z else .ok (.bl false)) := rfl
@[simp] theorem e_mXf (c f : Str) : mXf κ c f me env = (me env >>= fun d => match d with
  | .exn s C ns as => if s = c ∧ C = κ c ∧ ns.length = as.length then (match (ns.zip as).lookup f with | some d => .ok d | none => .bad) else .bad
  | _ => .bad) := rfl
@[simp] theorem e_gIsB (a b : Bool) : gIsB (.bl a) (.bl b) = .ok (.bl (a == b)) := rfl
@[simp] theorem e_gIsnB (a b : Bool) : gIsnB (.bl a) (.bl b) = .ok (.bl (a != b)) := rfl
@[simp] theorem e_gAbs (i : Int) : gAbs (.int i) = .ok (.int (if i < 0 then -i else i)) := rfl
@[simp] theorem e_gIntI (i : Int) : gInt (.int i) = .ok (.int i) := rfl
@[simp] theorem e_gIntB (k : Bool) : gInt (.bl k) = .ok (.int (if k then 1 else 0)) := rfl
@[simp] theorem e_intsD_nil : intsD? [] = some [] := rfl
@[simp] theorem e_intsD_cons (i : Int) (ds : List D) : intsD? (.int i :: ds) = (intsD? ds).map fun is => i :: is := rfl
@[simp] theorem e_gInT (i : Int) (ds : List D) : gInT (.int i) (.tup ds) = (match intsD? ds with | some is => .ok (.bl (decide (i ∈ is))) | none => .bad) := rfl
@[simp] theorem e_gNotInT (i : Int) (ds : List D) : gNotInT (.int i) (.tup ds) = (match intsD? ds with | some is => .ok (.bl (!decide (i ∈ is))) | none => .bad) := rfl
@[simp] theorem e_gIsN_exn (c : Str) (C : Addr) (ns : List Str) (ds : List D) : gIsN (.exn c C ns ds) = .ok (.bl false) := rfl
@[simp] theorem e_gNotN_exn (c : Str) (C : Addr) (ns : List Str) (ds : List D) : gNotN (.exn c C ns ds) = .ok (.bl true) := rfl
end
/-! ### a long body, step by step -/
section
variable {β : Type} {m1 m2 : Mir.Env → Res Ctl} {env e : Mir.Env} {k : Ctl → Res β} {Q : β → Prop} {t : Mir.Env → Res Bool} {d : D}
theorem t_seq (h : m1 env = .ok (.nx e)) (h2 : Tells (m2 e >>= k) Q) : Tells (mSeq m1 m2 env >>= k) Q := by
  unfold mSeq
  rw [h]; exact h2
end
end Mir

namespace Mir
open PySem PySem.Spec L2
section
variable {X : Cx} {e o i2 ep : Expr} {mv mi mp m : Env → Res D} {k kr : Nat} {pos apos cpos pos2 : Pos} {cs : List Nat}
/-! ### xs[i].append(e), e without lists, dicts -/
/-! ### xs.insert(i, e) -/
/-! ### xs.clear(), xs.reverse() -/
end
end Mir

namespace Mir
open PySem PySem.Spec L2
open PyProof.Rows (envOfC)
/-! ### x = xs[i]; ..; x.insert(p, v), told with what stays -/
section
variable {X : Cx} {κ : Str → Addr} {Z : List Nat} {W : WX} {e ep o ix o2 : Expr} {mi mp mv : Env → Res D} {i j k kr : Nat} {pos p pos' pos2 spos apos cpos spos2 : Pos} {mr m1 : Env → Res Ctl} {m2 : Nat → List D → Env → Res Ctl} {rest ss : List Stmt} {st : Stmt} {x : Str}
end
end Mir

namespace Mir
open PySem PySem.Spec L2
open PyProof.Rows (envOfC)
/-! ### a def that changes its first argument -/
def wo (H : Hp) (f : List Addr) : Hp := fun a => if a ∈ f then none else H a
def spM (k0 n : Nat) (F : List D → Res D) : Sp := fun vs H Q _ => vs.length = n ∧ ∃ (G : Hp) (v0 : V) (vs' : List V) (d0 : D) (ds' : List D) (f : List Addr) (d1 : D), vs = v0 :: vs' ∧ Good ⟨wo H f, G⟩ G H ∧ Od G H k0 f v0 d0 ∧ f.Nodup ∧ (∀ p ∈ f, G p = none) ∧ RpAll G vs' ds' ∧ F (d0 :: ds') = .ok d1 ∧
  ∀ H', RetOk k0 G (wo H f) H' v0 d1 → Q .non H'
section
variable {P : Program} {w : World} {K : PySem.W.Frag} {mg : Str → Option Value} {base : Heap}
end
structure CalM (P : Program) (w : World) (K : PySem.W.Frag) (mg : Str → Option Value) (base : Heap) (x : Str) (j n k0 : Nat) (F : List D → Res D) : Prop where
  ex : ∃ f fd ps, mg x = some (.ref f) ∧ PySem.W.keepIn K (.ref f) = true ∧ Binds K fd ps [] ∧ FnOk P w K mg base CX0 j f fd ps (spM k0 n F)
section
variable {X : Cx} {e o : Expr} {es : List Expr} {ms : Env → Res (List D)} {F : List D → Res D} {x : Str} {p pos cpos : Pos} {n k0 kr jl : Nat}
end
end Mir
namespace Mir
end Mir

namespace Mir
open PySem PySem.Spec L2
/-! ### calls whose arguments are shared: what they tell may be shared too -/
section
variable {X : Cx} {e a b o i : Expr} {es : List Expr} {m ma mb md mk : Env → Res D} {ms : Env → Res (List D)} {k kr n : Nat} {cs : List Nat} {pos p cpos apos : Pos} {x : Str} {F : List D → Res D} {j : Nat}
def mCall0 (F : List D → Res D) (ms : Env → Res (List D)) : Env → Res D := fun env => ms env >>= fun ds => F ds
theorem se_cal0 (C : Cal X.prog X.w X.K X.mg X.base x j n kr F) (hr : Room j X.A) (hg : Gl X x)
    (ha : SAE X 0 [] (e :: es) ms) (hl : ∀ env ds, ms env = .ok ds → ds.length = n) (hdb : (x == ("__debug__" : Str)) = false := by decide) (he : starEach (e :: es) X.env = (false, eval e X.env) :: starEach es X.env := by rfl) (hpl : (backTo pos (starEach es X.env)).any (·.1) = false := by rfl) :
    SE X kr [] (.Call (.Name x p) (e :: es) [] pos) (mCall0 F ms) := fun B H env σ tm d Q ok hm' q => by
  obtain ⟨f, fd, ps, hm, hk, hb, Fo⟩ := C.ex
  obtain ⟨ds, hds, hF⟩ := bind_ok hm'
  refine wE_of (pe_call Fo hr hg hm hk hb .nil pass0 pa_sem hdb he hpl) (ha B H env σ tm ds _ ok hds fun vs H1 x1 hvl ok1 => ?_)
  rw [List.append_nil]
  obtain ⟨G, g, ra, rt⟩ := EnvOk.ret0 (H' := H1) hvl ok1
  refine ⟨by rw [hvl]; exact hl _ _ hds, G, ds, _, g, ra, hF, fun v H' r => ?_⟩
  obtain ⟨x2, ok2⟩ := rt H' v d r
  exact q v H' (x1.trans x2) ok2
theorem sae_len0 : ∀ env ds, mNilA env = .ok ds → ds.length = 0 := fun env ds h => by cases h; rfl
theorem sae_len {ms : Env → Res (List D)} : ∀ {n : Nat}, (∀ env ds, ms env = .ok ds → ds.length = n) → ∀ {m : Env → Res D} {cs : List Nat}, ∀ env ds, mConsE m cs ms env = .ok ds → ds.length = n + 1 := fun {n} h {m cs} env ds hm => by
  obtain ⟨y, _, h2⟩ := bind_ok hm
  obtain ⟨ys, h3, h4⟩ := bind_ok h2
  cases h4
  simp [h _ ys h3]
end
/-! ### dicts with nested keys -/
mutual
theorem hash_plain (w w' : World) : ∀ k : NestedKey, plainK k = true → k.hash w = k.hash w'
  | .none, _ => rfl
  | .num _, _ => rfl
  | .text _, h => by simp [plainK] at h
  | .tup ks, h => by rw [plainK] at h; rw [NestedKey.hash, NestedKey.hash, hashes_plain w w' ks h]
theorem hashes_plain (w w' : World) : ∀ ks : List NestedKey, plainKs ks = true → NestedKey.hashes w ks = NestedKey.hashes w' ks
  | [], _ => rfl
  | k :: ks, h => by
    rw [plainKs, Bool.and_eq_true] at h
    rw [NestedKey.hashes, NestedKey.hashes, hash_plain w w' k h.1, hashes_plain w w' ks h.2]
end
mutual
theorem kN_is {P : Program} {w : World} {H : Hp} {h : Heap} (ok : HOk P w H h) : ∀ (k : NestedKey) (v : V) (u : Value), Rp (view H) v (kN k) → RelV v u → NestedIs h k u
  | .none, _, _, r, q => by
    rw [kN] at r; cases r
    cases (show _ = Value.none from q); exact .none
  | .num i, _, _, r, q => by
    rw [kN] at r; cases r
    obtain ⟨t, q⟩ := (show ∃ t, _ = Value.int i t from q); cases q; exact .int _ _
  | .text x, _, _, r, q => by
    rw [kN] at r; cases r
    obtain ⟨t, q⟩ := (show ∃ t, _ = Value.str x t from q); cases q; exact .text _ _
  | .tup ks, _, _, r, q => by
    rw [kN] at r
    cases r with
    | @tup a vs _ hv ra =>
      cases (show _ = Value.ref a from q)
      obtain ⟨_, its, rv, o, h1, h2, n, h3⟩ := (show ObjOk P w H h a (.tup vs) from (view_rd hv).ok ok)
      exact .tup h1 h2 h3 (by simpa using kNs_is ok ks vs its ra rv)
theorem kNs_is {P : Program} {w : World} {H : Hp} {h : Heap} (ok : HOk P w H h) : ∀ (ks : List NestedKey) (vs : List V) (us : List Value), RpAll (view H) vs (kNs ks) → Vals vs us → NestedAll h ks us
  | [], _, _, r, q => by rw [kNs] at r; cases r; cases q; exact .nil
  | k :: ks, _, _, r, q => by
    rw [kNs] at r
    cases r with
    | cons r1 r2 =>
      cases q with
      | cons q1 q2 => exact .cons (kN_is ok k _ _ r1 q1) (kNs_is ok ks _ _ r2 q2)
end
/-- the dict's keys, addresses, values -/
def KE3 : List (NestedKey × Addr × V) → List (NestedKey × Addr × Value) → Prop := Paired (fun (p : NestedKey × Addr × V) (q : NestedKey × Addr × Value) => p.1 = q.1 ∧ p.2.1 = q.2.1 ∧ RelV p.2.2 q.2.2)
def valN {β : Type} (es : List (NestedKey × Addr × β)) (k : NestedKey) : Option β := (es.find? fun e => decide (e.1 = k)).map (·.2.2)
def putN {β : Type} (es : List (NestedKey × Addr × β)) (k : NestedKey) (b : Addr) (v : β) : List (NestedKey × Addr × β) := if (valN es k).isSome then es.map (fun e => if e.1 = k then (e.1, e.2.1, v) else e) else es ++ [(k, b, v)]
theorem KE3.val {es : List (NestedKey × Addr × V)} {xs : List (NestedKey × Addr × Value)} (r : KE3 es xs) (k : NestedKey) : RelO (valN es k) (valN xs k) := by
  unfold KE3 at r
  induction r with
  | nil => exact trivial
  | @cons p q ps qs h t ih =>
    unfold valN at ih ⊢
    rw [List.find?_cons, List.find?_cons, h.1]
    by_cases e : q.1 = k
    · rw [decide_eq_true e]; exact h.2.2
    · rw [decide_eq_false e]; exact ih
theorem KE3.keys {es : List (NestedKey × Addr × V)} {xs : List (NestedKey × Addr × Value)} (r : KE3 es xs) : xs.map (·.1) = es.map (·.1) := by
  unfold KE3 at r
  induction r with
  | nil => rfl
  | @cons p q ps qs h t ih => rw [List.map_cons, List.map_cons, ih, h.1]
theorem KE3.put {es : List (NestedKey × Addr × V)} {xs : List (NestedKey × Addr × Value)} (r : KE3 es xs) (k : NestedKey) (b : Addr) {v : V} {u : Value} (rv : RelV v u) : KE3 (putN es k b v) (putN xs k b u) := by
  have e := (r.val k).isSome_eq
  unfold putN
  rw [e]
  unfold KE3 at r
  split
  · rename_i hc
    clear e hc
    induction r with
    | nil => exact .nil
    | @cons p q ps qs h t ih =>
      rw [List.map_cons, List.map_cons]
      refine .cons ?_ ih
      obtain ⟨p1, p2, p3⟩ := p; obtain ⟨q1, q2, q3⟩ := q
      obtain ⟨h1, h2, h3⟩ := h
      dsimp only at h1 h2 h3
      subst h1 h2
      by_cases z : p1 = k
      · dsimp only; rw [if_pos z, if_pos z]; exact ⟨rfl, rfl, rv⟩
      · dsimp only; rw [if_neg z, if_neg z]; exact ⟨rfl, rfl, h3⟩
  · exact Paired.snoc r ⟨rfl, rfl, rv⟩
section
variable {X : Cx} {pins : List (Addr × Obj)} {σ : St} {H : Hp} {s : Shared} {a : Addr} {es : List (NestedKey × Addr × V)} {ks : List NestedKey}
end
/-! a datum as a key -/
mutual
def keyN : Nat → D → Option NestedKey
  | _, .non => some .none
  | _, .int i => some (.num i)
  | f + 1, .tup ds => (keysN f ds).map .tup
  | _, _ => none
def keysN : Nat → List D → Option (List NestedKey)
  | _, [] => some []
  | f, d :: ds => match keyN f d, keysN f ds with
    | some k, some ks => some (k :: ks)
    | _, _ => none
end
mutual
theorem keyN_ok : ∀ (f : Nat) (d : D) (k : NestedKey), keyN f d = some k → kN k = d ∧ k.depth ≤ f ∧ plainK k = true
  | _, .non, _, h => by unfold keyN at h; cases h; exact ⟨rfl, Nat.zero_le _, rfl⟩
  | _, .int i, _, h => by unfold keyN at h; cases h; exact ⟨rfl, Nat.zero_le _, rfl⟩
  | f + 1, .tup ds, _, h => by
    rw [keyN] at h
    obtain ⟨ks, h1, rfl⟩ := Option.map_eq_some_iff.mp h
    obtain ⟨q1, q2, q3⟩ := keysN_ok f ds ks h1
    exact ⟨by rw [kN, q1], by rw [NestedKey.depth]; omega, by rw [plainK]; exact q3⟩
  | 0, .tup _, _, h => by simp [keyN] at h
  | _, .bl _, _, h => by simp [keyN] at h
  | _, .str _, _, h => by simp [keyN] at h
  | _, .lst _, _, h => by simp [keyN] at h
  | _, .dk _ _, _, h => by simp [keyN] at h
  | _, .dt _ _, _, h => by simp [keyN] at h
  | _, .dn _ _, _, h => by simp [keyN] at h
  | _, .ob _ _ _ _, _, h => by simp [keyN] at h
  | _, .exn _ _ _ _, _, h => by simp [keyN] at h
theorem keysN_ok : ∀ (f : Nat) (ds : List D) (ks : List NestedKey), keysN f ds = some ks → kNs ks = ds ∧ NestedKey.depthAll ks ≤ f ∧ plainKs ks = true
  | _, [], _, h => by unfold keysN at h; cases h; exact ⟨rfl, Nat.zero_le _, rfl⟩
  | f, d :: ds, _, h => by
    unfold keysN at h
    split at h
    · rename_i k ks h1 h2
      cases h
      obtain ⟨a1, a2, a3⟩ := keyN_ok f d k h1
      obtain ⟨b1, b2, b3⟩ := keysN_ok f ds ks h2
      exact ⟨by rw [kNs, a1, b1], by rw [NestedKey.depthAll]; omega, by rw [plainKs, a3, b3]; rfl⟩
    · cases h
end
end Mir

namespace Mir
open PySem PySem.Spec L2
/-! ### dicts with nested keys: what is read and written -/
section
variable {X : Cx} {pins : List (Addr × Obj)} {σ : St} {H : Hp} {s : Shared} {a b : Addr} {es : List (NestedKey × Addr × V)} {ks : List NestedKey} {k : NestedKey} {v d : V} {u r : Value} {A : Around} {E : Value → Shared → Prop}
structure NAt (H : Hp) (a : Addr) (es : List (NestedKey × Addr × V)) (k : NestedKey) (b : Addr) : Prop where
  n : NkOk (es.map (·.1)) (es.map (·.1))
  r : RpAll (view H) (es.map fun e => V.ref e.2.1) (kNs (es.map (·.1)))
  key : Rp (view H) (.ref b) (kN k)
  d : k.depth ≤ 8 ∧ plainK k = true
end
section
variable {X : Cx} {o e f i value : Expr} {apos cpos pos pos' : Pos} {td ty tx tv tk : TE}
end
end Mir

namespace Mir
open PySem PySem.Spec L2
/-! ### dicts with nested keys in the mirror -/
section
variable {B : Bs} {H : Hp} {env : Env} {σ : St} {tm : List Hold}
end
section
variable {X : Cx} {e o i a b kx vx : Expr} {m ma mb md mk mv : Env → Res D} {k kr : Nat} {cs : List Nat} {pos cpos apos : Pos}
end
end Mir

namespace Mir
open PySem PySem.Spec L2
/-! ### min(a, b), max(a, b) of alike data -/
section
open Sem (wp)
open PySem.W
variable {prog : Program} {w : World} {A : Around} {E : Value → Shared → Prop} {s : Shared}
end
section
variable {X : Cx} {e f : Expr} {m m' : Env → Res D} {pos p : Pos}
/-! ### tuple(x), list(x): a list, a tuple of what never changes -/
end
end Mir

namespace Mir
open PySem PySem.Spec L2
/-! ### for a, b in d.items(): dicts of nested keys -/
section
variable {P : Program} {w : World} {K : PySem.W.Frag} {tg : Expr} {d : Addr} {o : Obj} {des : Array DictEntry} {ep : Nat}
end
section
variable {X : Cx} {tg e : Expr} {td : TE} {apos cpos : Pos}
end
section
variable {X : Cx} {e a b tg it o : Expr} {m ma mb md : Env → Res D} {k kr : Nat} {cs : List Nat} {pos cpos apos : Pos} {m1 : Env → Res Ctl}
end
end Mir

namespace Mir
open PySem PySem.Spec L2
/-! ### a dict of whole numbers of the module's own: dict(NAME) -/
section
variable {X : Cx} {k : Nat} {pos p p2 : Pos} {x : Str}
end
/-! ### len(d): a dict of nested keys -/
end Mir

namespace Mir
open PySem PySem.Spec L2 PyProof.Rows
/-! ### x in a tuple of data -/
section
variable {X : Cx}
end
end Mir

namespace Mir
open PySem PySem.Spec L2
/-! ### an item of a list whose items are shared -/
/-- a slot's own list, its items shared -/
def mVarL (j : Nat) : Env → Res D := fun env => match env[j]? with
  | some (some (1, .lst ds)) => .ok (.lst ds)
  | _ => .bad
section
variable {X : Cx} {a b : Expr} {mb : Env → Res D} {pos : Pos}
@[simp] theorem e_mVarL {j : Nat} {env : Env} : mVarL j env = (match env[j]? with
  | some (some (1, .lst ds)) => .ok (.lst ds)
  | _ => .bad) := rfl
end
end Mir

namespace Mir
open PySem PySem.Spec L2
/-! ### for v in rows: v.append(e), the rows given away -/
def appAll (d : D) : List D → Res (List D)
  | [] => .ok []
  | .lst rs :: ds => if rs.length < sizeLine then appAll d ds >>= fun es => .ok (.lst (rs ++ [d]) :: es) else .bad
  | _ :: _ => .bad
def mForApp (i : Nat) (cs : List Nat) (m me : Env → Res D) : Env → Res Ctl := fun env => m env >>= fun x => match x with
  | .lst ds => if i < env.length then me ((clear env cs).set i none) >>= fun d => if d.imm then appAll d ds >>= fun _ => .ok (.nx ((clear env cs).set i none)) else .bad else .bad
  | _ => .bad
section
variable {X : Cx} {kr : Nat} {pos p2 p3 pos1 apos cpos : Pos} {e it : Expr} {v : Str} {m me : Env → Res D}
end
end Mir

namespace Mir
open PySem PySem.Spec L2
/-! ### two lists given away, one after the other -/
theorem OdAll.len {G H : Hp} : ∀ {k : Nat} {f : List Addr} {vs : List V} {ds : List D}, OdAll G H k f vs ds → vs.length = ds.length
  | _, _, _, _, .nil => rfl
  | _, _, _, _, .cons _ r => by rw [List.length_cons, List.length_cons, OdAll.len r]
def mCatM (i j k : Nat) : Env → Res D := fun env => match env[i]?, env[j]? with
  | some (some (a, .lst xs)), some (some (b, .lst ys)) => if a = k + 1 ∧ b = k + 1 ∧ i ≠ j ∧ xs.length + ys.length ≤ sizeLine then .ok (.lst (xs ++ ys)) else .bad
  | _, _ => .bad
section
variable {X : Cx} {pos : Pos} {a b : Expr}
@[simp] theorem e_mCatM {i j k : Nat} {env : Env} : mCatM i j k env = (match env[i]?, env[j]? with
  | some (some (a, .lst xs)), some (some (b, .lst ys)) => if a = k + 1 ∧ b = k + 1 ∧ i ≠ j ∧ xs.length + ys.length ≤ sizeLine then .ok (.lst (xs ++ ys)) else .bad
  | _, _ => .bad) := rfl
@[simp] theorem e_mForApp {i : Nat} {cs : List Nat} {m me : Env → Res D} {env : Env} : mForApp i cs m me env = (m env >>= fun x => match x with
  | .lst ds => if i < env.length then me ((clear env cs).set i none) >>= fun d => if d.imm then appAll d ds >>= fun _ => .ok (.nx ((clear env cs).set i none)) else .bad else .bad
  | _ => .bad) := rfl
end
end Mir

namespace Mir
open PySem PySem.Spec L2
/-! ### calls that tell a dict made anew: what is read holds none -/
mutual
def noDk : D → Bool
  | .lst ds => noDkL ds
  | .tup ds => noDkL ds
  | .non => true
  | .bl _ => true
  | .int _ => true
  | .str _ => true
  | _ => false
def noDkL : List D → Bool
  | [] => true
  | d :: ds => noDk d && noDkL ds
end
def noK (H : Hp) : Hp := fun a => match view H a with
  | some (.dK _) => none
  | x => x
theorem noK_some {H : Hp} {a : Addr} {u : HO} (h : view H a = some u) (hu : ∀ kvs, u ≠ .dK kvs) : noK H a = some u := by
  unfold noK
  rw [h]
  cases u <;> first | rfl | exact absurd rfl (hu _)
theorem noK_view {H : Hp} {a : Addr} {u : HO} (h : noK H a = some u) : view H a = some u ∧ ∀ kvs, u ≠ .dK kvs := by
  unfold noK at h
  split at h
  · cases h
  · rename_i hn
    exact ⟨h, fun kvs e => hn kvs (by rw [h, e])⟩
mutual
theorem Rp.noK {H : Hp} : ∀ {v : V} {d : D}, Rp (view H) v d → noDk d = true → Rp (noK H) v d
  | _, _, .non, _ => .non
  | _, _, .bl b, _ => .bl b
  | _, _, .int i, _ => .int i
  | _, _, .str x, _ => .str x
  | _, _, .lst h r, q => .lst (noK_some h fun _ z => nomatch z) (RpAll.noK r (by simpa [noDk] using q))
  | _, _, .tup h r, q => .tup (noK_some h fun _ z => nomatch z) (RpAll.noK r (by simpa [noDk] using q))
  | _, _, .dk _ _ _, q => by simp [noDk] at q
  | _, _, .dt _ _ _, q => by simp [noDk] at q
  | _, _, .ob _ _ _, q => by simp [noDk] at q
  | _, _, .exn0 _, q => by simp [noDk] at q
  | _, _, .exn _ _ _ _, q => by simp [noDk] at q
  | _, _, .dn _ _ _ _, q => by simp [noDk] at q
theorem RpAll.noK {H : Hp} : ∀ {vs : List V} {ds : List D}, RpAll (view H) vs ds → noDkL ds = true → RpAll (noK H) vs ds
  | _, _, .nil, _ => .nil
  | _, _, .cons h r, q => by
    rw [noDkL, Bool.and_eq_true] at q
    exact .cons (Rp.noK h q.1) (RpAll.noK r q.2)
end
theorem OdAll.ofImm {G H : Hp} {k : Nat} : ∀ {vs : List V} {ds : List D}, RpAll G vs ds → immAll ds = true → OdAll G H k [] vs ds
  | _, _, .nil, _ => .nil
  | _, _, .cons h r, q => by
    rw [immAll, Bool.and_eq_true] at q
    exact OdAll.cons (f := []) (g := []) (Od.im h q.1) (OdAll.ofImm r q.2)
section
variable {X : Cx} {e : Expr} {es : List Expr} {ms : Env → Res (List D)} {n : Nat} {pos p : Pos} {x : Str} {F : List D → Res D} {j : Nat}
/-- a dict that is told and is new may be owned -/
theorem RetOk.own {H H' : Hp} {v : V} {ks : List Key} {ds : List D} (r : RetOk 0 (noK H) H H' v (.dk ks ds)) (hi : immAll ds = true) : ∃ p, v = .ref p ∧ H p = none ∧ ((∃ o u, H' p = some (.frz o u) ∧ RetOk 1 (view H) H (upd H' p u) v (.dk ks ds)) ∨ RetOk 1 (view H) H H' v (.dk ks ds)) := by
  obtain ⟨G', fp, g, od, _, _⟩ := r.ex
  obtain ⟨_, rp⟩ := od.zero
  cases rp with
  | @dk p kvs _ _ hp hk ra =>
    have hn : H p = none := by
      refine Classical.byContradiction fun hn => ?_
      have e : G' p = noK H p := g.g0 p hn
      rw [hp] at e
      exact (noK_view e.symm).2 kvs rfl
    have hv := g.gs p _ hp
    have fin : ∀ H'' : Hp, H'' p = some (.dK kvs) → (∀ a, a ≠ p → H'' a = H' a) → RetOk 1 (view H) H H'' (.ref p) (.dk ks ds) := fun H'' h1 h2 => by
      have nep : ∀ {a : Addr} {o : HO}, H a = some o → a ≠ p := fun e z => by rw [z, hn] at e; cases e
      have vw : ∀ a, a ≠ p → view H'' a = view H' a := fun a ha => by unfold view; rw [h2 a ha]
      have bs : ∀ a o, H a = some o → H'' a = some o := fun a o e => by rw [h2 a (nep e)]; exact g.bs a o e
      have gt : ∀ a u, isIm u = true → view H'' a = some u → (if H a = none then (match view H'' a with | some u => if isIm u = true then some u else none | none => none) else view H a) = some u := fun a u im e => by
        split
        · rw [e]; dsimp only; rw [if_pos im]
        · rename_i ha
          cases q : H a with
          | none => exact absurd q ha
          | some o =>
            have := bs a o q
            unfold view at e ⊢
            rw [this] at e
            rw [q]; exact e
      refine ⟨⟨fun a => if H a = none then (match view H'' a with | some u => if isIm u = true then some u else none | none => none) else view H a, [p], ⟨bs, fun a ha => if_neg ha, fun a u e => ?_, gt, fun a u im e => ?_⟩, ?_, by simp, fun q hq => ?_⟩⟩
      · have e' : (if H a = none then (match view H'' a with | some u => if isIm u = true then some u else none | none => none) else view H a) = some u := e
        split at e'
        · split at e'
          · split at e'
            · cases e'; assumption
            · cases e'
          · cases e'
        · exact view_ext bs a u e'
      · by_cases z : a = p
        · subst z
          have : view H'' a = some (.dK kvs) := by unfold view; rw [h1]; rfl
          rw [this] at e
          cases e
          cases im
        · rw [h2 a z]
          exact g.nf a u im (by rw [← vw a z]; exact e)
      · refine Od.dk (f := []) h1 hk (OdAll.ofImm ?_ hi)
        have : ∀ a u, isIm u = true → G' a = some u → (if H a = none then (match view H'' a with | some u => if isIm u = true then some u else none | none => none) else view H a) = some u := fun a u im e => by
          refine gt a u im ?_
          have z : a ≠ p := fun z => by
            subst z
            rw [hp] at e
            cases e
            cases im
          rw [vw a z]
          exact g.gs a u e
        exact ra.immTo this hi
      · rw [List.mem_singleton.mp hq]
        refine ⟨hn, ?_⟩
        show (if H p = none then (match view H'' p with | some u => if isIm u = true then some u else none | none => none) else view H p) = none
        have : view H'' p = some (.dK kvs) := by unfold view; rw [h1]; rfl
        rw [if_pos hn, this]
        rfl
    refine ⟨p, rfl, hn, ?_⟩
    cases q : H' p with
    | none => rw [view_none q] at hv; cases hv
    | some o =>
      have hu : unf o = .dK kvs := by
        unfold view at hv
        rw [q] at hv
        exact Option.some.inj hv
      by_cases hz : ∃ od w, o = .frz od w
      · obtain ⟨od, w, rfl⟩ := hz
        have ew : w = .dK kvs := hu
        subst ew
        exact .inl ⟨od, _, rfl, fin _ upd_same fun a ha => upd_ne ha⟩
      · have eo : o = .dK kvs := by
          cases o with
          | frz od w => exact absurd ⟨od, w, rfl⟩ hz
          | _ => exact hu
        subst eo
        exact .inr (fin _ q fun a _ => rfl)
def gNew (d : D) : Res D := match d with
  | .dk ks es => if immAll es = true then .ok (.dk ks es) else .bad
  | _ => .bad
def mCallN (F : List D → Res D) (ms : Env → Res (List D)) : Env → Res D := fun env => ms env >>= fun ds => if noDkL ds = true then F ds >>= gNew else .bad
@[simp] theorem e_mCallN {F : List D → Res D} {ms : Env → Res (List D)} {env : Env} : mCallN F ms env = (ms env >>= fun ds => if noDkL ds = true then F ds >>= gNew else .bad) := rfl
@[simp] theorem gNew_enc (p : Pol) : gNew (encP p) = .ok (encP p) := by
  unfold encP gNew
  simp
end
end Mir

namespace Mir
open PySem PySem.Spec L2
/-! ### x.extend(e), the items of e owned -/
section
variable {X : Cx} {kr k : Nat} {e o : Expr} {m : Env → Res D} {pos cpos apos : Pos}
end
end Mir

namespace Mir
open PySem PySem.Spec L2
/-! ### len of an owned dict -/
def mLenD (j : Nat) : Env → Res D := fun env => match env[j]? with
  | some (some (1, .dk ks ds)) => .ok (.int ds.length)
  | _ => .bad
@[simp] theorem e_mLenD {j : Nat} {env : Env} : mLenD j env = (match env[j]? with
  | some (some (1, .dk ks ds)) => .ok (.int ds.length)
  | _ => .bad) := rfl
end Mir

namespace Mir
open PySem PySem.Spec L2
/-! ### xs.count(k); a comparison whose left side may raise -/
section
variable {X : Cx} {o e a b : Expr} {mo m ma mb : Env → Res D} {pos cpos apos : Pos} {κ : Str → Addr} {W : WX} {k : Nat}
def mOpX (g : D → D → Res D) (ma mb : Env → Res D) : Env → Res D := fun env => ma env >>= fun x => nx (mb env >>= fun y => g x y)
@[simp] theorem e_mOpX (g : D → D → Res D) (ma mb : Env → Res D) (env : Env) : mOpX g ma mb env = (ma env >>= fun x => nx (mb env >>= fun y => g x y)) := rfl
end
end Mir

namespace Mir
open PySem PySem.Spec L2
/-! ### a name that is bound is forgotten ahead of a comprehension with this name -/
section
variable {X : Cx} {st : Stmt} {ss : List Stmt} {m1 : Env → Res Ctl} {kr : Nat}
def mDr (i : Nat) (m : Env → Res Ctl) : Env → Res Ctl := fun env => m (env.set i none)
@[simp] theorem e_mDr (i : Nat) (m : Env → Res Ctl) (env : Env) : mDr i m env = m (env.set i none) := rfl
end
end Mir

namespace Mir
open PySem PySem.Spec L2
/-! ### a list, taken apart -/
section
variable {X : Cx} {pos : Pos} {k : Nat}
def tTupL (n : Nat) (u : Nat → List D → Env → Res Env) : Nat → D → Env → Res Env := fun _ d env => match d with
  | .lst ds => if ds.length = n then u 0 ds env else .bad
  | _ => .bad
@[simp] theorem e_tTupL (n : Nat) (u : Nat → List D → Env → Res Env) (k : Nat) (ds : List D) (env : Env) : tTupL n u k (.lst ds) env = (if ds.length = n then u 0 ds env else .bad) := rfl
end
end Mir

namespace Mir
open PySem PySem.Spec L2
/-! ### len(set(pairs)) -/
section
variable {X : Cx} {e : Expr} {m : Env → Res D} {k : Nat} {pos p p2 pos2 : Pos}
end
end Mir

namespace Mir
open PySem PySem.Spec L2
/-! ### NAME == d: a dict of the module's own -/
section
variable {X : Cx}
variable {ps : List (Int × Int)} {x : Str} {b : Expr} {mb : Env → Res D} {pos p2 : Pos}
end
end Mir

namespace Mir
open PySem PySem.Spec L2
/-! ### list(d): a dict of numbers or texts -/
def gListK : D → Res D
  | .dk ks _ => .ok (.lst (ks.map kD))
  | _ => .bad
section
variable {X : Cx} {e : Expr} {m : Env → Res D} {k : Nat} {pos p : Pos}
@[simp] theorem gListK_enc (p : Pol) : gListK (encP p) = .ok (.lst ((p.map (·.1)).map D.int)) := by
  unfold encP gListK
  dsimp only
  rw [List.map_map, List.map_map]; rfl
end
end Mir

namespace Mir
open PySem PySem.Spec L2
/-! ### a call that may raise but does not, its arguments shared -/
section
variable {X : Cx} {e : Expr} {es : List Expr} {ms : Env → Res (List D)} {kr n : Nat} {κ : Str → Addr} {pos p : Pos} {x : Str} {F : List D → Res D} {j : Nat}
end
end Mir

namespace Mir
open PySem PySem.Spec L2
/-! ### d == e: dicts of numbers, alike or not -/
section
variable {X : Cx}
end
end Mir

namespace Mir
open PySem PySem.Spec L2
/-! ### d[k] of a dict with nested keys -/
section
variable {X : Cx} {o i : Expr} {md mk : Env → Res D} {pos : Pos}
end
end Mir

namespace Mir
open PySem PySem.Spec L2
/-! ### d != e: dicts of numbers, alike or not -/
section
variable {X : Cx}
end
end Mir

namespace Mir
open PySem PySem.Spec L2
/-! ### what is owned to depth one and holds nothing that could be written is owned to any depth -/
def lowD : D → Bool
  | .lst ds => immAll ds
  | .dk _ ds => immAll ds
  | d => d.imm
def gUp : D → Res D := fun d => if lowD d = true then .ok d else .bad
section
variable {X : Cx} {e a b : Expr} {m ma mb : Env → Res D} {cs : List Nat} {pos : Pos} {k : Nat}
/-! ### an item of an owned tuple, the others let go -/
def gIxT : D → D → Res D
  | .tup ds, .int i => match atI ds i with
    | some d => .ok d
    | none => .bad
  | _, _ => .bad
/-! ### list(range(a, b)) -/
def gLRg : D → D → Res D
  | .int i, .int j => if 0 ≤ i ∧ j ≤ 4096 ∧ i ≤ 4096 ∧ 0 ≤ j then .ok (.lst (intsD i (j - i).toNat)) else .bad
  | _, _ => .bad
end
@[simp] theorem e_gLRg {i j : Int} : gLRg (.int i) (.int j) = if 0 ≤ i ∧ j ≤ 4096 ∧ i ≤ 4096 ∧ 0 ≤ j then .ok (.lst (intsD i (j - i).toNat)) else .bad := rfl
@[simp] theorem e_gUp {d : D} : gUp d = if lowD d = true then .ok d else .bad := rfl
@[simp] theorem e_gIxT {ds : List D} {i : Int} : gIxT (.tup ds) (.int i) = (match atI ds i with
    | some d => .ok d
    | none => .bad) := rfl
end Mir

namespace Mir
open PySem PySem.Spec L2
/-! ### d[k] = v, the names kept -/
section
variable {X : Cx} {κ : Str → Addr} {Z : List Nat} {W : WX} {e o i : Expr} {m mk : Env → Res D} {cs : List Nat} {kr : Nat} {pos : Pos}
end
end Mir

namespace Mir
open PySem PySem.Spec L2
/-! ### len of an owned dict with tuple keys -/
def mLenDT (j : Nat) : Env → Res D := fun env => match env[j]? with
  | some (some (1, .dt ks ds)) => .ok (.int ds.length)
  | _ => .bad
@[simp] theorem e_mLenDT {j : Nat} {env : Env} : mLenDT j env = (match env[j]? with
  | some (some (1, .dt ks ds)) => .ok (.int ds.length)
  | _ => .bad) := rfl
end Mir

namespace Mir
open PySem PySem.Spec L2
/-! ### x = y op len(rows), a row of rows being lent -/
section
variable {X : Cx} {κ : Str → Addr} {Z : List Nat} {W : WX} {o a : Expr} {ma : Env → Res D} {i j k kr : Nat} {pos pos' pos2 p p2 spos : Pos} {m2 : Nat → List D → Env → Res Ctl} {ss : List Stmt} {x : Str}
end
end Mir

namespace Mir
open PySem PySem.Spec L2
/-! ### x = xs[i]; ..; x.insert(p, v); .. with x still read behind it -/
section
variable {X : Cx} {κ : Str → Addr} {Z : List Nat} {W : WX} {e o ep : Expr} {mp mv : Env → Res D} {k kr : Nat} {pos apos cpos : Pos}
end
end Mir

namespace Mir
open PySem PySem.Spec L2
/-! ### try: x = f(..): where it raises, x is as it was -/
section
variable {X : Cx} {κ : Str → Addr} {kr k : Nat} {Z : List Nat} {W : WX} {me : Env → Res D} {e : Expr} {cs : List Nat} {pos : Pos}
end
section
variable {X : Cx} {κ : Str → Addr} {kr : Nat} {Z : List Nat} {x n : Str} {c : Value} {i : Nat} {body suite : List Stmt} {b₀ : Stmt} {np pos pos' : Pos} {Wout : WX} {mb ms : Env → Res Ctl} {tab : Str → Option Bool}
end
end Mir

namespace Mir
open PySem PySem.Spec L2
/-! ### a list that is gone through is lent, not given away -/
section
variable {X : Cx} {e a b tg it elt : Expr} {m ma mb me : Env → Res D} {k : Nat} {cs : List Nat} {pos : Pos}
end
section
variable {X : Cx} {κ : Str → Addr} {kr k : Nat} {Z : List Nat} {W : WX} {m1 : Env → Res Ctl} {tg it : Expr} {pos : Pos}
theorem Kp.sub {j : Nat} {Z : List Nat} {σ σ' : St} (h : Kp (j :: Z) σ σ') : Kp Z σ σ' := fun z hz => h z (List.mem_cons_of_mem _ hz)
end
/-! ### d.clear(): a dict of tuple keys -/
end Mir

namespace Mir
open PySem PySem.Spec L2
/-! ### d == e, d != e of two dicts of tuple keys that are alike, as a test -/
end Mir

namespace Mir
open PySem PySem.Spec L2
/-! ### int(text), text.split(sep), text.index(sign) -/
section
variable {X : Cx} {e o : Expr} {m mo : Env → Res D} {k : Nat} {pos p apos : Pos}
end
end Mir

namespace Mir
open PySem PySem.Spec L2
/-! ### the signs of a text; a sign in a text -/
section
variable {X : Cx} {tg it : Expr} {m : Env → Res D}
end
end Mir

namespace Mir
open PySem PySem.Spec L2
open PyProof.Rows (envOfC)
/-! ### objects of own classes, not written once they are made -/
structure OIs (K : PySem.W.Frag) (C : Addr) : Prop where
  cl : Cls K C
  ha : PySem.W.findIn K (.ref C) "__class__" = some (some (.builtin "object.__class__"))
  hn : PySem.W.specialIn K (.builtin "object.__class__") "__get__" = some (some (.builtin "getset_descriptor.__get__"))
  ht : PySem.W.takesIn K (.builtin "object.__class__") = some true
  hm : PySem.W.mroIn K C (.type "object") = some true
/-- the class named c stands at κ c -/
structure OCl (K : PySem.W.Frag) (mg : Str → Option Value) (κ : Str → Addr) (c : Str) : Prop where
  g : mg c = some (.ref (κ c))
  is : OIs K (κ c)
section
variable {X : Cx} {κ : Str → Addr} {a b o e : Expr} {es : List Expr} {m mo : Env → Res D} {ms : Env → Res (List D)} {pos p apos : Pos} {B : Bs} {H : Hp} {env : Env} {σ : St} {tm : List Hold}
/-! #### e.f -/
def OTab (K : PySem.W.Frag) (κ : Str → Addr) (f : Str) : List Str → Prop
  | [] => True
  | c :: cs => (OIs K (κ c) ∧ NoAttr K (κ c) f) ∧ OTab K κ f cs
theorem OTab.get {K : PySem.W.Frag} {f c : Str} : ∀ {cs : List Str}, OTab K κ f cs → c ∈ cs → OIs K (κ c) ∧ NoAttr K (κ c) f
  | _ :: _, h, hc => by
    rcases List.mem_cons.mp hc with rfl | hc
    · exact h.1
    · exact h.2.get hc
/-! #### C(..) -/
def spI (C : Addr) (ns : List Str) : Sp := fun vs H Q _ => vs.length = ns.length + 1 ∧ ∃ x dx as, vs = .ref x :: as ∧ H x = some (.ins C dx []) ∧ Q .non (upd H x (.ins C dx (ns.zip as)))
theorem EnvOk.newAny {o : HO} {p : Addr} (h : EnvOk B H env σ tm) (hp : H p = none) (hu : unf o = o) : EnvOk B (upd H p o) env σ tm := by
  have h2 := h.len
  have h3 := h.has
  obtain ⟨G, f, hg, hr, nd, hq⟩ := h.ex
  have hrm := hr.mu
  have hH : ∀ a u, H a = some u → upd H p o a = some u := up_keep hp
  have hgp := hg.gnone hp
  have hG : ∀ a u, G a = some u → upd G p o a = some u := up_keep hgp
  refine ⟨⟨upd G p o, f, hg.newSh hp hu, hr.frame hG fun a u e _ => hH a u e, nd, fun q m => ⟨(hq q m).1, ?_⟩⟩, h2, h3⟩
  have qp : q ≠ p := fun z => by
    subst z
    obtain ⟨u, e, _⟩ := hrm q m; rw [hp] at e; cases e
  rw [upd_ne qp]
  exact (hq q m).2
theorem zip_both : ∀ {ns : List Str} {as : List V}, as.length = ns.length → (ns.zip as).map (·.1) = ns ∧ (ns.zip as).map (·.2) = as
  | [], [], _ => ⟨rfl, rfl⟩
  | [], _ :: _, h => by simp at h
  | _ :: _, [], h => by simp at h
  | n :: ns, a :: as, h => by
    obtain ⟨h1, h2⟩ := zip_both (ns := ns) (as := as) (by simpa using h)
    exact ⟨by simp [h1], by simp [h2]⟩
structure MkC (P : Program) (w : World) (K : PySem.W.Frag) (mg : Str → Option Value) (base : Heap) (C : Addr) (j : Nat) (ns : List Str) : Prop where
  ex : ∃ f fd ps, Mk K C f ∧ Binds K fd ps [] ∧ FnOk P w K mg base CX0 j f fd ps (spI C ns)
/-! #### the def __init__ that only stores what it is given -/
theorem wb_end {D : Ends} (h : D.nx σ H) : wB X [] D σ H := wB_of pss_nil h
/-! #### o.m(..) -/
structure MetC (P : Program) (w : World) (K : PySem.W.Frag) (mg : Str → Option Value) (base : Heap) (C : Addr) (m : Str) (j n kr : Nat) (F : List D → Res D) : Prop where
  ex : ∃ f fd ps, Meth K C m f ∧ Binds K fd ps [] ∧ FnOk P w K mg base CX0 j f fd ps (spF kr n F)
def MTab (X : Cx) (κ : Str → Addr) (m : Str) (n kr : Nat) : List (Str × (List D → Res D)) → Prop
  | [] => True
  | (c, F) :: r => (OIs X.K (κ c) ∧ ∃ j, Room j X.A ∧ MetC X.prog X.w X.K X.mg X.base (κ c) m j n kr F) ∧ MTab X κ m n kr r
theorem MTab.get {m : Str} {n kr : Nat} {c : Str} {F : List D → Res D} : ∀ {t : List (Str × (List D → Res D))}, MTab X κ m n kr t → t.lookup c = some F → OIs X.K (κ c) ∧ ∃ j, Room j X.A ∧ MetC X.prog X.w X.K X.mg X.base (κ c) m j n kr F
  | [], _, h => by cases h
  | (c', F') :: r, h, e => by
    rw [List.lookup_cons] at e
    split at e
    · rename_i hc
      cases e
      rw [show c = c' from by simpa using hc]
      exact h.1
    · exact h.2.get e
def gMeth (κ : Str → Addr) (t : List (Str × (List D → Res D))) (m : Str) (kr : Nat) (o : D) (ds : List D) : Res D := match o with
  | .ob c C ns as => (match t.lookup c with
    | some F => if C = κ c ∧ m ∉ ns then F (.ob c C ns as :: ds) >>= fun d => if immAt kr d then .ok d else .bad else .bad
    | none => .bad)
  | _ => .bad
def mMeth (κ : Str → Addr) (t : List (Str × (List D → Res D))) (m : Str) (kr : Nat) (mo : Env → Res D) (ms : Env → Res (List D)) : Env → Res D := fun env => mo env >>= fun o => ms env >>= fun ds => gMeth κ t m kr o ds
@[simp] theorem e_mMeth {t : List (Str × (List D → Res D))} {m : Str} {kr : Nat} : mMeth κ t m kr mo ms env = (mo env >>= fun o => ms env >>= fun ds => gMeth κ t m kr o ds) := rfl
/-! #### isinstance(o, C) -/
def ITab (K : PySem.W.Frag) (κ : Str → Addr) (x : Str) : List (Str × Bool) → Prop
  | [] => True
  | (c, b) :: r => (OIs K (κ c) ∧ PySem.W.kitOne K (.ref (κ c)) (.ref (κ x)) = some b) ∧ ITab K κ x r
theorem ITab.get {K : PySem.W.Frag} {x c : Str} {b : Bool} : ∀ {t : List (Str × Bool)}, ITab K κ x t → t.lookup c = some b → OIs K (κ c) ∧ PySem.W.kitOne K (.ref (κ c)) (.ref (κ x)) = some b
  | [], _, h => by cases h
  | (c', F') :: r, h, e => by
    rw [List.lookup_cons] at e
    split at e
    · rename_i hc
      cases e
      rw [show c = c' from by simpa using hc]
      exact h.1
    · exact h.2.get e
end
end Mir

namespace Mir
open PySem PySem.Spec L2
open PyProof.Rows (envOfC)
/-! ### methods as they stand; __init__; d.clear() of a dict with int or text keys -/
/-- the j-th statement of a class -/
def inCls (s : Stmt) (j : Nat) : Stmt := match s with
  | .ClassDef _ _ _ b _ _ _ _ _ _ _ => b.getD j (.Pass ⟨0, 0, 0, 0⟩)
  | _ => .Pass ⟨0, 0, 0, 0⟩
structure AtM (K : PySem.W.Frag) (C : Addr) (m qual : Str) (st : Stmt) : Prop where
  ex : ∃ f fd, Fun K m qual st f fd ∧ Meth K C m f
theorem AtM.mk' {K : PySem.W.Frag} {C : Addr} {m qual : Str} {st : Stmt} {f : Addr} {oc : Value} {od an : Option Addr} {osl : Array (Option Value)} {kV doc pm cdv ct : Value} (a : PySem.W.findIn K (.ref C) m = some (some (.ref f)))
    (l : K.lookup f = some ⟨oc, od, .func (PySem.W.fnOf m qual (defArgs st) (defBody st) (defScope st) .none kV doc pm an cdv ct), osl⟩) (c : PySem.W.codeIn K cdv qual = true) (k : PySem.W.keepIn K (.ref f) = true) (n : PySem.W.isFn K (.ref f) = true) : AtM K C m qual st :=
  ⟨f, _, fun_mk l c k, ⟨a, n, k⟩⟩
section
variable {X : Cx} {o : Expr} {pos : Pos} {H : Hp} {σ : St}
end
end Mir

namespace Mir
open PySem PySem.Spec L2 RT
/-! ### for x in reversed(list) -/
section
variable {X : Cx} {tg it : Expr} {m : Env → Res D} {p pos : Pos}
end
end Mir

namespace L2
open PySem PySem.Spec PyProof.Rows
section
variable {X : Cx} {CX : CXT} {k : Nat} {f C : Addr} {fd : FuncData} {ps : List Str} {sp : Sp} {E : St → XK} {x m : Str} {p pos apos : Pos} {e o : Expr} {es : List Expr} {ta : TE} {t : TA}
end
end L2
namespace Mir
open PySem PySem.Spec L2
open PyProof.Rows (envOfC)
/-! ### methods that may raise; [.. for x in a call that may raise]; try .. except X: without a name -/
section
variable {X : Cx} {κ : Str → Addr} {W : WX} {a b o e : Expr} {es : List Expr} {m mo : Env → Res D} {ms : Env → Res (List D)} {pos p apos : Pos} {B : Bs} {H : Hp} {env : Env} {σ : St} {tm : List Hold}
structure MetX (P : Program) (w : World) (K : PySem.W.Frag) (mg : Str → Option Value) (base : Heap) (C : Addr) (m : Str) (j n kr : Nat) (κ : Str → Addr) (F : List D → Res D) : Prop where
  ex : ∃ f fd ps, Meth K C m f ∧ Binds K fd ps [] ∧ FnOk P w K mg base (L2.CX P w) j f fd ps (spX kr n κ F)
def MTabX (X : Cx) (κ : Str → Addr) (m : Str) (n kr : Nat) : List (Str × (List D → Res D)) → Prop
  | [] => True
  | (c, F) :: r => (OIs X.K (κ c) ∧ ∃ j, Room j X.A ∧ MetX X.prog X.w X.K X.mg X.base (κ c) m j n kr κ F) ∧ MTabX X κ m n kr r
theorem MTabX.get {m : Str} {n kr : Nat} {c : Str} {F : List D → Res D} : ∀ {t : List (Str × (List D → Res D))}, MTabX X κ m n kr t → t.lookup c = some F → OIs X.K (κ c) ∧ ∃ j, Room j X.A ∧ MetX X.prog X.w X.K X.mg X.base (κ c) m j n kr κ F
  | [], _, h => by cases h
  | (c', F') :: r, h, e => by
    rw [List.lookup_cons] at e
    split at e
    · rename_i hc
      cases e
      rw [show c = c' from by simpa using hc]
      exact h.1
    · exact h.2.get e
def mMethX (κ : Str → Addr) (t : List (Str × (List D → Res D))) (m : Str) (kr : Nat) (mo : Env → Res D) (ms : Env → Res (List D)) : Env → Res D := fun env => nx (mo env) >>= fun o => nx (ms env) >>= fun ds => gMeth κ t m kr o ds
/-- [elt for tg in it ..], it may raise -/
def mLcX (mx : Env → Res D) (t : Nat → D → Env → Res Env) (mt : Env → Res Bool) (me : Env → Res D) (own : List Nat) : Env → Res D := fun env =>
  mx env >>= fun d => nx (mLc (fun _ => itemsL d) t mt me own env)
end
/-! #### try: .. except X: .. -/
section
variable {X : Cx} {κ : Str → Addr} {kr : Nat} {Z : List Nat} {x : Str} {c : Value} {body suite : List Stmt} {b₀ : Stmt} {np pos pos' : Pos} {Wout : WX} {mb ms : Env → Res Ctl} {tab : Str → Option Bool}
end
end Mir

namespace Mir
open PySem PySem.Spec L2
/-! ### equations of methods that may raise -/
section
variable {κ : Str → Addr} {mo : Mir.Env → Res D} {ms : Mir.Env → Res (List D)} {env : Mir.Env}
@[simp] theorem e_mMethX {t : List (Str × (List D → Res D))} {m : Str} {kr : Nat} : mMethX κ t m kr mo ms env = (nx (mo env) >>= fun o => nx (ms env) >>= fun ds => gMeth κ t m kr o ds) := rfl
@[simp] theorem e_mLcX (mx : Mir.Env → Res D) (t : Nat → D → Mir.Env → Res Mir.Env) (mt : Mir.Env → Res Bool) (me : Mir.Env → Res D) (own : List Nat) : mLcX mx t mt me own env = (mx env >>= fun d => nx (mLc (fun _ => itemsL d) t mt me own env)) := rfl
end
end Mir

namespace Mir
open PySem PySem.Spec L2
/-! ### a shared thing put into an inner list -/
section
variable {X : Cx} {a b e o : Expr} {m : Env → Res D} {ma mb : Nat → Env → Res D} {j : Nat} {pos p pos2 : Pos}
end
section
variable {X : Cx} {e ep o ix o2 : Expr} {mi mv : Env → Res D} {mp : Nat → Env → Res D} {kr : Nat} {pos p pos' pos2 spos apos cpos spos2 : Pos} {mr : Env → Res Ctl} {rest : List Stmt} {x : Str}
end
end Mir

namespace Mir
open PySem PySem.Spec L2
/-! ### xs.remove(x), x in xs -/
section
variable {X : Cx} {e o : Expr} {m : Env → Res D} {kr : Nat} {pos apos cpos : Pos}
end
end Mir

namespace Mir
open PySem PySem.Spec L2
end Mir

namespace Mir
open PySem PySem.Spec L2
/-! ### try: .. except X: .. except Y: .. -/
section
variable {X : Cx} {κ : Str → Addr} {kr : Nat} {Z : List Nat} {x y : Str} {c c2 : Value} {body suite suite2 : List Stmt} {b₀ b₂ : Stmt} {np pos pos' np2 pos2 : Pos} {Wout : WX} {mb ms ms2 : Env → Res Ctl} {tab tab2 : Str → Option Bool}
end
end Mir

namespace Mir
open PySem PySem.Spec L2
/-! ### [.. for k in d]: dicts of plain keys -/
section
variable {X : Cx} {e a b tg it o elt : Expr} {m ma mb me mk mx : Env → Res D} {k kr : Nat} {cs : List Nat} {pos p p2 cpos apos cpos2 apos2 lp : Pos}
end
end Mir

namespace Mir
open PySem PySem.Spec L2
/-! ### len(set(whole numbers)) -/
section
variable {X : Cx} {e : Expr} {m : Env → Res D} {k : Nat} {pos p p2 pos2 : Pos}
end
end Mir

namespace Mir
/-! ### lists of a length (one pattern for all defs) -/
theorem lst1 {α : Type} {P : List α → Prop} (h : ∀ a0, P [a0]) : ∀ us : List α, us.length = 1 → P us
  | [a0], _ => h a0
theorem lst2 {α : Type} {P : List α → Prop} (h : ∀ a0 a1, P [a0, a1]) : ∀ us : List α, us.length = 2 → P us
  | [a0, a1], _ => h a0 a1
theorem lst3 {α : Type} {P : List α → Prop} (h : ∀ a0 a1 a2, P [a0, a1, a2]) : ∀ us : List α, us.length = 3 → P us
  | [a0, a1, a2], _ => h a0 a1 a2
theorem lst5 {α : Type} {P : List α → Prop} (h : ∀ a0 a1 a2 a3 a4, P [a0, a1, a2, a3, a4]) : ∀ us : List α, us.length = 5 → P us
  | [a0, a1, a2, a3, a4], _ => h a0 a1 a2 a3 a4
end Mir

namespace Mir
open PySem PySem.Spec L2
/-! ### a dict of whole numbers that is gone through by a comprehension, and owned still behind it -/
section
variable {X : Cx} {e a b tg it elt : Expr} {m ma mb me : Env → Res D} {k : Nat} {cs : List Nat} {pos : Pos}
end
section
variable {B : Bs} {H H' : Hp} {env : Env} {σ : St} {tm : List Hold} {k : Nat} {q : Addr} {o : HO}
theorem EnvOk.lentAt (h : EnvOk (B.lent q o) H env σ tm) : H q = some o := by
  obtain ⟨⟨G, fp, g, _⟩, _⟩ := h
  exact g.bs q o upd_same
theorem rpInts {G : Hp} : ∀ is : List Int, RpAll G (is.map V.int) (is.map D.int)
  | [] => .nil
  | i :: is => .cons (.int i) (rpInts is)
/-- a dict of whole numbers, seen alone -/
theorem EnvOk.alone (h : EnvOk (B.lent q o) H env σ tm) {kvs : List (Key × V)} (ho : unf o = .dK kvs) {is : List Int} (hv : kvs.map (·.2) = is.map V.int) : EnvOk ⟨fun _ => none, fun _ => none⟩ H [] [] [(.ref q, 0, .dk (kvs.map (·.1)) (is.map D.int))] := by
  have hq := h.lentAt
  obtain ⟨⟨G, fp, g, _⟩, _⟩ := h
  have hvq : view H q = some (.dK kvs) := by
    show (H q).map unf = _
    rw [hq, ← ho]; rfl
  refine ⟨⟨upd G q (.dK kvs), [], ⟨(fun a w ha => by cases ha), (fun a ha => absurd rfl ha), fun a u e => ?_, fun a u iu e => ?_, g.nf⟩, .cons (.sh (.inl rfl) (.dk (upd_same) rfl ?_)) .nil, List.nodup_nil, fun p hm => nomatch hm⟩, rfl, fun i kd e => by simp at e⟩
  · by_cases z : a = q
    · subst z
      rw [upd_same] at e
      rw [hvq]; exact e
    · rw [upd_ne z] at e; exact g.gs a u e
  · have z : a ≠ q := fun z => by
      rw [z, hvq] at e
      have e3 : HO.dK kvs = u := Option.some.inj e
      rw [← e3] at iu; cases iu
    rw [upd_ne z]; exact g.gt a u iu e
  · rw [hv]; exact rpInts is
end
section
variable {X : Cx} {tg o elt : Expr} {me : Env → Res D} {pos : Pos}
end
end Mir

namespace Mir
open PySem PySem.Spec L2
open PyProof.Rows (envOfC)
/-! ### raise C(e, ..), C's own __init__ storing what it is given -/
def spXI (C : Addr) (ns : List Str) : Sp := fun vs H Q _ => vs.length = ns.length + 1 ∧ ∃ x as, vs = .ref x :: as ∧ H x = some (exo x C none) ∧ ∀ dx, H dx = none → dx ≠ x → Q .non (upd (upd H dx (exd dx (ns.zip as).reverse)) x (exo x C (some dx)))
structure MkX (P : Program) (w : World) (K : PySem.W.Frag) (mg : Str → Option Value) (base : Heap) (C : Addr) (j : Nat) (ns : List Str) : Prop where
  ex : ∃ f fd ps, PySem.W.findIn K (.ref C) "__init__" = some (some (.ref f)) ∧ PySem.W.typeIn K (.ref f) = some (.type "function") ∧ Binds K fd ps [] ∧ FnOk P w K mg base CX0 j f fd ps (spXI C ns)
structure XIni (K : PySem.W.Frag) (C : Addr) (qual : Str) (st : Stmt) : Prop where
  ex : ∃ f fd, Fun K "__init__" qual st f fd ∧ PySem.W.findIn K (.ref C) "__init__" = some (some (.ref f)) ∧ PySem.W.typeIn K (.ref f) = some (.type "function")
theorem XIni.mk' {K : PySem.W.Frag} {C : Addr} {qual : Str} {st : Stmt} {f : Addr} {oc : Value} {od an : Option Addr} {osl : Array (Option Value)} {kV doc pm cdv ct : Value} (a : PySem.W.findIn K (.ref C) "__init__" = some (some (.ref f)))
    (l : K.lookup f = some ⟨oc, od, .func (PySem.W.fnOf "__init__" qual (defArgs st) (defBody st) (defScope st) .none kV doc pm an cdv ct), osl⟩) (c : PySem.W.codeIn K cdv qual = true) (k : PySem.W.keepIn K (.ref f) = true) (n : PySem.W.typeIn K (.ref f) = some (.type "function")) : XIni K C qual st :=
  ⟨f, _, fun_mk l c k, a, n⟩
section
variable {X : Cx} {κ : Str → Addr} {kr : Nat} {Z : List Nat} {W : WX} {e : Expr} {es : List Expr} {o : Expr} {ms : Env → Res (List D)} {pos p pos' : Pos} {H : Hp} {σ : St}
def mRaiseF (c : Str) (ns : List Str) (ms : Env → Res (List D)) : Env → Res Ctl := fun env => nx (ms env) >>= fun ds => if immAll ds = true ∧ ds.length = ns.length then .exc c ns.reverse ds.reverse else .bad
@[simp] theorem e_mRaiseF (c : Str) (ns : List Str) (env : Mir.Env) : mRaiseF c ns ms env = (nx (ms env) >>= fun ds => if immAll ds = true ∧ ds.length = ns.length then .exc c ns.reverse ds.reverse else .bad) := rfl
theorem immAll_rev {ds : List D} (h : immAll ds = true) : immAll ds.reverse = true := immAll_iff.mpr fun d hd => immAll_iff.mp h d (List.mem_reverse.mp hd)
/-! #### the def __init__ of such a class -/
theorem wb_xst1 {ss : List Stmt} {f : Str} {value : Expr} {x C : Addr} {i : Nat} {v : V} {D : Ends} (T : OexC X.K C) (ho : PE X o (tVar 0)) (hv : PE X value (tVar i)) (hs : swapsWith value (some (.Attribute o f pos')) pos.line X.env = pure false)
    (h0 : σ[0]? = some (some (.ref x))) (hi : σ[i]? = some (some v)) (hx : H x = some (exo x C none)) (N : PySem.W.findIn X.K (.ref C) f = some none)
    (h : ∀ dx, H dx = none → dx ≠ x → wB X ss D σ (upd (upd H dx (exd dx [(f, v)])) x (exo x C (some dx)))) : wB X (.Assign [.Attribute o f pos'] value pos :: ss) D σ H := by
  refine wB_of (pss_cons (ps_ost ho hv hs) pss_sem) ?_
  exact ⟨v, hi, .ref x, h0, x, C, rfl, T, N, .inl ⟨hx, h⟩⟩
theorem wb_xst2 {ss : List Stmt} {f : Str} {value : Expr} {x dx C : Addr} {i : Nat} {v : V} {D : Ends} {G : Hp} {fs : List (Str × V)} (T : OexC X.K C) (ho : PE X o (tVar 0)) (hv : PE X value (tVar i)) (hs : swapsWith value (some (.Attribute o f pos')) pos.line X.env = pure false)
    (h0 : σ[0]? = some (some (.ref x))) (hi : σ[i]? = some (some v)) (hne : dx ≠ x) (N : PySem.W.findIn X.K (.ref C) f = some none) (hl : fs.length ≤ 900)
    (h : wB X ss D σ (upd (upd G dx (exd dx ((f, v) :: fs))) x (exo x C (some dx)))) : wB X (.Assign [.Attribute o f pos'] value pos :: ss) D σ (upd (upd G dx (exd dx fs)) x (exo x C (some dx))) := by
  refine wB_of (pss_cons (ps_ost ho hv hs) pss_sem) ?_
  refine ⟨v, hi, .ref x, h0, x, C, rfl, T, N, .inr ⟨dx, fs, upd_same, by rw [upd_ne hne, upd_same], hl, ?_⟩⟩
  have e : upd (upd (upd G dx (exd dx fs)) x (exo x C (some dx))) dx (exd dx ((f, v) :: fs)) = upd (upd G dx (exd dx ((f, v) :: fs))) x (exo x C (some dx)) := by
    funext b
    by_cases hb : b = dx
    · subst hb; rw [upd_same, upd_ne hne, upd_same]
    · rw [upd_ne hb]
      by_cases hx : b = x
      · subst hx; rw [upd_same, upd_same]
      · rw [upd_ne hx, upd_ne hx, upd_ne hb, upd_ne hb]
  rw [e]
  exact h
end
/-! ### the rows of an owned list become shared, the list stays owned -/
theorem odAll0 {G H : Hp} : ∀ {vs : List V} {ds : List D}, RpAll G vs ds → OdAll G H 0 [] vs ds
  | _, _, .nil => .nil
  | _, _, .cons h r => .cons (f := []) (g := []) (.of h) (odAll0 r)
section
variable {B : Bs} {H : Hp} {env : Env} {σ : St} {tm : List Hold}
theorem EnvOk.freeze1 {k : Nat} {ds : List D} {v : V} (h : EnvOk B H env σ ((v, k + 1, .lst ds) :: tm)) : EnvOk B H env σ ((v, 1, .lst ds) :: tm) := by
  have h2 := h.len
  have h3 := h.has
  obtain ⟨G, f, g, hg, hl, hr, nd, hp⟩ := EnvOk.apart (l := [(v, k + 1, .lst ds)]) h
  cases hl with
  | @cons _ _ _ _ f0 g1 h1 hn =>
    cases hn
    rw [List.append_nil] at nd hp
    cases h1 with
    | sh hh r =>
      rcases hh with hh | hh
      · omega
      · cases hh
    | @lst _ a vs _ f1 ha h1 =>
    have m1 := h1.mu
    obtain ⟨nd1, nd2, nd3⟩ := List.nodup_append.mp nd
    have ndc := List.nodup_cons.mp nd1
    let G' : Hp := fun a => if a ∈ f1 then H a else G a
    have out : ∀ a, a ∉ f1 → G' a = G a := fun a ha => if_neg ha
    have inn : ∀ a, a ∈ f1 → G' a = H a := fun a ha => if_pos ha
    have mem : ∀ q, q ∈ f1 → q ∈ a :: f1 ++ g := fun q hq => List.mem_append_left _ (List.mem_cons_of_mem _ hq)
    have e1 : ∀ a u, G a = some u → G' a = some u := fun a u e => by
      by_cases q : a ∈ f1
      · rw [(hp a (mem _ q)).2] at e; cases e
      · rw [out a q]; exact e
    have hg' : Good B G' H := ⟨hg.bs, fun a e => by
      rw [out a fun q => e (hp a (mem _ q)).1]
      exact hg.g0 a e, fun a u e => by
      by_cases q : a ∈ f1
      · rw [inn a q] at e
        obtain ⟨u', e', m'⟩ := m1 a q
        rw [e] at e'; cases e'
        unfold view; rw [e]; exact congrArg some m'.unf
      · rw [out a q] at e; exact hg.gs a u e, fun a xs im e => by
      by_cases q : a ∈ f1
      · obtain ⟨u', e', m'⟩ := m1 a q
        unfold view at e; rw [e'] at e
        have e2 : unf u' = xs := Option.some.inj e
        rw [m'.unf] at e2
        rw [e2] at m'
        exact (im_mu im m').elim
      · rw [out a q]; exact hg.gt a xs im e, hg.nf⟩
    have r : RpAll G' vs ds := h1.frozen e1 (fun a xs e => hg'.gt a _ rfl (by unfold view; rw [e]; rfl)) fun a u e m => by rw [inn a m]; exact e
    have hna : a ∉ f1 := ndc.1
    refine EnvOk.join (l := [(.ref a, 1, .lst ds)]) (G := G') (f := [a]) (g := g) h2 h3 hg' (HoldAll.cons (f := [a]) (g := []) (.lst ha (odAll0 r)) .nil) (hr.frame e1 fun _ _ e _ => e) ?_ fun p hm => ?_
    · exact List.nodup_append.mpr ⟨by simp, nd2, fun x hx y hy => nd3 x (by rw [List.mem_singleton.mp hx]; exact List.mem_cons_self ..) y hy⟩
    · rcases List.mem_append.mp hm with hm' | hm'
      · rw [List.mem_singleton.mp hm']
        refine ⟨(hp a (by simp)).1, ?_⟩
        rw [out a hna]; exact (hp a (by simp)).2
      · refine ⟨(hp p (List.mem_append_right _ hm')).1, ?_⟩
        rw [out p fun q => nd3 p (List.mem_cons_of_mem _ q) p hm' rfl]
        exact (hp p (List.mem_append_right _ hm')).2
def fz1 (i : Nat) (env : Env) : Env := match env[i]? with
  | some (some (_ + 1, .lst ds)) => env.set i (some (1, .lst ds))
  | _ => env
theorem EnvOk.fz1 (h : EnvOk B H env σ tm) (i : Nat) : EnvOk B H (fz1 i env) σ tm := by
  unfold Mir.fz1
  split
  · rename_i k d e
    obtain ⟨v, hv⟩ := h.has i _ e
    have hi : i < env.length := (List.getElem?_eq_some_iff.mp e).1
    have h1 := ((h.move e hv).freeze1).store (i := i) (by simpa using hi)
    rw [List.set_set, set_self hv] at h1
    exact h1
  · exact h
def mFz1 (i : Nat) (m : Env → Res Ctl) : Env → Res Ctl := fun env => m (Mir.fz1 i env)
@[simp] theorem e_mFz1 (i : Nat) (m : Env → Res Ctl) (env : Env) : mFz1 i m env = m (Mir.fz1 i env) := rfl
end
end Mir

namespace Mir
open PySem PySem.Spec L2
open PyProof.Rows (envOfC)
/-! ### more statements in defs that may raise or change what they are handed -/
section
variable {X : Cx} {κ : Str → Addr} {kr k : Nat} {Z : List Nat} {W : WX} {st : Stmt} {ss : List Stmt} {m m1 m2 : Env → Res Ctl} {me : Env → Res D} {e tg it : Expr} {cs : List Nat} {pos : Pos}
/-- any target, the value may raise -/
def mAsgX (t : Nat → D → Env → Res Env) (k : Nat) (cs : List Nat) (m : Env → Res D) : Env → Res Ctl := fun env => m env >>= fun d => nx (t k d (clear env cs)) >>= fun e => .ok (.nx e)
@[simp] theorem e_mAsgX (t : Nat → D → Env → Res Env) (k : Nat) (cs : List Nat) (m : Env → Res D) (env : Env) : mAsgX t k cs m env = (m env >>= fun d => nx (t k d (clear env cs)) >>= fun e => .ok (.nx e)) := rfl
end
/-! ### a dict of plain things, owned deeper than need be -/
section
variable {B : Bs} {H : Hp} {env : Env} {σ : St} {tm : List Hold}
theorem EnvOk.levLow {k : Nat} : ∀ {vs : List V} {ds : List D} {tm : List Hold}, EnvOk B H env σ (lev k vs ds ++ tm) → vs.length = ds.length → EnvOk B H env σ (lev 0 vs ds ++ tm)
  | [], [], tm, h, _ => h
  | [], _ :: _, _, _, e => by simp at e
  | _ :: _, [], _, _, e => by simp at e
  | v :: vs, d :: ds, tm, h, e => by
    have h0 : EnvOk B H env σ ((v, k, d) :: (lev k vs ds ++ tm)) := h
    have h1 := h0.freeze
    have h2 : EnvOk B H env σ (lev k vs ds ++ ((v, 0, d) :: tm)) := h1.perm List.perm_middle.symm
    have h3 := EnvOk.levLow (vs := vs) (ds := ds) h2 (by simpa using e)
    exact h3.perm List.perm_middle
theorem EnvOk.low {k : Nat} {ks : List Key} {ds : List D} {v : V} (h : EnvOk B H env σ ((v, k + 1, .dk ks ds) :: tm)) : EnvOk B H env σ ((v, 1, .dk ks ds) :: tm) := by
  obtain ⟨p, rfl⟩ := h.isRef rfl
  obtain ⟨kvs, hp, hk, hl, h'⟩ := h.takeDk
  have h1 := EnvOk.levLow h' (by rw [List.length_map]; exact hl)
  have h2 := h1.newDk hl hk del_self
  rw [upd_del] at h2
  have e : upd H p (.dK kvs) = H := by
    funext a
    by_cases q : a = p
    · subst q; rw [upd_same, hp]
    · rw [upd_ne q]
  rw [e] at h2
  exact h2
def lw (i : Nat) (env : Env) : Env := match env[i]? with
  | some (some (_ + 1, .dk ks ds)) => env.set i (some (1, .dk ks ds))
  | _ => env
theorem EnvOk.lw (h : EnvOk B H env σ tm) (i : Nat) : EnvOk B H (lw i env) σ tm := by
  unfold Mir.lw
  split
  · rename_i k ks ds e
    obtain ⟨v, hv⟩ := h.has i _ e
    have hi : i < env.length := (List.getElem?_eq_some_iff.mp e).1
    have h1 := ((h.move e hv).low).store (i := i) (by simpa using hi)
    rw [List.set_set, set_self hv] at h1
    exact h1
  · exact h
def mLw (i : Nat) (m : Env → Res Ctl) : Env → Res Ctl := fun env => m (Mir.lw i env)
@[simp] theorem e_mLw (i : Nat) (m : Env → Res Ctl) (env : Env) : mLw i m env = m (Mir.lw i env) := rfl
end
end Mir

namespace Mir
open PySem PySem.Spec L2
open PyProof.Rows
/-! ### t[lo:hi].count(k): the slice is a new tuple of which all is known -/
section
variable {X : Cx} {o e : Expr} {to te : TE} {apos cpos : Pos}
end
def gCountT : D → D → Res D
  | .tup ds, .int k => match intsD? ds with | some ns => .ok (.int (ns.count k : Nat)) | none => .bad
  | _, _ => .bad
def mCountT (m : Env → Res D) (ml mu : Env → Res (Option Int)) (me : Env → Res D) : Env → Res D := fun env => m env >>= itemsT >>= fun ds => ml env >>= fun lo => mu env >>= fun hi => gCutT ds lo hi >>= fun t => me env >>= fun y => gCountT t y
@[simp] theorem e_mCountT (m : Env → Res D) (ml mu : Env → Res (Option Int)) (me : Env → Res D) (env : Env) : mCountT m ml mu me env = (m env >>= itemsT >>= fun ds => ml env >>= fun lo => mu env >>= fun hi => gCutT ds lo hi >>= fun t => me env >>= fun y => gCountT t y) := rfl
section
variable {X : Cx} {a e o : Expr} {m me : Env → Res D} {ml mu : Env → Res (Option Int)} {lo hi : Option Expr} {p2 pos2 apos cpos pos : Pos}
variable {κ : Str → Addr} {Z : List Nat} {W : WX} {k kr : Nat} {cs : List Nat}
end
end Mir

namespace Mir
open PySem PySem.Spec L2
/-! ### try: if c: x = f(..) else: x = g(..) -/
section
variable {X : Cx} {κ : Str → Addr} {kr : Nat} {Z : List Nat} {W : WX} {pos : Pos} {m1 m2 : Env → Res Ctl}
end
end Mir

namespace Mir
open PySem PySem.Spec L2 RT
/-! ### for x in reversed(tuple) -/
section
variable {X : Cx} {tg it : Expr} {m : Env → Res D} {p pos : Pos}
end
end Mir

namespace L2
open PySem PySem.Spec PyProof.Rows
section
variable {X : Cx} {m : Str} {p pos apos : Pos} {e o : Expr} {es : List Expr} {ta : TE}
end
end L2
namespace Mir
open PySem PySem.Spec L2
open PyProof.Rows (envOfC)
/-! ### f(..).m(..), both may raise -/
section
variable {X : Cx} {κ : Str → Addr} {W : WX} {a b o e : Expr} {es : List Expr} {m mo : Env → Res D} {ms : Env → Res (List D)} {pos p apos : Pos} {B : Bs} {H : Hp} {env : Env} {σ : St} {tm : List Hold}
def mMethO (κ : Str → Addr) (t : List (Str × (List D → Res D))) (m : Str) (kr : Nat) (mo : Env → Res D) (ms : Env → Res (List D)) : Env → Res D := fun env => mo env >>= fun o => nx (ms env) >>= fun ds => gMeth κ t m kr o ds
@[simp] theorem e_mMethO {t : List (Str × (List D → Res D))} {m : Str} {kr : Nat} : mMethO κ t m kr mo ms env = (mo env >>= fun o => nx (ms env) >>= fun ds => gMeth κ t m kr o ds) := rfl
end
end Mir

namespace Mir
open PySem PySem.Spec L2
open PyProof.Rows (get?_update_seq size_push' seqObj ksk_rest ksk_s1 ksk_l1 ksk_t1 ksk_tree ksk_fold listItems_at listUpdate_at seqEpoch_at)
/-! ### sorted(xs, key=f), f a def; the keys may be lists -/
section
variable {X : Cx} {pins : List (Addr × Obj)} {σ : St} {H : Hp} {s : Shared}
end
end Mir

namespace Mir
open PySem PySem.Spec L2
/-! ### sorted(xs, key=f): the rule -/
/-! data -/
section
variable {X : Cx} {e : Expr} {m : Env → Res D} {cs : List Nat} {pos p p2 kpos : Pos} {fx : Str} {F : List D → Res D} {j : Nat}
end
end Mir

namespace Mir
open PySem PySem.Spec L2
/-! ### dicts that hold shared things: {k: v}, d[k], list(d.values()) -/
section
variable {X : Cx} {e : Expr} {te : TE} {apos cpos : Pos}
end
/-- a slot's own dict, its values shared -/
def mVarD (j : Nat) : Env → Res D := fun env => match env[j]? with
  | some (some (1, .dk ks ds)) => .ok (.dk ks ds)
  | _ => .bad
@[simp] theorem e_mVarD {j : Nat} {env : Env} : mVarD j env = (match env[j]? with
  | some (some (1, .dk ks ds)) => .ok (.dk ks ds)
  | _ => .bad) := rfl
section
variable {X : Cx} {e o i kx vx : Expr} {m mk mv : Env → Res D} {pos p apos cpos : Pos} {j : Nat}
/-- {k: v}, v shared -/
def mDisp1 (mk mv : Env → Res D) : Env → Res D := fun env => mk env >>= fun y => mv env >>= fun d => match keyOf y with
  | some k => .ok (.dk [k] [d])
  | none => .bad
@[simp] theorem e_mDisp1 (env : Env) : mDisp1 mk mv env = (mk env >>= fun y => mv env >>= fun d => match keyOf y with
  | some k => .ok (.dk [k] [d])
  | none => .bad) := rfl
end
end Mir

namespace Mir
open PySem PySem.Spec L2
open PyProof.Rows (envOfC)
/-! ### for .. in what may raise -/
section
variable {X : Cx} {κ : Str → Addr} {kr k : Nat} {Z : List Nat} {W : WX} {m1 : Env → Res Ctl} {e tg it : Expr} {pos : Pos}
end
/-! ### a def with defaults, all parameters given or the last left out -/
structure AtD (K : PySem.W.Frag) (mg : Str → Option Value) (x : Str) (st : Stmt) (dvs : List V) : Prop where
  ex : ∃ f fd, FunD K x x (defArgs st) (defBody st) (defScope st) dvs [] f fd ∧ mg x = some (.ref f)
section
variable {P : Program} {w : World} {K : PySem.W.Frag} {mg : Str → Option Value} {base : Heap}
theorem AtD.mk' {h : Heap} {x : Str} {st : Stmt} {dvs : List V} {f : Addr} {oc dV : Value} {od an : Option Addr} {osl : Array (Option Value)} {kV doc pm cdv ct : Value} (X : K.In h) (G : h.Ns mainGlobals mg) (a : PySem.W.nsIn K mainGlobals x = some (some (.ref f)))
    (l : K.lookup f = some ⟨oc, od, .func (PySem.W.fnOf x x (defArgs st) (defBody st) (defScope st) dV kV doc pm an cdv ct), osl⟩) (c : PySem.W.codeIn K cdv x = true) (k : PySem.W.keepIn K (.ref f) = true) (hd : DflV K dV dvs) : AtD K mg x st dvs :=
  ⟨f, _, ⟨⟨oc, od, dV, kV, doc, pm, an, cdv, ct, osl, rfl, l, c, hd, .inl rfl⟩, k⟩, PySem.W.mg_of X G a⟩
end
end Mir

namespace Mir
open PySem PySem.Spec L2
/-! ### a call that may raise, its arguments shared: what it tells may be shared too -/
section
variable {X : Cx} {κ : Str → Addr} {kr n j : Nat} {W : WX} {e : Expr} {es : List Expr} {ms : Env → Res (List D)} {F : List D → Res D} {x : Str} {p pos : Pos}
def mCallX0 (F : List D → Res D) (ms : Env → Res (List D)) : Env → Res D := fun env => nx (ms env) >>= fun ds => F ds
@[simp] theorem e_mCallX0 (env : Env) : mCallX0 F ms env = (nx (ms env) >>= fun ds => F ds) := rfl
end
end Mir

namespace Mir
open PySem PySem.Spec L2
open PyProof.Rows (envOfC)
/-! ### a def that changes its last argument and tells something -/
structure Ret2 (kr k0 : Nat) (G H H' : Hp) (v : V) (d : D) (v0 : V) (d1 : D) : Prop where
  ex : ∃ (G' : Hp) (fp : List Addr), Good ⟨H, G⟩ G' H' ∧ HoldAll G' H' [(v, kr, d), (v0, k0, d1)] fp ∧ fp.Nodup ∧ ∀ p ∈ fp, H p = none ∧ G' p = none
def spML (k0 kr n : Nat) (F : List D → D → Res (D × D)) : Sp := fun vs H Q _ => vs.length = n + 1 ∧ ∃ (G : Hp) (v0 : V) (vs' : List V) (d0 : D) (ds' : List D) (f : List Addr) (d d1 : D), vs = vs' ++ [v0] ∧ ds'.length = n ∧ Good ⟨wo H f, G⟩ G H ∧ Od G H k0 f v0 d0 ∧ f.Nodup ∧ (∀ p ∈ f, G p = none) ∧ RpAll G vs' ds' ∧ F ds' d0 = .ok (d, d1) ∧
  ∀ v H', Ret2 kr k0 G (wo H f) H' v d v0 d1 → Q v H'
section
variable {X : Cx} {κ : Str → Addr} {kr k : Nat} {Z : List Nat} {W : WX} {st : Stmt} {ss : List Stmt} {m1 : Env → Res Ctl} {m2 : Env → Res (Env × D)} {me : Env → Res D} {e : Expr} {cs : List Nat} {pos : Pos}
end
section
variable {P : Program} {w : World} {K : PySem.W.Frag} {mg : Str → Option Value} {base : Heap}
end
structure CalL (P : Program) (w : World) (K : PySem.W.Frag) (mg : Str → Option Value) (base : Heap) (x : Str) (j n k0 kr : Nat) (F : List D → D → Res (D × D)) : Prop where
  ex : ∃ f fd ps, mg x = some (.ref f) ∧ PySem.W.keepIn K (.ref f) = true ∧ Binds K fd ps [] ∧ FnOk P w K mg base CX0 j f fd ps (spML k0 kr n F)
section
variable {X : Cx} {kr k0 jl : Nat} {e1 e2 o od : Expr} {ma mb : Env → Res D} {pos cpos apos p0 cp2 : Pos} {Fc : List D → D → Res (D × D)} {x : Str}
end
end Mir

namespace Mir
open PySem PySem.Spec L2
/-! ### exceptions as values: C(e), C(e1, e2) -/
theorem exH_ok {P : Program} {w : World} {H : Hp} {h : Heap} {a : Addr} {cls : Value} {d : Option Addr} {oe : Obj} {vs : Array Value} (e : h.get? a = some oe) (z : Zc cls d oe) (dd : oe.data = .fields vs) : ObjOk P w H h a (ExH cls d a) :=
  ⟨⟨oe, vs, e, z, dd⟩, ⟨oe, e⟩, fun _ _ ⟨o, v, q, r⟩ k => ⟨o, v, k o q, r⟩⟩
theorem pe_mk {X : Cx} {e : Expr} {t : St → Hp → XK → Prop} (he : PMk X e t) : PE X e (fun σ H Q => t σ H fun cls d H' => ∀ a, H' a = none → Q (.ref a) (upd H' a (ExH cls d a))) := by
  refine ⟨fun pins s σ H Q I h => ?_⟩
  refine wpAny_mono (he pins s σ H _ I h) (fun u s1 hu => ?_) fun _ _ x => x
  obtain ⟨a, oe, vs, sI, H', cls, d, rfl, J, k, hn, ho, hz, hd, h1, na, os, ag, r, q⟩ := hu
  have new : ObjOk X.prog X.w (upd H' a (ExH cls d a)) s1.heap a (ExH cls d a) := exH_ok ho hz hd
  exact ⟨.ref a, upd H' a (ExH cls d a), J.call' (ch := []) os (Un.laidN k hn na) (J.hok.laidN k na new) ag (fun b hb => (nomatch hb)), rfl, q a na⟩
section
variable {X : Cx} {κ : Str → Addr} {kr : Nat} {e : Expr} {es : List Expr} {me : Env → Res D} {ms : Env → Res (List D)} {pos p pos' : Pos}
def mExc1 (κ : Str → Addr) (c : Str) (me : Env → Res D) : Env → Res D := fun env => me env >>= fun _ => .ok (.exn c (κ c) [] [])
@[simp] theorem e_mExc1 (c : Str) (env : Env) : mExc1 κ c me env = (me env >>= fun _ => .ok (.exn c (κ c) [] [])) := rfl
theorem se_exc1 {x : Str} (M : XMk X.K X.mg κ x) (hg : Gl X x) (ha : SB X e me) (hs : starEach [e] X.env = (false, eval e X.env) :: starEach [] X.env := by rfl) (hdb : (x == ("__debug__" : Str)) = false := by decide) :
    SE X 0 [] (.Call (.Name x p) [e] [] pos) (mExc1 κ x me) := fun B H env σ tm d Q ok hm q => by
  obtain ⟨z, hz, h2⟩ := bind_ok hm
  cases h2
  have I := xisB_ok M.cl.is
  refine wE_of (pe_mk (SkE.pmk_own1 (C := κ x) F.excBase_ValueError M.mkx M.cl.g I.kp (raises_own I.sub I.ty) hg pe_sem hs hdb)) (ha B H env σ tm z _ ok hz fun v H1 x1 ok1 r a hna => ?_)
  exact q (.ref a) _ (x1.trans (Ext.upd hna)) (ok1.addExn hna (.inl ⟨rfl, rfl, rfl⟩))
def mExcF (κ : Str → Addr) (c : Str) (ns : List Str) (ms : Env → Res (List D)) : Env → Res D := fun env => ms env >>= fun ds => if immAll ds = true ∧ ds.length = ns.length then .ok (.exn c (κ c) ns.reverse ds.reverse) else .bad
@[simp] theorem e_mExcF (c : Str) (ns : List Str) (env : Env) : mExcF κ c ns ms env = (ms env >>= fun ds => if immAll ds = true ∧ ds.length = ns.length then .ok (.exn c (κ c) ns.reverse ds.reverse) else .bad) := rfl
theorem se_excF {x : Str} {ns : List Str} {j : Nat} (C : MkX X.prog X.w X.K X.mg X.base (κ x) j ns) (T : OexC X.K (κ x)) (Y : XCl X.K X.mg κ x) (hr : Room (j + 1) X.A) (hg : Gl X x)
    (ha : SAB X (e :: es) ms) (hn : ns.length ≤ 1000 := by decide) (hdb : (x == ("__debug__" : Str)) = false := by decide) (he : starEach (e :: es) X.env = (false, eval e X.env) :: starEach es X.env := by rfl) (hpl : (backTo pos' (starEach es X.env)).any (·.1) = false := by rfl) :
    SE X 0 [] (.Call (.Name x p) (e :: es) [] pos') (mExcF κ x ns ms) := fun B H env σ tm d Q ok hm q => by
  obtain ⟨f, fd, ps, iC, tI, hb, Fo⟩ := C.ex
  obtain ⟨ds, hds, h2⟩ := bind_ok hm
  split at h2
  · rename_i hi
    obtain ⟨him, hl⟩ := hi
    cases h2
    refine wE_of (pe_mk (pmk_oex T iC tI Fo hr hb .nil pass0 hg Y.g pa_sem hdb he hpl)) (ha B H env σ tm ds _ ok hds fun vs H1 x1 ok1 ra => ?_)
    have hvl : vs.length = ns.length := by rw [ra.length]; exact hl
    refine ⟨by omega, fun a hna => ?_⟩
    obtain ⟨z1, z2⟩ := zip_both hvl
    refine ⟨by simp [hvl], a, vs, by rw [List.append_nil], upd_same, fun dx hdx hne => ⟨rfl, dx, (ns.zip vs).reverse, upd_same, by rw [upd_ne hne, upd_same], ?_, fun a' hna' => ?_⟩⟩
    · rw [upd_ne hne] at hdx; exact hdx
    · rw [upd_ne hne] at hdx
      have e1 : upd (L2.del (upd (upd (upd H1 a (exo a (κ x) none)) dx (exd dx (ns.zip vs).reverse)) a (exo a (κ x) (some dx))) a) dx (.xd (ns.zip vs).reverse) = upd H1 dx (.xd (ns.zip vs).reverse) := by
        funext b
        by_cases hb : b = dx
        · subst hb; rw [upd_same, upd_same]
        · rw [upd_ne hb, upd_ne hb]
          by_cases hba : b = a
          · subst hba; rw [L2.del_same, hna]
          · rw [L2.del_ne hba, upd_ne hba, upd_ne hb, upd_ne hba]
      rw [e1] at hna' ⊢
      have x2 : Ext H1 (upd H1 dx (.xd (ns.zip vs).reverse)) := Ext.upd hdx
      have ok2 := ok1.newAny (o := .xd (ns.zip vs).reverse) hdx rfl
      refine q (.ref a') _ ((x1.trans x2).trans (Ext.upd hna')) (ok2.addExn hna' (.inr ⟨dx, (ns.zip vs).reverse, rfl, ok1.bnone dx hdx, upd_same, ?_, ?_, immAll_rev him⟩))
      · rw [List.map_reverse, z1]
      · rw [List.map_reverse, z2]
        exact (x2.rpAll ra).rev
  · cases h2
end
end Mir

namespace L2
open PySem PySem.Spec PyProof.Rows
/-! ### several except clauses, each keeping its exception under one name -/
inductive HdN (X : Cx) (n : Str) : List ExceptHandler → List (Value × (Addr → TS)) → Prop
  | nil : HdN X n [] []
  | cons {x : Str} {c : Value} {ts : Addr → TS} {b₀ : Stmt} {suite : List Stmt} {np pos' : Pos} {hds : List ExceptHandler} {l : List (Value × (Addr → TS))} (hc : Names X x c)
      (hsu : ∀ (a : Addr) (pn : List (Addr × Obj)), PSs (X.suite a pn) (b₀ :: suite) (ts a)) (r : HdN X n hds l) :
      HdN X n (.ExceptHandler (some (.Name x np)) (some n) (b₀ :: suite) pos' :: hds) ((c, ts) :: l)
section
variable {X : Cx} {n : Str} {i : Nat} {body : List Stmt} {h₀ : ExceptHandler} {hds : List ExceptHandler} {l : List (Value × (Addr → TS))} {pos : Pos} {tb : WX → TS} {Wout : WX}
end
end L2
namespace Mir
open PySem PySem.Spec L2
section
variable {X : Cx} {κ : Str → Addr} {kr k : Nat} {Z : List Nat} {x y n : Str} {c c2 : Value} {i : Nat} {body suite suite2 : List Stmt} {b₀ b₂ : Stmt} {np pos pos' np2 pos2 cpos apos : Pos} {Wout W : WX} {mb ms ms2 : Env → Res Ctl} {tab tab2 : Str → Option Bool} {o e : Expr} {m : Env → Res D}
end
end Mir
namespace L_k06
open PySem PySem.Spec L2 Mir
/-- _law_word:0, _law_place:1, _law_line:2, _law_at:3, _law_text:4, _law_found:5 -/
def m__law_errors (κ : Str → Addr) : Mir.Env → Res Ctl :=
  (mSeq (mSet 5 1 [] (mLst (mConsE (mExcF κ "NoDrawing" ["word", "place"] (mConsA (mVar 0) (mConsA (mVar 1) mNilA))) [] (mConsE (mExcF κ "NoText" ["line", "at"] (mConsA (mVar 2) (mConsA (mVar 3) mNilA))) [] (mConsE (mExc1 κ "NoName" (mVar 4)) [] (mConsE (mExc1 κ "NameTaken" (mVar 4)) [] (mConsE (mExc1 κ "NoSpot" (mVar 4)) [] mNilA))))))) (mSeq (mExtend 5 0 (fun env => (mLst (mConsE (mExc1 κ "TooMany" (mVar 4)) [] (mConsE (mExc1 κ "NoFit" (mVar 4)) [] (mConsE (mExc1 κ "NoMove" (mVar 4)) [] (mConsE (mExc1 κ "NoPrime" (mVar 4)) [] (mConsE (mExc1 κ "NoString" (mVar 4)) [] mNilA)))))) env >>= itemsL)) (mSeq (mExtend 5 0 (fun env => (mLst (mConsE (mExc1 κ "NoBraid" (mVar 4)) [] (mConsE (mExc1 κ "NoLength" (mVar 4)) [] (mConsE (mExc1 κ "NoMark" (mVar 4)) [] (mConsE (mExc1 κ "NoWord" (mVar 4)) [] (mConsE (mExc1 κ "NothingDone" (mVar 4)) [] mNilA)))))) env >>= itemsL)) (mRet (mVarK 5 1)))))
def F__law_errors (κ : Str → Addr) : List D → Res D := runD 6 (m__law_errors κ)
/-- _law_script:0, _law_k:1 -/
def m__law_cell : Mir.Env → Res Ctl :=
  (mSeq (mIf (mTb (mOp gLt (mVar 1) (mUn gLen (mVar 0)))) (mRet (mImm (mOp gIx (mVar 0) (mVar 1)))) mSkip) (mRet (mC (.int 0))))
def F__law_cell : List D → Res D := runD 2 m__law_cell
/-- _law_error:0, _law_found:1 -/
def m__law_classes (κ : Str → Addr) : Mir.Env → Res Ctl :=
  (mSeq (mSet 1 1 [] (mLst (mConsE (mIsO κ (tb [("KnotError", false), ("NameTaken", false), ("NoBraid", false), ("NoDrawing", true), ("NoFit", false), ("NoLength", false), ("NoMark", false), ("NoMove", false), ("NoName", false), ("NoPrime", false), ("NoSpot", false), ("NoString", false), ("NoText", false), ("NoWord", false), ("NothingDone", false), ("TooMany", false)]) (mVar 0)) [] (mConsE (mIsO κ (tb [("KnotError", false), ("NameTaken", false), ("NoBraid", false), ("NoDrawing", false), ("NoFit", false), ("NoLength", false), ("NoMark", false), ("NoMove", false), ("NoName", false), ("NoPrime", false), ("NoSpot", false), ("NoString", false), ("NoText", true), ("NoWord", false), ("NothingDone", false), ("TooMany", false)]) (mVar 0)) [] (mConsE (mIsO κ (tb [("KnotError", false), ("NameTaken", false), ("NoBraid", false), ("NoDrawing", false), ("NoFit", false), ("NoLength", false), ("NoMark", false), ("NoMove", false), ("NoName", true), ("NoPrime", false), ("NoSpot", false), ("NoString", false), ("NoText", false), ("NoWord", false), ("NothingDone", false), ("TooMany", false)]) (mVar 0)) [] mNilA))))) (mSeq (mExtend 1 0 (fun env => (mLst (mConsA (mIsO κ (tb [("KnotError", false), ("NameTaken", true), ("NoBraid", false), ("NoDrawing", false), ("NoFit", false), ("NoLength", false), ("NoMark", false), ("NoMove", false), ("NoName", false), ("NoPrime", false), ("NoSpot", false), ("NoString", false), ("NoText", false), ("NoWord", false), ("NothingDone", false), ("TooMany", false)]) (mVar 0)) (mConsA (mIsO κ (tb [("KnotError", false), ("NameTaken", false), ("NoBraid", false), ("NoDrawing", false), ("NoFit", false), ("NoLength", false), ("NoMark", false), ("NoMove", false), ("NoName", false), ("NoPrime", false), ("NoSpot", true), ("NoString", false), ("NoText", false), ("NoWord", false), ("NothingDone", false), ("TooMany", false)]) (mVar 0)) (mConsA (mIsO κ (tb [("KnotError", false), ("NameTaken", false), ("NoBraid", false), ("NoDrawing", false), ("NoFit", false), ("NoLength", false), ("NoMark", false), ("NoMove", false), ("NoName", false), ("NoPrime", false), ("NoSpot", false), ("NoString", false), ("NoText", false), ("NoWord", false), ("NothingDone", false), ("TooMany", true)]) (mVar 0)) mNilA)))) env >>= fun d => itemsL d >>= immL)) (mSeq (mExtend 1 0 (fun env => (mLst (mConsA (mIsO κ (tb [("KnotError", false), ("NameTaken", false), ("NoBraid", false), ("NoDrawing", false), ("NoFit", true), ("NoLength", false), ("NoMark", false), ("NoMove", false), ("NoName", false), ("NoPrime", false), ("NoSpot", false), ("NoString", false), ("NoText", false), ("NoWord", false), ("NothingDone", false), ("TooMany", false)]) (mVar 0)) (mConsA (mIsO κ (tb [("KnotError", false), ("NameTaken", false), ("NoBraid", false), ("NoDrawing", false), ("NoFit", false), ("NoLength", false), ("NoMark", false), ("NoMove", true), ("NoName", false), ("NoPrime", false), ("NoSpot", false), ("NoString", false), ("NoText", false), ("NoWord", false), ("NothingDone", false), ("TooMany", false)]) (mVar 0)) (mConsA (mIsO κ (tb [("KnotError", false), ("NameTaken", false), ("NoBraid", false), ("NoDrawing", false), ("NoFit", false), ("NoLength", false), ("NoMark", false), ("NoMove", false), ("NoName", false), ("NoPrime", true), ("NoSpot", false), ("NoString", false), ("NoText", false), ("NoWord", false), ("NothingDone", false), ("TooMany", false)]) (mVar 0)) mNilA)))) env >>= fun d => itemsL d >>= immL)) (mSeq (mExtend 1 0 (fun env => (mLst (mConsA (mIsO κ (tb [("KnotError", false), ("NameTaken", false), ("NoBraid", false), ("NoDrawing", false), ("NoFit", false), ("NoLength", false), ("NoMark", false), ("NoMove", false), ("NoName", false), ("NoPrime", false), ("NoSpot", false), ("NoString", true), ("NoText", false), ("NoWord", false), ("NothingDone", false), ("TooMany", false)]) (mVar 0)) (mConsA (mIsO κ (tb [("KnotError", false), ("NameTaken", false), ("NoBraid", true), ("NoDrawing", false), ("NoFit", false), ("NoLength", false), ("NoMark", false), ("NoMove", false), ("NoName", false), ("NoPrime", false), ("NoSpot", false), ("NoString", false), ("NoText", false), ("NoWord", false), ("NothingDone", false), ("TooMany", false)]) (mVar 0)) (mConsA (mIsO κ (tb [("KnotError", false), ("NameTaken", false), ("NoBraid", false), ("NoDrawing", false), ("NoFit", false), ("NoLength", true), ("NoMark", false), ("NoMove", false), ("NoName", false), ("NoPrime", false), ("NoSpot", false), ("NoString", false), ("NoText", false), ("NoWord", false), ("NothingDone", false), ("TooMany", false)]) (mVar 0)) mNilA)))) env >>= fun d => itemsL d >>= immL)) (mSeq (mExtend 1 0 (fun env => (mLst (mConsA (mIsO κ (tb [("KnotError", false), ("NameTaken", false), ("NoBraid", false), ("NoDrawing", false), ("NoFit", false), ("NoLength", false), ("NoMark", true), ("NoMove", false), ("NoName", false), ("NoPrime", false), ("NoSpot", false), ("NoString", false), ("NoText", false), ("NoWord", false), ("NothingDone", false), ("TooMany", false)]) (mVar 0)) (mConsA (mIsO κ (tb [("KnotError", false), ("NameTaken", false), ("NoBraid", false), ("NoDrawing", false), ("NoFit", false), ("NoLength", false), ("NoMark", false), ("NoMove", false), ("NoName", false), ("NoPrime", false), ("NoSpot", false), ("NoString", false), ("NoText", false), ("NoWord", true), ("NothingDone", false), ("TooMany", false)]) (mVar 0)) (mConsA (mIsO κ (tb [("KnotError", false), ("NameTaken", false), ("NoBraid", false), ("NoDrawing", false), ("NoFit", false), ("NoLength", false), ("NoMark", false), ("NoMove", false), ("NoName", false), ("NoPrime", false), ("NoSpot", false), ("NoString", false), ("NoText", false), ("NoWord", false), ("NothingDone", true), ("TooMany", false)]) (mVar 0)) mNilA)))) env >>= fun d => itemsL d >>= immL)) (mRet (mVarK 1 1)))))))
def F__law_classes (κ : Str → Addr) : List D → Res D := runD 2 (m__law_classes κ)
/-- _law_found:0 -/
def m__law_whole : Mir.Env → Res Ctl :=
  (mRet (mAndV (mIsi .int (mVar 0)) (mNotV (mIsi .bool (mVar 0)))))
def F__law_whole : List D → Res D := runD 1 m__law_whole
/-- _law_script:0, _law_words:1, _law_word:2, _law_place:3, _law_line:4, _law_at:5, _law_errors_here:6, _law_k:7, _law_base:8, _law_j:9 -/
def m_law (κ : Str → Addr) : Mir.Env → Res Ctl :=
  (mSeq (mSet 1 1 [] (mLst (mConsE (mC (.str "strings")) [] (mConsE (mC (.str "name")) [] (mConsE (mC (.str "way")) [] (mConsE (mC (.str "hand")) [] (mConsE (mC (.str "twice")) [] (mConsE (mC (.str "lone")) [] (mConsE (mC (.str "hands")) [] (mConsE (mC (.str "many")) [] mNilA)))))))))) (mSeq (mSet 2 0 [] (mImm (mOp gIx (mVar 1) (mOp gMod (mCall 0 F__law_cell (mConsA (mVar 0) (mConsA (mC (.int 0)) mNilA))) (mC (.int 8)))))) (mSeq (mSet 3 0 [] (mOp gMod (mCall 0 F__law_cell (mConsA (mVar 0) (mConsA (mC (.int 1)) mNilA))) (mOp gAdd (mOp gPow (mC (.int 10)) (mC (.int 6))) (mC (.int 1))))) (mSeq (mSet 4 0 [] (mOp gMod (mCall 0 F__law_cell (mConsA (mVar 0) (mConsA (mC (.int 2)) mNilA))) (mOp gAdd (mOp gPow (mC (.int 10)) (mC (.int 6))) (mC (.int 1))))) (mSeq (mSet 5 0 [] (mOp gMod (mCall 0 F__law_cell (mConsA (mVar 0) (mConsA (mC (.int 3)) mNilA))) (mOp gAdd (mOp gPow (mC (.int 10)) (mC (.int 6))) (mC (.int 1))))) (mSeq (mSet 6 1 [] (mCall0 (F__law_errors κ) (mConsE (mImm (mVar 2)) [] (mConsE (mImm (mVar 3)) [] (mConsE (mImm (mVar 4)) [] (mConsE (mImm (mVar 5)) [] (mConsE (fun env => (mVar 2) env >>= fun z => (fun env => (mOp gMod (mCall 0 F__law_cell (mConsA (mVar 0) (mConsA (mC (.int 4)) mNilA))) (mC (.int 4))) env >>= toI >>= fun i => .ok (some i)) env >>= fun lo => (fun _ => .ok none) env >>= fun hi => gCutS z lo hi) [] mNilA))))))) (mSeq (mFor (fun env => (mC (.int 15)) env >>= gRng1) (tName 7) (mSeq (mIf (mOrB (mNotB (mTb (mIsO κ (tb [("KnotError", true), ("NameTaken", true), ("NoBraid", true), ("NoDrawing", true), ("NoFit", true), ("NoLength", true), ("NoMark", true), ("NoMove", true), ("NoName", true), ("NoPrime", true), ("NoSpot", true), ("NoString", true), ("NoText", true), ("NoWord", true), ("NothingDone", true), ("TooMany", true)]) (mOp gIx (mVar 6) (mVar 7))))) (mNotB (mTb (mIsO κ (tb [("KnotError", true), ("NameTaken", true), ("NoBraid", true), ("NoDrawing", true), ("NoFit", true), ("NoLength", true), ("NoMark", true), ("NoMove", true), ("NoName", true), ("NoPrime", true), ("NoSpot", true), ("NoString", true), ("NoText", true), ("NoWord", true), ("NothingDone", true), ("TooMany", true)]) (mOp gIx (mVar 6) (mVar 7)))))) (mRet (mC (.bl false))) mSkip) (mIf (mTb (mOp gNe (mCall 1 (F__law_classes κ) (mConsA (mOp gIx (mVar 6) (mVar 7)) mNilA)) (mLc (fun env => (mC (.int 15)) env >>= gRng1) (tName 9) (fun _ => .ok true) (mOp gEq (mVar 7) (mVar 9)) [9]))) (mRet (mC (.bl false))) mSkip)) [7, 9]) (mSeq (mIf (mOrB (mTb (mOp gNe (mXf κ "NoDrawing" "word" (mOp gIx (mVar 6) (mC (.int 0)))) (mVar 2))) (mOrB (mTb (mOp gNe (mXf κ "NoDrawing" "place" (mOp gIx (mVar 6) (mC (.int 0)))) (mVar 3))) (mNotB (mTb (mCall 0 F__law_whole (mConsA (mXf κ "NoDrawing" "place" (mOp gIx (mVar 6) (mC (.int 0)))) mNilA)))))) (mRet (mC (.bl false))) mSkip) (mSeq (mIf (mOrB (mTb (mOp gNe (mXf κ "NoText" "line" (mOp gIx (mVar 6) (mC (.int 1)))) (mVar 4))) (mOrB (mTb (mOp gNe (mXf κ "NoText" "at" (mOp gIx (mVar 6) (mC (.int 1)))) (mVar 5))) (mNotB (mTb (mCall 0 F__law_whole (mConsA (mXf κ "NoText" "line" (mOp gIx (mVar 6) (mC (.int 1)))) mNilA)))))) (mRet (mC (.bl false))) mSkip) (mSeq (mSet 8 0 [] (mExc1 κ "KnotError" (mVar 2))) (mRet (mAndV (mIsO κ (tb [("KnotError", true), ("NameTaken", true), ("NoBraid", true), ("NoDrawing", true), ("NoFit", true), ("NoLength", true), ("NoMark", true), ("NoMove", true), ("NoName", true), ("NoPrime", true), ("NoSpot", true), ("NoString", true), ("NoText", true), ("NoWord", true), ("NothingDone", true), ("TooMany", true)]) (mVar 8)) (mOp gEq (mCall 1 (F__law_classes κ) (mConsA (mVar 8) mNilA)) (mLc (fun env => (mC (.int 15)) env >>= gRng1) (tName 7) (fun _ => .ok true) (mC (.bl false)) [7]))))))))))))))
def F_law (κ : Str → Addr) : List D → Res D := runD 10 (m_law κ)
theorem cell_z (ns : List Int) (k : Nat) : F__law_cell [.lst (ns.map D.int), .int k] = .ok (.int (ns.getD k 0)) := by
  simp [F__law_cell, m__law_cell, runD, gIx]
  by_cases h : k < ns.length
  · simp [h, atI, ixN]
  · simp [h]
/-! ### law k06: which classes a refusal is of (printed by gen_k06.py) -/
section
variable (κ : Str → Addr)
theorem clz_NoDrawing (ns : List Str) (ds : List D) : F__law_classes κ [.exn "NoDrawing" (κ "NoDrawing") ns ds] = .ok (.lst [.bl true, .bl false, .bl false, .bl false, .bl false, .bl false, .bl false, .bl false, .bl false, .bl false, .bl false, .bl false, .bl false, .bl false, .bl false]) := by
  have h0 : tb [("KnotError", false), ("NameTaken", false), ("NoBraid", false), ("NoDrawing", true), ("NoFit", false), ("NoLength", false), ("NoMark", false), ("NoMove", false), ("NoName", false), ("NoPrime", false), ("NoSpot", false), ("NoString", false), ("NoText", false), ("NoWord", false), ("NothingDone", false), ("TooMany", false)] "NoDrawing" = some true := by decide
  have h1 : tb [("KnotError", false), ("NameTaken", false), ("NoBraid", false), ("NoDrawing", false), ("NoFit", false), ("NoLength", false), ("NoMark", false), ("NoMove", false), ("NoName", false), ("NoPrime", false), ("NoSpot", false), ("NoString", false), ("NoText", true), ("NoWord", false), ("NothingDone", false), ("TooMany", false)] "NoDrawing" = some false := by decide
  have h2 : tb [("KnotError", false), ("NameTaken", false), ("NoBraid", false), ("NoDrawing", false), ("NoFit", false), ("NoLength", false), ("NoMark", false), ("NoMove", false), ("NoName", true), ("NoPrime", false), ("NoSpot", false), ("NoString", false), ("NoText", false), ("NoWord", false), ("NothingDone", false), ("TooMany", false)] "NoDrawing" = some false := by decide
  have h3 : tb [("KnotError", false), ("NameTaken", true), ("NoBraid", false), ("NoDrawing", false), ("NoFit", false), ("NoLength", false), ("NoMark", false), ("NoMove", false), ("NoName", false), ("NoPrime", false), ("NoSpot", false), ("NoString", false), ("NoText", false), ("NoWord", false), ("NothingDone", false), ("TooMany", false)] "NoDrawing" = some false := by decide
  have h4 : tb [("KnotError", false), ("NameTaken", false), ("NoBraid", false), ("NoDrawing", false), ("NoFit", false), ("NoLength", false), ("NoMark", false), ("NoMove", false), ("NoName", false), ("NoPrime", false), ("NoSpot", true), ("NoString", false), ("NoText", false), ("NoWord", false), ("NothingDone", false), ("TooMany", false)] "NoDrawing" = some false := by decide
  have h5 : tb [("KnotError", false), ("NameTaken", false), ("NoBraid", false), ("NoDrawing", false), ("NoFit", false), ("NoLength", false), ("NoMark", false), ("NoMove", false), ("NoName", false), ("NoPrime", false), ("NoSpot", false), ("NoString", false), ("NoText", false), ("NoWord", false), ("NothingDone", false), ("TooMany", true)] "NoDrawing" = some false := by decide
  have h6 : tb [("KnotError", false), ("NameTaken", false), ("NoBraid", false), ("NoDrawing", false), ("NoFit", true), ("NoLength", false), ("NoMark", false), ("NoMove", false), ("NoName", false), ("NoPrime", false), ("NoSpot", false), ("NoString", false), ("NoText", false), ("NoWord", false), ("NothingDone", false), ("TooMany", false)] "NoDrawing" = some false := by decide
  have h7 : tb [("KnotError", false), ("NameTaken", false), ("NoBraid", false), ("NoDrawing", false), ("NoFit", false), ("NoLength", false), ("NoMark", false), ("NoMove", true), ("NoName", false), ("NoPrime", false), ("NoSpot", false), ("NoString", false), ("NoText", false), ("NoWord", false), ("NothingDone", false), ("TooMany", false)] "NoDrawing" = some false := by decide
  have h8 : tb [("KnotError", false), ("NameTaken", false), ("NoBraid", false), ("NoDrawing", false), ("NoFit", false), ("NoLength", false), ("NoMark", false), ("NoMove", false), ("NoName", false), ("NoPrime", true), ("NoSpot", false), ("NoString", false), ("NoText", false), ("NoWord", false), ("NothingDone", false), ("TooMany", false)] "NoDrawing" = some false := by decide
  have h9 : tb [("KnotError", false), ("NameTaken", false), ("NoBraid", false), ("NoDrawing", false), ("NoFit", false), ("NoLength", false), ("NoMark", false), ("NoMove", false), ("NoName", false), ("NoPrime", false), ("NoSpot", false), ("NoString", true), ("NoText", false), ("NoWord", false), ("NothingDone", false), ("TooMany", false)] "NoDrawing" = some false := by decide
  have h10 : tb [("KnotError", false), ("NameTaken", false), ("NoBraid", true), ("NoDrawing", false), ("NoFit", false), ("NoLength", false), ("NoMark", false), ("NoMove", false), ("NoName", false), ("NoPrime", false), ("NoSpot", false), ("NoString", false), ("NoText", false), ("NoWord", false), ("NothingDone", false), ("TooMany", false)] "NoDrawing" = some false := by decide
  have h11 : tb [("KnotError", false), ("NameTaken", false), ("NoBraid", false), ("NoDrawing", false), ("NoFit", false), ("NoLength", true), ("NoMark", false), ("NoMove", false), ("NoName", false), ("NoPrime", false), ("NoSpot", false), ("NoString", false), ("NoText", false), ("NoWord", false), ("NothingDone", false), ("TooMany", false)] "NoDrawing" = some false := by decide
  have h12 : tb [("KnotError", false), ("NameTaken", false), ("NoBraid", false), ("NoDrawing", false), ("NoFit", false), ("NoLength", false), ("NoMark", true), ("NoMove", false), ("NoName", false), ("NoPrime", false), ("NoSpot", false), ("NoString", false), ("NoText", false), ("NoWord", false), ("NothingDone", false), ("TooMany", false)] "NoDrawing" = some false := by decide
  have h13 : tb [("KnotError", false), ("NameTaken", false), ("NoBraid", false), ("NoDrawing", false), ("NoFit", false), ("NoLength", false), ("NoMark", false), ("NoMove", false), ("NoName", false), ("NoPrime", false), ("NoSpot", false), ("NoString", false), ("NoText", false), ("NoWord", true), ("NothingDone", false), ("TooMany", false)] "NoDrawing" = some false := by decide
  have h14 : tb [("KnotError", false), ("NameTaken", false), ("NoBraid", false), ("NoDrawing", false), ("NoFit", false), ("NoLength", false), ("NoMark", false), ("NoMove", false), ("NoName", false), ("NoPrime", false), ("NoSpot", false), ("NoString", false), ("NoText", false), ("NoWord", false), ("NothingDone", true), ("TooMany", false)] "NoDrawing" = some false := by decide
  have z1 : (1 : Nat) ≤ sizeLine := by decide
  have z3 : (3 : Nat) ≤ sizeLine := by decide
  have z6 : (6 : Nat) ≤ sizeLine := by decide
  have z9 : (9 : Nat) ≤ sizeLine := by decide
  have z12 : (12 : Nat) ≤ sizeLine := by decide
  have z15 : (15 : Nat) ≤ sizeLine := by decide
  refine Tells.eq ?_
  simp only [F__law_classes, m__law_classes, runD]
  refine Tells.eqI ?_
  simp -implicitDefEqProofs [h0, h1, h2, h3, h4, h5, h6, h7, h8, h9, h10, h11, h12, h13, h14, immL, z3, z6, z9, z12, z15]
theorem clz_NoText (ns : List Str) (ds : List D) : F__law_classes κ [.exn "NoText" (κ "NoText") ns ds] = .ok (.lst [.bl false, .bl true, .bl false, .bl false, .bl false, .bl false, .bl false, .bl false, .bl false, .bl false, .bl false, .bl false, .bl false, .bl false, .bl false]) := by
  have h0 : tb [("KnotError", false), ("NameTaken", false), ("NoBraid", false), ("NoDrawing", true), ("NoFit", false), ("NoLength", false), ("NoMark", false), ("NoMove", false), ("NoName", false), ("NoPrime", false), ("NoSpot", false), ("NoString", false), ("NoText", false), ("NoWord", false), ("NothingDone", false), ("TooMany", false)] "NoText" = some false := by decide
  have h1 : tb [("KnotError", false), ("NameTaken", false), ("NoBraid", false), ("NoDrawing", false), ("NoFit", false), ("NoLength", false), ("NoMark", false), ("NoMove", false), ("NoName", false), ("NoPrime", false), ("NoSpot", false), ("NoString", false), ("NoText", true), ("NoWord", false), ("NothingDone", false), ("TooMany", false)] "NoText" = some true := by decide
  have h2 : tb [("KnotError", false), ("NameTaken", false), ("NoBraid", false), ("NoDrawing", false), ("NoFit", false), ("NoLength", false), ("NoMark", false), ("NoMove", false), ("NoName", true), ("NoPrime", false), ("NoSpot", false), ("NoString", false), ("NoText", false), ("NoWord", false), ("NothingDone", false), ("TooMany", false)] "NoText" = some false := by decide
  have h3 : tb [("KnotError", false), ("NameTaken", true), ("NoBraid", false), ("NoDrawing", false), ("NoFit", false), ("NoLength", false), ("NoMark", false), ("NoMove", false), ("NoName", false), ("NoPrime", false), ("NoSpot", false), ("NoString", false), ("NoText", false), ("NoWord", false), ("NothingDone", false), ("TooMany", false)] "NoText" = some false := by decide
  have h4 : tb [("KnotError", false), ("NameTaken", false), ("NoBraid", false), ("NoDrawing", false), ("NoFit", false), ("NoLength", false), ("NoMark", false), ("NoMove", false), ("NoName", false), ("NoPrime", false), ("NoSpot", true), ("NoString", false), ("NoText", false), ("NoWord", false), ("NothingDone", false), ("TooMany", false)] "NoText" = some false := by decide
  have h5 : tb [("KnotError", false), ("NameTaken", false), ("NoBraid", false), ("NoDrawing", false), ("NoFit", false), ("NoLength", false), ("NoMark", false), ("NoMove", false), ("NoName", false), ("NoPrime", false), ("NoSpot", false), ("NoString", false), ("NoText", false), ("NoWord", false), ("NothingDone", false), ("TooMany", true)] "NoText" = some false := by decide
  have h6 : tb [("KnotError", false), ("NameTaken", false), ("NoBraid", false), ("NoDrawing", false), ("NoFit", true), ("NoLength", false), ("NoMark", false), ("NoMove", false), ("NoName", false), ("NoPrime", false), ("NoSpot", false), ("NoString", false), ("NoText", false), ("NoWord", false), ("NothingDone", false), ("TooMany", false)] "NoText" = some false := by decide
  have h7 : tb [("KnotError", false), ("NameTaken", false), ("NoBraid", false), ("NoDrawing", false), ("NoFit", false), ("NoLength", false), ("NoMark", false), ("NoMove", true), ("NoName", false), ("NoPrime", false), ("NoSpot", false), ("NoString", false), ("NoText", false), ("NoWord", false), ("NothingDone", false), ("TooMany", false)] "NoText" = some false := by decide
  have h8 : tb [("KnotError", false), ("NameTaken", false), ("NoBraid", false), ("NoDrawing", false), ("NoFit", false), ("NoLength", false), ("NoMark", false), ("NoMove", false), ("NoName", false), ("NoPrime", true), ("NoSpot", false), ("NoString", false), ("NoText", false), ("NoWord", false), ("NothingDone", false), ("TooMany", false)] "NoText" = some false := by decide
  have h9 : tb [("KnotError", false), ("NameTaken", false), ("NoBraid", false), ("NoDrawing", false), ("NoFit", false), ("NoLength", false), ("NoMark", false), ("NoMove", false), ("NoName", false), ("NoPrime", false), ("NoSpot", false), ("NoString", true), ("NoText", false), ("NoWord", false), ("NothingDone", false), ("TooMany", false)] "NoText" = some false := by decide
  have h10 : tb [("KnotError", false), ("NameTaken", false), ("NoBraid", true), ("NoDrawing", false), ("NoFit", false), ("NoLength", false), ("NoMark", false), ("NoMove", false), ("NoName", false), ("NoPrime", false), ("NoSpot", false), ("NoString", false), ("NoText", false), ("NoWord", false), ("NothingDone", false), ("TooMany", false)] "NoText" = some false := by decide
  have h11 : tb [("KnotError", false), ("NameTaken", false), ("NoBraid", false), ("NoDrawing", false), ("NoFit", false), ("NoLength", true), ("NoMark", false), ("NoMove", false), ("NoName", false), ("NoPrime", false), ("NoSpot", false), ("NoString", false), ("NoText", false), ("NoWord", false), ("NothingDone", false), ("TooMany", false)] "NoText" = some false := by decide
  have h12 : tb [("KnotError", false), ("NameTaken", false), ("NoBraid", false), ("NoDrawing", false), ("NoFit", false), ("NoLength", false), ("NoMark", true), ("NoMove", false), ("NoName", false), ("NoPrime", false), ("NoSpot", false), ("NoString", false), ("NoText", false), ("NoWord", false), ("NothingDone", false), ("TooMany", false)] "NoText" = some false := by decide
  have h13 : tb [("KnotError", false), ("NameTaken", false), ("NoBraid", false), ("NoDrawing", false), ("NoFit", false), ("NoLength", false), ("NoMark", false), ("NoMove", false), ("NoName", false), ("NoPrime", false), ("NoSpot", false), ("NoString", false), ("NoText", false), ("NoWord", true), ("NothingDone", false), ("TooMany", false)] "NoText" = some false := by decide
  have h14 : tb [("KnotError", false), ("NameTaken", false), ("NoBraid", false), ("NoDrawing", false), ("NoFit", false), ("NoLength", false), ("NoMark", false), ("NoMove", false), ("NoName", false), ("NoPrime", false), ("NoSpot", false), ("NoString", false), ("NoText", false), ("NoWord", false), ("NothingDone", true), ("TooMany", false)] "NoText" = some false := by decide
  have z1 : (1 : Nat) ≤ sizeLine := by decide
  have z3 : (3 : Nat) ≤ sizeLine := by decide
  have z6 : (6 : Nat) ≤ sizeLine := by decide
  have z9 : (9 : Nat) ≤ sizeLine := by decide
  have z12 : (12 : Nat) ≤ sizeLine := by decide
  have z15 : (15 : Nat) ≤ sizeLine := by decide
  refine Tells.eq ?_
  simp only [F__law_classes, m__law_classes, runD]
  refine Tells.eqI ?_
  simp -implicitDefEqProofs [h0, h1, h2, h3, h4, h5, h6, h7, h8, h9, h10, h11, h12, h13, h14, immL, z3, z6, z9, z12, z15]
theorem clz_NoName (ns : List Str) (ds : List D) : F__law_classes κ [.exn "NoName" (κ "NoName") ns ds] = .ok (.lst [.bl false, .bl false, .bl true, .bl false, .bl false, .bl false, .bl false, .bl false, .bl false, .bl false, .bl false, .bl false, .bl false, .bl false, .bl false]) := by
  have h0 : tb [("KnotError", false), ("NameTaken", false), ("NoBraid", false), ("NoDrawing", true), ("NoFit", false), ("NoLength", false), ("NoMark", false), ("NoMove", false), ("NoName", false), ("NoPrime", false), ("NoSpot", false), ("NoString", false), ("NoText", false), ("NoWord", false), ("NothingDone", false), ("TooMany", false)] "NoName" = some false := by decide
  have h1 : tb [("KnotError", false), ("NameTaken", false), ("NoBraid", false), ("NoDrawing", false), ("NoFit", false), ("NoLength", false), ("NoMark", false), ("NoMove", false), ("NoName", false), ("NoPrime", false), ("NoSpot", false), ("NoString", false), ("NoText", true), ("NoWord", false), ("NothingDone", false), ("TooMany", false)] "NoName" = some false := by decide
  have h2 : tb [("KnotError", false), ("NameTaken", false), ("NoBraid", false), ("NoDrawing", false), ("NoFit", false), ("NoLength", false), ("NoMark", false), ("NoMove", false), ("NoName", true), ("NoPrime", false), ("NoSpot", false), ("NoString", false), ("NoText", false), ("NoWord", false), ("NothingDone", false), ("TooMany", false)] "NoName" = some true := by decide
  have h3 : tb [("KnotError", false), ("NameTaken", true), ("NoBraid", false), ("NoDrawing", false), ("NoFit", false), ("NoLength", false), ("NoMark", false), ("NoMove", false), ("NoName", false), ("NoPrime", false), ("NoSpot", false), ("NoString", false), ("NoText", false), ("NoWord", false), ("NothingDone", false), ("TooMany", false)] "NoName" = some false := by decide
  have h4 : tb [("KnotError", false), ("NameTaken", false), ("NoBraid", false), ("NoDrawing", false), ("NoFit", false), ("NoLength", false), ("NoMark", false), ("NoMove", false), ("NoName", false), ("NoPrime", false), ("NoSpot", true), ("NoString", false), ("NoText", false), ("NoWord", false), ("NothingDone", false), ("TooMany", false)] "NoName" = some false := by decide
  have h5 : tb [("KnotError", false), ("NameTaken", false), ("NoBraid", false), ("NoDrawing", false), ("NoFit", false), ("NoLength", false), ("NoMark", false), ("NoMove", false), ("NoName", false), ("NoPrime", false), ("NoSpot", false), ("NoString", false), ("NoText", false), ("NoWord", false), ("NothingDone", false), ("TooMany", true)] "NoName" = some false := by decide
  have h6 : tb [("KnotError", false), ("NameTaken", false), ("NoBraid", false), ("NoDrawing", false), ("NoFit", true), ("NoLength", false), ("NoMark", false), ("NoMove", false), ("NoName", false), ("NoPrime", false), ("NoSpot", false), ("NoString", false), ("NoText", false), ("NoWord", false), ("NothingDone", false), ("TooMany", false)] "NoName" = some false := by decide
  have h7 : tb [("KnotError", false), ("NameTaken", false), ("NoBraid", false), ("NoDrawing", false), ("NoFit", false), ("NoLength", false), ("NoMark", false), ("NoMove", true), ("NoName", false), ("NoPrime", false), ("NoSpot", false), ("NoString", false), ("NoText", false), ("NoWord", false), ("NothingDone", false), ("TooMany", false)] "NoName" = some false := by decide
  have h8 : tb [("KnotError", false), ("NameTaken", false), ("NoBraid", false), ("NoDrawing", false), ("NoFit", false), ("NoLength", false), ("NoMark", false), ("NoMove", false), ("NoName", false), ("NoPrime", true), ("NoSpot", false), ("NoString", false), ("NoText", false), ("NoWord", false), ("NothingDone", false), ("TooMany", false)] "NoName" = some false := by decide
  have h9 : tb [("KnotError", false), ("NameTaken", false), ("NoBraid", false), ("NoDrawing", false), ("NoFit", false), ("NoLength", false), ("NoMark", false), ("NoMove", false), ("NoName", false), ("NoPrime", false), ("NoSpot", false), ("NoString", true), ("NoText", false), ("NoWord", false), ("NothingDone", false), ("TooMany", false)] "NoName" = some false := by decide
  have h10 : tb [("KnotError", false), ("NameTaken", false), ("NoBraid", true), ("NoDrawing", false), ("NoFit", false), ("NoLength", false), ("NoMark", false), ("NoMove", false), ("NoName", false), ("NoPrime", false), ("NoSpot", false), ("NoString", false), ("NoText", false), ("NoWord", false), ("NothingDone", false), ("TooMany", false)] "NoName" = some false := by decide
  have h11 : tb [("KnotError", false), ("NameTaken", false), ("NoBraid", false), ("NoDrawing", false), ("NoFit", false), ("NoLength", true), ("NoMark", false), ("NoMove", false), ("NoName", false), ("NoPrime", false), ("NoSpot", false), ("NoString", false), ("NoText", false), ("NoWord", false), ("NothingDone", false), ("TooMany", false)] "NoName" = some false := by decide
  have h12 : tb [("KnotError", false), ("NameTaken", false), ("NoBraid", false), ("NoDrawing", false), ("NoFit", false), ("NoLength", false), ("NoMark", true), ("NoMove", false), ("NoName", false), ("NoPrime", false), ("NoSpot", false), ("NoString", false), ("NoText", false), ("NoWord", false), ("NothingDone", false), ("TooMany", false)] "NoName" = some false := by decide
  have h13 : tb [("KnotError", false), ("NameTaken", false), ("NoBraid", false), ("NoDrawing", false), ("NoFit", false), ("NoLength", false), ("NoMark", false), ("NoMove", false), ("NoName", false), ("NoPrime", false), ("NoSpot", false), ("NoString", false), ("NoText", false), ("NoWord", true), ("NothingDone", false), ("TooMany", false)] "NoName" = some false := by decide
  have h14 : tb [("KnotError", false), ("NameTaken", false), ("NoBraid", false), ("NoDrawing", false), ("NoFit", false), ("NoLength", false), ("NoMark", false), ("NoMove", false), ("NoName", false), ("NoPrime", false), ("NoSpot", false), ("NoString", false), ("NoText", false), ("NoWord", false), ("NothingDone", true), ("TooMany", false)] "NoName" = some false := by decide
  have z1 : (1 : Nat) ≤ sizeLine := by decide
  have z3 : (3 : Nat) ≤ sizeLine := by decide
  have z6 : (6 : Nat) ≤ sizeLine := by decide
  have z9 : (9 : Nat) ≤ sizeLine := by decide
  have z12 : (12 : Nat) ≤ sizeLine := by decide
  have z15 : (15 : Nat) ≤ sizeLine := by decide
  refine Tells.eq ?_
  simp only [F__law_classes, m__law_classes, runD]
  refine Tells.eqI ?_
  simp -implicitDefEqProofs [h0, h1, h2, h3, h4, h5, h6, h7, h8, h9, h10, h11, h12, h13, h14, immL, z3, z6, z9, z12, z15]
theorem clz_NameTaken (ns : List Str) (ds : List D) : F__law_classes κ [.exn "NameTaken" (κ "NameTaken") ns ds] = .ok (.lst [.bl false, .bl false, .bl false, .bl true, .bl false, .bl false, .bl false, .bl false, .bl false, .bl false, .bl false, .bl false, .bl false, .bl false, .bl false]) := by
  have h0 : tb [("KnotError", false), ("NameTaken", false), ("NoBraid", false), ("NoDrawing", true), ("NoFit", false), ("NoLength", false), ("NoMark", false), ("NoMove", false), ("NoName", false), ("NoPrime", false), ("NoSpot", false), ("NoString", false), ("NoText", false), ("NoWord", false), ("NothingDone", false), ("TooMany", false)] "NameTaken" = some false := by decide
  have h1 : tb [("KnotError", false), ("NameTaken", false), ("NoBraid", false), ("NoDrawing", false), ("NoFit", false), ("NoLength", false), ("NoMark", false), ("NoMove", false), ("NoName", false), ("NoPrime", false), ("NoSpot", false), ("NoString", false), ("NoText", true), ("NoWord", false), ("NothingDone", false), ("TooMany", false)] "NameTaken" = some false := by decide
  have h2 : tb [("KnotError", false), ("NameTaken", false), ("NoBraid", false), ("NoDrawing", false), ("NoFit", false), ("NoLength", false), ("NoMark", false), ("NoMove", false), ("NoName", true), ("NoPrime", false), ("NoSpot", false), ("NoString", false), ("NoText", false), ("NoWord", false), ("NothingDone", false), ("TooMany", false)] "NameTaken" = some false := by decide
  have h3 : tb [("KnotError", false), ("NameTaken", true), ("NoBraid", false), ("NoDrawing", false), ("NoFit", false), ("NoLength", false), ("NoMark", false), ("NoMove", false), ("NoName", false), ("NoPrime", false), ("NoSpot", false), ("NoString", false), ("NoText", false), ("NoWord", false), ("NothingDone", false), ("TooMany", false)] "NameTaken" = some true := by decide
  have h4 : tb [("KnotError", false), ("NameTaken", false), ("NoBraid", false), ("NoDrawing", false), ("NoFit", false), ("NoLength", false), ("NoMark", false), ("NoMove", false), ("NoName", false), ("NoPrime", false), ("NoSpot", true), ("NoString", false), ("NoText", false), ("NoWord", false), ("NothingDone", false), ("TooMany", false)] "NameTaken" = some false := by decide
  have h5 : tb [("KnotError", false), ("NameTaken", false), ("NoBraid", false), ("NoDrawing", false), ("NoFit", false), ("NoLength", false), ("NoMark", false), ("NoMove", false), ("NoName", false), ("NoPrime", false), ("NoSpot", false), ("NoString", false), ("NoText", false), ("NoWord", false), ("NothingDone", false), ("TooMany", true)] "NameTaken" = some false := by decide
  have h6 : tb [("KnotError", false), ("NameTaken", false), ("NoBraid", false), ("NoDrawing", false), ("NoFit", true), ("NoLength", false), ("NoMark", false), ("NoMove", false), ("NoName", false), ("NoPrime", false), ("NoSpot", false), ("NoString", false), ("NoText", false), ("NoWord", false), ("NothingDone", false), ("TooMany", false)] "NameTaken" = some false := by decide
  have h7 : tb [("KnotError", false), ("NameTaken", false), ("NoBraid", false), ("NoDrawing", false), ("NoFit", false), ("NoLength", false), ("NoMark", false), ("NoMove", true), ("NoName", false), ("NoPrime", false), ("NoSpot", false), ("NoString", false), ("NoText", false), ("NoWord", false), ("NothingDone", false), ("TooMany", false)] "NameTaken" = some false := by decide
  have h8 : tb [("KnotError", false), ("NameTaken", false), ("NoBraid", false), ("NoDrawing", false), ("NoFit", false), ("NoLength", false), ("NoMark", false), ("NoMove", false), ("NoName", false), ("NoPrime", true), ("NoSpot", false), ("NoString", false), ("NoText", false), ("NoWord", false), ("NothingDone", false), ("TooMany", false)] "NameTaken" = some false := by decide
  have h9 : tb [("KnotError", false), ("NameTaken", false), ("NoBraid", false), ("NoDrawing", false), ("NoFit", false), ("NoLength", false), ("NoMark", false), ("NoMove", false), ("NoName", false), ("NoPrime", false), ("NoSpot", false), ("NoString", true), ("NoText", false), ("NoWord", false), ("NothingDone", false), ("TooMany", false)] "NameTaken" = some false := by decide
  have h10 : tb [("KnotError", false), ("NameTaken", false), ("NoBraid", true), ("NoDrawing", false), ("NoFit", false), ("NoLength", false), ("NoMark", false), ("NoMove", false), ("NoName", false), ("NoPrime", false), ("NoSpot", false), ("NoString", false), ("NoText", false), ("NoWord", false), ("NothingDone", false), ("TooMany", false)] "NameTaken" = some false := by decide
  have h11 : tb [("KnotError", false), ("NameTaken", false), ("NoBraid", false), ("NoDrawing", false), ("NoFit", false), ("NoLength", true), ("NoMark", false), ("NoMove", false), ("NoName", false), ("NoPrime", false), ("NoSpot", false), ("NoString", false), ("NoText", false), ("NoWord", false), ("NothingDone", false), ("TooMany", false)] "NameTaken" = some false := by decide
  have h12 : tb [("KnotError", false), ("NameTaken", false), ("NoBraid", false), ("NoDrawing", false), ("NoFit", false), ("NoLength", false), ("NoMark", true), ("NoMove", false), ("NoName", false), ("NoPrime", false), ("NoSpot", false), ("NoString", false), ("NoText", false), ("NoWord", false), ("NothingDone", false), ("TooMany", false)] "NameTaken" = some false := by decide
  have h13 : tb [("KnotError", false), ("NameTaken", false), ("NoBraid", false), ("NoDrawing", false), ("NoFit", false), ("NoLength", false), ("NoMark", false), ("NoMove", false), ("NoName", false), ("NoPrime", false), ("NoSpot", false), ("NoString", false), ("NoText", false), ("NoWord", true), ("NothingDone", false), ("TooMany", false)] "NameTaken" = some false := by decide
  have h14 : tb [("KnotError", false), ("NameTaken", false), ("NoBraid", false), ("NoDrawing", false), ("NoFit", false), ("NoLength", false), ("NoMark", false), ("NoMove", false), ("NoName", false), ("NoPrime", false), ("NoSpot", false), ("NoString", false), ("NoText", false), ("NoWord", false), ("NothingDone", true), ("TooMany", false)] "NameTaken" = some false := by decide
  have z1 : (1 : Nat) ≤ sizeLine := by decide
  have z3 : (3 : Nat) ≤ sizeLine := by decide
  have z6 : (6 : Nat) ≤ sizeLine := by decide
  have z9 : (9 : Nat) ≤ sizeLine := by decide
  have z12 : (12 : Nat) ≤ sizeLine := by decide
  have z15 : (15 : Nat) ≤ sizeLine := by decide
  refine Tells.eq ?_
  simp only [F__law_classes, m__law_classes, runD]
  refine Tells.eqI ?_
  simp -implicitDefEqProofs [h0, h1, h2, h3, h4, h5, h6, h7, h8, h9, h10, h11, h12, h13, h14, immL, z3, z6, z9, z12, z15]
theorem clz_NoSpot (ns : List Str) (ds : List D) : F__law_classes κ [.exn "NoSpot" (κ "NoSpot") ns ds] = .ok (.lst [.bl false, .bl false, .bl false, .bl false, .bl true, .bl false, .bl false, .bl false, .bl false, .bl false, .bl false, .bl false, .bl false, .bl false, .bl false]) := by
  have h0 : tb [("KnotError", false), ("NameTaken", false), ("NoBraid", false), ("NoDrawing", true), ("NoFit", false), ("NoLength", false), ("NoMark", false), ("NoMove", false), ("NoName", false), ("NoPrime", false), ("NoSpot", false), ("NoString", false), ("NoText", false), ("NoWord", false), ("NothingDone", false), ("TooMany", false)] "NoSpot" = some false := by decide
  have h1 : tb [("KnotError", false), ("NameTaken", false), ("NoBraid", false), ("NoDrawing", false), ("NoFit", false), ("NoLength", false), ("NoMark", false), ("NoMove", false), ("NoName", false), ("NoPrime", false), ("NoSpot", false), ("NoString", false), ("NoText", true), ("NoWord", false), ("NothingDone", false), ("TooMany", false)] "NoSpot" = some false := by decide
  have h2 : tb [("KnotError", false), ("NameTaken", false), ("NoBraid", false), ("NoDrawing", false), ("NoFit", false), ("NoLength", false), ("NoMark", false), ("NoMove", false), ("NoName", true), ("NoPrime", false), ("NoSpot", false), ("NoString", false), ("NoText", false), ("NoWord", false), ("NothingDone", false), ("TooMany", false)] "NoSpot" = some false := by decide
  have h3 : tb [("KnotError", false), ("NameTaken", true), ("NoBraid", false), ("NoDrawing", false), ("NoFit", false), ("NoLength", false), ("NoMark", false), ("NoMove", false), ("NoName", false), ("NoPrime", false), ("NoSpot", false), ("NoString", false), ("NoText", false), ("NoWord", false), ("NothingDone", false), ("TooMany", false)] "NoSpot" = some false := by decide
  have h4 : tb [("KnotError", false), ("NameTaken", false), ("NoBraid", false), ("NoDrawing", false), ("NoFit", false), ("NoLength", false), ("NoMark", false), ("NoMove", false), ("NoName", false), ("NoPrime", false), ("NoSpot", true), ("NoString", false), ("NoText", false), ("NoWord", false), ("NothingDone", false), ("TooMany", false)] "NoSpot" = some true := by decide
  have h5 : tb [("KnotError", false), ("NameTaken", false), ("NoBraid", false), ("NoDrawing", false), ("NoFit", false), ("NoLength", false), ("NoMark", false), ("NoMove", false), ("NoName", false), ("NoPrime", false), ("NoSpot", false), ("NoString", false), ("NoText", false), ("NoWord", false), ("NothingDone", false), ("TooMany", true)] "NoSpot" = some false := by decide
  have h6 : tb [("KnotError", false), ("NameTaken", false), ("NoBraid", false), ("NoDrawing", false), ("NoFit", true), ("NoLength", false), ("NoMark", false), ("NoMove", false), ("NoName", false), ("NoPrime", false), ("NoSpot", false), ("NoString", false), ("NoText", false), ("NoWord", false), ("NothingDone", false), ("TooMany", false)] "NoSpot" = some false := by decide
  have h7 : tb [("KnotError", false), ("NameTaken", false), ("NoBraid", false), ("NoDrawing", false), ("NoFit", false), ("NoLength", false), ("NoMark", false), ("NoMove", true), ("NoName", false), ("NoPrime", false), ("NoSpot", false), ("NoString", false), ("NoText", false), ("NoWord", false), ("NothingDone", false), ("TooMany", false)] "NoSpot" = some false := by decide
  have h8 : tb [("KnotError", false), ("NameTaken", false), ("NoBraid", false), ("NoDrawing", false), ("NoFit", false), ("NoLength", false), ("NoMark", false), ("NoMove", false), ("NoName", false), ("NoPrime", true), ("NoSpot", false), ("NoString", false), ("NoText", false), ("NoWord", false), ("NothingDone", false), ("TooMany", false)] "NoSpot" = some false := by decide
  have h9 : tb [("KnotError", false), ("NameTaken", false), ("NoBraid", false), ("NoDrawing", false), ("NoFit", false), ("NoLength", false), ("NoMark", false), ("NoMove", false), ("NoName", false), ("NoPrime", false), ("NoSpot", false), ("NoString", true), ("NoText", false), ("NoWord", false), ("NothingDone", false), ("TooMany", false)] "NoSpot" = some false := by decide
  have h10 : tb [("KnotError", false), ("NameTaken", false), ("NoBraid", true), ("NoDrawing", false), ("NoFit", false), ("NoLength", false), ("NoMark", false), ("NoMove", false), ("NoName", false), ("NoPrime", false), ("NoSpot", false), ("NoString", false), ("NoText", false), ("NoWord", false), ("NothingDone", false), ("TooMany", false)] "NoSpot" = some false := by decide
  have h11 : tb [("KnotError", false), ("NameTaken", false), ("NoBraid", false), ("NoDrawing", false), ("NoFit", false), ("NoLength", true), ("NoMark", false), ("NoMove", false), ("NoName", false), ("NoPrime", false), ("NoSpot", false), ("NoString", false), ("NoText", false), ("NoWord", false), ("NothingDone", false), ("TooMany", false)] "NoSpot" = some false := by decide
  have h12 : tb [("KnotError", false), ("NameTaken", false), ("NoBraid", false), ("NoDrawing", false), ("NoFit", false), ("NoLength", false), ("NoMark", true), ("NoMove", false), ("NoName", false), ("NoPrime", false), ("NoSpot", false), ("NoString", false), ("NoText", false), ("NoWord", false), ("NothingDone", false), ("TooMany", false)] "NoSpot" = some false := by decide
  have h13 : tb [("KnotError", false), ("NameTaken", false), ("NoBraid", false), ("NoDrawing", false), ("NoFit", false), ("NoLength", false), ("NoMark", false), ("NoMove", false), ("NoName", false), ("NoPrime", false), ("NoSpot", false), ("NoString", false), ("NoText", false), ("NoWord", true), ("NothingDone", false), ("TooMany", false)] "NoSpot" = some false := by decide
  have h14 : tb [("KnotError", false), ("NameTaken", false), ("NoBraid", false), ("NoDrawing", false), ("NoFit", false), ("NoLength", false), ("NoMark", false), ("NoMove", false), ("NoName", false), ("NoPrime", false), ("NoSpot", false), ("NoString", false), ("NoText", false), ("NoWord", false), ("NothingDone", true), ("TooMany", false)] "NoSpot" = some false := by decide
  have z1 : (1 : Nat) ≤ sizeLine := by decide
  have z3 : (3 : Nat) ≤ sizeLine := by decide
  have z6 : (6 : Nat) ≤ sizeLine := by decide
  have z9 : (9 : Nat) ≤ sizeLine := by decide
  have z12 : (12 : Nat) ≤ sizeLine := by decide
  have z15 : (15 : Nat) ≤ sizeLine := by decide
  refine Tells.eq ?_
  simp only [F__law_classes, m__law_classes, runD]
  refine Tells.eqI ?_
  simp -implicitDefEqProofs [h0, h1, h2, h3, h4, h5, h6, h7, h8, h9, h10, h11, h12, h13, h14, immL, z3, z6, z9, z12, z15]
theorem clz_TooMany (ns : List Str) (ds : List D) : F__law_classes κ [.exn "TooMany" (κ "TooMany") ns ds] = .ok (.lst [.bl false, .bl false, .bl false, .bl false, .bl false, .bl true, .bl false, .bl false, .bl false, .bl false, .bl false, .bl false, .bl false, .bl false, .bl false]) := by
  have h0 : tb [("KnotError", false), ("NameTaken", false), ("NoBraid", false), ("NoDrawing", true), ("NoFit", false), ("NoLength", false), ("NoMark", false), ("NoMove", false), ("NoName", false), ("NoPrime", false), ("NoSpot", false), ("NoString", false), ("NoText", false), ("NoWord", false), ("NothingDone", false), ("TooMany", false)] "TooMany" = some false := by decide
  have h1 : tb [("KnotError", false), ("NameTaken", false), ("NoBraid", false), ("NoDrawing", false), ("NoFit", false), ("NoLength", false), ("NoMark", false), ("NoMove", false), ("NoName", false), ("NoPrime", false), ("NoSpot", false), ("NoString", false), ("NoText", true), ("NoWord", false), ("NothingDone", false), ("TooMany", false)] "TooMany" = some false := by decide
  have h2 : tb [("KnotError", false), ("NameTaken", false), ("NoBraid", false), ("NoDrawing", false), ("NoFit", false), ("NoLength", false), ("NoMark", false), ("NoMove", false), ("NoName", true), ("NoPrime", false), ("NoSpot", false), ("NoString", false), ("NoText", false), ("NoWord", false), ("NothingDone", false), ("TooMany", false)] "TooMany" = some false := by decide
  have h3 : tb [("KnotError", false), ("NameTaken", true), ("NoBraid", false), ("NoDrawing", false), ("NoFit", false), ("NoLength", false), ("NoMark", false), ("NoMove", false), ("NoName", false), ("NoPrime", false), ("NoSpot", false), ("NoString", false), ("NoText", false), ("NoWord", false), ("NothingDone", false), ("TooMany", false)] "TooMany" = some false := by decide
  have h4 : tb [("KnotError", false), ("NameTaken", false), ("NoBraid", false), ("NoDrawing", false), ("NoFit", false), ("NoLength", false), ("NoMark", false), ("NoMove", false), ("NoName", false), ("NoPrime", false), ("NoSpot", true), ("NoString", false), ("NoText", false), ("NoWord", false), ("NothingDone", false), ("TooMany", false)] "TooMany" = some false := by decide
  have h5 : tb [("KnotError", false), ("NameTaken", false), ("NoBraid", false), ("NoDrawing", false), ("NoFit", false), ("NoLength", false), ("NoMark", false), ("NoMove", false), ("NoName", false), ("NoPrime", false), ("NoSpot", false), ("NoString", false), ("NoText", false), ("NoWord", false), ("NothingDone", false), ("TooMany", true)] "TooMany" = some true := by decide
  have h6 : tb [("KnotError", false), ("NameTaken", false), ("NoBraid", false), ("NoDrawing", false), ("NoFit", true), ("NoLength", false), ("NoMark", false), ("NoMove", false), ("NoName", false), ("NoPrime", false), ("NoSpot", false), ("NoString", false), ("NoText", false), ("NoWord", false), ("NothingDone", false), ("TooMany", false)] "TooMany" = some false := by decide
  have h7 : tb [("KnotError", false), ("NameTaken", false), ("NoBraid", false), ("NoDrawing", false), ("NoFit", false), ("NoLength", false), ("NoMark", false), ("NoMove", true), ("NoName", false), ("NoPrime", false), ("NoSpot", false), ("NoString", false), ("NoText", false), ("NoWord", false), ("NothingDone", false), ("TooMany", false)] "TooMany" = some false := by decide
  have h8 : tb [("KnotError", false), ("NameTaken", false), ("NoBraid", false), ("NoDrawing", false), ("NoFit", false), ("NoLength", false), ("NoMark", false), ("NoMove", false), ("NoName", false), ("NoPrime", true), ("NoSpot", false), ("NoString", false), ("NoText", false), ("NoWord", false), ("NothingDone", false), ("TooMany", false)] "TooMany" = some false := by decide
  have h9 : tb [("KnotError", false), ("NameTaken", false), ("NoBraid", false), ("NoDrawing", false), ("NoFit", false), ("NoLength", false), ("NoMark", false), ("NoMove", false), ("NoName", false), ("NoPrime", false), ("NoSpot", false), ("NoString", true), ("NoText", false), ("NoWord", false), ("NothingDone", false), ("TooMany", false)] "TooMany" = some false := by decide
  have h10 : tb [("KnotError", false), ("NameTaken", false), ("NoBraid", true), ("NoDrawing", false), ("NoFit", false), ("NoLength", false), ("NoMark", false), ("NoMove", false), ("NoName", false), ("NoPrime", false), ("NoSpot", false), ("NoString", false), ("NoText", false), ("NoWord", false), ("NothingDone", false), ("TooMany", false)] "TooMany" = some false := by decide
  have h11 : tb [("KnotError", false), ("NameTaken", false), ("NoBraid", false), ("NoDrawing", false), ("NoFit", false), ("NoLength", true), ("NoMark", false), ("NoMove", false), ("NoName", false), ("NoPrime", false), ("NoSpot", false), ("NoString", false), ("NoText", false), ("NoWord", false), ("NothingDone", false), ("TooMany", false)] "TooMany" = some false := by decide
  have h12 : tb [("KnotError", false), ("NameTaken", false), ("NoBraid", false), ("NoDrawing", false), ("NoFit", false), ("NoLength", false), ("NoMark", true), ("NoMove", false), ("NoName", false), ("NoPrime", false), ("NoSpot", false), ("NoString", false), ("NoText", false), ("NoWord", false), ("NothingDone", false), ("TooMany", false)] "TooMany" = some false := by decide
  have h13 : tb [("KnotError", false), ("NameTaken", false), ("NoBraid", false), ("NoDrawing", false), ("NoFit", false), ("NoLength", false), ("NoMark", false), ("NoMove", false), ("NoName", false), ("NoPrime", false), ("NoSpot", false), ("NoString", false), ("NoText", false), ("NoWord", true), ("NothingDone", false), ("TooMany", false)] "TooMany" = some false := by decide
  have h14 : tb [("KnotError", false), ("NameTaken", false), ("NoBraid", false), ("NoDrawing", false), ("NoFit", false), ("NoLength", false), ("NoMark", false), ("NoMove", false), ("NoName", false), ("NoPrime", false), ("NoSpot", false), ("NoString", false), ("NoText", false), ("NoWord", false), ("NothingDone", true), ("TooMany", false)] "TooMany" = some false := by decide
  have z1 : (1 : Nat) ≤ sizeLine := by decide
  have z3 : (3 : Nat) ≤ sizeLine := by decide
  have z6 : (6 : Nat) ≤ sizeLine := by decide
  have z9 : (9 : Nat) ≤ sizeLine := by decide
  have z12 : (12 : Nat) ≤ sizeLine := by decide
  have z15 : (15 : Nat) ≤ sizeLine := by decide
  refine Tells.eq ?_
  simp only [F__law_classes, m__law_classes, runD]
  refine Tells.eqI ?_
  simp -implicitDefEqProofs [h0, h1, h2, h3, h4, h5, h6, h7, h8, h9, h10, h11, h12, h13, h14, immL, z3, z6, z9, z12, z15]
theorem clz_NoFit (ns : List Str) (ds : List D) : F__law_classes κ [.exn "NoFit" (κ "NoFit") ns ds] = .ok (.lst [.bl false, .bl false, .bl false, .bl false, .bl false, .bl false, .bl true, .bl false, .bl false, .bl false, .bl false, .bl false, .bl false, .bl false, .bl false]) := by
  have h0 : tb [("KnotError", false), ("NameTaken", false), ("NoBraid", false), ("NoDrawing", true), ("NoFit", false), ("NoLength", false), ("NoMark", false), ("NoMove", false), ("NoName", false), ("NoPrime", false), ("NoSpot", false), ("NoString", false), ("NoText", false), ("NoWord", false), ("NothingDone", false), ("TooMany", false)] "NoFit" = some false := by decide
  have h1 : tb [("KnotError", false), ("NameTaken", false), ("NoBraid", false), ("NoDrawing", false), ("NoFit", false), ("NoLength", false), ("NoMark", false), ("NoMove", false), ("NoName", false), ("NoPrime", false), ("NoSpot", false), ("NoString", false), ("NoText", true), ("NoWord", false), ("NothingDone", false), ("TooMany", false)] "NoFit" = some false := by decide
  have h2 : tb [("KnotError", false), ("NameTaken", false), ("NoBraid", false), ("NoDrawing", false), ("NoFit", false), ("NoLength", false), ("NoMark", false), ("NoMove", false), ("NoName", true), ("NoPrime", false), ("NoSpot", false), ("NoString", false), ("NoText", false), ("NoWord", false), ("NothingDone", false), ("TooMany", false)] "NoFit" = some false := by decide
  have h3 : tb [("KnotError", false), ("NameTaken", true), ("NoBraid", false), ("NoDrawing", false), ("NoFit", false), ("NoLength", false), ("NoMark", false), ("NoMove", false), ("NoName", false), ("NoPrime", false), ("NoSpot", false), ("NoString", false), ("NoText", false), ("NoWord", false), ("NothingDone", false), ("TooMany", false)] "NoFit" = some false := by decide
  have h4 : tb [("KnotError", false), ("NameTaken", false), ("NoBraid", false), ("NoDrawing", false), ("NoFit", false), ("NoLength", false), ("NoMark", false), ("NoMove", false), ("NoName", false), ("NoPrime", false), ("NoSpot", true), ("NoString", false), ("NoText", false), ("NoWord", false), ("NothingDone", false), ("TooMany", false)] "NoFit" = some false := by decide
  have h5 : tb [("KnotError", false), ("NameTaken", false), ("NoBraid", false), ("NoDrawing", false), ("NoFit", false), ("NoLength", false), ("NoMark", false), ("NoMove", false), ("NoName", false), ("NoPrime", false), ("NoSpot", false), ("NoString", false), ("NoText", false), ("NoWord", false), ("NothingDone", false), ("TooMany", true)] "NoFit" = some false := by decide
  have h6 : tb [("KnotError", false), ("NameTaken", false), ("NoBraid", false), ("NoDrawing", false), ("NoFit", true), ("NoLength", false), ("NoMark", false), ("NoMove", false), ("NoName", false), ("NoPrime", false), ("NoSpot", false), ("NoString", false), ("NoText", false), ("NoWord", false), ("NothingDone", false), ("TooMany", false)] "NoFit" = some true := by decide
  have h7 : tb [("KnotError", false), ("NameTaken", false), ("NoBraid", false), ("NoDrawing", false), ("NoFit", false), ("NoLength", false), ("NoMark", false), ("NoMove", true), ("NoName", false), ("NoPrime", false), ("NoSpot", false), ("NoString", false), ("NoText", false), ("NoWord", false), ("NothingDone", false), ("TooMany", false)] "NoFit" = some false := by decide
  have h8 : tb [("KnotError", false), ("NameTaken", false), ("NoBraid", false), ("NoDrawing", false), ("NoFit", false), ("NoLength", false), ("NoMark", false), ("NoMove", false), ("NoName", false), ("NoPrime", true), ("NoSpot", false), ("NoString", false), ("NoText", false), ("NoWord", false), ("NothingDone", false), ("TooMany", false)] "NoFit" = some false := by decide
  have h9 : tb [("KnotError", false), ("NameTaken", false), ("NoBraid", false), ("NoDrawing", false), ("NoFit", false), ("NoLength", false), ("NoMark", false), ("NoMove", false), ("NoName", false), ("NoPrime", false), ("NoSpot", false), ("NoString", true), ("NoText", false), ("NoWord", false), ("NothingDone", false), ("TooMany", false)] "NoFit" = some false := by decide
  have h10 : tb [("KnotError", false), ("NameTaken", false), ("NoBraid", true), ("NoDrawing", false), ("NoFit", false), ("NoLength", false), ("NoMark", false), ("NoMove", false), ("NoName", false), ("NoPrime", false), ("NoSpot", false), ("NoString", false), ("NoText", false), ("NoWord", false), ("NothingDone", false), ("TooMany", false)] "NoFit" = some false := by decide
  have h11 : tb [("KnotError", false), ("NameTaken", false), ("NoBraid", false), ("NoDrawing", false), ("NoFit", false), ("NoLength", true), ("NoMark", false), ("NoMove", false), ("NoName", false), ("NoPrime", false), ("NoSpot", false), ("NoString", false), ("NoText", false), ("NoWord", false), ("NothingDone", false), ("TooMany", false)] "NoFit" = some false := by decide
  have h12 : tb [("KnotError", false), ("NameTaken", false), ("NoBraid", false), ("NoDrawing", false), ("NoFit", false), ("NoLength", false), ("NoMark", true), ("NoMove", false), ("NoName", false), ("NoPrime", false), ("NoSpot", false), ("NoString", false), ("NoText", false), ("NoWord", false), ("NothingDone", false), ("TooMany", false)] "NoFit" = some false := by decide
  have h13 : tb [("KnotError", false), ("NameTaken", false), ("NoBraid", false), ("NoDrawing", false), ("NoFit", false), ("NoLength", false), ("NoMark", false), ("NoMove", false), ("NoName", false), ("NoPrime", false), ("NoSpot", false), ("NoString", false), ("NoText", false), ("NoWord", true), ("NothingDone", false), ("TooMany", false)] "NoFit" = some false := by decide
  have h14 : tb [("KnotError", false), ("NameTaken", false), ("NoBraid", false), ("NoDrawing", false), ("NoFit", false), ("NoLength", false), ("NoMark", false), ("NoMove", false), ("NoName", false), ("NoPrime", false), ("NoSpot", false), ("NoString", false), ("NoText", false), ("NoWord", false), ("NothingDone", true), ("TooMany", false)] "NoFit" = some false := by decide
  have z1 : (1 : Nat) ≤ sizeLine := by decide
  have z3 : (3 : Nat) ≤ sizeLine := by decide
  have z6 : (6 : Nat) ≤ sizeLine := by decide
  have z9 : (9 : Nat) ≤ sizeLine := by decide
  have z12 : (12 : Nat) ≤ sizeLine := by decide
  have z15 : (15 : Nat) ≤ sizeLine := by decide
  refine Tells.eq ?_
  simp only [F__law_classes, m__law_classes, runD]
  refine Tells.eqI ?_
  simp -implicitDefEqProofs [h0, h1, h2, h3, h4, h5, h6, h7, h8, h9, h10, h11, h12, h13, h14, immL, z3, z6, z9, z12, z15]
theorem clz_NoMove (ns : List Str) (ds : List D) : F__law_classes κ [.exn "NoMove" (κ "NoMove") ns ds] = .ok (.lst [.bl false, .bl false, .bl false, .bl false, .bl false, .bl false, .bl false, .bl true, .bl false, .bl false, .bl false, .bl false, .bl false, .bl false, .bl false]) := by
  have h0 : tb [("KnotError", false), ("NameTaken", false), ("NoBraid", false), ("NoDrawing", true), ("NoFit", false), ("NoLength", false), ("NoMark", false), ("NoMove", false), ("NoName", false), ("NoPrime", false), ("NoSpot", false), ("NoString", false), ("NoText", false), ("NoWord", false), ("NothingDone", false), ("TooMany", false)] "NoMove" = some false := by decide
  have h1 : tb [("KnotError", false), ("NameTaken", false), ("NoBraid", false), ("NoDrawing", false), ("NoFit", false), ("NoLength", false), ("NoMark", false), ("NoMove", false), ("NoName", false), ("NoPrime", false), ("NoSpot", false), ("NoString", false), ("NoText", true), ("NoWord", false), ("NothingDone", false), ("TooMany", false)] "NoMove" = some false := by decide
  have h2 : tb [("KnotError", false), ("NameTaken", false), ("NoBraid", false), ("NoDrawing", false), ("NoFit", false), ("NoLength", false), ("NoMark", false), ("NoMove", false), ("NoName", true), ("NoPrime", false), ("NoSpot", false), ("NoString", false), ("NoText", false), ("NoWord", false), ("NothingDone", false), ("TooMany", false)] "NoMove" = some false := by decide
  have h3 : tb [("KnotError", false), ("NameTaken", true), ("NoBraid", false), ("NoDrawing", false), ("NoFit", false), ("NoLength", false), ("NoMark", false), ("NoMove", false), ("NoName", false), ("NoPrime", false), ("NoSpot", false), ("NoString", false), ("NoText", false), ("NoWord", false), ("NothingDone", false), ("TooMany", false)] "NoMove" = some false := by decide
  have h4 : tb [("KnotError", false), ("NameTaken", false), ("NoBraid", false), ("NoDrawing", false), ("NoFit", false), ("NoLength", false), ("NoMark", false), ("NoMove", false), ("NoName", false), ("NoPrime", false), ("NoSpot", true), ("NoString", false), ("NoText", false), ("NoWord", false), ("NothingDone", false), ("TooMany", false)] "NoMove" = some false := by decide
  have h5 : tb [("KnotError", false), ("NameTaken", false), ("NoBraid", false), ("NoDrawing", false), ("NoFit", false), ("NoLength", false), ("NoMark", false), ("NoMove", false), ("NoName", false), ("NoPrime", false), ("NoSpot", false), ("NoString", false), ("NoText", false), ("NoWord", false), ("NothingDone", false), ("TooMany", true)] "NoMove" = some false := by decide
  have h6 : tb [("KnotError", false), ("NameTaken", false), ("NoBraid", false), ("NoDrawing", false), ("NoFit", true), ("NoLength", false), ("NoMark", false), ("NoMove", false), ("NoName", false), ("NoPrime", false), ("NoSpot", false), ("NoString", false), ("NoText", false), ("NoWord", false), ("NothingDone", false), ("TooMany", false)] "NoMove" = some false := by decide
  have h7 : tb [("KnotError", false), ("NameTaken", false), ("NoBraid", false), ("NoDrawing", false), ("NoFit", false), ("NoLength", false), ("NoMark", false), ("NoMove", true), ("NoName", false), ("NoPrime", false), ("NoSpot", false), ("NoString", false), ("NoText", false), ("NoWord", false), ("NothingDone", false), ("TooMany", false)] "NoMove" = some true := by decide
  have h8 : tb [("KnotError", false), ("NameTaken", false), ("NoBraid", false), ("NoDrawing", false), ("NoFit", false), ("NoLength", false), ("NoMark", false), ("NoMove", false), ("NoName", false), ("NoPrime", true), ("NoSpot", false), ("NoString", false), ("NoText", false), ("NoWord", false), ("NothingDone", false), ("TooMany", false)] "NoMove" = some false := by decide
  have h9 : tb [("KnotError", false), ("NameTaken", false), ("NoBraid", false), ("NoDrawing", false), ("NoFit", false), ("NoLength", false), ("NoMark", false), ("NoMove", false), ("NoName", false), ("NoPrime", false), ("NoSpot", false), ("NoString", true), ("NoText", false), ("NoWord", false), ("NothingDone", false), ("TooMany", false)] "NoMove" = some false := by decide
  have h10 : tb [("KnotError", false), ("NameTaken", false), ("NoBraid", true), ("NoDrawing", false), ("NoFit", false), ("NoLength", false), ("NoMark", false), ("NoMove", false), ("NoName", false), ("NoPrime", false), ("NoSpot", false), ("NoString", false), ("NoText", false), ("NoWord", false), ("NothingDone", false), ("TooMany", false)] "NoMove" = some false := by decide
  have h11 : tb [("KnotError", false), ("NameTaken", false), ("NoBraid", false), ("NoDrawing", false), ("NoFit", false), ("NoLength", true), ("NoMark", false), ("NoMove", false), ("NoName", false), ("NoPrime", false), ("NoSpot", false), ("NoString", false), ("NoText", false), ("NoWord", false), ("NothingDone", false), ("TooMany", false)] "NoMove" = some false := by decide
  have h12 : tb [("KnotError", false), ("NameTaken", false), ("NoBraid", false), ("NoDrawing", false), ("NoFit", false), ("NoLength", false), ("NoMark", true), ("NoMove", false), ("NoName", false), ("NoPrime", false), ("NoSpot", false), ("NoString", false), ("NoText", false), ("NoWord", false), ("NothingDone", false), ("TooMany", false)] "NoMove" = some false := by decide
  have h13 : tb [("KnotError", false), ("NameTaken", false), ("NoBraid", false), ("NoDrawing", false), ("NoFit", false), ("NoLength", false), ("NoMark", false), ("NoMove", false), ("NoName", false), ("NoPrime", false), ("NoSpot", false), ("NoString", false), ("NoText", false), ("NoWord", true), ("NothingDone", false), ("TooMany", false)] "NoMove" = some false := by decide
  have h14 : tb [("KnotError", false), ("NameTaken", false), ("NoBraid", false), ("NoDrawing", false), ("NoFit", false), ("NoLength", false), ("NoMark", false), ("NoMove", false), ("NoName", false), ("NoPrime", false), ("NoSpot", false), ("NoString", false), ("NoText", false), ("NoWord", false), ("NothingDone", true), ("TooMany", false)] "NoMove" = some false := by decide
  have z1 : (1 : Nat) ≤ sizeLine := by decide
  have z3 : (3 : Nat) ≤ sizeLine := by decide
  have z6 : (6 : Nat) ≤ sizeLine := by decide
  have z9 : (9 : Nat) ≤ sizeLine := by decide
  have z12 : (12 : Nat) ≤ sizeLine := by decide
  have z15 : (15 : Nat) ≤ sizeLine := by decide
  refine Tells.eq ?_
  simp only [F__law_classes, m__law_classes, runD]
  refine Tells.eqI ?_
  simp -implicitDefEqProofs [h0, h1, h2, h3, h4, h5, h6, h7, h8, h9, h10, h11, h12, h13, h14, immL, z3, z6, z9, z12, z15]
theorem clz_NoPrime (ns : List Str) (ds : List D) : F__law_classes κ [.exn "NoPrime" (κ "NoPrime") ns ds] = .ok (.lst [.bl false, .bl false, .bl false, .bl false, .bl false, .bl false, .bl false, .bl false, .bl true, .bl false, .bl false, .bl false, .bl false, .bl false, .bl false]) := by
  have h0 : tb [("KnotError", false), ("NameTaken", false), ("NoBraid", false), ("NoDrawing", true), ("NoFit", false), ("NoLength", false), ("NoMark", false), ("NoMove", false), ("NoName", false), ("NoPrime", false), ("NoSpot", false), ("NoString", false), ("NoText", false), ("NoWord", false), ("NothingDone", false), ("TooMany", false)] "NoPrime" = some false := by decide
  have h1 : tb [("KnotError", false), ("NameTaken", false), ("NoBraid", false), ("NoDrawing", false), ("NoFit", false), ("NoLength", false), ("NoMark", false), ("NoMove", false), ("NoName", false), ("NoPrime", false), ("NoSpot", false), ("NoString", false), ("NoText", true), ("NoWord", false), ("NothingDone", false), ("TooMany", false)] "NoPrime" = some false := by decide
  have h2 : tb [("KnotError", false), ("NameTaken", false), ("NoBraid", false), ("NoDrawing", false), ("NoFit", false), ("NoLength", false), ("NoMark", false), ("NoMove", false), ("NoName", true), ("NoPrime", false), ("NoSpot", false), ("NoString", false), ("NoText", false), ("NoWord", false), ("NothingDone", false), ("TooMany", false)] "NoPrime" = some false := by decide
  have h3 : tb [("KnotError", false), ("NameTaken", true), ("NoBraid", false), ("NoDrawing", false), ("NoFit", false), ("NoLength", false), ("NoMark", false), ("NoMove", false), ("NoName", false), ("NoPrime", false), ("NoSpot", false), ("NoString", false), ("NoText", false), ("NoWord", false), ("NothingDone", false), ("TooMany", false)] "NoPrime" = some false := by decide
  have h4 : tb [("KnotError", false), ("NameTaken", false), ("NoBraid", false), ("NoDrawing", false), ("NoFit", false), ("NoLength", false), ("NoMark", false), ("NoMove", false), ("NoName", false), ("NoPrime", false), ("NoSpot", true), ("NoString", false), ("NoText", false), ("NoWord", false), ("NothingDone", false), ("TooMany", false)] "NoPrime" = some false := by decide
  have h5 : tb [("KnotError", false), ("NameTaken", false), ("NoBraid", false), ("NoDrawing", false), ("NoFit", false), ("NoLength", false), ("NoMark", false), ("NoMove", false), ("NoName", false), ("NoPrime", false), ("NoSpot", false), ("NoString", false), ("NoText", false), ("NoWord", false), ("NothingDone", false), ("TooMany", true)] "NoPrime" = some false := by decide
  have h6 : tb [("KnotError", false), ("NameTaken", false), ("NoBraid", false), ("NoDrawing", false), ("NoFit", true), ("NoLength", false), ("NoMark", false), ("NoMove", false), ("NoName", false), ("NoPrime", false), ("NoSpot", false), ("NoString", false), ("NoText", false), ("NoWord", false), ("NothingDone", false), ("TooMany", false)] "NoPrime" = some false := by decide
  have h7 : tb [("KnotError", false), ("NameTaken", false), ("NoBraid", false), ("NoDrawing", false), ("NoFit", false), ("NoLength", false), ("NoMark", false), ("NoMove", true), ("NoName", false), ("NoPrime", false), ("NoSpot", false), ("NoString", false), ("NoText", false), ("NoWord", false), ("NothingDone", false), ("TooMany", false)] "NoPrime" = some false := by decide
  have h8 : tb [("KnotError", false), ("NameTaken", false), ("NoBraid", false), ("NoDrawing", false), ("NoFit", false), ("NoLength", false), ("NoMark", false), ("NoMove", false), ("NoName", false), ("NoPrime", true), ("NoSpot", false), ("NoString", false), ("NoText", false), ("NoWord", false), ("NothingDone", false), ("TooMany", false)] "NoPrime" = some true := by decide
  have h9 : tb [("KnotError", false), ("NameTaken", false), ("NoBraid", false), ("NoDrawing", false), ("NoFit", false), ("NoLength", false), ("NoMark", false), ("NoMove", false), ("NoName", false), ("NoPrime", false), ("NoSpot", false), ("NoString", true), ("NoText", false), ("NoWord", false), ("NothingDone", false), ("TooMany", false)] "NoPrime" = some false := by decide
  have h10 : tb [("KnotError", false), ("NameTaken", false), ("NoBraid", true), ("NoDrawing", false), ("NoFit", false), ("NoLength", false), ("NoMark", false), ("NoMove", false), ("NoName", false), ("NoPrime", false), ("NoSpot", false), ("NoString", false), ("NoText", false), ("NoWord", false), ("NothingDone", false), ("TooMany", false)] "NoPrime" = some false := by decide
  have h11 : tb [("KnotError", false), ("NameTaken", false), ("NoBraid", false), ("NoDrawing", false), ("NoFit", false), ("NoLength", true), ("NoMark", false), ("NoMove", false), ("NoName", false), ("NoPrime", false), ("NoSpot", false), ("NoString", false), ("NoText", false), ("NoWord", false), ("NothingDone", false), ("TooMany", false)] "NoPrime" = some false := by decide
  have h12 : tb [("KnotError", false), ("NameTaken", false), ("NoBraid", false), ("NoDrawing", false), ("NoFit", false), ("NoLength", false), ("NoMark", true), ("NoMove", false), ("NoName", false), ("NoPrime", false), ("NoSpot", false), ("NoString", false), ("NoText", false), ("NoWord", false), ("NothingDone", false), ("TooMany", false)] "NoPrime" = some false := by decide
  have h13 : tb [("KnotError", false), ("NameTaken", false), ("NoBraid", false), ("NoDrawing", false), ("NoFit", false), ("NoLength", false), ("NoMark", false), ("NoMove", false), ("NoName", false), ("NoPrime", false), ("NoSpot", false), ("NoString", false), ("NoText", false), ("NoWord", true), ("NothingDone", false), ("TooMany", false)] "NoPrime" = some false := by decide
  have h14 : tb [("KnotError", false), ("NameTaken", false), ("NoBraid", false), ("NoDrawing", false), ("NoFit", false), ("NoLength", false), ("NoMark", false), ("NoMove", false), ("NoName", false), ("NoPrime", false), ("NoSpot", false), ("NoString", false), ("NoText", false), ("NoWord", false), ("NothingDone", true), ("TooMany", false)] "NoPrime" = some false := by decide
  have z1 : (1 : Nat) ≤ sizeLine := by decide
  have z3 : (3 : Nat) ≤ sizeLine := by decide
  have z6 : (6 : Nat) ≤ sizeLine := by decide
  have z9 : (9 : Nat) ≤ sizeLine := by decide
  have z12 : (12 : Nat) ≤ sizeLine := by decide
  have z15 : (15 : Nat) ≤ sizeLine := by decide
  refine Tells.eq ?_
  simp only [F__law_classes, m__law_classes, runD]
  refine Tells.eqI ?_
  simp -implicitDefEqProofs [h0, h1, h2, h3, h4, h5, h6, h7, h8, h9, h10, h11, h12, h13, h14, immL, z3, z6, z9, z12, z15]
theorem clz_NoString (ns : List Str) (ds : List D) : F__law_classes κ [.exn "NoString" (κ "NoString") ns ds] = .ok (.lst [.bl false, .bl false, .bl false, .bl false, .bl false, .bl false, .bl false, .bl false, .bl false, .bl true, .bl false, .bl false, .bl false, .bl false, .bl false]) := by
  have h0 : tb [("KnotError", false), ("NameTaken", false), ("NoBraid", false), ("NoDrawing", true), ("NoFit", false), ("NoLength", false), ("NoMark", false), ("NoMove", false), ("NoName", false), ("NoPrime", false), ("NoSpot", false), ("NoString", false), ("NoText", false), ("NoWord", false), ("NothingDone", false), ("TooMany", false)] "NoString" = some false := by decide
  have h1 : tb [("KnotError", false), ("NameTaken", false), ("NoBraid", false), ("NoDrawing", false), ("NoFit", false), ("NoLength", false), ("NoMark", false), ("NoMove", false), ("NoName", false), ("NoPrime", false), ("NoSpot", false), ("NoString", false), ("NoText", true), ("NoWord", false), ("NothingDone", false), ("TooMany", false)] "NoString" = some false := by decide
  have h2 : tb [("KnotError", false), ("NameTaken", false), ("NoBraid", false), ("NoDrawing", false), ("NoFit", false), ("NoLength", false), ("NoMark", false), ("NoMove", false), ("NoName", true), ("NoPrime", false), ("NoSpot", false), ("NoString", false), ("NoText", false), ("NoWord", false), ("NothingDone", false), ("TooMany", false)] "NoString" = some false := by decide
  have h3 : tb [("KnotError", false), ("NameTaken", true), ("NoBraid", false), ("NoDrawing", false), ("NoFit", false), ("NoLength", false), ("NoMark", false), ("NoMove", false), ("NoName", false), ("NoPrime", false), ("NoSpot", false), ("NoString", false), ("NoText", false), ("NoWord", false), ("NothingDone", false), ("TooMany", false)] "NoString" = some false := by decide
  have h4 : tb [("KnotError", false), ("NameTaken", false), ("NoBraid", false), ("NoDrawing", false), ("NoFit", false), ("NoLength", false), ("NoMark", false), ("NoMove", false), ("NoName", false), ("NoPrime", false), ("NoSpot", true), ("NoString", false), ("NoText", false), ("NoWord", false), ("NothingDone", false), ("TooMany", false)] "NoString" = some false := by decide
  have h5 : tb [("KnotError", false), ("NameTaken", false), ("NoBraid", false), ("NoDrawing", false), ("NoFit", false), ("NoLength", false), ("NoMark", false), ("NoMove", false), ("NoName", false), ("NoPrime", false), ("NoSpot", false), ("NoString", false), ("NoText", false), ("NoWord", false), ("NothingDone", false), ("TooMany", true)] "NoString" = some false := by decide
  have h6 : tb [("KnotError", false), ("NameTaken", false), ("NoBraid", false), ("NoDrawing", false), ("NoFit", true), ("NoLength", false), ("NoMark", false), ("NoMove", false), ("NoName", false), ("NoPrime", false), ("NoSpot", false), ("NoString", false), ("NoText", false), ("NoWord", false), ("NothingDone", false), ("TooMany", false)] "NoString" = some false := by decide
  have h7 : tb [("KnotError", false), ("NameTaken", false), ("NoBraid", false), ("NoDrawing", false), ("NoFit", false), ("NoLength", false), ("NoMark", false), ("NoMove", true), ("NoName", false), ("NoPrime", false), ("NoSpot", false), ("NoString", false), ("NoText", false), ("NoWord", false), ("NothingDone", false), ("TooMany", false)] "NoString" = some false := by decide
  have h8 : tb [("KnotError", false), ("NameTaken", false), ("NoBraid", false), ("NoDrawing", false), ("NoFit", false), ("NoLength", false), ("NoMark", false), ("NoMove", false), ("NoName", false), ("NoPrime", true), ("NoSpot", false), ("NoString", false), ("NoText", false), ("NoWord", false), ("NothingDone", false), ("TooMany", false)] "NoString" = some false := by decide
  have h9 : tb [("KnotError", false), ("NameTaken", false), ("NoBraid", false), ("NoDrawing", false), ("NoFit", false), ("NoLength", false), ("NoMark", false), ("NoMove", false), ("NoName", false), ("NoPrime", false), ("NoSpot", false), ("NoString", true), ("NoText", false), ("NoWord", false), ("NothingDone", false), ("TooMany", false)] "NoString" = some true := by decide
  have h10 : tb [("KnotError", false), ("NameTaken", false), ("NoBraid", true), ("NoDrawing", false), ("NoFit", false), ("NoLength", false), ("NoMark", false), ("NoMove", false), ("NoName", false), ("NoPrime", false), ("NoSpot", false), ("NoString", false), ("NoText", false), ("NoWord", false), ("NothingDone", false), ("TooMany", false)] "NoString" = some false := by decide
  have h11 : tb [("KnotError", false), ("NameTaken", false), ("NoBraid", false), ("NoDrawing", false), ("NoFit", false), ("NoLength", true), ("NoMark", false), ("NoMove", false), ("NoName", false), ("NoPrime", false), ("NoSpot", false), ("NoString", false), ("NoText", false), ("NoWord", false), ("NothingDone", false), ("TooMany", false)] "NoString" = some false := by decide
  have h12 : tb [("KnotError", false), ("NameTaken", false), ("NoBraid", false), ("NoDrawing", false), ("NoFit", false), ("NoLength", false), ("NoMark", true), ("NoMove", false), ("NoName", false), ("NoPrime", false), ("NoSpot", false), ("NoString", false), ("NoText", false), ("NoWord", false), ("NothingDone", false), ("TooMany", false)] "NoString" = some false := by decide
  have h13 : tb [("KnotError", false), ("NameTaken", false), ("NoBraid", false), ("NoDrawing", false), ("NoFit", false), ("NoLength", false), ("NoMark", false), ("NoMove", false), ("NoName", false), ("NoPrime", false), ("NoSpot", false), ("NoString", false), ("NoText", false), ("NoWord", true), ("NothingDone", false), ("TooMany", false)] "NoString" = some false := by decide
  have h14 : tb [("KnotError", false), ("NameTaken", false), ("NoBraid", false), ("NoDrawing", false), ("NoFit", false), ("NoLength", false), ("NoMark", false), ("NoMove", false), ("NoName", false), ("NoPrime", false), ("NoSpot", false), ("NoString", false), ("NoText", false), ("NoWord", false), ("NothingDone", true), ("TooMany", false)] "NoString" = some false := by decide
  have z1 : (1 : Nat) ≤ sizeLine := by decide
  have z3 : (3 : Nat) ≤ sizeLine := by decide
  have z6 : (6 : Nat) ≤ sizeLine := by decide
  have z9 : (9 : Nat) ≤ sizeLine := by decide
  have z12 : (12 : Nat) ≤ sizeLine := by decide
  have z15 : (15 : Nat) ≤ sizeLine := by decide
  refine Tells.eq ?_
  simp only [F__law_classes, m__law_classes, runD]
  refine Tells.eqI ?_
  simp -implicitDefEqProofs [h0, h1, h2, h3, h4, h5, h6, h7, h8, h9, h10, h11, h12, h13, h14, immL, z3, z6, z9, z12, z15]
theorem clz_NoBraid (ns : List Str) (ds : List D) : F__law_classes κ [.exn "NoBraid" (κ "NoBraid") ns ds] = .ok (.lst [.bl false, .bl false, .bl false, .bl false, .bl false, .bl false, .bl false, .bl false, .bl false, .bl false, .bl true, .bl false, .bl false, .bl false, .bl false]) := by
  have h0 : tb [("KnotError", false), ("NameTaken", false), ("NoBraid", false), ("NoDrawing", true), ("NoFit", false), ("NoLength", false), ("NoMark", false), ("NoMove", false), ("NoName", false), ("NoPrime", false), ("NoSpot", false), ("NoString", false), ("NoText", false), ("NoWord", false), ("NothingDone", false), ("TooMany", false)] "NoBraid" = some false := by decide
  have h1 : tb [("KnotError", false), ("NameTaken", false), ("NoBraid", false), ("NoDrawing", false), ("NoFit", false), ("NoLength", false), ("NoMark", false), ("NoMove", false), ("NoName", false), ("NoPrime", false), ("NoSpot", false), ("NoString", false), ("NoText", true), ("NoWord", false), ("NothingDone", false), ("TooMany", false)] "NoBraid" = some false := by decide
  have h2 : tb [("KnotError", false), ("NameTaken", false), ("NoBraid", false), ("NoDrawing", false), ("NoFit", false), ("NoLength", false), ("NoMark", false), ("NoMove", false), ("NoName", true), ("NoPrime", false), ("NoSpot", false), ("NoString", false), ("NoText", false), ("NoWord", false), ("NothingDone", false), ("TooMany", false)] "NoBraid" = some false := by decide
  have h3 : tb [("KnotError", false), ("NameTaken", true), ("NoBraid", false), ("NoDrawing", false), ("NoFit", false), ("NoLength", false), ("NoMark", false), ("NoMove", false), ("NoName", false), ("NoPrime", false), ("NoSpot", false), ("NoString", false), ("NoText", false), ("NoWord", false), ("NothingDone", false), ("TooMany", false)] "NoBraid" = some false := by decide
  have h4 : tb [("KnotError", false), ("NameTaken", false), ("NoBraid", false), ("NoDrawing", false), ("NoFit", false), ("NoLength", false), ("NoMark", false), ("NoMove", false), ("NoName", false), ("NoPrime", false), ("NoSpot", true), ("NoString", false), ("NoText", false), ("NoWord", false), ("NothingDone", false), ("TooMany", false)] "NoBraid" = some false := by decide
  have h5 : tb [("KnotError", false), ("NameTaken", false), ("NoBraid", false), ("NoDrawing", false), ("NoFit", false), ("NoLength", false), ("NoMark", false), ("NoMove", false), ("NoName", false), ("NoPrime", false), ("NoSpot", false), ("NoString", false), ("NoText", false), ("NoWord", false), ("NothingDone", false), ("TooMany", true)] "NoBraid" = some false := by decide
  have h6 : tb [("KnotError", false), ("NameTaken", false), ("NoBraid", false), ("NoDrawing", false), ("NoFit", true), ("NoLength", false), ("NoMark", false), ("NoMove", false), ("NoName", false), ("NoPrime", false), ("NoSpot", false), ("NoString", false), ("NoText", false), ("NoWord", false), ("NothingDone", false), ("TooMany", false)] "NoBraid" = some false := by decide
  have h7 : tb [("KnotError", false), ("NameTaken", false), ("NoBraid", false), ("NoDrawing", false), ("NoFit", false), ("NoLength", false), ("NoMark", false), ("NoMove", true), ("NoName", false), ("NoPrime", false), ("NoSpot", false), ("NoString", false), ("NoText", false), ("NoWord", false), ("NothingDone", false), ("TooMany", false)] "NoBraid" = some false := by decide
  have h8 : tb [("KnotError", false), ("NameTaken", false), ("NoBraid", false), ("NoDrawing", false), ("NoFit", false), ("NoLength", false), ("NoMark", false), ("NoMove", false), ("NoName", false), ("NoPrime", true), ("NoSpot", false), ("NoString", false), ("NoText", false), ("NoWord", false), ("NothingDone", false), ("TooMany", false)] "NoBraid" = some false := by decide
  have h9 : tb [("KnotError", false), ("NameTaken", false), ("NoBraid", false), ("NoDrawing", false), ("NoFit", false), ("NoLength", false), ("NoMark", false), ("NoMove", false), ("NoName", false), ("NoPrime", false), ("NoSpot", false), ("NoString", true), ("NoText", false), ("NoWord", false), ("NothingDone", false), ("TooMany", false)] "NoBraid" = some false := by decide
  have h10 : tb [("KnotError", false), ("NameTaken", false), ("NoBraid", true), ("NoDrawing", false), ("NoFit", false), ("NoLength", false), ("NoMark", false), ("NoMove", false), ("NoName", false), ("NoPrime", false), ("NoSpot", false), ("NoString", false), ("NoText", false), ("NoWord", false), ("NothingDone", false), ("TooMany", false)] "NoBraid" = some true := by decide
  have h11 : tb [("KnotError", false), ("NameTaken", false), ("NoBraid", false), ("NoDrawing", false), ("NoFit", false), ("NoLength", true), ("NoMark", false), ("NoMove", false), ("NoName", false), ("NoPrime", false), ("NoSpot", false), ("NoString", false), ("NoText", false), ("NoWord", false), ("NothingDone", false), ("TooMany", false)] "NoBraid" = some false := by decide
  have h12 : tb [("KnotError", false), ("NameTaken", false), ("NoBraid", false), ("NoDrawing", false), ("NoFit", false), ("NoLength", false), ("NoMark", true), ("NoMove", false), ("NoName", false), ("NoPrime", false), ("NoSpot", false), ("NoString", false), ("NoText", false), ("NoWord", false), ("NothingDone", false), ("TooMany", false)] "NoBraid" = some false := by decide
  have h13 : tb [("KnotError", false), ("NameTaken", false), ("NoBraid", false), ("NoDrawing", false), ("NoFit", false), ("NoLength", false), ("NoMark", false), ("NoMove", false), ("NoName", false), ("NoPrime", false), ("NoSpot", false), ("NoString", false), ("NoText", false), ("NoWord", true), ("NothingDone", false), ("TooMany", false)] "NoBraid" = some false := by decide
  have h14 : tb [("KnotError", false), ("NameTaken", false), ("NoBraid", false), ("NoDrawing", false), ("NoFit", false), ("NoLength", false), ("NoMark", false), ("NoMove", false), ("NoName", false), ("NoPrime", false), ("NoSpot", false), ("NoString", false), ("NoText", false), ("NoWord", false), ("NothingDone", true), ("TooMany", false)] "NoBraid" = some false := by decide
  have z1 : (1 : Nat) ≤ sizeLine := by decide
  have z3 : (3 : Nat) ≤ sizeLine := by decide
  have z6 : (6 : Nat) ≤ sizeLine := by decide
  have z9 : (9 : Nat) ≤ sizeLine := by decide
  have z12 : (12 : Nat) ≤ sizeLine := by decide
  have z15 : (15 : Nat) ≤ sizeLine := by decide
  refine Tells.eq ?_
  simp only [F__law_classes, m__law_classes, runD]
  refine Tells.eqI ?_
  simp -implicitDefEqProofs [h0, h1, h2, h3, h4, h5, h6, h7, h8, h9, h10, h11, h12, h13, h14, immL, z3, z6, z9, z12, z15]
theorem clz_NoLength (ns : List Str) (ds : List D) : F__law_classes κ [.exn "NoLength" (κ "NoLength") ns ds] = .ok (.lst [.bl false, .bl false, .bl false, .bl false, .bl false, .bl false, .bl false, .bl false, .bl false, .bl false, .bl false, .bl true, .bl false, .bl false, .bl false]) := by
  have h0 : tb [("KnotError", false), ("NameTaken", false), ("NoBraid", false), ("NoDrawing", true), ("NoFit", false), ("NoLength", false), ("NoMark", false), ("NoMove", false), ("NoName", false), ("NoPrime", false), ("NoSpot", false), ("NoString", false), ("NoText", false), ("NoWord", false), ("NothingDone", false), ("TooMany", false)] "NoLength" = some false := by decide
  have h1 : tb [("KnotError", false), ("NameTaken", false), ("NoBraid", false), ("NoDrawing", false), ("NoFit", false), ("NoLength", false), ("NoMark", false), ("NoMove", false), ("NoName", false), ("NoPrime", false), ("NoSpot", false), ("NoString", false), ("NoText", true), ("NoWord", false), ("NothingDone", false), ("TooMany", false)] "NoLength" = some false := by decide
  have h2 : tb [("KnotError", false), ("NameTaken", false), ("NoBraid", false), ("NoDrawing", false), ("NoFit", false), ("NoLength", false), ("NoMark", false), ("NoMove", false), ("NoName", true), ("NoPrime", false), ("NoSpot", false), ("NoString", false), ("NoText", false), ("NoWord", false), ("NothingDone", false), ("TooMany", false)] "NoLength" = some false := by decide
  have h3 : tb [("KnotError", false), ("NameTaken", true), ("NoBraid", false), ("NoDrawing", false), ("NoFit", false), ("NoLength", false), ("NoMark", false), ("NoMove", false), ("NoName", false), ("NoPrime", false), ("NoSpot", false), ("NoString", false), ("NoText", false), ("NoWord", false), ("NothingDone", false), ("TooMany", false)] "NoLength" = some false := by decide
  have h4 : tb [("KnotError", false), ("NameTaken", false), ("NoBraid", false), ("NoDrawing", false), ("NoFit", false), ("NoLength", false), ("NoMark", false), ("NoMove", false), ("NoName", false), ("NoPrime", false), ("NoSpot", true), ("NoString", false), ("NoText", false), ("NoWord", false), ("NothingDone", false), ("TooMany", false)] "NoLength" = some false := by decide
  have h5 : tb [("KnotError", false), ("NameTaken", false), ("NoBraid", false), ("NoDrawing", false), ("NoFit", false), ("NoLength", false), ("NoMark", false), ("NoMove", false), ("NoName", false), ("NoPrime", false), ("NoSpot", false), ("NoString", false), ("NoText", false), ("NoWord", false), ("NothingDone", false), ("TooMany", true)] "NoLength" = some false := by decide
  have h6 : tb [("KnotError", false), ("NameTaken", false), ("NoBraid", false), ("NoDrawing", false), ("NoFit", true), ("NoLength", false), ("NoMark", false), ("NoMove", false), ("NoName", false), ("NoPrime", false), ("NoSpot", false), ("NoString", false), ("NoText", false), ("NoWord", false), ("NothingDone", false), ("TooMany", false)] "NoLength" = some false := by decide
  have h7 : tb [("KnotError", false), ("NameTaken", false), ("NoBraid", false), ("NoDrawing", false), ("NoFit", false), ("NoLength", false), ("NoMark", false), ("NoMove", true), ("NoName", false), ("NoPrime", false), ("NoSpot", false), ("NoString", false), ("NoText", false), ("NoWord", false), ("NothingDone", false), ("TooMany", false)] "NoLength" = some false := by decide
  have h8 : tb [("KnotError", false), ("NameTaken", false), ("NoBraid", false), ("NoDrawing", false), ("NoFit", false), ("NoLength", false), ("NoMark", false), ("NoMove", false), ("NoName", false), ("NoPrime", true), ("NoSpot", false), ("NoString", false), ("NoText", false), ("NoWord", false), ("NothingDone", false), ("TooMany", false)] "NoLength" = some false := by decide
  have h9 : tb [("KnotError", false), ("NameTaken", false), ("NoBraid", false), ("NoDrawing", false), ("NoFit", false), ("NoLength", false), ("NoMark", false), ("NoMove", false), ("NoName", false), ("NoPrime", false), ("NoSpot", false), ("NoString", true), ("NoText", false), ("NoWord", false), ("NothingDone", false), ("TooMany", false)] "NoLength" = some false := by decide
  have h10 : tb [("KnotError", false), ("NameTaken", false), ("NoBraid", true), ("NoDrawing", false), ("NoFit", false), ("NoLength", false), ("NoMark", false), ("NoMove", false), ("NoName", false), ("NoPrime", false), ("NoSpot", false), ("NoString", false), ("NoText", false), ("NoWord", false), ("NothingDone", false), ("TooMany", false)] "NoLength" = some false := by decide
  have h11 : tb [("KnotError", false), ("NameTaken", false), ("NoBraid", false), ("NoDrawing", false), ("NoFit", false), ("NoLength", true), ("NoMark", false), ("NoMove", false), ("NoName", false), ("NoPrime", false), ("NoSpot", false), ("NoString", false), ("NoText", false), ("NoWord", false), ("NothingDone", false), ("TooMany", false)] "NoLength" = some true := by decide
  have h12 : tb [("KnotError", false), ("NameTaken", false), ("NoBraid", false), ("NoDrawing", false), ("NoFit", false), ("NoLength", false), ("NoMark", true), ("NoMove", false), ("NoName", false), ("NoPrime", false), ("NoSpot", false), ("NoString", false), ("NoText", false), ("NoWord", false), ("NothingDone", false), ("TooMany", false)] "NoLength" = some false := by decide
  have h13 : tb [("KnotError", false), ("NameTaken", false), ("NoBraid", false), ("NoDrawing", false), ("NoFit", false), ("NoLength", false), ("NoMark", false), ("NoMove", false), ("NoName", false), ("NoPrime", false), ("NoSpot", false), ("NoString", false), ("NoText", false), ("NoWord", true), ("NothingDone", false), ("TooMany", false)] "NoLength" = some false := by decide
  have h14 : tb [("KnotError", false), ("NameTaken", false), ("NoBraid", false), ("NoDrawing", false), ("NoFit", false), ("NoLength", false), ("NoMark", false), ("NoMove", false), ("NoName", false), ("NoPrime", false), ("NoSpot", false), ("NoString", false), ("NoText", false), ("NoWord", false), ("NothingDone", true), ("TooMany", false)] "NoLength" = some false := by decide
  have z1 : (1 : Nat) ≤ sizeLine := by decide
  have z3 : (3 : Nat) ≤ sizeLine := by decide
  have z6 : (6 : Nat) ≤ sizeLine := by decide
  have z9 : (9 : Nat) ≤ sizeLine := by decide
  have z12 : (12 : Nat) ≤ sizeLine := by decide
  have z15 : (15 : Nat) ≤ sizeLine := by decide
  refine Tells.eq ?_
  simp only [F__law_classes, m__law_classes, runD]
  refine Tells.eqI ?_
  simp -implicitDefEqProofs [h0, h1, h2, h3, h4, h5, h6, h7, h8, h9, h10, h11, h12, h13, h14, immL, z3, z6, z9, z12, z15]
theorem clz_NoMark (ns : List Str) (ds : List D) : F__law_classes κ [.exn "NoMark" (κ "NoMark") ns ds] = .ok (.lst [.bl false, .bl false, .bl false, .bl false, .bl false, .bl false, .bl false, .bl false, .bl false, .bl false, .bl false, .bl false, .bl true, .bl false, .bl false]) := by
  have h0 : tb [("KnotError", false), ("NameTaken", false), ("NoBraid", false), ("NoDrawing", true), ("NoFit", false), ("NoLength", false), ("NoMark", false), ("NoMove", false), ("NoName", false), ("NoPrime", false), ("NoSpot", false), ("NoString", false), ("NoText", false), ("NoWord", false), ("NothingDone", false), ("TooMany", false)] "NoMark" = some false := by decide
  have h1 : tb [("KnotError", false), ("NameTaken", false), ("NoBraid", false), ("NoDrawing", false), ("NoFit", false), ("NoLength", false), ("NoMark", false), ("NoMove", false), ("NoName", false), ("NoPrime", false), ("NoSpot", false), ("NoString", false), ("NoText", true), ("NoWord", false), ("NothingDone", false), ("TooMany", false)] "NoMark" = some false := by decide
  have h2 : tb [("KnotError", false), ("NameTaken", false), ("NoBraid", false), ("NoDrawing", false), ("NoFit", false), ("NoLength", false), ("NoMark", false), ("NoMove", false), ("NoName", true), ("NoPrime", false), ("NoSpot", false), ("NoString", false), ("NoText", false), ("NoWord", false), ("NothingDone", false), ("TooMany", false)] "NoMark" = some false := by decide
  have h3 : tb [("KnotError", false), ("NameTaken", true), ("NoBraid", false), ("NoDrawing", false), ("NoFit", false), ("NoLength", false), ("NoMark", false), ("NoMove", false), ("NoName", false), ("NoPrime", false), ("NoSpot", false), ("NoString", false), ("NoText", false), ("NoWord", false), ("NothingDone", false), ("TooMany", false)] "NoMark" = some false := by decide
  have h4 : tb [("KnotError", false), ("NameTaken", false), ("NoBraid", false), ("NoDrawing", false), ("NoFit", false), ("NoLength", false), ("NoMark", false), ("NoMove", false), ("NoName", false), ("NoPrime", false), ("NoSpot", true), ("NoString", false), ("NoText", false), ("NoWord", false), ("NothingDone", false), ("TooMany", false)] "NoMark" = some false := by decide
  have h5 : tb [("KnotError", false), ("NameTaken", false), ("NoBraid", false), ("NoDrawing", false), ("NoFit", false), ("NoLength", false), ("NoMark", false), ("NoMove", false), ("NoName", false), ("NoPrime", false), ("NoSpot", false), ("NoString", false), ("NoText", false), ("NoWord", false), ("NothingDone", false), ("TooMany", true)] "NoMark" = some false := by decide
  have h6 : tb [("KnotError", false), ("NameTaken", false), ("NoBraid", false), ("NoDrawing", false), ("NoFit", true), ("NoLength", false), ("NoMark", false), ("NoMove", false), ("NoName", false), ("NoPrime", false), ("NoSpot", false), ("NoString", false), ("NoText", false), ("NoWord", false), ("NothingDone", false), ("TooMany", false)] "NoMark" = some false := by decide
  have h7 : tb [("KnotError", false), ("NameTaken", false), ("NoBraid", false), ("NoDrawing", false), ("NoFit", false), ("NoLength", false), ("NoMark", false), ("NoMove", true), ("NoName", false), ("NoPrime", false), ("NoSpot", false), ("NoString", false), ("NoText", false), ("NoWord", false), ("NothingDone", false), ("TooMany", false)] "NoMark" = some false := by decide
  have h8 : tb [("KnotError", false), ("NameTaken", false), ("NoBraid", false), ("NoDrawing", false), ("NoFit", false), ("NoLength", false), ("NoMark", false), ("NoMove", false), ("NoName", false), ("NoPrime", true), ("NoSpot", false), ("NoString", false), ("NoText", false), ("NoWord", false), ("NothingDone", false), ("TooMany", false)] "NoMark" = some false := by decide
  have h9 : tb [("KnotError", false), ("NameTaken", false), ("NoBraid", false), ("NoDrawing", false), ("NoFit", false), ("NoLength", false), ("NoMark", false), ("NoMove", false), ("NoName", false), ("NoPrime", false), ("NoSpot", false), ("NoString", true), ("NoText", false), ("NoWord", false), ("NothingDone", false), ("TooMany", false)] "NoMark" = some false := by decide
  have h10 : tb [("KnotError", false), ("NameTaken", false), ("NoBraid", true), ("NoDrawing", false), ("NoFit", false), ("NoLength", false), ("NoMark", false), ("NoMove", false), ("NoName", false), ("NoPrime", false), ("NoSpot", false), ("NoString", false), ("NoText", false), ("NoWord", false), ("NothingDone", false), ("TooMany", false)] "NoMark" = some false := by decide
  have h11 : tb [("KnotError", false), ("NameTaken", false), ("NoBraid", false), ("NoDrawing", false), ("NoFit", false), ("NoLength", true), ("NoMark", false), ("NoMove", false), ("NoName", false), ("NoPrime", false), ("NoSpot", false), ("NoString", false), ("NoText", false), ("NoWord", false), ("NothingDone", false), ("TooMany", false)] "NoMark" = some false := by decide
  have h12 : tb [("KnotError", false), ("NameTaken", false), ("NoBraid", false), ("NoDrawing", false), ("NoFit", false), ("NoLength", false), ("NoMark", true), ("NoMove", false), ("NoName", false), ("NoPrime", false), ("NoSpot", false), ("NoString", false), ("NoText", false), ("NoWord", false), ("NothingDone", false), ("TooMany", false)] "NoMark" = some true := by decide
  have h13 : tb [("KnotError", false), ("NameTaken", false), ("NoBraid", false), ("NoDrawing", false), ("NoFit", false), ("NoLength", false), ("NoMark", false), ("NoMove", false), ("NoName", false), ("NoPrime", false), ("NoSpot", false), ("NoString", false), ("NoText", false), ("NoWord", true), ("NothingDone", false), ("TooMany", false)] "NoMark" = some false := by decide
  have h14 : tb [("KnotError", false), ("NameTaken", false), ("NoBraid", false), ("NoDrawing", false), ("NoFit", false), ("NoLength", false), ("NoMark", false), ("NoMove", false), ("NoName", false), ("NoPrime", false), ("NoSpot", false), ("NoString", false), ("NoText", false), ("NoWord", false), ("NothingDone", true), ("TooMany", false)] "NoMark" = some false := by decide
  have z1 : (1 : Nat) ≤ sizeLine := by decide
  have z3 : (3 : Nat) ≤ sizeLine := by decide
  have z6 : (6 : Nat) ≤ sizeLine := by decide
  have z9 : (9 : Nat) ≤ sizeLine := by decide
  have z12 : (12 : Nat) ≤ sizeLine := by decide
  have z15 : (15 : Nat) ≤ sizeLine := by decide
  refine Tells.eq ?_
  simp only [F__law_classes, m__law_classes, runD]
  refine Tells.eqI ?_
  simp -implicitDefEqProofs [h0, h1, h2, h3, h4, h5, h6, h7, h8, h9, h10, h11, h12, h13, h14, immL, z3, z6, z9, z12, z15]
theorem clz_NoWord (ns : List Str) (ds : List D) : F__law_classes κ [.exn "NoWord" (κ "NoWord") ns ds] = .ok (.lst [.bl false, .bl false, .bl false, .bl false, .bl false, .bl false, .bl false, .bl false, .bl false, .bl false, .bl false, .bl false, .bl false, .bl true, .bl false]) := by
  have h0 : tb [("KnotError", false), ("NameTaken", false), ("NoBraid", false), ("NoDrawing", true), ("NoFit", false), ("NoLength", false), ("NoMark", false), ("NoMove", false), ("NoName", false), ("NoPrime", false), ("NoSpot", false), ("NoString", false), ("NoText", false), ("NoWord", false), ("NothingDone", false), ("TooMany", false)] "NoWord" = some false := by decide
  have h1 : tb [("KnotError", false), ("NameTaken", false), ("NoBraid", false), ("NoDrawing", false), ("NoFit", false), ("NoLength", false), ("NoMark", false), ("NoMove", false), ("NoName", false), ("NoPrime", false), ("NoSpot", false), ("NoString", false), ("NoText", true), ("NoWord", false), ("NothingDone", false), ("TooMany", false)] "NoWord" = some false := by decide
  have h2 : tb [("KnotError", false), ("NameTaken", false), ("NoBraid", false), ("NoDrawing", false), ("NoFit", false), ("NoLength", false), ("NoMark", false), ("NoMove", false), ("NoName", true), ("NoPrime", false), ("NoSpot", false), ("NoString", false), ("NoText", false), ("NoWord", false), ("NothingDone", false), ("TooMany", false)] "NoWord" = some false := by decide
  have h3 : tb [("KnotError", false), ("NameTaken", true), ("NoBraid", false), ("NoDrawing", false), ("NoFit", false), ("NoLength", false), ("NoMark", false), ("NoMove", false), ("NoName", false), ("NoPrime", false), ("NoSpot", false), ("NoString", false), ("NoText", false), ("NoWord", false), ("NothingDone", false), ("TooMany", false)] "NoWord" = some false := by decide
  have h4 : tb [("KnotError", false), ("NameTaken", false), ("NoBraid", false), ("NoDrawing", false), ("NoFit", false), ("NoLength", false), ("NoMark", false), ("NoMove", false), ("NoName", false), ("NoPrime", false), ("NoSpot", true), ("NoString", false), ("NoText", false), ("NoWord", false), ("NothingDone", false), ("TooMany", false)] "NoWord" = some false := by decide
  have h5 : tb [("KnotError", false), ("NameTaken", false), ("NoBraid", false), ("NoDrawing", false), ("NoFit", false), ("NoLength", false), ("NoMark", false), ("NoMove", false), ("NoName", false), ("NoPrime", false), ("NoSpot", false), ("NoString", false), ("NoText", false), ("NoWord", false), ("NothingDone", false), ("TooMany", true)] "NoWord" = some false := by decide
  have h6 : tb [("KnotError", false), ("NameTaken", false), ("NoBraid", false), ("NoDrawing", false), ("NoFit", true), ("NoLength", false), ("NoMark", false), ("NoMove", false), ("NoName", false), ("NoPrime", false), ("NoSpot", false), ("NoString", false), ("NoText", false), ("NoWord", false), ("NothingDone", false), ("TooMany", false)] "NoWord" = some false := by decide
  have h7 : tb [("KnotError", false), ("NameTaken", false), ("NoBraid", false), ("NoDrawing", false), ("NoFit", false), ("NoLength", false), ("NoMark", false), ("NoMove", true), ("NoName", false), ("NoPrime", false), ("NoSpot", false), ("NoString", false), ("NoText", false), ("NoWord", false), ("NothingDone", false), ("TooMany", false)] "NoWord" = some false := by decide
  have h8 : tb [("KnotError", false), ("NameTaken", false), ("NoBraid", false), ("NoDrawing", false), ("NoFit", false), ("NoLength", false), ("NoMark", false), ("NoMove", false), ("NoName", false), ("NoPrime", true), ("NoSpot", false), ("NoString", false), ("NoText", false), ("NoWord", false), ("NothingDone", false), ("TooMany", false)] "NoWord" = some false := by decide
  have h9 : tb [("KnotError", false), ("NameTaken", false), ("NoBraid", false), ("NoDrawing", false), ("NoFit", false), ("NoLength", false), ("NoMark", false), ("NoMove", false), ("NoName", false), ("NoPrime", false), ("NoSpot", false), ("NoString", true), ("NoText", false), ("NoWord", false), ("NothingDone", false), ("TooMany", false)] "NoWord" = some false := by decide
  have h10 : tb [("KnotError", false), ("NameTaken", false), ("NoBraid", true), ("NoDrawing", false), ("NoFit", false), ("NoLength", false), ("NoMark", false), ("NoMove", false), ("NoName", false), ("NoPrime", false), ("NoSpot", false), ("NoString", false), ("NoText", false), ("NoWord", false), ("NothingDone", false), ("TooMany", false)] "NoWord" = some false := by decide
  have h11 : tb [("KnotError", false), ("NameTaken", false), ("NoBraid", false), ("NoDrawing", false), ("NoFit", false), ("NoLength", true), ("NoMark", false), ("NoMove", false), ("NoName", false), ("NoPrime", false), ("NoSpot", false), ("NoString", false), ("NoText", false), ("NoWord", false), ("NothingDone", false), ("TooMany", false)] "NoWord" = some false := by decide
  have h12 : tb [("KnotError", false), ("NameTaken", false), ("NoBraid", false), ("NoDrawing", false), ("NoFit", false), ("NoLength", false), ("NoMark", true), ("NoMove", false), ("NoName", false), ("NoPrime", false), ("NoSpot", false), ("NoString", false), ("NoText", false), ("NoWord", false), ("NothingDone", false), ("TooMany", false)] "NoWord" = some false := by decide
  have h13 : tb [("KnotError", false), ("NameTaken", false), ("NoBraid", false), ("NoDrawing", false), ("NoFit", false), ("NoLength", false), ("NoMark", false), ("NoMove", false), ("NoName", false), ("NoPrime", false), ("NoSpot", false), ("NoString", false), ("NoText", false), ("NoWord", true), ("NothingDone", false), ("TooMany", false)] "NoWord" = some true := by decide
  have h14 : tb [("KnotError", false), ("NameTaken", false), ("NoBraid", false), ("NoDrawing", false), ("NoFit", false), ("NoLength", false), ("NoMark", false), ("NoMove", false), ("NoName", false), ("NoPrime", false), ("NoSpot", false), ("NoString", false), ("NoText", false), ("NoWord", false), ("NothingDone", true), ("TooMany", false)] "NoWord" = some false := by decide
  have z1 : (1 : Nat) ≤ sizeLine := by decide
  have z3 : (3 : Nat) ≤ sizeLine := by decide
  have z6 : (6 : Nat) ≤ sizeLine := by decide
  have z9 : (9 : Nat) ≤ sizeLine := by decide
  have z12 : (12 : Nat) ≤ sizeLine := by decide
  have z15 : (15 : Nat) ≤ sizeLine := by decide
  refine Tells.eq ?_
  simp only [F__law_classes, m__law_classes, runD]
  refine Tells.eqI ?_
  simp -implicitDefEqProofs [h0, h1, h2, h3, h4, h5, h6, h7, h8, h9, h10, h11, h12, h13, h14, immL, z3, z6, z9, z12, z15]
theorem clz_NothingDone (ns : List Str) (ds : List D) : F__law_classes κ [.exn "NothingDone" (κ "NothingDone") ns ds] = .ok (.lst [.bl false, .bl false, .bl false, .bl false, .bl false, .bl false, .bl false, .bl false, .bl false, .bl false, .bl false, .bl false, .bl false, .bl false, .bl true]) := by
  have h0 : tb [("KnotError", false), ("NameTaken", false), ("NoBraid", false), ("NoDrawing", true), ("NoFit", false), ("NoLength", false), ("NoMark", false), ("NoMove", false), ("NoName", false), ("NoPrime", false), ("NoSpot", false), ("NoString", false), ("NoText", false), ("NoWord", false), ("NothingDone", false), ("TooMany", false)] "NothingDone" = some false := by decide
  have h1 : tb [("KnotError", false), ("NameTaken", false), ("NoBraid", false), ("NoDrawing", false), ("NoFit", false), ("NoLength", false), ("NoMark", false), ("NoMove", false), ("NoName", false), ("NoPrime", false), ("NoSpot", false), ("NoString", false), ("NoText", true), ("NoWord", false), ("NothingDone", false), ("TooMany", false)] "NothingDone" = some false := by decide
  have h2 : tb [("KnotError", false), ("NameTaken", false), ("NoBraid", false), ("NoDrawing", false), ("NoFit", false), ("NoLength", false), ("NoMark", false), ("NoMove", false), ("NoName", true), ("NoPrime", false), ("NoSpot", false), ("NoString", false), ("NoText", false), ("NoWord", false), ("NothingDone", false), ("TooMany", false)] "NothingDone" = some false := by decide
  have h3 : tb [("KnotError", false), ("NameTaken", true), ("NoBraid", false), ("NoDrawing", false), ("NoFit", false), ("NoLength", false), ("NoMark", false), ("NoMove", false), ("NoName", false), ("NoPrime", false), ("NoSpot", false), ("NoString", false), ("NoText", false), ("NoWord", false), ("NothingDone", false), ("TooMany", false)] "NothingDone" = some false := by decide
  have h4 : tb [("KnotError", false), ("NameTaken", false), ("NoBraid", false), ("NoDrawing", false), ("NoFit", false), ("NoLength", false), ("NoMark", false), ("NoMove", false), ("NoName", false), ("NoPrime", false), ("NoSpot", true), ("NoString", false), ("NoText", false), ("NoWord", false), ("NothingDone", false), ("TooMany", false)] "NothingDone" = some false := by decide
  have h5 : tb [("KnotError", false), ("NameTaken", false), ("NoBraid", false), ("NoDrawing", false), ("NoFit", false), ("NoLength", false), ("NoMark", false), ("NoMove", false), ("NoName", false), ("NoPrime", false), ("NoSpot", false), ("NoString", false), ("NoText", false), ("NoWord", false), ("NothingDone", false), ("TooMany", true)] "NothingDone" = some false := by decide
  have h6 : tb [("KnotError", false), ("NameTaken", false), ("NoBraid", false), ("NoDrawing", false), ("NoFit", true), ("NoLength", false), ("NoMark", false), ("NoMove", false), ("NoName", false), ("NoPrime", false), ("NoSpot", false), ("NoString", false), ("NoText", false), ("NoWord", false), ("NothingDone", false), ("TooMany", false)] "NothingDone" = some false := by decide
  have h7 : tb [("KnotError", false), ("NameTaken", false), ("NoBraid", false), ("NoDrawing", false), ("NoFit", false), ("NoLength", false), ("NoMark", false), ("NoMove", true), ("NoName", false), ("NoPrime", false), ("NoSpot", false), ("NoString", false), ("NoText", false), ("NoWord", false), ("NothingDone", false), ("TooMany", false)] "NothingDone" = some false := by decide
  have h8 : tb [("KnotError", false), ("NameTaken", false), ("NoBraid", false), ("NoDrawing", false), ("NoFit", false), ("NoLength", false), ("NoMark", false), ("NoMove", false), ("NoName", false), ("NoPrime", true), ("NoSpot", false), ("NoString", false), ("NoText", false), ("NoWord", false), ("NothingDone", false), ("TooMany", false)] "NothingDone" = some false := by decide
  have h9 : tb [("KnotError", false), ("NameTaken", false), ("NoBraid", false), ("NoDrawing", false), ("NoFit", false), ("NoLength", false), ("NoMark", false), ("NoMove", false), ("NoName", false), ("NoPrime", false), ("NoSpot", false), ("NoString", true), ("NoText", false), ("NoWord", false), ("NothingDone", false), ("TooMany", false)] "NothingDone" = some false := by decide
  have h10 : tb [("KnotError", false), ("NameTaken", false), ("NoBraid", true), ("NoDrawing", false), ("NoFit", false), ("NoLength", false), ("NoMark", false), ("NoMove", false), ("NoName", false), ("NoPrime", false), ("NoSpot", false), ("NoString", false), ("NoText", false), ("NoWord", false), ("NothingDone", false), ("TooMany", false)] "NothingDone" = some false := by decide
  have h11 : tb [("KnotError", false), ("NameTaken", false), ("NoBraid", false), ("NoDrawing", false), ("NoFit", false), ("NoLength", true), ("NoMark", false), ("NoMove", false), ("NoName", false), ("NoPrime", false), ("NoSpot", false), ("NoString", false), ("NoText", false), ("NoWord", false), ("NothingDone", false), ("TooMany", false)] "NothingDone" = some false := by decide
  have h12 : tb [("KnotError", false), ("NameTaken", false), ("NoBraid", false), ("NoDrawing", false), ("NoFit", false), ("NoLength", false), ("NoMark", true), ("NoMove", false), ("NoName", false), ("NoPrime", false), ("NoSpot", false), ("NoString", false), ("NoText", false), ("NoWord", false), ("NothingDone", false), ("TooMany", false)] "NothingDone" = some false := by decide
  have h13 : tb [("KnotError", false), ("NameTaken", false), ("NoBraid", false), ("NoDrawing", false), ("NoFit", false), ("NoLength", false), ("NoMark", false), ("NoMove", false), ("NoName", false), ("NoPrime", false), ("NoSpot", false), ("NoString", false), ("NoText", false), ("NoWord", true), ("NothingDone", false), ("TooMany", false)] "NothingDone" = some false := by decide
  have h14 : tb [("KnotError", false), ("NameTaken", false), ("NoBraid", false), ("NoDrawing", false), ("NoFit", false), ("NoLength", false), ("NoMark", false), ("NoMove", false), ("NoName", false), ("NoPrime", false), ("NoSpot", false), ("NoString", false), ("NoText", false), ("NoWord", false), ("NothingDone", true), ("TooMany", false)] "NothingDone" = some true := by decide
  have z1 : (1 : Nat) ≤ sizeLine := by decide
  have z3 : (3 : Nat) ≤ sizeLine := by decide
  have z6 : (6 : Nat) ≤ sizeLine := by decide
  have z9 : (9 : Nat) ≤ sizeLine := by decide
  have z12 : (12 : Nat) ≤ sizeLine := by decide
  have z15 : (15 : Nat) ≤ sizeLine := by decide
  refine Tells.eq ?_
  simp only [F__law_classes, m__law_classes, runD]
  refine Tells.eqI ?_
  simp -implicitDefEqProofs [h0, h1, h2, h3, h4, h5, h6, h7, h8, h9, h10, h11, h12, h13, h14, immL, z3, z6, z9, z12, z15]
theorem clz_KnotError (ns : List Str) (ds : List D) : F__law_classes κ [.exn "KnotError" (κ "KnotError") ns ds] = .ok (.lst [.bl false, .bl false, .bl false, .bl false, .bl false, .bl false, .bl false, .bl false, .bl false, .bl false, .bl false, .bl false, .bl false, .bl false, .bl false]) := by
  have h0 : tb [("KnotError", false), ("NameTaken", false), ("NoBraid", false), ("NoDrawing", true), ("NoFit", false), ("NoLength", false), ("NoMark", false), ("NoMove", false), ("NoName", false), ("NoPrime", false), ("NoSpot", false), ("NoString", false), ("NoText", false), ("NoWord", false), ("NothingDone", false), ("TooMany", false)] "KnotError" = some false := by decide
  have h1 : tb [("KnotError", false), ("NameTaken", false), ("NoBraid", false), ("NoDrawing", false), ("NoFit", false), ("NoLength", false), ("NoMark", false), ("NoMove", false), ("NoName", false), ("NoPrime", false), ("NoSpot", false), ("NoString", false), ("NoText", true), ("NoWord", false), ("NothingDone", false), ("TooMany", false)] "KnotError" = some false := by decide
  have h2 : tb [("KnotError", false), ("NameTaken", false), ("NoBraid", false), ("NoDrawing", false), ("NoFit", false), ("NoLength", false), ("NoMark", false), ("NoMove", false), ("NoName", true), ("NoPrime", false), ("NoSpot", false), ("NoString", false), ("NoText", false), ("NoWord", false), ("NothingDone", false), ("TooMany", false)] "KnotError" = some false := by decide
  have h3 : tb [("KnotError", false), ("NameTaken", true), ("NoBraid", false), ("NoDrawing", false), ("NoFit", false), ("NoLength", false), ("NoMark", false), ("NoMove", false), ("NoName", false), ("NoPrime", false), ("NoSpot", false), ("NoString", false), ("NoText", false), ("NoWord", false), ("NothingDone", false), ("TooMany", false)] "KnotError" = some false := by decide
  have h4 : tb [("KnotError", false), ("NameTaken", false), ("NoBraid", false), ("NoDrawing", false), ("NoFit", false), ("NoLength", false), ("NoMark", false), ("NoMove", false), ("NoName", false), ("NoPrime", false), ("NoSpot", true), ("NoString", false), ("NoText", false), ("NoWord", false), ("NothingDone", false), ("TooMany", false)] "KnotError" = some false := by decide
  have h5 : tb [("KnotError", false), ("NameTaken", false), ("NoBraid", false), ("NoDrawing", false), ("NoFit", false), ("NoLength", false), ("NoMark", false), ("NoMove", false), ("NoName", false), ("NoPrime", false), ("NoSpot", false), ("NoString", false), ("NoText", false), ("NoWord", false), ("NothingDone", false), ("TooMany", true)] "KnotError" = some false := by decide
  have h6 : tb [("KnotError", false), ("NameTaken", false), ("NoBraid", false), ("NoDrawing", false), ("NoFit", true), ("NoLength", false), ("NoMark", false), ("NoMove", false), ("NoName", false), ("NoPrime", false), ("NoSpot", false), ("NoString", false), ("NoText", false), ("NoWord", false), ("NothingDone", false), ("TooMany", false)] "KnotError" = some false := by decide
  have h7 : tb [("KnotError", false), ("NameTaken", false), ("NoBraid", false), ("NoDrawing", false), ("NoFit", false), ("NoLength", false), ("NoMark", false), ("NoMove", true), ("NoName", false), ("NoPrime", false), ("NoSpot", false), ("NoString", false), ("NoText", false), ("NoWord", false), ("NothingDone", false), ("TooMany", false)] "KnotError" = some false := by decide
  have h8 : tb [("KnotError", false), ("NameTaken", false), ("NoBraid", false), ("NoDrawing", false), ("NoFit", false), ("NoLength", false), ("NoMark", false), ("NoMove", false), ("NoName", false), ("NoPrime", true), ("NoSpot", false), ("NoString", false), ("NoText", false), ("NoWord", false), ("NothingDone", false), ("TooMany", false)] "KnotError" = some false := by decide
  have h9 : tb [("KnotError", false), ("NameTaken", false), ("NoBraid", false), ("NoDrawing", false), ("NoFit", false), ("NoLength", false), ("NoMark", false), ("NoMove", false), ("NoName", false), ("NoPrime", false), ("NoSpot", false), ("NoString", true), ("NoText", false), ("NoWord", false), ("NothingDone", false), ("TooMany", false)] "KnotError" = some false := by decide
  have h10 : tb [("KnotError", false), ("NameTaken", false), ("NoBraid", true), ("NoDrawing", false), ("NoFit", false), ("NoLength", false), ("NoMark", false), ("NoMove", false), ("NoName", false), ("NoPrime", false), ("NoSpot", false), ("NoString", false), ("NoText", false), ("NoWord", false), ("NothingDone", false), ("TooMany", false)] "KnotError" = some false := by decide
  have h11 : tb [("KnotError", false), ("NameTaken", false), ("NoBraid", false), ("NoDrawing", false), ("NoFit", false), ("NoLength", true), ("NoMark", false), ("NoMove", false), ("NoName", false), ("NoPrime", false), ("NoSpot", false), ("NoString", false), ("NoText", false), ("NoWord", false), ("NothingDone", false), ("TooMany", false)] "KnotError" = some false := by decide
  have h12 : tb [("KnotError", false), ("NameTaken", false), ("NoBraid", false), ("NoDrawing", false), ("NoFit", false), ("NoLength", false), ("NoMark", true), ("NoMove", false), ("NoName", false), ("NoPrime", false), ("NoSpot", false), ("NoString", false), ("NoText", false), ("NoWord", false), ("NothingDone", false), ("TooMany", false)] "KnotError" = some false := by decide
  have h13 : tb [("KnotError", false), ("NameTaken", false), ("NoBraid", false), ("NoDrawing", false), ("NoFit", false), ("NoLength", false), ("NoMark", false), ("NoMove", false), ("NoName", false), ("NoPrime", false), ("NoSpot", false), ("NoString", false), ("NoText", false), ("NoWord", true), ("NothingDone", false), ("TooMany", false)] "KnotError" = some false := by decide
  have h14 : tb [("KnotError", false), ("NameTaken", false), ("NoBraid", false), ("NoDrawing", false), ("NoFit", false), ("NoLength", false), ("NoMark", false), ("NoMove", false), ("NoName", false), ("NoPrime", false), ("NoSpot", false), ("NoString", false), ("NoText", false), ("NoWord", false), ("NothingDone", true), ("TooMany", false)] "KnotError" = some false := by decide
  have z1 : (1 : Nat) ≤ sizeLine := by decide
  have z3 : (3 : Nat) ≤ sizeLine := by decide
  have z6 : (6 : Nat) ≤ sizeLine := by decide
  have z9 : (9 : Nat) ≤ sizeLine := by decide
  have z12 : (12 : Nat) ≤ sizeLine := by decide
  have z15 : (15 : Nat) ≤ sizeLine := by decide
  refine Tells.eq ?_
  simp only [F__law_classes, m__law_classes, runD]
  refine Tells.eqI ?_
  simp -implicitDefEqProofs [h0, h1, h2, h3, h4, h5, h6, h7, h8, h9, h10, h11, h12, h13, h14, immL, z3, z6, z9, z12, z15]
end
def wl06 : List Str := ["strings", "name", "way", "hand", "twice", "lone", "hands", "many"]
def ok06 (r : Res D) (i : Bool) : Bool := match r with
  | .ok (.bl j) => decide (j = i)
  | _ => false
theorem ok06_eq {r : Res D} {i : Bool} (h : ok06 r i = true) : r = .ok (.bl i) := by
  unfold ok06 at h
  split at h
  · rw [of_decide_eq_true h]
  · cases h
theorem w06 (i : Nat) (h : i < 8) : ∃ w : Str, wl06[i]? = some w ∧ gNe (.str w) (.str w) = .ok (.bl false) ∧ w.length ≤ sizeLine := by
  match i, h with
  | 0, _ => exact ⟨"strings", rfl, ok06_eq (by decide +kernel), by decide +kernel⟩
  | 1, _ => exact ⟨"name", rfl, ok06_eq (by decide +kernel), by decide +kernel⟩
  | 2, _ => exact ⟨"way", rfl, ok06_eq (by decide +kernel), by decide +kernel⟩
  | 3, _ => exact ⟨"hand", rfl, ok06_eq (by decide +kernel), by decide +kernel⟩
  | 4, _ => exact ⟨"twice", rfl, ok06_eq (by decide +kernel), by decide +kernel⟩
  | 5, _ => exact ⟨"lone", rfl, ok06_eq (by decide +kernel), by decide +kernel⟩
  | 6, _ => exact ⟨"hands", rfl, ok06_eq (by decide +kernel), by decide +kernel⟩
  | 7, _ => exact ⟨"many", rfl, ok06_eq (by decide +kernel), by decide +kernel⟩
def el06 (κ : Str → Addr) (w : Str) (a b c : Int) : List D := [.exn "NoDrawing" (κ "NoDrawing") ["place", "word"] [.int a, .str w], .exn "NoText" (κ "NoText") ["at", "line"] [.int c, .int b], .exn "NoName" (κ "NoName") [] [], .exn "NameTaken" (κ "NameTaken") [] [], .exn "NoSpot" (κ "NoSpot") [] [], .exn "TooMany" (κ "TooMany") [] [], .exn "NoFit" (κ "NoFit") [] [], .exn "NoMove" (κ "NoMove") [] [], .exn "NoPrime" (κ "NoPrime") [] [], .exn "NoString" (κ "NoString") [] [], .exn "NoBraid" (κ "NoBraid") [] [], .exn "NoLength" (κ "NoLength") [] [], .exn "NoMark" (κ "NoMark") [] [], .exn "NoWord" (κ "NoWord") [] [], .exn "NothingDone" (κ "NothingDone") [] []]
theorem err06 (κ : Str → Addr) (w x : Str) (a b c : Int) : F__law_errors κ [.str w, .int a, .int b, .int c, .str x] = .ok (.lst (el06 κ w a b c)) := by
  have z5 : (5 : Nat) ≤ sizeLine := by decide
  have z10 : (10 : Nat) ≤ sizeLine := by decide
  have z15 : (15 : Nat) ≤ sizeLine := by decide
  refine Tells.eq ?_
  simp only [F__law_errors, m__law_errors, runD]
  refine Tells.eqI ?_
  simp -implicitDefEqProofs [z5, z10, z15, el06]
def all06 : List (Str × Bool) := [("KnotError", true), ("NameTaken", true), ("NoBraid", true), ("NoDrawing", true), ("NoFit", true), ("NoLength", true), ("NoMark", true), ("NoMove", true), ("NoName", true), ("NoPrime", true), ("NoSpot", true), ("NoString", true), ("NoText", true), ("NoWord", true), ("NothingDone", true), ("TooMany", true)]
theorem at06 (κ : Str → Addr) (w : Str) (a b c : Int) (i : Nat) (h : i < 15) : ∃ (s : Str) (ns : List Str) (ds : List D), (el06 κ w a b c)[i]? = some (.exn s (κ s) ns ds) ∧ tb all06 s = some true ∧ F__law_classes κ [.exn s (κ s) ns ds] = .ok (.lst ((List.range 15).map fun j : Nat => D.bl (decide ((i : Int) = (j : Int))))) := by
  match i, h with
  | 0, _ => exact ⟨"NoDrawing", _, _, rfl, by decide, (clz_NoDrawing κ _ _).trans rfl⟩
  | 1, _ => exact ⟨"NoText", _, _, rfl, by decide, (clz_NoText κ _ _).trans rfl⟩
  | 2, _ => exact ⟨"NoName", _, _, rfl, by decide, (clz_NoName κ _ _).trans rfl⟩
  | 3, _ => exact ⟨"NameTaken", _, _, rfl, by decide, (clz_NameTaken κ _ _).trans rfl⟩
  | 4, _ => exact ⟨"NoSpot", _, _, rfl, by decide, (clz_NoSpot κ _ _).trans rfl⟩
  | 5, _ => exact ⟨"TooMany", _, _, rfl, by decide, (clz_TooMany κ _ _).trans rfl⟩
  | 6, _ => exact ⟨"NoFit", _, _, rfl, by decide, (clz_NoFit κ _ _).trans rfl⟩
  | 7, _ => exact ⟨"NoMove", _, _, rfl, by decide, (clz_NoMove κ _ _).trans rfl⟩
  | 8, _ => exact ⟨"NoPrime", _, _, rfl, by decide, (clz_NoPrime κ _ _).trans rfl⟩
  | 9, _ => exact ⟨"NoString", _, _, rfl, by decide, (clz_NoString κ _ _).trans rfl⟩
  | 10, _ => exact ⟨"NoBraid", _, _, rfl, by decide, (clz_NoBraid κ _ _).trans rfl⟩
  | 11, _ => exact ⟨"NoLength", _, _, rfl, by decide, (clz_NoLength κ _ _).trans rfl⟩
  | 12, _ => exact ⟨"NoMark", _, _, rfl, by decide, (clz_NoMark κ _ _).trans rfl⟩
  | 13, _ => exact ⟨"NoWord", _, _, rfl, by decide, (clz_NoWord κ _ _).trans rfl⟩
  | 14, _ => exact ⟨"NothingDone", _, _, rfl, by decide, (clz_NothingDone κ _ _).trans rfl⟩

/-! ### a loop that looks -/
theorem for_of {it : Mir.Env → Res (List D)} {t : Nat → D → Mir.Env → Res Mir.Env} {b : Mir.Env → Res Ctl} {fg : List Nat} {env : Mir.Env} {ds : List D} {r : Res Ctl} (h : it env = .ok ds) (hl : loop t b fg ds env = r) : mFor it t b fg env = r := by
  unfold mFor
  rw [h]; exact hl
theorem look_ok {α : Type} {t : Nat → D → Mir.Env → Res Mir.Env} {body : Mir.Env → Res Ctl} {fg : List Nat} {env : Mir.Env} (enc : α → D) : ∀ (xs : List α), (∀ a ∈ xs, (t 0 (enc a) env >>= fun e => body e >>= stepc fg) = .ok env) → loop t body fg (xs.map enc) env = .ok (.nx env)
  | [], _ => rfl
  | x :: xs, h => by
    rw [List.map_cons, loop_step (h x List.mem_cons_self)]
    exact look_ok enc xs fun a ha => h a (List.mem_cons_of_mem _ ha)
theorem for_look {α : Type} {it : Mir.Env → Res (List D)} {t : Nat → D → Mir.Env → Res Mir.Env} {body : Mir.Env → Res Ctl} {fg : List Nat} {env : Mir.Env} (enc : α → D) (xs : List α) (hit : it env = .ok (xs.map enc)) (hs : ∀ a ∈ xs, (t 0 (enc a) env >>= fun e => body e >>= stepc fg) = .ok env) : mFor it t body fg env = .ok (.nx env) := for_of hit (look_ok enc xs hs)
theorem gEq_i (a b : Int) : gEq (.int a) (.int b) = .ok (.bl (decide (a = b))) := gEq_enc (α := Int) a b (by decide)
theorem gNe_i06 (a : Int) : gNe (.int a) (.int a) = .ok (.bl false) := by
  have := gNe_enc (α := Int) a a (by decide)
  rw [decide_eq_true (rfl : a = a)] at this
  exact this

/-! ### law k06 -/
def lpB06 (κ : Str → Addr) : Mir.Env → Res Ctl := (mSeq (mIf (mOrB (mNotB (mTb (mIsO κ (tb all06) (mOp gIx (mVar 6) (mVar 7))))) (mNotB (mTb (mIsO κ (tb all06) (mOp gIx (mVar 6) (mVar 7)))))) (mRet (mC (.bl false))) mSkip) (mIf (mTb (mOp gNe (mCall 1 (F__law_classes κ) (mConsA (mOp gIx (mVar 6) (mVar 7)) mNilA)) (mLc (fun env => (mC (.int 15)) env >>= gRng1) (tName 9) (fun _ => .ok true) (mOp gEq (mVar 7) (mVar 9)) [9]))) (mRet (mC (.bl false))) mSkip))
theorem row06 (i : Nat) (h : i < 15) : ∃ BL : List D, BL = (List.range 15).map (fun j : Nat => D.bl (decide ((i : Int) = (j : Int)))) ∧ immAll BL = true ∧ gNe (.lst BL) (.lst BL) = .ok (.bl false) ∧ BL.length ≤ sizeLine := by
  refine ⟨_, rfl, by rw [e_immAll_map, List.all_eq_true]; intro _ _; rfl, ?_, sizeLine_big (by simp)⟩
  match i, h with
  | 0, _ => exact ok06_eq (by decide +kernel)
  | 1, _ => exact ok06_eq (by decide +kernel)
  | 2, _ => exact ok06_eq (by decide +kernel)
  | 3, _ => exact ok06_eq (by decide +kernel)
  | 4, _ => exact ok06_eq (by decide +kernel)
  | 5, _ => exact ok06_eq (by decide +kernel)
  | 6, _ => exact ok06_eq (by decide +kernel)
  | 7, _ => exact ok06_eq (by decide +kernel)
  | 8, _ => exact ok06_eq (by decide +kernel)
  | 9, _ => exact ok06_eq (by decide +kernel)
  | 10, _ => exact ok06_eq (by decide +kernel)
  | 11, _ => exact ok06_eq (by decide +kernel)
  | 12, _ => exact ok06_eq (by decide +kernel)
  | 13, _ => exact ok06_eq (by decide +kernel)
  | 14, _ => exact ok06_eq (by decide +kernel)
theorem lp06 (κ : Str → Addr) (w : Str) (a b c : Int) (x0 x1 x2 x3 x4 x5 : Option (Nat × D)) (i : Nat) (hi : i < 15) : (tName 7 0 (.int (i : Int)) [x0, x1, x2, x3, x4, x5, some (1, .lst (el06 κ w a b c)), none, none, none] >>= fun e => lpB06 κ e >>= stepc [7, 9]) = .ok [x0, x1, x2, x3, x4, x5, some (1, .lst (el06 κ w a b c)), none, none, none] := by
  obtain ⟨s, ns, ds, h1, h2, h3⟩ := at06 κ w a b c i hi
  have hg : gRng1 (.int 15) = .ok ((List.range 15).map fun i : Nat => D.int (i : Int)) := gRng1_d (n := 15) (by decide)
  have gx : gIx (.lst (el06 κ w a b c)) (.int (i : Int)) = .ok (.exn s (κ s) ns ds) := by
    have := gIx_map (f := fun d : D => d) h1
    rwa [List.map_id'] at this
  obtain ⟨BL, e1, e2, e3, e4⟩ := row06 i hi
  rw [← e1] at h3
  have hlc := fun (env : Mir.Env) (h : env = [x0, x1, x2, x3, x4, x5, some (1, D.lst (el06 κ w a b c)), some (0, .int (i : Int)), none, none]) => lc_all (t := tName 9) (me := mOp gEq (mVar 7) (mVar 9)) (env := env) (fun j : Nat => D.int (j : Int)) (fun j : Nat => D.bl (decide ((i : Int) = (j : Int)))) (List.range 15) (fun j hj => by
    have q := gEq_i (i : Int) (j : Int)
    rw [h]
    generalize D.lst (el06 κ w a b c) = EL at *
    simp -implicitDefEqProofs [q, -e_gEq_int])
  have hlc := hlc _ rfl
  rw [← e1] at hlc
  have eB : BL.length ≤ sizeLine := e4
  generalize D.lst (el06 κ w a b c) = EL at *
  unfold lpB06
  generalize (List.range 15).map (fun i : Nat => D.int (i : Int)) = RL at *
  simp -implicitDefEqProofs [gx, h2, h3, e2, e3, hg, e_mLc, hlc, eB]
theorem law_true (κ : Str → Addr) (vs : List Int) (hns : vs.length ≤ 63) : F_law κ [.lst (vs.map D.int)] = .ok (.bl true) := by
  have c0 : F__law_cell [.lst (vs.map D.int), .int 0] = _ := cell_z vs 0
  have c1 : F__law_cell [.lst (vs.map D.int), .int 1] = _ := cell_z vs 1
  have c2 : F__law_cell [.lst (vs.map D.int), .int 2] = _ := cell_z vs 2
  have c3 : F__law_cell [.lst (vs.map D.int), .int 3] = _ := cell_z vs 3
  have c4 : F__law_cell [.lst (vs.map D.int), .int 4] = _ := cell_z vs 4
  generalize vs.getD 0 0 = v0 at c0
  generalize vs.getD 1 0 = v1 at c1
  generalize vs.getD 2 0 = v2 at c2
  generalize vs.getD 3 0 = v3 at c3
  generalize vs.getD 4 0 = v4 at c4
  generalize D.lst (vs.map D.int) = A at *
  obtain ⟨i, hi, hi8⟩ : ∃ i : Nat, v0 % 8 = (i : Int) ∧ i < 8 := ⟨(v0 % 8).toNat, by omega, by omega⟩
  obtain ⟨w, hw, hww, hwl⟩ := w06 i hi8
  have gxw : gIx (.lst (wl06.map D.str)) (.int (i : Int)) = .ok (.str w) := gIx_map hw
  have ewl : wl06.map D.str = [.str "strings", .str "name", .str "way", .str "hand", .str "twice", .str "lone", .str "hands", .str "many"] := rfl
  have m8 := e_gMod v0 8 (by decide)
  rw [hi] at m8
  have p6 : gPow (.int 10) (.int 6) = .ok (.int 1000000) := by
    show (if (0 : Int) ≤ 6 ∧ (6 : Int) ≤ 1000000 ∧ (10 : Int).natAbs < 2 ^ 64 then Res.ok (D.int ((10 : Int) ^ (6 : Int).toNat)) else .bad) = _
    rw [if_pos (by decide)]
    rfl
  have m1 := e_gMod v1 1000001 (by decide)
  have m2 := e_gMod v2 1000001 (by decide)
  have m3 := e_gMod v3 1000001 (by decide)
  have m4 := e_gMod v4 4 (by decide)
  obtain ⟨a, ha⟩ : ∃ a, a = v1 % 1000001 := ⟨_, rfl⟩
  obtain ⟨b, hb⟩ : ∃ b, b = v2 % 1000001 := ⟨_, rfl⟩
  obtain ⟨c, hc⟩ : ∃ c, c = v3 % 1000001 := ⟨_, rfl⟩
  rw [← ha] at m1
  rw [← hb] at m2
  rw [← hc] at m3
  obtain ⟨x, hx⟩ : ∃ x, gCutS (.str w) (some (v4 % 4)) none = .ok (.str x) := ⟨_, if_pos hwl⟩
  have he := err06 κ w x a b c
  have z8 : (8 : Nat) ≤ sizeLine := by decide
  have hg : gRng1 (.int 15) = .ok ((List.range 15).map fun i : Nat => D.int (i : Int)) := gRng1_d (n := 15) (by decide)
  have g0 : gIx (.lst (el06 κ w a b c)) (.int 0) = .ok (.exn "NoDrawing" (κ "NoDrawing") ["place", "word"] [.int a, .str w]) := rfl
  have g1 : gIx (.lst (el06 κ w a b c)) (.int 1) = .ok (.exn "NoText" (κ "NoText") ["at", "line"] [.int c, .int b]) := rfl
  have l0 : ((["place", "word"] : List Str).zip [D.int a, D.str w]).lookup ("word" : Str) = some (D.str w) := rfl
  have l1 : ((["place", "word"] : List Str).zip [D.int a, D.str w]).lookup ("place" : Str) = some (D.int a) := rfl
  have l2 : ((["at", "line"] : List Str).zip [D.int c, D.int b]).lookup ("line" : Str) = some (D.int b) := rfl
  have l3 : ((["at", "line"] : List Str).zip [D.int c, D.int b]).lookup ("at" : Str) = some (D.int c) := rfl
  have qa := gNe_i06 a
  have qb := gNe_i06 b
  have qc := gNe_i06 c
  have wa : F__law_whole [.int a] = .ok (.bl true) := rfl
  have wb : F__law_whole [.int b] = .ok (.bl true) := rfl
  have tK : tb all06 "KnotError" = some true := by decide
  have hK := clz_KnotError κ [] []
  refine Tells.eq ?_
  simp only [F_law, m_law, runD]
  refine t_seq (e := [some (0, A), some (1, .lst (wl06.map D.str)), none, none, none, none, none, none, none, none]) (by
    rw [ewl]
    simp -implicitDefEqProofs [z8]) ?_
  clear ewl
  generalize D.lst (wl06.map D.str) = WL at *
  refine t_seq (e := [some (0, A), some (1, WL), some (0, .str w), none, none, none, none, none, none, none]) (by simp -implicitDefEqProofs [c0, m8, gxw]) ?_
  refine t_seq (e := [some (0, A), some (1, WL), some (0, .str w), some (0, .int a), none, none, none, none, none, none]) (by simp -implicitDefEqProofs [c1, p6, m1]) ?_
  refine t_seq (e := [some (0, A), some (1, WL), some (0, .str w), some (0, .int a), some (0, .int b), none, none, none, none, none]) (by simp -implicitDefEqProofs [c2, p6, m2]) ?_
  refine t_seq (e := [some (0, A), some (1, WL), some (0, .str w), some (0, .int a), some (0, .int b), some (0, .int c), none, none, none, none]) (by simp -implicitDefEqProofs [c3, p6, m3]) ?_
  refine t_seq (e := [some (0, A), some (1, WL), some (0, .str w), some (0, .int a), some (0, .int b), some (0, .int c), some (1, .lst (el06 κ w a b c)), none, none, none]) (by
    generalize D.lst (el06 κ w a b c) = EL at *
    simp -implicitDefEqProofs [mCall0, c4, m4, hx, he]) ?_
  refine t_seq (e := [some (0, A), some (1, WL), some (0, .str w), some (0, .int a), some (0, .int b), some (0, .int c), some (1, .lst (el06 κ w a b c)), none, none, none]) (by
    refine for_look (body := lpB06 κ) (fun i : Nat => D.int (i : Int)) (List.range 15) ?_ fun i hi => lp06 κ w a b c _ _ _ _ _ _ i (List.mem_range.mp hi)
    simp -implicitDefEqProofs [hg]) ?_
  refine t_seq (e := [some (0, A), some (1, WL), some (0, .str w), some (0, .int a), some (0, .int b), some (0, .int c), some (1, .lst (el06 κ w a b c)), none, none, none]) (by
    generalize D.lst (el06 κ w a b c) = EL at *
    simp -implicitDefEqProofs [g0, l0, l1, hww, qa, wa, -e_gNe_int, -List.zip_cons_cons]) ?_
  refine t_seq (e := [some (0, A), some (1, WL), some (0, .str w), some (0, .int a), some (0, .int b), some (0, .int c), some (1, .lst (el06 κ w a b c)), none, none, none]) (by
    generalize D.lst (el06 κ w a b c) = EL at *
    simp -implicitDefEqProofs [g1, l2, l3, qb, qc, wb, -e_gNe_int, -List.zip_cons_cons]) ?_
  refine t_seq (e := [some (0, A), some (1, WL), some (0, .str w), some (0, .int a), some (0, .int b), some (0, .int c), some (1, .lst (el06 κ w a b c)), none, some (0, .exn "KnotError" (κ "KnotError") [] []), none]) (by
    generalize D.lst (el06 κ w a b c) = EL at *
    simp -implicitDefEqProofs) ?_
  refine Tells.eqI ?_
  have hlc := lc_all (t := tName 7) (me := mC (.bl false)) (env := [some (0, A), some (1, WL), some (0, .str w), some (0, .int a), some (0, .int b), some (0, .int c), some (1, .lst (el06 κ w a b c)), none, some (0, .exn "KnotError" (κ "KnotError") [] []), none]) (fun j : Nat => D.int (j : Int)) (fun _ : Nat => D.bl false) (List.range 15) (fun j hj => by
    generalize D.lst (el06 κ w a b c) = EL at *
    simp -implicitDefEqProofs)
  have eR : ((List.range 15).map fun _ : Nat => D.bl false) = [.bl false, .bl false, .bl false, .bl false, .bl false, .bl false, .bl false, .bl false, .bl false, .bl false, .bl false, .bl false, .bl false, .bl false, .bl false] := rfl
  rw [eR] at hlc
  have gq : gEq (.lst [.bl false, .bl false, .bl false, .bl false, .bl false, .bl false, .bl false, .bl false, .bl false, .bl false, .bl false, .bl false, .bl false, .bl false, .bl false]) (.lst [.bl false, .bl false, .bl false, .bl false, .bl false, .bl false, .bl false, .bl false, .bl false, .bl false, .bl false, .bl false, .bl false, .bl false, .bl false]) = .ok (.bl true) := ok06_eq (by decide +kernel)
  have zl : ([.bl false, .bl false, .bl false, .bl false, .bl false, .bl false, .bl false, .bl false, .bl false, .bl false, .bl false, .bl false, .bl false, .bl false, .bl false] : List D).length ≤ sizeLine := sizeLine_big (by decide)
  have iL : immAt 1 (.lst [.bl false, .bl false, .bl false, .bl false, .bl false, .bl false, .bl false, .bl false, .bl false, .bl false, .bl false, .bl false, .bl false, .bl false, .bl false]) = true := rfl
  generalize D.lst (el06 κ w a b c) = EL at *
  generalize ([.bl false, .bl false, .bl false, .bl false, .bl false, .bl false, .bl false, .bl false, .bl false, .bl false, .bl false, .bl false, .bl false, .bl false, .bl false] : List D) = FL at *
  have tK' : tb [("KnotError", true), ("NameTaken", true), ("NoBraid", true), ("NoDrawing", true), ("NoFit", true), ("NoLength", true), ("NoMark", true), ("NoMove", true), ("NoName", true), ("NoPrime", true), ("NoSpot", true), ("NoString", true), ("NoText", true), ("NoWord", true), ("NothingDone", true), ("TooMany", true)] "KnotError" = some true := tK
  generalize (List.range 15).map (fun i : Nat => D.int (i : Int)) = RL at *
  simp -implicitDefEqProofs [tK', hK, iL, hg, e_mLc, hlc, zl, gq]

def top (i : Nat) : Stmt := PySem.Challenge.pw_knotwise_k06_refusals_made.main.body.getD i (.Pass ⟨0, 0, 0, 0⟩)
open PyProof.Rows (envOfC)
structure Txt (K : PySem.W.Frag) (mg : Str → Option Value) (κ : Str → Addr) : Prop where
  b_ValueError : mg "ValueError" = none
  b_bool : mg "bool" = none
  b_int : mg "int" = none
  b_isinstance : mg "isinstance" = none
  b_len : mg "len" = none
  b_range : mg "range" = none
  c_KnotError : XCl K mg κ "KnotError"
  c_NameTaken : XCl K mg κ "NameTaken"
  c_NoBraid : XCl K mg κ "NoBraid"
  c_NoDrawing : XCl K mg κ "NoDrawing"
  c_NoFit : XCl K mg κ "NoFit"
  c_NoLength : XCl K mg κ "NoLength"
  c_NoMark : XCl K mg κ "NoMark"
  c_NoMove : XCl K mg κ "NoMove"
  c_NoName : XCl K mg κ "NoName"
  c_NoPrime : XCl K mg κ "NoPrime"
  c_NoSpot : XCl K mg κ "NoSpot"
  c_NoString : XCl K mg κ "NoString"
  c_NoText : XCl K mg κ "NoText"
  c_NoWord : XCl K mg κ "NoWord"
  c_NothingDone : XCl K mg κ "NothingDone"
  c_TooMany : XCl K mg κ "TooMany"
  m_KnotError : XMk K mg κ "KnotError"
  m_NameTaken : XMk K mg κ "NameTaken"
  m_NoBraid : XMk K mg κ "NoBraid"
  m_NoFit : XMk K mg κ "NoFit"
  m_NoLength : XMk K mg κ "NoLength"
  m_NoMark : XMk K mg κ "NoMark"
  m_NoMove : XMk K mg κ "NoMove"
  m_NoName : XMk K mg κ "NoName"
  m_NoPrime : XMk K mg κ "NoPrime"
  m_NoSpot : XMk K mg κ "NoSpot"
  m_NoString : XMk K mg κ "NoString"
  m_NoWord : XMk K mg κ "NoWord"
  m_NothingDone : XMk K mg κ "NothingDone"
  m_TooMany : XMk K mg κ "TooMany"
  n_KnotError : PySem.W.kitOne K (.type "NoneType") (.ref (κ "KnotError")) = some false
  k_KnotError : TabK K κ (.ref (κ "KnotError")) [("KnotError", true), ("NameTaken", true), ("NoBraid", true), ("NoDrawing", true), ("NoFit", true), ("NoLength", true), ("NoMark", true), ("NoMove", true), ("NoName", true), ("NoPrime", true), ("NoSpot", true), ("NoString", true), ("NoText", true), ("NoWord", true), ("NothingDone", true), ("TooMany", true)]
  n_NameTaken : PySem.W.kitOne K (.type "NoneType") (.ref (κ "NameTaken")) = some false
  k_NameTaken : TabK K κ (.ref (κ "NameTaken")) [("KnotError", false), ("NameTaken", true), ("NoBraid", false), ("NoDrawing", false), ("NoFit", false), ("NoLength", false), ("NoMark", false), ("NoMove", false), ("NoName", false), ("NoPrime", false), ("NoSpot", false), ("NoString", false), ("NoText", false), ("NoWord", false), ("NothingDone", false), ("TooMany", false)]
  n_NoBraid : PySem.W.kitOne K (.type "NoneType") (.ref (κ "NoBraid")) = some false
  k_NoBraid : TabK K κ (.ref (κ "NoBraid")) [("KnotError", false), ("NameTaken", false), ("NoBraid", true), ("NoDrawing", false), ("NoFit", false), ("NoLength", false), ("NoMark", false), ("NoMove", false), ("NoName", false), ("NoPrime", false), ("NoSpot", false), ("NoString", false), ("NoText", false), ("NoWord", false), ("NothingDone", false), ("TooMany", false)]
  n_NoDrawing : PySem.W.kitOne K (.type "NoneType") (.ref (κ "NoDrawing")) = some false
  k_NoDrawing : TabK K κ (.ref (κ "NoDrawing")) [("KnotError", false), ("NameTaken", false), ("NoBraid", false), ("NoDrawing", true), ("NoFit", false), ("NoLength", false), ("NoMark", false), ("NoMove", false), ("NoName", false), ("NoPrime", false), ("NoSpot", false), ("NoString", false), ("NoText", false), ("NoWord", false), ("NothingDone", false), ("TooMany", false)]
  n_NoFit : PySem.W.kitOne K (.type "NoneType") (.ref (κ "NoFit")) = some false
  k_NoFit : TabK K κ (.ref (κ "NoFit")) [("KnotError", false), ("NameTaken", false), ("NoBraid", false), ("NoDrawing", false), ("NoFit", true), ("NoLength", false), ("NoMark", false), ("NoMove", false), ("NoName", false), ("NoPrime", false), ("NoSpot", false), ("NoString", false), ("NoText", false), ("NoWord", false), ("NothingDone", false), ("TooMany", false)]
  n_NoLength : PySem.W.kitOne K (.type "NoneType") (.ref (κ "NoLength")) = some false
  k_NoLength : TabK K κ (.ref (κ "NoLength")) [("KnotError", false), ("NameTaken", false), ("NoBraid", false), ("NoDrawing", false), ("NoFit", false), ("NoLength", true), ("NoMark", false), ("NoMove", false), ("NoName", false), ("NoPrime", false), ("NoSpot", false), ("NoString", false), ("NoText", false), ("NoWord", false), ("NothingDone", false), ("TooMany", false)]
  n_NoMark : PySem.W.kitOne K (.type "NoneType") (.ref (κ "NoMark")) = some false
  k_NoMark : TabK K κ (.ref (κ "NoMark")) [("KnotError", false), ("NameTaken", false), ("NoBraid", false), ("NoDrawing", false), ("NoFit", false), ("NoLength", false), ("NoMark", true), ("NoMove", false), ("NoName", false), ("NoPrime", false), ("NoSpot", false), ("NoString", false), ("NoText", false), ("NoWord", false), ("NothingDone", false), ("TooMany", false)]
  n_NoMove : PySem.W.kitOne K (.type "NoneType") (.ref (κ "NoMove")) = some false
  k_NoMove : TabK K κ (.ref (κ "NoMove")) [("KnotError", false), ("NameTaken", false), ("NoBraid", false), ("NoDrawing", false), ("NoFit", false), ("NoLength", false), ("NoMark", false), ("NoMove", true), ("NoName", false), ("NoPrime", false), ("NoSpot", false), ("NoString", false), ("NoText", false), ("NoWord", false), ("NothingDone", false), ("TooMany", false)]
  n_NoName : PySem.W.kitOne K (.type "NoneType") (.ref (κ "NoName")) = some false
  k_NoName : TabK K κ (.ref (κ "NoName")) [("KnotError", false), ("NameTaken", false), ("NoBraid", false), ("NoDrawing", false), ("NoFit", false), ("NoLength", false), ("NoMark", false), ("NoMove", false), ("NoName", true), ("NoPrime", false), ("NoSpot", false), ("NoString", false), ("NoText", false), ("NoWord", false), ("NothingDone", false), ("TooMany", false)]
  n_NoPrime : PySem.W.kitOne K (.type "NoneType") (.ref (κ "NoPrime")) = some false
  k_NoPrime : TabK K κ (.ref (κ "NoPrime")) [("KnotError", false), ("NameTaken", false), ("NoBraid", false), ("NoDrawing", false), ("NoFit", false), ("NoLength", false), ("NoMark", false), ("NoMove", false), ("NoName", false), ("NoPrime", true), ("NoSpot", false), ("NoString", false), ("NoText", false), ("NoWord", false), ("NothingDone", false), ("TooMany", false)]
  n_NoSpot : PySem.W.kitOne K (.type "NoneType") (.ref (κ "NoSpot")) = some false
  k_NoSpot : TabK K κ (.ref (κ "NoSpot")) [("KnotError", false), ("NameTaken", false), ("NoBraid", false), ("NoDrawing", false), ("NoFit", false), ("NoLength", false), ("NoMark", false), ("NoMove", false), ("NoName", false), ("NoPrime", false), ("NoSpot", true), ("NoString", false), ("NoText", false), ("NoWord", false), ("NothingDone", false), ("TooMany", false)]
  n_NoString : PySem.W.kitOne K (.type "NoneType") (.ref (κ "NoString")) = some false
  k_NoString : TabK K κ (.ref (κ "NoString")) [("KnotError", false), ("NameTaken", false), ("NoBraid", false), ("NoDrawing", false), ("NoFit", false), ("NoLength", false), ("NoMark", false), ("NoMove", false), ("NoName", false), ("NoPrime", false), ("NoSpot", false), ("NoString", true), ("NoText", false), ("NoWord", false), ("NothingDone", false), ("TooMany", false)]
  n_NoText : PySem.W.kitOne K (.type "NoneType") (.ref (κ "NoText")) = some false
  k_NoText : TabK K κ (.ref (κ "NoText")) [("KnotError", false), ("NameTaken", false), ("NoBraid", false), ("NoDrawing", false), ("NoFit", false), ("NoLength", false), ("NoMark", false), ("NoMove", false), ("NoName", false), ("NoPrime", false), ("NoSpot", false), ("NoString", false), ("NoText", true), ("NoWord", false), ("NothingDone", false), ("TooMany", false)]
  n_NoWord : PySem.W.kitOne K (.type "NoneType") (.ref (κ "NoWord")) = some false
  k_NoWord : TabK K κ (.ref (κ "NoWord")) [("KnotError", false), ("NameTaken", false), ("NoBraid", false), ("NoDrawing", false), ("NoFit", false), ("NoLength", false), ("NoMark", false), ("NoMove", false), ("NoName", false), ("NoPrime", false), ("NoSpot", false), ("NoString", false), ("NoText", false), ("NoWord", true), ("NothingDone", false), ("TooMany", false)]
  n_NothingDone : PySem.W.kitOne K (.type "NoneType") (.ref (κ "NothingDone")) = some false
  k_NothingDone : TabK K κ (.ref (κ "NothingDone")) [("KnotError", false), ("NameTaken", false), ("NoBraid", false), ("NoDrawing", false), ("NoFit", false), ("NoLength", false), ("NoMark", false), ("NoMove", false), ("NoName", false), ("NoPrime", false), ("NoSpot", false), ("NoString", false), ("NoText", false), ("NoWord", false), ("NothingDone", true), ("TooMany", false)]
  n_TooMany : PySem.W.kitOne K (.type "NoneType") (.ref (κ "TooMany")) = some false
  k_TooMany : TabK K κ (.ref (κ "TooMany")) [("KnotError", false), ("NameTaken", false), ("NoBraid", false), ("NoDrawing", false), ("NoFit", false), ("NoLength", false), ("NoMark", false), ("NoMove", false), ("NoName", false), ("NoPrime", false), ("NoSpot", false), ("NoString", false), ("NoText", false), ("NoWord", false), ("NothingDone", false), ("TooMany", true)]
  n_ValueError : PySem.W.kitOne K (.type "NoneType") (.type "ValueError") = some false
  k_ValueError : TabK K κ (.type "ValueError") [("KnotError", true), ("NameTaken", true), ("NoBraid", true), ("NoDrawing", true), ("NoFit", true), ("NoLength", true), ("NoMark", true), ("NoMove", true), ("NoName", true), ("NoPrime", true), ("NoSpot", true), ("NoString", true), ("NoText", true), ("NoWord", true), ("NothingDone", true), ("TooMany", true)]
  x_NoDrawing : OexC K (κ "NoDrawing")
  x_NoText : OexC K (κ "NoText")
  f_NoDrawing_place : PySem.W.findIn K (.ref (κ "NoDrawing")) "place" = some none
  f_NoDrawing_word : PySem.W.findIn K (.ref (κ "NoDrawing")) "word" = some none
  f_NoText_at : PySem.W.findIn K (.ref (κ "NoText")) "at" = some none
  f_NoText_line : PySem.W.findIn K (.ref (κ "NoText")) "line" = some none
abbrev s__law_errors : Stmt := top 21
theorem sc__law_errors : FnScope ["_law_word", "_law_place", "_law_line", "_law_at", "_law_text", "_law_found"] ["_law_word", "_law_place", "_law_line", "_law_at", "_law_text"] (defScope s__law_errors) := ⟨rfl, rfl, rfl, by decide +kernel, rfl, by decide +kernel, by decide +kernel⟩
theorem ok__law_errors {P : Program} {w : World} {K : PySem.W.Frag} {mg : Str → Option Value} {base : Heap} {κ : Str → Addr} (T : Txt K mg κ) (A : At K mg "_law_errors" s__law_errors) (KX_NoDrawing : MkX P w K mg base (κ "NoDrawing") 1 ["word", "place"]) (KX_NoText : MkX P w K mg base (κ "NoText") 1 ["line", "at"]) : Cal P w K mg base "_law_errors" 3 5 1 (F__law_errors κ) := by
  obtain ⟨f, fd, F, hm⟩ := A.ex
  refine ⟨f, fd, ["_law_word", "_law_place", "_law_line", "_law_at", "_law_text"], hm, F.kp, F.binds (fun _ _ _ _ _ _ us hl => lst5 (P := fun vs => bindArgs _ { pos := vs } = pure (List.zip _ vs)) (fun _ _ _ _ _ => rfl) us hl), def_ok (m := (m__law_errors κ)) F sc__law_errors rfl rfl fun cdv A outer s H E hr => ?_⟩
  have nd := sc__law_errors.nd
  have hu := hr.units
  have hu1 : (A.deeper (envOfC "_law_errors" (defScope s__law_errors) s.heap.objs.size f cdv)).units + 1 < cLine := by omega
  have hu65 : (A.deeper (envOfC "_law_errors" (defScope s__law_errors) s.heap.objs.size f cdv)).units + 65 < cLine := by have := hr.un; omega
  exact (ss_cons (s_set (i := 5) nd rfl (.inl rfl) (se_lst (sae_cons (se_excF KX_NoDrawing T.x_NoDrawing T.c_NoDrawing (hr.mono (by decide)) (by rfl) (sab_cons (sb_var (pv 0)) (sab_cons (sb_var (pv 1)) sab_nil))) (sae_cons (se_excF KX_NoText T.x_NoText T.c_NoText (hr.mono (by decide)) (by rfl) (sab_cons (sb_var (pv 2)) (sab_cons (sb_var (pv 3)) sab_nil))) (sae_cons (se_exc1 T.m_NoName (by rfl) (sb_var (pv 4))) (sae_cons (se_exc1 T.m_NameTaken (by rfl) (sb_var (pv 4))) (sae_cons (se_exc1 T.m_NoSpot (by rfl) (sb_var (pv 4))) (sae_nil (k := 0))))))))) (ss_cons (s_extend (j := 5) (pv 5) (sl_sh (se_0 (se_lst (sae_cons (se_exc1 T.m_TooMany (by rfl) (sb_var (pv 4))) (sae_cons (se_exc1 T.m_NoFit (by rfl) (sb_var (pv 4))) (sae_cons (se_exc1 T.m_NoMove (by rfl) (sb_var (pv 4))) (sae_cons (se_exc1 T.m_NoPrime (by rfl) (sb_var (pv 4))) (sae_cons (se_exc1 T.m_NoString (by rfl) (sb_var (pv 4))) (sae_nil (k := 0))))))))))) (ss_cons (s_extend (j := 5) (pv 5) (sl_sh (se_0 (se_lst (sae_cons (se_exc1 T.m_NoBraid (by rfl) (sb_var (pv 4))) (sae_cons (se_exc1 T.m_NoLength (by rfl) (sb_var (pv 4))) (sae_cons (se_exc1 T.m_NoMark (by rfl) (sb_var (pv 4))) (sae_cons (se_exc1 T.m_NoWord (by rfl) (sb_var (pv 4))) (sae_cons (se_exc1 T.m_NothingDone (by rfl) (sb_var (pv 4))) (sae_nil (k := 0))))))))))) (ss_one (s_ret (se_move (k := 1) (pv 5)))))))
abbrev s__law_cell : Stmt := top 18
theorem sc__law_cell : FnScope ["_law_script", "_law_k"] ["_law_script", "_law_k"] (defScope s__law_cell) := ⟨rfl, rfl, rfl, by decide +kernel, rfl, by decide +kernel, by decide +kernel⟩
theorem ok__law_cell {P : Program} {w : World} {K : PySem.W.Frag} {mg : Str → Option Value} {base : Heap} {κ : Str → Addr} (T : Txt K mg κ) (A : At K mg "_law_cell" s__law_cell)  : Cal P w K mg base "_law_cell" 1 2 0 F__law_cell := by
  obtain ⟨f, fd, F, hm⟩ := A.ex
  refine ⟨f, fd, ["_law_script", "_law_k"], hm, F.kp, F.binds (fun _ _ _ _ _ _ us hl => lst2 (P := fun vs => bindArgs _ { pos := vs } = pure (List.zip _ vs)) (fun _ _ => rfl) us hl), def_ok (m := m__law_cell) F sc__law_cell rfl rfl fun cdv A outer s H E hr => ?_⟩
  have nd := sc__law_cell.nd
  have hu := hr.units
  have hu1 : (A.deeper (envOfC "_law_cell" (defScope s__law_cell) s.heap.objs.size f cdv)).units + 1 < cLine := by omega
  have hu65 : (A.deeper (envOfC "_law_cell" (defScope s__law_cell) s.heap.objs.size f cdv)).units + 65 < cLine := by have := hr.un; omega
  exact (ss_cons (s_if (st_cmp (o_lt hu) (sb_var (pv 1)) (sb_c (sc_len (by rfl) T.b_len (sb_var (pv 0)))) (nomark _)) (ss_one (s_ret (se_c (k := 0) (sc_b (sb_ix (sb_var (pv 0)) (sb_var (pv 1)) (fun _ _ => rfl)))))) ss_nil) (ss_one (s_ret (se_c (k := 0) sc_int))))
abbrev s__law_classes : Stmt := top 20
theorem sc__law_classes : FnScope ["_law_error", "_law_found"] ["_law_error"] (defScope s__law_classes) := ⟨rfl, rfl, rfl, by decide +kernel, rfl, by decide +kernel, by decide +kernel⟩
theorem ok__law_classes {P : Program} {w : World} {K : PySem.W.Frag} {mg : Str → Option Value} {base : Heap} {κ : Str → Addr} (T : Txt K mg κ) (A : At K mg "_law_classes" s__law_classes)  : Cal P w K mg base "_law_classes" 1 1 1 (F__law_classes κ) := by
  obtain ⟨f, fd, F, hm⟩ := A.ex
  refine ⟨f, fd, ["_law_error"], hm, F.kp, F.binds (fun _ _ _ _ _ _ us hl => lst1 (P := fun vs => bindArgs _ { pos := vs } = pure (List.zip _ vs)) (fun _ => rfl) us hl), def_ok (m := (m__law_classes κ)) F sc__law_classes rfl rfl fun cdv A outer s H E hr => ?_⟩
  have nd := sc__law_classes.nd
  have hu := hr.units
  have hu1 : (A.deeper (envOfC "_law_classes" (defScope s__law_classes) s.heap.objs.size f cdv)).units + 1 < cLine := by omega
  have hu65 : (A.deeper (envOfC "_law_classes" (defScope s__law_classes) s.heap.objs.size f cdv)).units + 65 < cLine := by have := hr.un; omega
  exact (ss_cons (s_set (i := 1) nd rfl (.inl rfl) (se_lst (sae_cons (se_c (k := 0) (sc_isOwn T.c_NoDrawing (by rfl) T.b_isinstance (by rfl) (sb_var (pv 0)) T.n_NoDrawing (tabK_ok T.k_NoDrawing))) (sae_cons (se_c (k := 0) (sc_isOwn T.c_NoText (by rfl) T.b_isinstance (by rfl) (sb_var (pv 0)) T.n_NoText (tabK_ok T.k_NoText))) (sae_cons (se_c (k := 0) (sc_isOwn T.c_NoName (by rfl) T.b_isinstance (by rfl) (sb_var (pv 0)) T.n_NoName (tabK_ok T.k_NoName))) (sae_nil (k := 0))))))) (ss_cons (s_extend (j := 1) (pv 1) (sl_imm (k := 0) (sb_lst (sab_cons (sb_c (sc_isOwn T.c_NameTaken (by rfl) T.b_isinstance (by rfl) (sb_var (pv 0)) T.n_NameTaken (tabK_ok T.k_NameTaken))) (sab_cons (sb_c (sc_isOwn T.c_NoSpot (by rfl) T.b_isinstance (by rfl) (sb_var (pv 0)) T.n_NoSpot (tabK_ok T.k_NoSpot))) (sab_cons (sb_c (sc_isOwn T.c_TooMany (by rfl) T.b_isinstance (by rfl) (sb_var (pv 0)) T.n_TooMany (tabK_ok T.k_TooMany))) sab_nil)))))) (ss_cons (s_extend (j := 1) (pv 1) (sl_imm (k := 0) (sb_lst (sab_cons (sb_c (sc_isOwn T.c_NoFit (by rfl) T.b_isinstance (by rfl) (sb_var (pv 0)) T.n_NoFit (tabK_ok T.k_NoFit))) (sab_cons (sb_c (sc_isOwn T.c_NoMove (by rfl) T.b_isinstance (by rfl) (sb_var (pv 0)) T.n_NoMove (tabK_ok T.k_NoMove))) (sab_cons (sb_c (sc_isOwn T.c_NoPrime (by rfl) T.b_isinstance (by rfl) (sb_var (pv 0)) T.n_NoPrime (tabK_ok T.k_NoPrime))) sab_nil)))))) (ss_cons (s_extend (j := 1) (pv 1) (sl_imm (k := 0) (sb_lst (sab_cons (sb_c (sc_isOwn T.c_NoString (by rfl) T.b_isinstance (by rfl) (sb_var (pv 0)) T.n_NoString (tabK_ok T.k_NoString))) (sab_cons (sb_c (sc_isOwn T.c_NoBraid (by rfl) T.b_isinstance (by rfl) (sb_var (pv 0)) T.n_NoBraid (tabK_ok T.k_NoBraid))) (sab_cons (sb_c (sc_isOwn T.c_NoLength (by rfl) T.b_isinstance (by rfl) (sb_var (pv 0)) T.n_NoLength (tabK_ok T.k_NoLength))) sab_nil)))))) (ss_cons (s_extend (j := 1) (pv 1) (sl_imm (k := 0) (sb_lst (sab_cons (sb_c (sc_isOwn T.c_NoMark (by rfl) T.b_isinstance (by rfl) (sb_var (pv 0)) T.n_NoMark (tabK_ok T.k_NoMark))) (sab_cons (sb_c (sc_isOwn T.c_NoWord (by rfl) T.b_isinstance (by rfl) (sb_var (pv 0)) T.n_NoWord (tabK_ok T.k_NoWord))) (sab_cons (sb_c (sc_isOwn T.c_NothingDone (by rfl) T.b_isinstance (by rfl) (sb_var (pv 0)) T.n_NothingDone (tabK_ok T.k_NothingDone))) sab_nil)))))) (ss_one (s_ret (se_move (k := 1) (pv 1)))))))))
abbrev s__law_whole : Stmt := top 19
theorem sc__law_whole : FnScope ["_law_found"] ["_law_found"] (defScope s__law_whole) := ⟨rfl, rfl, rfl, by decide +kernel, rfl, by decide +kernel, by decide +kernel⟩
theorem ok__law_whole {P : Program} {w : World} {K : PySem.W.Frag} {mg : Str → Option Value} {base : Heap} {κ : Str → Addr} (T : Txt K mg κ) (A : At K mg "_law_whole" s__law_whole)  : Cal P w K mg base "_law_whole" 1 1 0 F__law_whole := by
  obtain ⟨f, fd, F, hm⟩ := A.ex
  refine ⟨f, fd, ["_law_found"], hm, F.kp, F.binds (fun _ _ _ _ _ _ us hl => lst1 (P := fun vs => bindArgs _ { pos := vs } = pure (List.zip _ vs)) (fun _ => rfl) us hl), def_ok (m := m__law_whole) F sc__law_whole rfl rfl fun cdv A outer s H E hr => ?_⟩
  have nd := sc__law_whole.nd
  have hu := hr.units
  have hu1 : (A.deeper (envOfC "_law_whole" (defScope s__law_whole) s.heap.objs.size f cdv)).units + 1 < cLine := by omega
  have hu65 : (A.deeper (envOfC "_law_whole" (defScope s__law_whole) s.heap.objs.size f cdv)).units + 65 < cLine := by have := hr.un; omega
  exact (ss_one (s_ret (se_c (k := 0) (sc_and (sb_c (sc_isi (T := .int) (by rfl) T.b_isinstance (sb_var (pv 0)) (pe_tyD (by rfl) T.b_int (by decide +kernel)))) (sc_one (sc_not (sb_c (sc_isi (T := .bool) (by rfl) T.b_isinstance (sb_var (pv 0)) (pe_tyD (by rfl) T.b_bool (by decide +kernel))))))))))
abbrev s_law : Stmt := top 22
theorem sc_law : FnScope ["_law_script", "_law_words", "_law_word", "_law_place", "_law_line", "_law_at", "_law_errors_here", "_law_k", "_law_base", "_law_j"] ["_law_script"] (defScope s_law) := ⟨rfl, rfl, rfl, by decide +kernel, rfl, by decide +kernel, by decide +kernel⟩
theorem body_law {P : Program} {w : World} {K : PySem.W.Frag} {mg : Str → Option Value} {base : Heap} {f : Addr} {cdv : Value} {A : Around} {outer : List PySem.Env} {s : Shared} {H : Hp} {E : XK} {κ : Str → Addr} (T : Txt K mg κ) (C__law_cell : Cal P w K mg base "_law_cell" 1 2 0 F__law_cell) (C__law_errors : Cal P w K mg base "_law_errors" 3 5 1 (F__law_errors κ)) (C__law_classes : Cal P w K mg base "_law_classes" 1 1 1 (F__law_classes κ)) (C__law_whole : Cal P w K mg base "_law_whole" 1 1 0 F__law_whole) (hr : Room 3 (A.deeper (envOfC "law" (defScope s_law) s.heap.objs.size f cdv))) : SS (cxOf CX0 P w K mg base ["_law_script", "_law_words", "_law_word", "_law_place", "_law_line", "_law_at", "_law_errors_here", "_law_k", "_law_base", "_law_j"] "law" (defScope s_law) f cdv A outer s H E).nox 0 (defBody s_law) (m_law κ) := by
  have nd := sc_law.nd
  have hu := hr.units
  have hu1 : (A.deeper (envOfC "law" (defScope s_law) s.heap.objs.size f cdv)).units + 1 < cLine := by omega
  have hu65 : (A.deeper (envOfC "law" (defScope s_law) s.heap.objs.size f cdv)).units + 65 < cLine := by have := hr.un; omega
  exact (ss_cons (s_set (i := 1) nd rfl (.inl rfl) (se_lst (sae_cons (se_c (k := 0) sc_str) (sae_cons (se_c (k := 0) sc_str) (sae_cons (se_c (k := 0) sc_str) (sae_cons (se_c (k := 0) sc_str) (sae_cons (se_c (k := 0) sc_str) (sae_cons (se_c (k := 0) sc_str) (sae_cons (se_c (k := 0) sc_str) (sae_cons (se_c (k := 0) sc_str) (sae_nil (k := 0)))))))))))) (ss_cons (s_set (i := 2) nd rfl (.inl rfl) (se_c (k := 0) (sc_b (sb_ix (sb_var (pv 1)) (sb_c (sc_op o_mod (sb_e (se_cal C__law_cell (hr.mono (by decide)) (by rfl) (sab_cons (sb_var (pv 0)) (sab_cons (sb_c sc_int) sab_nil)) (hl := (sab_len (sab_len sab_len0))))) (sb_c sc_int))) (fun _ _ => rfl))))) (ss_cons (s_set (i := 3) nd rfl (.inl rfl) (se_c (k := 0) (sc_op o_mod (sb_e (se_cal C__law_cell (hr.mono (by decide)) (by rfl) (sab_cons (sb_var (pv 0)) (sab_cons (sb_c sc_int) sab_nil)) (hl := (sab_len (sab_len sab_len0))))) (sb_c (sc_op o_add (sb_c (sc_op o_pow (sb_c sc_int) (sb_c sc_int))) (sb_c sc_int)))))) (ss_cons (s_set (i := 4) nd rfl (.inl rfl) (se_c (k := 0) (sc_op o_mod (sb_e (se_cal C__law_cell (hr.mono (by decide)) (by rfl) (sab_cons (sb_var (pv 0)) (sab_cons (sb_c sc_int) sab_nil)) (hl := (sab_len (sab_len sab_len0))))) (sb_c (sc_op o_add (sb_c (sc_op o_pow (sb_c sc_int) (sb_c sc_int))) (sb_c sc_int)))))) (ss_cons (s_set (i := 5) nd rfl (.inl rfl) (se_c (k := 0) (sc_op o_mod (sb_e (se_cal C__law_cell (hr.mono (by decide)) (by rfl) (sab_cons (sb_var (pv 0)) (sab_cons (sb_c sc_int) sab_nil)) (hl := (sab_len (sab_len sab_len0))))) (sb_c (sc_op o_add (sb_c (sc_op o_pow (sb_c sc_int) (sb_c sc_int))) (sb_c sc_int)))))) (ss_cons (s_set (i := 6) nd rfl (.inl rfl) (se_cal0 C__law_errors (hr.mono (by decide)) (by rfl) (sae_cons (se_c (k := 0) (sc_b (sb_var (pv 2)))) (sae_cons (se_c (k := 0) (sc_b (sb_var (pv 3)))) (sae_cons (se_c (k := 0) (sc_b (sb_var (pv 4)))) (sae_cons (se_c (k := 0) (sc_b (sb_var (pv 5)))) (sae_cons (se_c (k := 0) (sc_sliceS (sb_var (pv 2)) (so_some (sb_c (sc_op o_mod (sb_e (se_cal C__law_cell (hr.mono (by decide)) (by rfl) (sab_cons (sb_var (pv 0)) (sab_cons (sb_c sc_int) sab_nil)) (hl := (sab_len (sab_len sab_len0))))) (sb_c sc_int)))) so_none)) (sae_nil (k := 0))))))) (hl := (sae_len (sae_len (sae_len (sae_len (sae_len sae_len0)))))))) (ss_cons (s_for .never rfl (si_range1 (by rfl) T.b_range (sb_c sc_int)) (tg_name (i := 7) (pg_name nd rfl (.inr rfl))) (ss_cons (s_if (st_w (sw_or (st_not (st_val (sb_c (sc_isOwn T.c_KnotError (by rfl) T.b_isinstance (by rfl) (sb_ix (sb_var (pv 6)) (sb_var (pv 7)) (fun _ _ => rfl)) T.n_KnotError (tabK_ok T.k_KnotError))))) (sw_or1 (st_not (st_val (sb_c (sc_isVal (n := "ValueError") (by rfl) T.b_isinstance (pe_tyD (by rfl) T.b_ValueError (by decide +kernel)) (sb_ix (sb_var (pv 6)) (sb_var (pv 7)) (fun _ _ => rfl)) T.n_ValueError (tabK_ok T.k_ValueError)))))))) (ss_one (s_ret (se_c (k := 0) sc_bl))) ss_nil) (ss_one (s_if (st_cmp (o_ne hu) (sb_e (se_cal C__law_classes (hr.mono (by decide)) (by rfl) (sab_cons (sb_ix (sb_var (pv 6)) (sb_var (pv 7)) (fun _ _ => rfl)) sab_nil) (hl := (sab_len sab_len0)))) (sb_e (se_lc [("_law_j", 9)] (by rfl) nd (blkOk_by (by rfl)) (by rfl) (si_range1 (by rfl) T.b_range (sb_c sc_int)) (fun _ _ _ _ _ => (tg_name (i := 9) (pg_name nd rfl (.inl rfl)))) tok_name (by decide) (fun _ _ _ _ _ => spt_nil) (fun _ _ _ _ _ => (se_c (k := 0) (sc_cmp (o_eq hu) (sb_var (pv 7)) (sb_var (pv 9)) (nomark _)))))) (nomark _)) (ss_one (s_ret (se_c (k := 0) sc_bl))) ss_nil))) (fg := [7, 9])) (ss_cons (s_if (st_w (sw_or (st_cmp (o_ne hu) (sb_xf (c := "NoDrawing") (xisB_ok T.c_NoDrawing.is) T.f_NoDrawing_word (sb_ix (sb_var (pv 6)) (sb_c sc_int) (fun _ _ => rfl))) (sb_var (pv 2)) (nomark _)) (sw_or (st_cmp (o_ne hu) (sb_xf (c := "NoDrawing") (xisB_ok T.c_NoDrawing.is) T.f_NoDrawing_place (sb_ix (sb_var (pv 6)) (sb_c sc_int) (fun _ _ => rfl))) (sb_var (pv 3)) (nomark _)) (sw_or1 (st_not (st_val (sb_e (se_cal C__law_whole (hr.mono (by decide)) (by rfl) (sab_cons (sb_xf (c := "NoDrawing") (xisB_ok T.c_NoDrawing.is) T.f_NoDrawing_place (sb_ix (sb_var (pv 6)) (sb_c sc_int) (fun _ _ => rfl))) sab_nil) (hl := (sab_len sab_len0)))))))))) (ss_one (s_ret (se_c (k := 0) sc_bl))) ss_nil) (ss_cons (s_if (st_w (sw_or (st_cmp (o_ne hu) (sb_xf (c := "NoText") (xisB_ok T.c_NoText.is) T.f_NoText_line (sb_ix (sb_var (pv 6)) (sb_c sc_int) (fun _ _ => rfl))) (sb_var (pv 4)) (nomark _)) (sw_or (st_cmp (o_ne hu) (sb_xf (c := "NoText") (xisB_ok T.c_NoText.is) T.f_NoText_at (sb_ix (sb_var (pv 6)) (sb_c sc_int) (fun _ _ => rfl))) (sb_var (pv 5)) (nomark _)) (sw_or1 (st_not (st_val (sb_e (se_cal C__law_whole (hr.mono (by decide)) (by rfl) (sab_cons (sb_xf (c := "NoText") (xisB_ok T.c_NoText.is) T.f_NoText_line (sb_ix (sb_var (pv 6)) (sb_c sc_int) (fun _ _ => rfl))) sab_nil) (hl := (sab_len sab_len0)))))))))) (ss_one (s_ret (se_c (k := 0) sc_bl))) ss_nil) (ss_cons (s_set (i := 8) nd rfl (.inl rfl) (se_exc1 T.m_KnotError (by rfl) (sb_var (pv 2)))) (ss_one (s_ret (se_c (k := 0) (sc_and (sb_c (sc_isVal (n := "ValueError") (by rfl) T.b_isinstance (pe_tyD (by rfl) T.b_ValueError (by decide +kernel)) (sb_var (pv 8)) T.n_ValueError (tabK_ok T.k_ValueError))) (sc_one (sc_cmp (o_eq hu) (sb_e (se_cal C__law_classes (hr.mono (by decide)) (by rfl) (sab_cons (sb_var (pv 8)) sab_nil) (hl := (sab_len sab_len0)))) (sb_e (se_lc [("_law_k", 7)] (by rfl) nd (blkOk_by (by rfl)) (by rfl) (si_range1 (by rfl) T.b_range (sb_c sc_int)) (fun _ _ _ _ _ => (tg_name (i := 7) (pg_name nd rfl (.inl rfl)))) tok_name (by decide) (fun _ _ _ _ _ => spt_nil) (fun _ _ _ _ _ => (se_c (k := 0) sc_bl)))) (nomark _)))))))))))))))))
abbrev s_NoDrawing___init__ : Stmt := inCls (top 2) 0
theorem sc_NoDrawing___init__ : FnScope ["self", "word", "place"] ["self", "word", "place"] (defScope s_NoDrawing___init__) := ⟨rfl, rfl, rfl, by decide +kernel, rfl, by decide +kernel, by decide +kernel⟩
theorem okx_NoDrawing {P : Program} {w : World} {K : PySem.W.Frag} {mg : Str → Option Value} {base : Heap} {κ : Str → Addr} (T : Txt K mg κ) (A : XIni K (κ "NoDrawing") "NoDrawing.__init__" s_NoDrawing___init__) : MkX P w K mg base (κ "NoDrawing") 1 ["word", "place"] := by
  obtain ⟨f, fd, F, iC, tI⟩ := A.ex
  refine ⟨f, fd, ["self", "word", "place"], iC, tI, F.binds (fun _ _ _ _ _ _ us hl => lst3 (P := fun vs => bindArgs _ { pos := vs } = pure (List.zip _ vs)) (fun _ _ _ => rfl) us hl), F.ok sc_NoDrawing___init__ (fun vs H Q E h => h.1) (fun cdv A outer s H vs Q E hr h => ?_)⟩
  obtain ⟨hl, x, as, rfl, hx, q⟩ := h
  refine ⟨_, pss_sem, ?_⟩
  match as, hl with
  | [a1, a2], _ =>
    refine wb_xst1 (i := 1) (f := "word") T.x_NoDrawing (pv 0) (pv 1) (by rfl) rfl rfl hx T.f_NoDrawing_word (fun dx hdx hne => ?_)
    refine wb_xst2 (i := 2) (f := "place") T.x_NoDrawing (pv 0) (pv 2) (by rfl) rfl rfl hne T.f_NoDrawing_place (by simp) ?_
    exact wb_end (q dx hdx hne)
abbrev s_NoText___init__ : Stmt := inCls (top 3) 0
theorem sc_NoText___init__ : FnScope ["self", "line", "at"] ["self", "line", "at"] (defScope s_NoText___init__) := ⟨rfl, rfl, rfl, by decide +kernel, rfl, by decide +kernel, by decide +kernel⟩
theorem okx_NoText {P : Program} {w : World} {K : PySem.W.Frag} {mg : Str → Option Value} {base : Heap} {κ : Str → Addr} (T : Txt K mg κ) (A : XIni K (κ "NoText") "NoText.__init__" s_NoText___init__) : MkX P w K mg base (κ "NoText") 1 ["line", "at"] := by
  obtain ⟨f, fd, F, iC, tI⟩ := A.ex
  refine ⟨f, fd, ["self", "line", "at"], iC, tI, F.binds (fun _ _ _ _ _ _ us hl => lst3 (P := fun vs => bindArgs _ { pos := vs } = pure (List.zip _ vs)) (fun _ _ _ => rfl) us hl), F.ok sc_NoText___init__ (fun vs H Q E h => h.1) (fun cdv A outer s H vs Q E hr h => ?_)⟩
  obtain ⟨hl, x, as, rfl, hx, q⟩ := h
  refine ⟨_, pss_sem, ?_⟩
  match as, hl with
  | [a1, a2], _ =>
    refine wb_xst1 (i := 1) (f := "line") T.x_NoText (pv 0) (pv 1) (by rfl) rfl rfl hx T.f_NoText_line (fun dx hdx hne => ?_)
    refine wb_xst2 (i := 2) (f := "at") T.x_NoText (pv 0) (pv 2) (by rfl) rfl rfl hne T.f_NoText_at (by simp) ?_
    exact wb_end (q dx hdx hne)
theorem all_mk {l : PySem.W.OpenLaw} {w : World} {K : PySem.W.Frag} {h : Heap} {mg : Str → Option Value} {fa : Addr} (X : K.In h) (G : h.Ns mainGlobals mg) (hfa : mg "law" = some (.ref fa))
    {f0 : Addr} {oc0 : Value} {od0 an0 : Option Addr} {sl0 : Array (Option Value)} {kV0 dc0 pm0 cd0 ct0 : Value}
    (a0 : PySem.W.nsIn K mainGlobals "_law_errors" = some (some (.ref f0))) (l0 : K.lookup f0 = some ⟨oc0, od0, .func (PySem.W.fnOf "_law_errors" "_law_errors" (defArgs s__law_errors) (defBody s__law_errors) (defScope s__law_errors) .none kV0 dc0 pm0 an0 cd0 ct0), sl0⟩) (c0 : PySem.W.codeIn K cd0 "_law_errors" = true) (k0 : PySem.W.keepIn K (.ref f0) = true)
    {f1 : Addr} {oc1 : Value} {od1 an1 : Option Addr} {sl1 : Array (Option Value)} {kV1 dc1 pm1 cd1 ct1 : Value}
    (a1 : PySem.W.nsIn K mainGlobals "_law_cell" = some (some (.ref f1))) (l1 : K.lookup f1 = some ⟨oc1, od1, .func (PySem.W.fnOf "_law_cell" "_law_cell" (defArgs s__law_cell) (defBody s__law_cell) (defScope s__law_cell) .none kV1 dc1 pm1 an1 cd1 ct1), sl1⟩) (c1 : PySem.W.codeIn K cd1 "_law_cell" = true) (k1 : PySem.W.keepIn K (.ref f1) = true)
    {f2 : Addr} {oc2 : Value} {od2 an2 : Option Addr} {sl2 : Array (Option Value)} {kV2 dc2 pm2 cd2 ct2 : Value}
    (a2 : PySem.W.nsIn K mainGlobals "_law_classes" = some (some (.ref f2))) (l2 : K.lookup f2 = some ⟨oc2, od2, .func (PySem.W.fnOf "_law_classes" "_law_classes" (defArgs s__law_classes) (defBody s__law_classes) (defScope s__law_classes) .none kV2 dc2 pm2 an2 cd2 ct2), sl2⟩) (c2 : PySem.W.codeIn K cd2 "_law_classes" = true) (k2 : PySem.W.keepIn K (.ref f2) = true)
    {f3 : Addr} {oc3 : Value} {od3 an3 : Option Addr} {sl3 : Array (Option Value)} {kV3 dc3 pm3 cd3 ct3 : Value}
    (a3 : PySem.W.nsIn K mainGlobals "_law_whole" = some (some (.ref f3))) (l3 : K.lookup f3 = some ⟨oc3, od3, .func (PySem.W.fnOf "_law_whole" "_law_whole" (defArgs s__law_whole) (defBody s__law_whole) (defScope s__law_whole) .none kV3 dc3 pm3 an3 cd3 ct3), sl3⟩) (c3 : PySem.W.codeIn K cd3 "_law_whole" = true) (k3 : PySem.W.keepIn K (.ref f3) = true)
    {f4 : Addr} {oc4 : Value} {od4 an4 : Option Addr} {sl4 : Array (Option Value)} {kV4 dc4 pm4 cd4 ct4 : Value}
    (a4 : PySem.W.nsIn K mainGlobals "law" = some (some (.ref f4))) (l4 : K.lookup f4 = some ⟨oc4, od4, .func (PySem.W.fnOf "law" "law" (defArgs s_law) (defBody s_law) (defScope s_law) .none kV4 dc4 pm4 an4 cd4 ct4), sl4⟩) (c4 : PySem.W.codeIn K cd4 "law" = true) (k4 : PySem.W.keepIn K (.ref f4) = true)
    (z_ValueError : PySem.W.nsIn K mainGlobals "ValueError" = some none)
    (z_bool : PySem.W.nsIn K mainGlobals "bool" = some none)
    (z_int : PySem.W.nsIn K mainGlobals "int" = some none)
    (z_isinstance : PySem.W.nsIn K mainGlobals "isinstance" = some none)
    (z_len : PySem.W.nsIn K mainGlobals "len" = some none)
    (z_range : PySem.W.nsIn K mainGlobals "range" = some none)
    {cl_KnotError : Addr} (z_KnotError : PySem.W.nsIn K mainGlobals "KnotError" = some (some (.ref cl_KnotError))) (i_KnotError : xisB K cl_KnotError = true)
    {cl_NameTaken : Addr} (z_NameTaken : PySem.W.nsIn K mainGlobals "NameTaken" = some (some (.ref cl_NameTaken))) (i_NameTaken : xisB K cl_NameTaken = true)
    {cl_NoBraid : Addr} (z_NoBraid : PySem.W.nsIn K mainGlobals "NoBraid" = some (some (.ref cl_NoBraid))) (i_NoBraid : xisB K cl_NoBraid = true)
    {cl_NoDrawing : Addr} (z_NoDrawing : PySem.W.nsIn K mainGlobals "NoDrawing" = some (some (.ref cl_NoDrawing))) (i_NoDrawing : xisB K cl_NoDrawing = true)
    {cl_NoFit : Addr} (z_NoFit : PySem.W.nsIn K mainGlobals "NoFit" = some (some (.ref cl_NoFit))) (i_NoFit : xisB K cl_NoFit = true)
    {cl_NoLength : Addr} (z_NoLength : PySem.W.nsIn K mainGlobals "NoLength" = some (some (.ref cl_NoLength))) (i_NoLength : xisB K cl_NoLength = true)
    {cl_NoMark : Addr} (z_NoMark : PySem.W.nsIn K mainGlobals "NoMark" = some (some (.ref cl_NoMark))) (i_NoMark : xisB K cl_NoMark = true)
    {cl_NoMove : Addr} (z_NoMove : PySem.W.nsIn K mainGlobals "NoMove" = some (some (.ref cl_NoMove))) (i_NoMove : xisB K cl_NoMove = true)
    {cl_NoName : Addr} (z_NoName : PySem.W.nsIn K mainGlobals "NoName" = some (some (.ref cl_NoName))) (i_NoName : xisB K cl_NoName = true)
    {cl_NoPrime : Addr} (z_NoPrime : PySem.W.nsIn K mainGlobals "NoPrime" = some (some (.ref cl_NoPrime))) (i_NoPrime : xisB K cl_NoPrime = true)
    {cl_NoSpot : Addr} (z_NoSpot : PySem.W.nsIn K mainGlobals "NoSpot" = some (some (.ref cl_NoSpot))) (i_NoSpot : xisB K cl_NoSpot = true)
    {cl_NoString : Addr} (z_NoString : PySem.W.nsIn K mainGlobals "NoString" = some (some (.ref cl_NoString))) (i_NoString : xisB K cl_NoString = true)
    {cl_NoText : Addr} (z_NoText : PySem.W.nsIn K mainGlobals "NoText" = some (some (.ref cl_NoText))) (i_NoText : xisB K cl_NoText = true)
    {cl_NoWord : Addr} (z_NoWord : PySem.W.nsIn K mainGlobals "NoWord" = some (some (.ref cl_NoWord))) (i_NoWord : xisB K cl_NoWord = true)
    {cl_NothingDone : Addr} (z_NothingDone : PySem.W.nsIn K mainGlobals "NothingDone" = some (some (.ref cl_NothingDone))) (i_NothingDone : xisB K cl_NothingDone = true)
    {cl_TooMany : Addr} (z_TooMany : PySem.W.nsIn K mainGlobals "TooMany" = some (some (.ref cl_TooMany))) (i_TooMany : xisB K cl_TooMany = true)
    (m_KnotError : xmkB K cl_KnotError = true)
    (m_NameTaken : xmkB K cl_NameTaken = true)
    (m_NoBraid : xmkB K cl_NoBraid = true)
    (m_NoFit : xmkB K cl_NoFit = true)
    (m_NoLength : xmkB K cl_NoLength = true)
    (m_NoMark : xmkB K cl_NoMark = true)
    (m_NoMove : xmkB K cl_NoMove = true)
    (m_NoName : xmkB K cl_NoName = true)
    (m_NoPrime : xmkB K cl_NoPrime = true)
    (m_NoSpot : xmkB K cl_NoSpot = true)
    (m_NoString : xmkB K cl_NoString = true)
    (m_NoWord : xmkB K cl_NoWord = true)
    (m_NothingDone : xmkB K cl_NothingDone = true)
    (m_TooMany : xmkB K cl_TooMany = true)
    (n_KnotError : PySem.W.kitOne K (.type "NoneType") (.ref cl_KnotError) = some false)
    (k_KnotError_TooMany : PySem.W.kitOne K (.ref cl_TooMany) (.ref cl_KnotError) = some true)
    (k_KnotError_NothingDone : PySem.W.kitOne K (.ref cl_NothingDone) (.ref cl_KnotError) = some true)
    (k_KnotError_NoWord : PySem.W.kitOne K (.ref cl_NoWord) (.ref cl_KnotError) = some true)
    (k_KnotError_NoText : PySem.W.kitOne K (.ref cl_NoText) (.ref cl_KnotError) = some true)
    (k_KnotError_NoString : PySem.W.kitOne K (.ref cl_NoString) (.ref cl_KnotError) = some true)
    (k_KnotError_NoSpot : PySem.W.kitOne K (.ref cl_NoSpot) (.ref cl_KnotError) = some true)
    (k_KnotError_NoPrime : PySem.W.kitOne K (.ref cl_NoPrime) (.ref cl_KnotError) = some true)
    (k_KnotError_NoName : PySem.W.kitOne K (.ref cl_NoName) (.ref cl_KnotError) = some true)
    (k_KnotError_NoMove : PySem.W.kitOne K (.ref cl_NoMove) (.ref cl_KnotError) = some true)
    (k_KnotError_NoMark : PySem.W.kitOne K (.ref cl_NoMark) (.ref cl_KnotError) = some true)
    (k_KnotError_NoLength : PySem.W.kitOne K (.ref cl_NoLength) (.ref cl_KnotError) = some true)
    (k_KnotError_NoFit : PySem.W.kitOne K (.ref cl_NoFit) (.ref cl_KnotError) = some true)
    (k_KnotError_NoDrawing : PySem.W.kitOne K (.ref cl_NoDrawing) (.ref cl_KnotError) = some true)
    (k_KnotError_NoBraid : PySem.W.kitOne K (.ref cl_NoBraid) (.ref cl_KnotError) = some true)
    (k_KnotError_NameTaken : PySem.W.kitOne K (.ref cl_NameTaken) (.ref cl_KnotError) = some true)
    (k_KnotError_KnotError : PySem.W.kitOne K (.ref cl_KnotError) (.ref cl_KnotError) = some true)
    (n_NameTaken : PySem.W.kitOne K (.type "NoneType") (.ref cl_NameTaken) = some false)
    (k_NameTaken_TooMany : PySem.W.kitOne K (.ref cl_TooMany) (.ref cl_NameTaken) = some false)
    (k_NameTaken_NothingDone : PySem.W.kitOne K (.ref cl_NothingDone) (.ref cl_NameTaken) = some false)
    (k_NameTaken_NoWord : PySem.W.kitOne K (.ref cl_NoWord) (.ref cl_NameTaken) = some false)
    (k_NameTaken_NoText : PySem.W.kitOne K (.ref cl_NoText) (.ref cl_NameTaken) = some false)
    (k_NameTaken_NoString : PySem.W.kitOne K (.ref cl_NoString) (.ref cl_NameTaken) = some false)
    (k_NameTaken_NoSpot : PySem.W.kitOne K (.ref cl_NoSpot) (.ref cl_NameTaken) = some false)
    (k_NameTaken_NoPrime : PySem.W.kitOne K (.ref cl_NoPrime) (.ref cl_NameTaken) = some false)
    (k_NameTaken_NoName : PySem.W.kitOne K (.ref cl_NoName) (.ref cl_NameTaken) = some false)
    (k_NameTaken_NoMove : PySem.W.kitOne K (.ref cl_NoMove) (.ref cl_NameTaken) = some false)
    (k_NameTaken_NoMark : PySem.W.kitOne K (.ref cl_NoMark) (.ref cl_NameTaken) = some false)
    (k_NameTaken_NoLength : PySem.W.kitOne K (.ref cl_NoLength) (.ref cl_NameTaken) = some false)
    (k_NameTaken_NoFit : PySem.W.kitOne K (.ref cl_NoFit) (.ref cl_NameTaken) = some false)
    (k_NameTaken_NoDrawing : PySem.W.kitOne K (.ref cl_NoDrawing) (.ref cl_NameTaken) = some false)
    (k_NameTaken_NoBraid : PySem.W.kitOne K (.ref cl_NoBraid) (.ref cl_NameTaken) = some false)
    (k_NameTaken_NameTaken : PySem.W.kitOne K (.ref cl_NameTaken) (.ref cl_NameTaken) = some true)
    (k_NameTaken_KnotError : PySem.W.kitOne K (.ref cl_KnotError) (.ref cl_NameTaken) = some false)
    (n_NoBraid : PySem.W.kitOne K (.type "NoneType") (.ref cl_NoBraid) = some false)
    (k_NoBraid_TooMany : PySem.W.kitOne K (.ref cl_TooMany) (.ref cl_NoBraid) = some false)
    (k_NoBraid_NothingDone : PySem.W.kitOne K (.ref cl_NothingDone) (.ref cl_NoBraid) = some false)
    (k_NoBraid_NoWord : PySem.W.kitOne K (.ref cl_NoWord) (.ref cl_NoBraid) = some false)
    (k_NoBraid_NoText : PySem.W.kitOne K (.ref cl_NoText) (.ref cl_NoBraid) = some false)
    (k_NoBraid_NoString : PySem.W.kitOne K (.ref cl_NoString) (.ref cl_NoBraid) = some false)
    (k_NoBraid_NoSpot : PySem.W.kitOne K (.ref cl_NoSpot) (.ref cl_NoBraid) = some false)
    (k_NoBraid_NoPrime : PySem.W.kitOne K (.ref cl_NoPrime) (.ref cl_NoBraid) = some false)
    (k_NoBraid_NoName : PySem.W.kitOne K (.ref cl_NoName) (.ref cl_NoBraid) = some false)
    (k_NoBraid_NoMove : PySem.W.kitOne K (.ref cl_NoMove) (.ref cl_NoBraid) = some false)
    (k_NoBraid_NoMark : PySem.W.kitOne K (.ref cl_NoMark) (.ref cl_NoBraid) = some false)
    (k_NoBraid_NoLength : PySem.W.kitOne K (.ref cl_NoLength) (.ref cl_NoBraid) = some false)
    (k_NoBraid_NoFit : PySem.W.kitOne K (.ref cl_NoFit) (.ref cl_NoBraid) = some false)
    (k_NoBraid_NoDrawing : PySem.W.kitOne K (.ref cl_NoDrawing) (.ref cl_NoBraid) = some false)
    (k_NoBraid_NoBraid : PySem.W.kitOne K (.ref cl_NoBraid) (.ref cl_NoBraid) = some true)
    (k_NoBraid_NameTaken : PySem.W.kitOne K (.ref cl_NameTaken) (.ref cl_NoBraid) = some false)
    (k_NoBraid_KnotError : PySem.W.kitOne K (.ref cl_KnotError) (.ref cl_NoBraid) = some false)
    (n_NoDrawing : PySem.W.kitOne K (.type "NoneType") (.ref cl_NoDrawing) = some false)
    (k_NoDrawing_TooMany : PySem.W.kitOne K (.ref cl_TooMany) (.ref cl_NoDrawing) = some false)
    (k_NoDrawing_NothingDone : PySem.W.kitOne K (.ref cl_NothingDone) (.ref cl_NoDrawing) = some false)
    (k_NoDrawing_NoWord : PySem.W.kitOne K (.ref cl_NoWord) (.ref cl_NoDrawing) = some false)
    (k_NoDrawing_NoText : PySem.W.kitOne K (.ref cl_NoText) (.ref cl_NoDrawing) = some false)
    (k_NoDrawing_NoString : PySem.W.kitOne K (.ref cl_NoString) (.ref cl_NoDrawing) = some false)
    (k_NoDrawing_NoSpot : PySem.W.kitOne K (.ref cl_NoSpot) (.ref cl_NoDrawing) = some false)
    (k_NoDrawing_NoPrime : PySem.W.kitOne K (.ref cl_NoPrime) (.ref cl_NoDrawing) = some false)
    (k_NoDrawing_NoName : PySem.W.kitOne K (.ref cl_NoName) (.ref cl_NoDrawing) = some false)
    (k_NoDrawing_NoMove : PySem.W.kitOne K (.ref cl_NoMove) (.ref cl_NoDrawing) = some false)
    (k_NoDrawing_NoMark : PySem.W.kitOne K (.ref cl_NoMark) (.ref cl_NoDrawing) = some false)
    (k_NoDrawing_NoLength : PySem.W.kitOne K (.ref cl_NoLength) (.ref cl_NoDrawing) = some false)
    (k_NoDrawing_NoFit : PySem.W.kitOne K (.ref cl_NoFit) (.ref cl_NoDrawing) = some false)
    (k_NoDrawing_NoDrawing : PySem.W.kitOne K (.ref cl_NoDrawing) (.ref cl_NoDrawing) = some true)
    (k_NoDrawing_NoBraid : PySem.W.kitOne K (.ref cl_NoBraid) (.ref cl_NoDrawing) = some false)
    (k_NoDrawing_NameTaken : PySem.W.kitOne K (.ref cl_NameTaken) (.ref cl_NoDrawing) = some false)
    (k_NoDrawing_KnotError : PySem.W.kitOne K (.ref cl_KnotError) (.ref cl_NoDrawing) = some false)
    (n_NoFit : PySem.W.kitOne K (.type "NoneType") (.ref cl_NoFit) = some false)
    (k_NoFit_TooMany : PySem.W.kitOne K (.ref cl_TooMany) (.ref cl_NoFit) = some false)
    (k_NoFit_NothingDone : PySem.W.kitOne K (.ref cl_NothingDone) (.ref cl_NoFit) = some false)
    (k_NoFit_NoWord : PySem.W.kitOne K (.ref cl_NoWord) (.ref cl_NoFit) = some false)
    (k_NoFit_NoText : PySem.W.kitOne K (.ref cl_NoText) (.ref cl_NoFit) = some false)
    (k_NoFit_NoString : PySem.W.kitOne K (.ref cl_NoString) (.ref cl_NoFit) = some false)
    (k_NoFit_NoSpot : PySem.W.kitOne K (.ref cl_NoSpot) (.ref cl_NoFit) = some false)
    (k_NoFit_NoPrime : PySem.W.kitOne K (.ref cl_NoPrime) (.ref cl_NoFit) = some false)
    (k_NoFit_NoName : PySem.W.kitOne K (.ref cl_NoName) (.ref cl_NoFit) = some false)
    (k_NoFit_NoMove : PySem.W.kitOne K (.ref cl_NoMove) (.ref cl_NoFit) = some false)
    (k_NoFit_NoMark : PySem.W.kitOne K (.ref cl_NoMark) (.ref cl_NoFit) = some false)
    (k_NoFit_NoLength : PySem.W.kitOne K (.ref cl_NoLength) (.ref cl_NoFit) = some false)
    (k_NoFit_NoFit : PySem.W.kitOne K (.ref cl_NoFit) (.ref cl_NoFit) = some true)
    (k_NoFit_NoDrawing : PySem.W.kitOne K (.ref cl_NoDrawing) (.ref cl_NoFit) = some false)
    (k_NoFit_NoBraid : PySem.W.kitOne K (.ref cl_NoBraid) (.ref cl_NoFit) = some false)
    (k_NoFit_NameTaken : PySem.W.kitOne K (.ref cl_NameTaken) (.ref cl_NoFit) = some false)
    (k_NoFit_KnotError : PySem.W.kitOne K (.ref cl_KnotError) (.ref cl_NoFit) = some false)
    (n_NoLength : PySem.W.kitOne K (.type "NoneType") (.ref cl_NoLength) = some false)
    (k_NoLength_TooMany : PySem.W.kitOne K (.ref cl_TooMany) (.ref cl_NoLength) = some false)
    (k_NoLength_NothingDone : PySem.W.kitOne K (.ref cl_NothingDone) (.ref cl_NoLength) = some false)
    (k_NoLength_NoWord : PySem.W.kitOne K (.ref cl_NoWord) (.ref cl_NoLength) = some false)
    (k_NoLength_NoText : PySem.W.kitOne K (.ref cl_NoText) (.ref cl_NoLength) = some false)
    (k_NoLength_NoString : PySem.W.kitOne K (.ref cl_NoString) (.ref cl_NoLength) = some false)
    (k_NoLength_NoSpot : PySem.W.kitOne K (.ref cl_NoSpot) (.ref cl_NoLength) = some false)
    (k_NoLength_NoPrime : PySem.W.kitOne K (.ref cl_NoPrime) (.ref cl_NoLength) = some false)
    (k_NoLength_NoName : PySem.W.kitOne K (.ref cl_NoName) (.ref cl_NoLength) = some false)
    (k_NoLength_NoMove : PySem.W.kitOne K (.ref cl_NoMove) (.ref cl_NoLength) = some false)
    (k_NoLength_NoMark : PySem.W.kitOne K (.ref cl_NoMark) (.ref cl_NoLength) = some false)
    (k_NoLength_NoLength : PySem.W.kitOne K (.ref cl_NoLength) (.ref cl_NoLength) = some true)
    (k_NoLength_NoFit : PySem.W.kitOne K (.ref cl_NoFit) (.ref cl_NoLength) = some false)
    (k_NoLength_NoDrawing : PySem.W.kitOne K (.ref cl_NoDrawing) (.ref cl_NoLength) = some false)
    (k_NoLength_NoBraid : PySem.W.kitOne K (.ref cl_NoBraid) (.ref cl_NoLength) = some false)
    (k_NoLength_NameTaken : PySem.W.kitOne K (.ref cl_NameTaken) (.ref cl_NoLength) = some false)
    (k_NoLength_KnotError : PySem.W.kitOne K (.ref cl_KnotError) (.ref cl_NoLength) = some false)
    (n_NoMark : PySem.W.kitOne K (.type "NoneType") (.ref cl_NoMark) = some false)
    (k_NoMark_TooMany : PySem.W.kitOne K (.ref cl_TooMany) (.ref cl_NoMark) = some false)
    (k_NoMark_NothingDone : PySem.W.kitOne K (.ref cl_NothingDone) (.ref cl_NoMark) = some false)
    (k_NoMark_NoWord : PySem.W.kitOne K (.ref cl_NoWord) (.ref cl_NoMark) = some false)
    (k_NoMark_NoText : PySem.W.kitOne K (.ref cl_NoText) (.ref cl_NoMark) = some false)
    (k_NoMark_NoString : PySem.W.kitOne K (.ref cl_NoString) (.ref cl_NoMark) = some false)
    (k_NoMark_NoSpot : PySem.W.kitOne K (.ref cl_NoSpot) (.ref cl_NoMark) = some false)
    (k_NoMark_NoPrime : PySem.W.kitOne K (.ref cl_NoPrime) (.ref cl_NoMark) = some false)
    (k_NoMark_NoName : PySem.W.kitOne K (.ref cl_NoName) (.ref cl_NoMark) = some false)
    (k_NoMark_NoMove : PySem.W.kitOne K (.ref cl_NoMove) (.ref cl_NoMark) = some false)
    (k_NoMark_NoMark : PySem.W.kitOne K (.ref cl_NoMark) (.ref cl_NoMark) = some true)
    (k_NoMark_NoLength : PySem.W.kitOne K (.ref cl_NoLength) (.ref cl_NoMark) = some false)
    (k_NoMark_NoFit : PySem.W.kitOne K (.ref cl_NoFit) (.ref cl_NoMark) = some false)
    (k_NoMark_NoDrawing : PySem.W.kitOne K (.ref cl_NoDrawing) (.ref cl_NoMark) = some false)
    (k_NoMark_NoBraid : PySem.W.kitOne K (.ref cl_NoBraid) (.ref cl_NoMark) = some false)
    (k_NoMark_NameTaken : PySem.W.kitOne K (.ref cl_NameTaken) (.ref cl_NoMark) = some false)
    (k_NoMark_KnotError : PySem.W.kitOne K (.ref cl_KnotError) (.ref cl_NoMark) = some false)
    (n_NoMove : PySem.W.kitOne K (.type "NoneType") (.ref cl_NoMove) = some false)
    (k_NoMove_TooMany : PySem.W.kitOne K (.ref cl_TooMany) (.ref cl_NoMove) = some false)
    (k_NoMove_NothingDone : PySem.W.kitOne K (.ref cl_NothingDone) (.ref cl_NoMove) = some false)
    (k_NoMove_NoWord : PySem.W.kitOne K (.ref cl_NoWord) (.ref cl_NoMove) = some false)
    (k_NoMove_NoText : PySem.W.kitOne K (.ref cl_NoText) (.ref cl_NoMove) = some false)
    (k_NoMove_NoString : PySem.W.kitOne K (.ref cl_NoString) (.ref cl_NoMove) = some false)
    (k_NoMove_NoSpot : PySem.W.kitOne K (.ref cl_NoSpot) (.ref cl_NoMove) = some false)
    (k_NoMove_NoPrime : PySem.W.kitOne K (.ref cl_NoPrime) (.ref cl_NoMove) = some false)
    (k_NoMove_NoName : PySem.W.kitOne K (.ref cl_NoName) (.ref cl_NoMove) = some false)
    (k_NoMove_NoMove : PySem.W.kitOne K (.ref cl_NoMove) (.ref cl_NoMove) = some true)
    (k_NoMove_NoMark : PySem.W.kitOne K (.ref cl_NoMark) (.ref cl_NoMove) = some false)
    (k_NoMove_NoLength : PySem.W.kitOne K (.ref cl_NoLength) (.ref cl_NoMove) = some false)
    (k_NoMove_NoFit : PySem.W.kitOne K (.ref cl_NoFit) (.ref cl_NoMove) = some false)
    (k_NoMove_NoDrawing : PySem.W.kitOne K (.ref cl_NoDrawing) (.ref cl_NoMove) = some false)
    (k_NoMove_NoBraid : PySem.W.kitOne K (.ref cl_NoBraid) (.ref cl_NoMove) = some false)
    (k_NoMove_NameTaken : PySem.W.kitOne K (.ref cl_NameTaken) (.ref cl_NoMove) = some false)
    (k_NoMove_KnotError : PySem.W.kitOne K (.ref cl_KnotError) (.ref cl_NoMove) = some false)
    (n_NoName : PySem.W.kitOne K (.type "NoneType") (.ref cl_NoName) = some false)
    (k_NoName_TooMany : PySem.W.kitOne K (.ref cl_TooMany) (.ref cl_NoName) = some false)
    (k_NoName_NothingDone : PySem.W.kitOne K (.ref cl_NothingDone) (.ref cl_NoName) = some false)
    (k_NoName_NoWord : PySem.W.kitOne K (.ref cl_NoWord) (.ref cl_NoName) = some false)
    (k_NoName_NoText : PySem.W.kitOne K (.ref cl_NoText) (.ref cl_NoName) = some false)
    (k_NoName_NoString : PySem.W.kitOne K (.ref cl_NoString) (.ref cl_NoName) = some false)
    (k_NoName_NoSpot : PySem.W.kitOne K (.ref cl_NoSpot) (.ref cl_NoName) = some false)
    (k_NoName_NoPrime : PySem.W.kitOne K (.ref cl_NoPrime) (.ref cl_NoName) = some false)
    (k_NoName_NoName : PySem.W.kitOne K (.ref cl_NoName) (.ref cl_NoName) = some true)
    (k_NoName_NoMove : PySem.W.kitOne K (.ref cl_NoMove) (.ref cl_NoName) = some false)
    (k_NoName_NoMark : PySem.W.kitOne K (.ref cl_NoMark) (.ref cl_NoName) = some false)
    (k_NoName_NoLength : PySem.W.kitOne K (.ref cl_NoLength) (.ref cl_NoName) = some false)
    (k_NoName_NoFit : PySem.W.kitOne K (.ref cl_NoFit) (.ref cl_NoName) = some false)
    (k_NoName_NoDrawing : PySem.W.kitOne K (.ref cl_NoDrawing) (.ref cl_NoName) = some false)
    (k_NoName_NoBraid : PySem.W.kitOne K (.ref cl_NoBraid) (.ref cl_NoName) = some false)
    (k_NoName_NameTaken : PySem.W.kitOne K (.ref cl_NameTaken) (.ref cl_NoName) = some false)
    (k_NoName_KnotError : PySem.W.kitOne K (.ref cl_KnotError) (.ref cl_NoName) = some false)
    (n_NoPrime : PySem.W.kitOne K (.type "NoneType") (.ref cl_NoPrime) = some false)
    (k_NoPrime_TooMany : PySem.W.kitOne K (.ref cl_TooMany) (.ref cl_NoPrime) = some false)
    (k_NoPrime_NothingDone : PySem.W.kitOne K (.ref cl_NothingDone) (.ref cl_NoPrime) = some false)
    (k_NoPrime_NoWord : PySem.W.kitOne K (.ref cl_NoWord) (.ref cl_NoPrime) = some false)
    (k_NoPrime_NoText : PySem.W.kitOne K (.ref cl_NoText) (.ref cl_NoPrime) = some false)
    (k_NoPrime_NoString : PySem.W.kitOne K (.ref cl_NoString) (.ref cl_NoPrime) = some false)
    (k_NoPrime_NoSpot : PySem.W.kitOne K (.ref cl_NoSpot) (.ref cl_NoPrime) = some false)
    (k_NoPrime_NoPrime : PySem.W.kitOne K (.ref cl_NoPrime) (.ref cl_NoPrime) = some true)
    (k_NoPrime_NoName : PySem.W.kitOne K (.ref cl_NoName) (.ref cl_NoPrime) = some false)
    (k_NoPrime_NoMove : PySem.W.kitOne K (.ref cl_NoMove) (.ref cl_NoPrime) = some false)
    (k_NoPrime_NoMark : PySem.W.kitOne K (.ref cl_NoMark) (.ref cl_NoPrime) = some false)
    (k_NoPrime_NoLength : PySem.W.kitOne K (.ref cl_NoLength) (.ref cl_NoPrime) = some false)
    (k_NoPrime_NoFit : PySem.W.kitOne K (.ref cl_NoFit) (.ref cl_NoPrime) = some false)
    (k_NoPrime_NoDrawing : PySem.W.kitOne K (.ref cl_NoDrawing) (.ref cl_NoPrime) = some false)
    (k_NoPrime_NoBraid : PySem.W.kitOne K (.ref cl_NoBraid) (.ref cl_NoPrime) = some false)
    (k_NoPrime_NameTaken : PySem.W.kitOne K (.ref cl_NameTaken) (.ref cl_NoPrime) = some false)
    (k_NoPrime_KnotError : PySem.W.kitOne K (.ref cl_KnotError) (.ref cl_NoPrime) = some false)
    (n_NoSpot : PySem.W.kitOne K (.type "NoneType") (.ref cl_NoSpot) = some false)
    (k_NoSpot_TooMany : PySem.W.kitOne K (.ref cl_TooMany) (.ref cl_NoSpot) = some false)
    (k_NoSpot_NothingDone : PySem.W.kitOne K (.ref cl_NothingDone) (.ref cl_NoSpot) = some false)
    (k_NoSpot_NoWord : PySem.W.kitOne K (.ref cl_NoWord) (.ref cl_NoSpot) = some false)
    (k_NoSpot_NoText : PySem.W.kitOne K (.ref cl_NoText) (.ref cl_NoSpot) = some false)
    (k_NoSpot_NoString : PySem.W.kitOne K (.ref cl_NoString) (.ref cl_NoSpot) = some false)
    (k_NoSpot_NoSpot : PySem.W.kitOne K (.ref cl_NoSpot) (.ref cl_NoSpot) = some true)
    (k_NoSpot_NoPrime : PySem.W.kitOne K (.ref cl_NoPrime) (.ref cl_NoSpot) = some false)
    (k_NoSpot_NoName : PySem.W.kitOne K (.ref cl_NoName) (.ref cl_NoSpot) = some false)
    (k_NoSpot_NoMove : PySem.W.kitOne K (.ref cl_NoMove) (.ref cl_NoSpot) = some false)
    (k_NoSpot_NoMark : PySem.W.kitOne K (.ref cl_NoMark) (.ref cl_NoSpot) = some false)
    (k_NoSpot_NoLength : PySem.W.kitOne K (.ref cl_NoLength) (.ref cl_NoSpot) = some false)
    (k_NoSpot_NoFit : PySem.W.kitOne K (.ref cl_NoFit) (.ref cl_NoSpot) = some false)
    (k_NoSpot_NoDrawing : PySem.W.kitOne K (.ref cl_NoDrawing) (.ref cl_NoSpot) = some false)
    (k_NoSpot_NoBraid : PySem.W.kitOne K (.ref cl_NoBraid) (.ref cl_NoSpot) = some false)
    (k_NoSpot_NameTaken : PySem.W.kitOne K (.ref cl_NameTaken) (.ref cl_NoSpot) = some false)
    (k_NoSpot_KnotError : PySem.W.kitOne K (.ref cl_KnotError) (.ref cl_NoSpot) = some false)
    (n_NoString : PySem.W.kitOne K (.type "NoneType") (.ref cl_NoString) = some false)
    (k_NoString_TooMany : PySem.W.kitOne K (.ref cl_TooMany) (.ref cl_NoString) = some false)
    (k_NoString_NothingDone : PySem.W.kitOne K (.ref cl_NothingDone) (.ref cl_NoString) = some false)
    (k_NoString_NoWord : PySem.W.kitOne K (.ref cl_NoWord) (.ref cl_NoString) = some false)
    (k_NoString_NoText : PySem.W.kitOne K (.ref cl_NoText) (.ref cl_NoString) = some false)
    (k_NoString_NoString : PySem.W.kitOne K (.ref cl_NoString) (.ref cl_NoString) = some true)
    (k_NoString_NoSpot : PySem.W.kitOne K (.ref cl_NoSpot) (.ref cl_NoString) = some false)
    (k_NoString_NoPrime : PySem.W.kitOne K (.ref cl_NoPrime) (.ref cl_NoString) = some false)
    (k_NoString_NoName : PySem.W.kitOne K (.ref cl_NoName) (.ref cl_NoString) = some false)
    (k_NoString_NoMove : PySem.W.kitOne K (.ref cl_NoMove) (.ref cl_NoString) = some false)
    (k_NoString_NoMark : PySem.W.kitOne K (.ref cl_NoMark) (.ref cl_NoString) = some false)
    (k_NoString_NoLength : PySem.W.kitOne K (.ref cl_NoLength) (.ref cl_NoString) = some false)
    (k_NoString_NoFit : PySem.W.kitOne K (.ref cl_NoFit) (.ref cl_NoString) = some false)
    (k_NoString_NoDrawing : PySem.W.kitOne K (.ref cl_NoDrawing) (.ref cl_NoString) = some false)
    (k_NoString_NoBraid : PySem.W.kitOne K (.ref cl_NoBraid) (.ref cl_NoString) = some false)
    (k_NoString_NameTaken : PySem.W.kitOne K (.ref cl_NameTaken) (.ref cl_NoString) = some false)
    (k_NoString_KnotError : PySem.W.kitOne K (.ref cl_KnotError) (.ref cl_NoString) = some false)
    (n_NoText : PySem.W.kitOne K (.type "NoneType") (.ref cl_NoText) = some false)
    (k_NoText_TooMany : PySem.W.kitOne K (.ref cl_TooMany) (.ref cl_NoText) = some false)
    (k_NoText_NothingDone : PySem.W.kitOne K (.ref cl_NothingDone) (.ref cl_NoText) = some false)
    (k_NoText_NoWord : PySem.W.kitOne K (.ref cl_NoWord) (.ref cl_NoText) = some false)
    (k_NoText_NoText : PySem.W.kitOne K (.ref cl_NoText) (.ref cl_NoText) = some true)
    (k_NoText_NoString : PySem.W.kitOne K (.ref cl_NoString) (.ref cl_NoText) = some false)
    (k_NoText_NoSpot : PySem.W.kitOne K (.ref cl_NoSpot) (.ref cl_NoText) = some false)
    (k_NoText_NoPrime : PySem.W.kitOne K (.ref cl_NoPrime) (.ref cl_NoText) = some false)
    (k_NoText_NoName : PySem.W.kitOne K (.ref cl_NoName) (.ref cl_NoText) = some false)
    (k_NoText_NoMove : PySem.W.kitOne K (.ref cl_NoMove) (.ref cl_NoText) = some false)
    (k_NoText_NoMark : PySem.W.kitOne K (.ref cl_NoMark) (.ref cl_NoText) = some false)
    (k_NoText_NoLength : PySem.W.kitOne K (.ref cl_NoLength) (.ref cl_NoText) = some false)
    (k_NoText_NoFit : PySem.W.kitOne K (.ref cl_NoFit) (.ref cl_NoText) = some false)
    (k_NoText_NoDrawing : PySem.W.kitOne K (.ref cl_NoDrawing) (.ref cl_NoText) = some false)
    (k_NoText_NoBraid : PySem.W.kitOne K (.ref cl_NoBraid) (.ref cl_NoText) = some false)
    (k_NoText_NameTaken : PySem.W.kitOne K (.ref cl_NameTaken) (.ref cl_NoText) = some false)
    (k_NoText_KnotError : PySem.W.kitOne K (.ref cl_KnotError) (.ref cl_NoText) = some false)
    (n_NoWord : PySem.W.kitOne K (.type "NoneType") (.ref cl_NoWord) = some false)
    (k_NoWord_TooMany : PySem.W.kitOne K (.ref cl_TooMany) (.ref cl_NoWord) = some false)
    (k_NoWord_NothingDone : PySem.W.kitOne K (.ref cl_NothingDone) (.ref cl_NoWord) = some false)
    (k_NoWord_NoWord : PySem.W.kitOne K (.ref cl_NoWord) (.ref cl_NoWord) = some true)
    (k_NoWord_NoText : PySem.W.kitOne K (.ref cl_NoText) (.ref cl_NoWord) = some false)
    (k_NoWord_NoString : PySem.W.kitOne K (.ref cl_NoString) (.ref cl_NoWord) = some false)
    (k_NoWord_NoSpot : PySem.W.kitOne K (.ref cl_NoSpot) (.ref cl_NoWord) = some false)
    (k_NoWord_NoPrime : PySem.W.kitOne K (.ref cl_NoPrime) (.ref cl_NoWord) = some false)
    (k_NoWord_NoName : PySem.W.kitOne K (.ref cl_NoName) (.ref cl_NoWord) = some false)
    (k_NoWord_NoMove : PySem.W.kitOne K (.ref cl_NoMove) (.ref cl_NoWord) = some false)
    (k_NoWord_NoMark : PySem.W.kitOne K (.ref cl_NoMark) (.ref cl_NoWord) = some false)
    (k_NoWord_NoLength : PySem.W.kitOne K (.ref cl_NoLength) (.ref cl_NoWord) = some false)
    (k_NoWord_NoFit : PySem.W.kitOne K (.ref cl_NoFit) (.ref cl_NoWord) = some false)
    (k_NoWord_NoDrawing : PySem.W.kitOne K (.ref cl_NoDrawing) (.ref cl_NoWord) = some false)
    (k_NoWord_NoBraid : PySem.W.kitOne K (.ref cl_NoBraid) (.ref cl_NoWord) = some false)
    (k_NoWord_NameTaken : PySem.W.kitOne K (.ref cl_NameTaken) (.ref cl_NoWord) = some false)
    (k_NoWord_KnotError : PySem.W.kitOne K (.ref cl_KnotError) (.ref cl_NoWord) = some false)
    (n_NothingDone : PySem.W.kitOne K (.type "NoneType") (.ref cl_NothingDone) = some false)
    (k_NothingDone_TooMany : PySem.W.kitOne K (.ref cl_TooMany) (.ref cl_NothingDone) = some false)
    (k_NothingDone_NothingDone : PySem.W.kitOne K (.ref cl_NothingDone) (.ref cl_NothingDone) = some true)
    (k_NothingDone_NoWord : PySem.W.kitOne K (.ref cl_NoWord) (.ref cl_NothingDone) = some false)
    (k_NothingDone_NoText : PySem.W.kitOne K (.ref cl_NoText) (.ref cl_NothingDone) = some false)
    (k_NothingDone_NoString : PySem.W.kitOne K (.ref cl_NoString) (.ref cl_NothingDone) = some false)
    (k_NothingDone_NoSpot : PySem.W.kitOne K (.ref cl_NoSpot) (.ref cl_NothingDone) = some false)
    (k_NothingDone_NoPrime : PySem.W.kitOne K (.ref cl_NoPrime) (.ref cl_NothingDone) = some false)
    (k_NothingDone_NoName : PySem.W.kitOne K (.ref cl_NoName) (.ref cl_NothingDone) = some false)
    (k_NothingDone_NoMove : PySem.W.kitOne K (.ref cl_NoMove) (.ref cl_NothingDone) = some false)
    (k_NothingDone_NoMark : PySem.W.kitOne K (.ref cl_NoMark) (.ref cl_NothingDone) = some false)
    (k_NothingDone_NoLength : PySem.W.kitOne K (.ref cl_NoLength) (.ref cl_NothingDone) = some false)
    (k_NothingDone_NoFit : PySem.W.kitOne K (.ref cl_NoFit) (.ref cl_NothingDone) = some false)
    (k_NothingDone_NoDrawing : PySem.W.kitOne K (.ref cl_NoDrawing) (.ref cl_NothingDone) = some false)
    (k_NothingDone_NoBraid : PySem.W.kitOne K (.ref cl_NoBraid) (.ref cl_NothingDone) = some false)
    (k_NothingDone_NameTaken : PySem.W.kitOne K (.ref cl_NameTaken) (.ref cl_NothingDone) = some false)
    (k_NothingDone_KnotError : PySem.W.kitOne K (.ref cl_KnotError) (.ref cl_NothingDone) = some false)
    (n_TooMany : PySem.W.kitOne K (.type "NoneType") (.ref cl_TooMany) = some false)
    (k_TooMany_TooMany : PySem.W.kitOne K (.ref cl_TooMany) (.ref cl_TooMany) = some true)
    (k_TooMany_NothingDone : PySem.W.kitOne K (.ref cl_NothingDone) (.ref cl_TooMany) = some false)
    (k_TooMany_NoWord : PySem.W.kitOne K (.ref cl_NoWord) (.ref cl_TooMany) = some false)
    (k_TooMany_NoText : PySem.W.kitOne K (.ref cl_NoText) (.ref cl_TooMany) = some false)
    (k_TooMany_NoString : PySem.W.kitOne K (.ref cl_NoString) (.ref cl_TooMany) = some false)
    (k_TooMany_NoSpot : PySem.W.kitOne K (.ref cl_NoSpot) (.ref cl_TooMany) = some false)
    (k_TooMany_NoPrime : PySem.W.kitOne K (.ref cl_NoPrime) (.ref cl_TooMany) = some false)
    (k_TooMany_NoName : PySem.W.kitOne K (.ref cl_NoName) (.ref cl_TooMany) = some false)
    (k_TooMany_NoMove : PySem.W.kitOne K (.ref cl_NoMove) (.ref cl_TooMany) = some false)
    (k_TooMany_NoMark : PySem.W.kitOne K (.ref cl_NoMark) (.ref cl_TooMany) = some false)
    (k_TooMany_NoLength : PySem.W.kitOne K (.ref cl_NoLength) (.ref cl_TooMany) = some false)
    (k_TooMany_NoFit : PySem.W.kitOne K (.ref cl_NoFit) (.ref cl_TooMany) = some false)
    (k_TooMany_NoDrawing : PySem.W.kitOne K (.ref cl_NoDrawing) (.ref cl_TooMany) = some false)
    (k_TooMany_NoBraid : PySem.W.kitOne K (.ref cl_NoBraid) (.ref cl_TooMany) = some false)
    (k_TooMany_NameTaken : PySem.W.kitOne K (.ref cl_NameTaken) (.ref cl_TooMany) = some false)
    (k_TooMany_KnotError : PySem.W.kitOne K (.ref cl_KnotError) (.ref cl_TooMany) = some false)
    (n_ValueError : PySem.W.kitOne K (.type "NoneType") (.type "ValueError") = some false)
    (k_ValueError_TooMany : PySem.W.kitOne K (.ref cl_TooMany) (.type "ValueError") = some true)
    (k_ValueError_NothingDone : PySem.W.kitOne K (.ref cl_NothingDone) (.type "ValueError") = some true)
    (k_ValueError_NoWord : PySem.W.kitOne K (.ref cl_NoWord) (.type "ValueError") = some true)
    (k_ValueError_NoText : PySem.W.kitOne K (.ref cl_NoText) (.type "ValueError") = some true)
    (k_ValueError_NoString : PySem.W.kitOne K (.ref cl_NoString) (.type "ValueError") = some true)
    (k_ValueError_NoSpot : PySem.W.kitOne K (.ref cl_NoSpot) (.type "ValueError") = some true)
    (k_ValueError_NoPrime : PySem.W.kitOne K (.ref cl_NoPrime) (.type "ValueError") = some true)
    (k_ValueError_NoName : PySem.W.kitOne K (.ref cl_NoName) (.type "ValueError") = some true)
    (k_ValueError_NoMove : PySem.W.kitOne K (.ref cl_NoMove) (.type "ValueError") = some true)
    (k_ValueError_NoMark : PySem.W.kitOne K (.ref cl_NoMark) (.type "ValueError") = some true)
    (k_ValueError_NoLength : PySem.W.kitOne K (.ref cl_NoLength) (.type "ValueError") = some true)
    (k_ValueError_NoFit : PySem.W.kitOne K (.ref cl_NoFit) (.type "ValueError") = some true)
    (k_ValueError_NoDrawing : PySem.W.kitOne K (.ref cl_NoDrawing) (.type "ValueError") = some true)
    (k_ValueError_NoBraid : PySem.W.kitOne K (.ref cl_NoBraid) (.type "ValueError") = some true)
    (k_ValueError_NameTaken : PySem.W.kitOne K (.ref cl_NameTaken) (.type "ValueError") = some true)
    (k_ValueError_KnotError : PySem.W.kitOne K (.ref cl_KnotError) (.type "ValueError") = some true)
    {nm_NoDrawing q_NoDrawing : Str} {N_NoDrawing : Addr} {bs_NoDrawing bm_NoDrawing : List Value} {sn_NoDrawing : List Str} {sub_NoDrawing : List Value} {ab_NoDrawing : Bool} {col_NoDrawing : Option Bool} {dd_NoDrawing : Option Addr} {k0_NoDrawing k1_NoDrawing k2_NoDrawing k3_NoDrawing k5_NoDrawing : Option Value} (u_NoDrawing : K.lookup cl_NoDrawing = some (excClassObj nm_NoDrawing q_NoDrawing cl_NoDrawing N_NoDrawing bs_NoDrawing bm_NoDrawing true sn_NoDrawing sub_NoDrawing ab_NoDrawing col_NoDrawing dd_NoDrawing k0_NoDrawing k1_NoDrawing k2_NoDrawing k3_NoDrawing k5_NoDrawing "ValueError.__new__")) (r_NoDrawing : PySem.HandSPX.refsVE bm_NoDrawing = true) (s_NoDrawing : PySem.W.findIn K (.ref cl_NoDrawing) "__setattr__" = some (some (.builtin "object.__setattr__")))
    {nm_NoText q_NoText : Str} {N_NoText : Addr} {bs_NoText bm_NoText : List Value} {sn_NoText : List Str} {sub_NoText : List Value} {ab_NoText : Bool} {col_NoText : Option Bool} {dd_NoText : Option Addr} {k0_NoText k1_NoText k2_NoText k3_NoText k5_NoText : Option Value} (u_NoText : K.lookup cl_NoText = some (excClassObj nm_NoText q_NoText cl_NoText N_NoText bs_NoText bm_NoText true sn_NoText sub_NoText ab_NoText col_NoText dd_NoText k0_NoText k1_NoText k2_NoText k3_NoText k5_NoText "ValueError.__new__")) (r_NoText : PySem.HandSPX.refsVE bm_NoText = true) (s_NoText : PySem.W.findIn K (.ref cl_NoText) "__setattr__" = some (some (.builtin "object.__setattr__")))
    (f_NoDrawing_place : PySem.W.findIn K (.ref cl_NoDrawing) "place" = some none)
    (f_NoDrawing_word : PySem.W.findIn K (.ref cl_NoDrawing) "word" = some none)
    (f_NoText_at : PySem.W.findIn K (.ref cl_NoText) "at" = some none)
    (f_NoText_line : PySem.W.findIn K (.ref cl_NoText) "line" = some none)
    {fMXNoDrawing : Addr} {ocMXNoDrawing : Value} {odMXNoDrawing anMXNoDrawing : Option Addr} {slMXNoDrawing : Array (Option Value)} {kVMXNoDrawing dcMXNoDrawing pmMXNoDrawing cdMXNoDrawing ctMXNoDrawing : Value}
    (aMXNoDrawing : PySem.W.findIn K (.ref cl_NoDrawing) "__init__" = some (some (.ref fMXNoDrawing))) (lMXNoDrawing : K.lookup fMXNoDrawing = some ⟨ocMXNoDrawing, odMXNoDrawing, .func (PySem.W.fnOf "__init__" "NoDrawing.__init__" (defArgs s_NoDrawing___init__) (defBody s_NoDrawing___init__) (defScope s_NoDrawing___init__) .none kVMXNoDrawing dcMXNoDrawing pmMXNoDrawing anMXNoDrawing cdMXNoDrawing ctMXNoDrawing), slMXNoDrawing⟩) (cMXNoDrawing : PySem.W.codeIn K cdMXNoDrawing "NoDrawing.__init__" = true) (kMXNoDrawing : PySem.W.keepIn K (.ref fMXNoDrawing) = true) (nMXNoDrawing : PySem.W.typeIn K (.ref fMXNoDrawing) = some (.type "function"))
    {fMXNoText : Addr} {ocMXNoText : Value} {odMXNoText anMXNoText : Option Addr} {slMXNoText : Array (Option Value)} {kVMXNoText dcMXNoText pmMXNoText cdMXNoText ctMXNoText : Value}
    (aMXNoText : PySem.W.findIn K (.ref cl_NoText) "__init__" = some (some (.ref fMXNoText))) (lMXNoText : K.lookup fMXNoText = some ⟨ocMXNoText, odMXNoText, .func (PySem.W.fnOf "__init__" "NoText.__init__" (defArgs s_NoText___init__) (defBody s_NoText___init__) (defScope s_NoText___init__) .none kVMXNoText dcMXNoText pmMXNoText anMXNoText cdMXNoText ctMXNoText), slMXNoText⟩) (cMXNoText : PySem.W.codeIn K cdMXNoText "NoText.__init__" = true) (kMXNoText : PySem.W.keepIn K (.ref fMXNoText) = true) (nMXNoText : PySem.W.typeIn K (.ref fMXNoText) = some (.type "function"))
    : ∃ fd : FuncData, (∀ (s : Shared) (v : Value), BindsTo s fd ⟨[v], []⟩ [("_law_script", v)]) ∧ ∀ base : Heap, K.In base → base.Ns mainGlobals mg → FnOk l.prog w K mg base CX0 4 fa fd ["_law_script"] (spF 0 1 (F_law (kOf K))) := by
  have e := hfa.symm.trans (PySem.W.mg_of X G a4)
  cases e
  have T : Txt K mg (kOf K) := ⟨PySem.W.mg_none_of X G z_ValueError, PySem.W.mg_none_of X G z_bool, PySem.W.mg_none_of X G z_int, PySem.W.mg_none_of X G z_isinstance, PySem.W.mg_none_of X G z_len, PySem.W.mg_none_of X G z_range, xcl_of X G z_KnotError i_KnotError, xcl_of X G z_NameTaken i_NameTaken, xcl_of X G z_NoBraid i_NoBraid, xcl_of X G z_NoDrawing i_NoDrawing, xcl_of X G z_NoFit i_NoFit, xcl_of X G z_NoLength i_NoLength, xcl_of X G z_NoMark i_NoMark, xcl_of X G z_NoMove i_NoMove, xcl_of X G z_NoName i_NoName, xcl_of X G z_NoPrime i_NoPrime, xcl_of X G z_NoSpot i_NoSpot, xcl_of X G z_NoString i_NoString, xcl_of X G z_NoText i_NoText, xcl_of X G z_NoWord i_NoWord, xcl_of X G z_NothingDone i_NothingDone, xcl_of X G z_TooMany i_TooMany, ⟨xcl_of X G z_KnotError i_KnotError, by rw [kOf_eq z_KnotError]; exact m_KnotError⟩, ⟨xcl_of X G z_NameTaken i_NameTaken, by rw [kOf_eq z_NameTaken]; exact m_NameTaken⟩, ⟨xcl_of X G z_NoBraid i_NoBraid, by rw [kOf_eq z_NoBraid]; exact m_NoBraid⟩, ⟨xcl_of X G z_NoFit i_NoFit, by rw [kOf_eq z_NoFit]; exact m_NoFit⟩, ⟨xcl_of X G z_NoLength i_NoLength, by rw [kOf_eq z_NoLength]; exact m_NoLength⟩, ⟨xcl_of X G z_NoMark i_NoMark, by rw [kOf_eq z_NoMark]; exact m_NoMark⟩, ⟨xcl_of X G z_NoMove i_NoMove, by rw [kOf_eq z_NoMove]; exact m_NoMove⟩, ⟨xcl_of X G z_NoName i_NoName, by rw [kOf_eq z_NoName]; exact m_NoName⟩, ⟨xcl_of X G z_NoPrime i_NoPrime, by rw [kOf_eq z_NoPrime]; exact m_NoPrime⟩, ⟨xcl_of X G z_NoSpot i_NoSpot, by rw [kOf_eq z_NoSpot]; exact m_NoSpot⟩, ⟨xcl_of X G z_NoString i_NoString, by rw [kOf_eq z_NoString]; exact m_NoString⟩, ⟨xcl_of X G z_NoWord i_NoWord, by rw [kOf_eq z_NoWord]; exact m_NoWord⟩, ⟨xcl_of X G z_NothingDone i_NothingDone, by rw [kOf_eq z_NothingDone]; exact m_NothingDone⟩, ⟨xcl_of X G z_TooMany i_TooMany, by rw [kOf_eq z_TooMany]; exact m_TooMany⟩, by rw [kOf_eq z_KnotError]; exact n_KnotError, ⟨⟨by rw [kOf_eq z_KnotError]; exact k_KnotError_KnotError, xisB_ok (by rw [kOf_eq z_KnotError]; exact i_KnotError)⟩, ⟨⟨by rw [kOf_eq z_NameTaken, kOf_eq z_KnotError]; exact k_KnotError_NameTaken, xisB_ok (by rw [kOf_eq z_NameTaken]; exact i_NameTaken)⟩, ⟨⟨by rw [kOf_eq z_NoBraid, kOf_eq z_KnotError]; exact k_KnotError_NoBraid, xisB_ok (by rw [kOf_eq z_NoBraid]; exact i_NoBraid)⟩, ⟨⟨by rw [kOf_eq z_NoDrawing, kOf_eq z_KnotError]; exact k_KnotError_NoDrawing, xisB_ok (by rw [kOf_eq z_NoDrawing]; exact i_NoDrawing)⟩, ⟨⟨by rw [kOf_eq z_NoFit, kOf_eq z_KnotError]; exact k_KnotError_NoFit, xisB_ok (by rw [kOf_eq z_NoFit]; exact i_NoFit)⟩, ⟨⟨by rw [kOf_eq z_NoLength, kOf_eq z_KnotError]; exact k_KnotError_NoLength, xisB_ok (by rw [kOf_eq z_NoLength]; exact i_NoLength)⟩, ⟨⟨by rw [kOf_eq z_NoMark, kOf_eq z_KnotError]; exact k_KnotError_NoMark, xisB_ok (by rw [kOf_eq z_NoMark]; exact i_NoMark)⟩, ⟨⟨by rw [kOf_eq z_NoMove, kOf_eq z_KnotError]; exact k_KnotError_NoMove, xisB_ok (by rw [kOf_eq z_NoMove]; exact i_NoMove)⟩, ⟨⟨by rw [kOf_eq z_NoName, kOf_eq z_KnotError]; exact k_KnotError_NoName, xisB_ok (by rw [kOf_eq z_NoName]; exact i_NoName)⟩, ⟨⟨by rw [kOf_eq z_NoPrime, kOf_eq z_KnotError]; exact k_KnotError_NoPrime, xisB_ok (by rw [kOf_eq z_NoPrime]; exact i_NoPrime)⟩, ⟨⟨by rw [kOf_eq z_NoSpot, kOf_eq z_KnotError]; exact k_KnotError_NoSpot, xisB_ok (by rw [kOf_eq z_NoSpot]; exact i_NoSpot)⟩, ⟨⟨by rw [kOf_eq z_NoString, kOf_eq z_KnotError]; exact k_KnotError_NoString, xisB_ok (by rw [kOf_eq z_NoString]; exact i_NoString)⟩, ⟨⟨by rw [kOf_eq z_NoText, kOf_eq z_KnotError]; exact k_KnotError_NoText, xisB_ok (by rw [kOf_eq z_NoText]; exact i_NoText)⟩, ⟨⟨by rw [kOf_eq z_NoWord, kOf_eq z_KnotError]; exact k_KnotError_NoWord, xisB_ok (by rw [kOf_eq z_NoWord]; exact i_NoWord)⟩, ⟨⟨by rw [kOf_eq z_NothingDone, kOf_eq z_KnotError]; exact k_KnotError_NothingDone, xisB_ok (by rw [kOf_eq z_NothingDone]; exact i_NothingDone)⟩, ⟨⟨by rw [kOf_eq z_TooMany, kOf_eq z_KnotError]; exact k_KnotError_TooMany, xisB_ok (by rw [kOf_eq z_TooMany]; exact i_TooMany)⟩, trivial⟩⟩⟩⟩⟩⟩⟩⟩⟩⟩⟩⟩⟩⟩⟩⟩, by rw [kOf_eq z_NameTaken]; exact n_NameTaken, ⟨⟨by rw [kOf_eq z_KnotError, kOf_eq z_NameTaken]; exact k_NameTaken_KnotError, xisB_ok (by rw [kOf_eq z_KnotError]; exact i_KnotError)⟩, ⟨⟨by rw [kOf_eq z_NameTaken]; exact k_NameTaken_NameTaken, xisB_ok (by rw [kOf_eq z_NameTaken]; exact i_NameTaken)⟩, ⟨⟨by rw [kOf_eq z_NoBraid, kOf_eq z_NameTaken]; exact k_NameTaken_NoBraid, xisB_ok (by rw [kOf_eq z_NoBraid]; exact i_NoBraid)⟩, ⟨⟨by rw [kOf_eq z_NoDrawing, kOf_eq z_NameTaken]; exact k_NameTaken_NoDrawing, xisB_ok (by rw [kOf_eq z_NoDrawing]; exact i_NoDrawing)⟩, ⟨⟨by rw [kOf_eq z_NoFit, kOf_eq z_NameTaken]; exact k_NameTaken_NoFit, xisB_ok (by rw [kOf_eq z_NoFit]; exact i_NoFit)⟩, ⟨⟨by rw [kOf_eq z_NoLength, kOf_eq z_NameTaken]; exact k_NameTaken_NoLength, xisB_ok (by rw [kOf_eq z_NoLength]; exact i_NoLength)⟩, ⟨⟨by rw [kOf_eq z_NoMark, kOf_eq z_NameTaken]; exact k_NameTaken_NoMark, xisB_ok (by rw [kOf_eq z_NoMark]; exact i_NoMark)⟩, ⟨⟨by rw [kOf_eq z_NoMove, kOf_eq z_NameTaken]; exact k_NameTaken_NoMove, xisB_ok (by rw [kOf_eq z_NoMove]; exact i_NoMove)⟩, ⟨⟨by rw [kOf_eq z_NoName, kOf_eq z_NameTaken]; exact k_NameTaken_NoName, xisB_ok (by rw [kOf_eq z_NoName]; exact i_NoName)⟩, ⟨⟨by rw [kOf_eq z_NoPrime, kOf_eq z_NameTaken]; exact k_NameTaken_NoPrime, xisB_ok (by rw [kOf_eq z_NoPrime]; exact i_NoPrime)⟩, ⟨⟨by rw [kOf_eq z_NoSpot, kOf_eq z_NameTaken]; exact k_NameTaken_NoSpot, xisB_ok (by rw [kOf_eq z_NoSpot]; exact i_NoSpot)⟩, ⟨⟨by rw [kOf_eq z_NoString, kOf_eq z_NameTaken]; exact k_NameTaken_NoString, xisB_ok (by rw [kOf_eq z_NoString]; exact i_NoString)⟩, ⟨⟨by rw [kOf_eq z_NoText, kOf_eq z_NameTaken]; exact k_NameTaken_NoText, xisB_ok (by rw [kOf_eq z_NoText]; exact i_NoText)⟩, ⟨⟨by rw [kOf_eq z_NoWord, kOf_eq z_NameTaken]; exact k_NameTaken_NoWord, xisB_ok (by rw [kOf_eq z_NoWord]; exact i_NoWord)⟩, ⟨⟨by rw [kOf_eq z_NothingDone, kOf_eq z_NameTaken]; exact k_NameTaken_NothingDone, xisB_ok (by rw [kOf_eq z_NothingDone]; exact i_NothingDone)⟩, ⟨⟨by rw [kOf_eq z_TooMany, kOf_eq z_NameTaken]; exact k_NameTaken_TooMany, xisB_ok (by rw [kOf_eq z_TooMany]; exact i_TooMany)⟩, trivial⟩⟩⟩⟩⟩⟩⟩⟩⟩⟩⟩⟩⟩⟩⟩⟩, by rw [kOf_eq z_NoBraid]; exact n_NoBraid, ⟨⟨by rw [kOf_eq z_KnotError, kOf_eq z_NoBraid]; exact k_NoBraid_KnotError, xisB_ok (by rw [kOf_eq z_KnotError]; exact i_KnotError)⟩, ⟨⟨by rw [kOf_eq z_NameTaken, kOf_eq z_NoBraid]; exact k_NoBraid_NameTaken, xisB_ok (by rw [kOf_eq z_NameTaken]; exact i_NameTaken)⟩, ⟨⟨by rw [kOf_eq z_NoBraid]; exact k_NoBraid_NoBraid, xisB_ok (by rw [kOf_eq z_NoBraid]; exact i_NoBraid)⟩, ⟨⟨by rw [kOf_eq z_NoDrawing, kOf_eq z_NoBraid]; exact k_NoBraid_NoDrawing, xisB_ok (by rw [kOf_eq z_NoDrawing]; exact i_NoDrawing)⟩, ⟨⟨by rw [kOf_eq z_NoFit, kOf_eq z_NoBraid]; exact k_NoBraid_NoFit, xisB_ok (by rw [kOf_eq z_NoFit]; exact i_NoFit)⟩, ⟨⟨by rw [kOf_eq z_NoLength, kOf_eq z_NoBraid]; exact k_NoBraid_NoLength, xisB_ok (by rw [kOf_eq z_NoLength]; exact i_NoLength)⟩, ⟨⟨by rw [kOf_eq z_NoMark, kOf_eq z_NoBraid]; exact k_NoBraid_NoMark, xisB_ok (by rw [kOf_eq z_NoMark]; exact i_NoMark)⟩, ⟨⟨by rw [kOf_eq z_NoMove, kOf_eq z_NoBraid]; exact k_NoBraid_NoMove, xisB_ok (by rw [kOf_eq z_NoMove]; exact i_NoMove)⟩, ⟨⟨by rw [kOf_eq z_NoName, kOf_eq z_NoBraid]; exact k_NoBraid_NoName, xisB_ok (by rw [kOf_eq z_NoName]; exact i_NoName)⟩, ⟨⟨by rw [kOf_eq z_NoPrime, kOf_eq z_NoBraid]; exact k_NoBraid_NoPrime, xisB_ok (by rw [kOf_eq z_NoPrime]; exact i_NoPrime)⟩, ⟨⟨by rw [kOf_eq z_NoSpot, kOf_eq z_NoBraid]; exact k_NoBraid_NoSpot, xisB_ok (by rw [kOf_eq z_NoSpot]; exact i_NoSpot)⟩, ⟨⟨by rw [kOf_eq z_NoString, kOf_eq z_NoBraid]; exact k_NoBraid_NoString, xisB_ok (by rw [kOf_eq z_NoString]; exact i_NoString)⟩, ⟨⟨by rw [kOf_eq z_NoText, kOf_eq z_NoBraid]; exact k_NoBraid_NoText, xisB_ok (by rw [kOf_eq z_NoText]; exact i_NoText)⟩, ⟨⟨by rw [kOf_eq z_NoWord, kOf_eq z_NoBraid]; exact k_NoBraid_NoWord, xisB_ok (by rw [kOf_eq z_NoWord]; exact i_NoWord)⟩, ⟨⟨by rw [kOf_eq z_NothingDone, kOf_eq z_NoBraid]; exact k_NoBraid_NothingDone, xisB_ok (by rw [kOf_eq z_NothingDone]; exact i_NothingDone)⟩, ⟨⟨by rw [kOf_eq z_TooMany, kOf_eq z_NoBraid]; exact k_NoBraid_TooMany, xisB_ok (by rw [kOf_eq z_TooMany]; exact i_TooMany)⟩, trivial⟩⟩⟩⟩⟩⟩⟩⟩⟩⟩⟩⟩⟩⟩⟩⟩, by rw [kOf_eq z_NoDrawing]; exact n_NoDrawing, ⟨⟨by rw [kOf_eq z_KnotError, kOf_eq z_NoDrawing]; exact k_NoDrawing_KnotError, xisB_ok (by rw [kOf_eq z_KnotError]; exact i_KnotError)⟩, ⟨⟨by rw [kOf_eq z_NameTaken, kOf_eq z_NoDrawing]; exact k_NoDrawing_NameTaken, xisB_ok (by rw [kOf_eq z_NameTaken]; exact i_NameTaken)⟩, ⟨⟨by rw [kOf_eq z_NoBraid, kOf_eq z_NoDrawing]; exact k_NoDrawing_NoBraid, xisB_ok (by rw [kOf_eq z_NoBraid]; exact i_NoBraid)⟩, ⟨⟨by rw [kOf_eq z_NoDrawing]; exact k_NoDrawing_NoDrawing, xisB_ok (by rw [kOf_eq z_NoDrawing]; exact i_NoDrawing)⟩, ⟨⟨by rw [kOf_eq z_NoFit, kOf_eq z_NoDrawing]; exact k_NoDrawing_NoFit, xisB_ok (by rw [kOf_eq z_NoFit]; exact i_NoFit)⟩, ⟨⟨by rw [kOf_eq z_NoLength, kOf_eq z_NoDrawing]; exact k_NoDrawing_NoLength, xisB_ok (by rw [kOf_eq z_NoLength]; exact i_NoLength)⟩, ⟨⟨by rw [kOf_eq z_NoMark, kOf_eq z_NoDrawing]; exact k_NoDrawing_NoMark, xisB_ok (by rw [kOf_eq z_NoMark]; exact i_NoMark)⟩, ⟨⟨by rw [kOf_eq z_NoMove, kOf_eq z_NoDrawing]; exact k_NoDrawing_NoMove, xisB_ok (by rw [kOf_eq z_NoMove]; exact i_NoMove)⟩, ⟨⟨by rw [kOf_eq z_NoName, kOf_eq z_NoDrawing]; exact k_NoDrawing_NoName, xisB_ok (by rw [kOf_eq z_NoName]; exact i_NoName)⟩, ⟨⟨by rw [kOf_eq z_NoPrime, kOf_eq z_NoDrawing]; exact k_NoDrawing_NoPrime, xisB_ok (by rw [kOf_eq z_NoPrime]; exact i_NoPrime)⟩, ⟨⟨by rw [kOf_eq z_NoSpot, kOf_eq z_NoDrawing]; exact k_NoDrawing_NoSpot, xisB_ok (by rw [kOf_eq z_NoSpot]; exact i_NoSpot)⟩, ⟨⟨by rw [kOf_eq z_NoString, kOf_eq z_NoDrawing]; exact k_NoDrawing_NoString, xisB_ok (by rw [kOf_eq z_NoString]; exact i_NoString)⟩, ⟨⟨by rw [kOf_eq z_NoText, kOf_eq z_NoDrawing]; exact k_NoDrawing_NoText, xisB_ok (by rw [kOf_eq z_NoText]; exact i_NoText)⟩, ⟨⟨by rw [kOf_eq z_NoWord, kOf_eq z_NoDrawing]; exact k_NoDrawing_NoWord, xisB_ok (by rw [kOf_eq z_NoWord]; exact i_NoWord)⟩, ⟨⟨by rw [kOf_eq z_NothingDone, kOf_eq z_NoDrawing]; exact k_NoDrawing_NothingDone, xisB_ok (by rw [kOf_eq z_NothingDone]; exact i_NothingDone)⟩, ⟨⟨by rw [kOf_eq z_TooMany, kOf_eq z_NoDrawing]; exact k_NoDrawing_TooMany, xisB_ok (by rw [kOf_eq z_TooMany]; exact i_TooMany)⟩, trivial⟩⟩⟩⟩⟩⟩⟩⟩⟩⟩⟩⟩⟩⟩⟩⟩, by rw [kOf_eq z_NoFit]; exact n_NoFit, ⟨⟨by rw [kOf_eq z_KnotError, kOf_eq z_NoFit]; exact k_NoFit_KnotError, xisB_ok (by rw [kOf_eq z_KnotError]; exact i_KnotError)⟩, ⟨⟨by rw [kOf_eq z_NameTaken, kOf_eq z_NoFit]; exact k_NoFit_NameTaken, xisB_ok (by rw [kOf_eq z_NameTaken]; exact i_NameTaken)⟩, ⟨⟨by rw [kOf_eq z_NoBraid, kOf_eq z_NoFit]; exact k_NoFit_NoBraid, xisB_ok (by rw [kOf_eq z_NoBraid]; exact i_NoBraid)⟩, ⟨⟨by rw [kOf_eq z_NoDrawing, kOf_eq z_NoFit]; exact k_NoFit_NoDrawing, xisB_ok (by rw [kOf_eq z_NoDrawing]; exact i_NoDrawing)⟩, ⟨⟨by rw [kOf_eq z_NoFit]; exact k_NoFit_NoFit, xisB_ok (by rw [kOf_eq z_NoFit]; exact i_NoFit)⟩, ⟨⟨by rw [kOf_eq z_NoLength, kOf_eq z_NoFit]; exact k_NoFit_NoLength, xisB_ok (by rw [kOf_eq z_NoLength]; exact i_NoLength)⟩, ⟨⟨by rw [kOf_eq z_NoMark, kOf_eq z_NoFit]; exact k_NoFit_NoMark, xisB_ok (by rw [kOf_eq z_NoMark]; exact i_NoMark)⟩, ⟨⟨by rw [kOf_eq z_NoMove, kOf_eq z_NoFit]; exact k_NoFit_NoMove, xisB_ok (by rw [kOf_eq z_NoMove]; exact i_NoMove)⟩, ⟨⟨by rw [kOf_eq z_NoName, kOf_eq z_NoFit]; exact k_NoFit_NoName, xisB_ok (by rw [kOf_eq z_NoName]; exact i_NoName)⟩, ⟨⟨by rw [kOf_eq z_NoPrime, kOf_eq z_NoFit]; exact k_NoFit_NoPrime, xisB_ok (by rw [kOf_eq z_NoPrime]; exact i_NoPrime)⟩, ⟨⟨by rw [kOf_eq z_NoSpot, kOf_eq z_NoFit]; exact k_NoFit_NoSpot, xisB_ok (by rw [kOf_eq z_NoSpot]; exact i_NoSpot)⟩, ⟨⟨by rw [kOf_eq z_NoString, kOf_eq z_NoFit]; exact k_NoFit_NoString, xisB_ok (by rw [kOf_eq z_NoString]; exact i_NoString)⟩, ⟨⟨by rw [kOf_eq z_NoText, kOf_eq z_NoFit]; exact k_NoFit_NoText, xisB_ok (by rw [kOf_eq z_NoText]; exact i_NoText)⟩, ⟨⟨by rw [kOf_eq z_NoWord, kOf_eq z_NoFit]; exact k_NoFit_NoWord, xisB_ok (by rw [kOf_eq z_NoWord]; exact i_NoWord)⟩, ⟨⟨by rw [kOf_eq z_NothingDone, kOf_eq z_NoFit]; exact k_NoFit_NothingDone, xisB_ok (by rw [kOf_eq z_NothingDone]; exact i_NothingDone)⟩, ⟨⟨by rw [kOf_eq z_TooMany, kOf_eq z_NoFit]; exact k_NoFit_TooMany, xisB_ok (by rw [kOf_eq z_TooMany]; exact i_TooMany)⟩, trivial⟩⟩⟩⟩⟩⟩⟩⟩⟩⟩⟩⟩⟩⟩⟩⟩, by rw [kOf_eq z_NoLength]; exact n_NoLength, ⟨⟨by rw [kOf_eq z_KnotError, kOf_eq z_NoLength]; exact k_NoLength_KnotError, xisB_ok (by rw [kOf_eq z_KnotError]; exact i_KnotError)⟩, ⟨⟨by rw [kOf_eq z_NameTaken, kOf_eq z_NoLength]; exact k_NoLength_NameTaken, xisB_ok (by rw [kOf_eq z_NameTaken]; exact i_NameTaken)⟩, ⟨⟨by rw [kOf_eq z_NoBraid, kOf_eq z_NoLength]; exact k_NoLength_NoBraid, xisB_ok (by rw [kOf_eq z_NoBraid]; exact i_NoBraid)⟩, ⟨⟨by rw [kOf_eq z_NoDrawing, kOf_eq z_NoLength]; exact k_NoLength_NoDrawing, xisB_ok (by rw [kOf_eq z_NoDrawing]; exact i_NoDrawing)⟩, ⟨⟨by rw [kOf_eq z_NoFit, kOf_eq z_NoLength]; exact k_NoLength_NoFit, xisB_ok (by rw [kOf_eq z_NoFit]; exact i_NoFit)⟩, ⟨⟨by rw [kOf_eq z_NoLength]; exact k_NoLength_NoLength, xisB_ok (by rw [kOf_eq z_NoLength]; exact i_NoLength)⟩, ⟨⟨by rw [kOf_eq z_NoMark, kOf_eq z_NoLength]; exact k_NoLength_NoMark, xisB_ok (by rw [kOf_eq z_NoMark]; exact i_NoMark)⟩, ⟨⟨by rw [kOf_eq z_NoMove, kOf_eq z_NoLength]; exact k_NoLength_NoMove, xisB_ok (by rw [kOf_eq z_NoMove]; exact i_NoMove)⟩, ⟨⟨by rw [kOf_eq z_NoName, kOf_eq z_NoLength]; exact k_NoLength_NoName, xisB_ok (by rw [kOf_eq z_NoName]; exact i_NoName)⟩, ⟨⟨by rw [kOf_eq z_NoPrime, kOf_eq z_NoLength]; exact k_NoLength_NoPrime, xisB_ok (by rw [kOf_eq z_NoPrime]; exact i_NoPrime)⟩, ⟨⟨by rw [kOf_eq z_NoSpot, kOf_eq z_NoLength]; exact k_NoLength_NoSpot, xisB_ok (by rw [kOf_eq z_NoSpot]; exact i_NoSpot)⟩, ⟨⟨by rw [kOf_eq z_NoString, kOf_eq z_NoLength]; exact k_NoLength_NoString, xisB_ok (by rw [kOf_eq z_NoString]; exact i_NoString)⟩, ⟨⟨by rw [kOf_eq z_NoText, kOf_eq z_NoLength]; exact k_NoLength_NoText, xisB_ok (by rw [kOf_eq z_NoText]; exact i_NoText)⟩, ⟨⟨by rw [kOf_eq z_NoWord, kOf_eq z_NoLength]; exact k_NoLength_NoWord, xisB_ok (by rw [kOf_eq z_NoWord]; exact i_NoWord)⟩, ⟨⟨by rw [kOf_eq z_NothingDone, kOf_eq z_NoLength]; exact k_NoLength_NothingDone, xisB_ok (by rw [kOf_eq z_NothingDone]; exact i_NothingDone)⟩, ⟨⟨by rw [kOf_eq z_TooMany, kOf_eq z_NoLength]; exact k_NoLength_TooMany, xisB_ok (by rw [kOf_eq z_TooMany]; exact i_TooMany)⟩, trivial⟩⟩⟩⟩⟩⟩⟩⟩⟩⟩⟩⟩⟩⟩⟩⟩, by rw [kOf_eq z_NoMark]; exact n_NoMark, ⟨⟨by rw [kOf_eq z_KnotError, kOf_eq z_NoMark]; exact k_NoMark_KnotError, xisB_ok (by rw [kOf_eq z_KnotError]; exact i_KnotError)⟩, ⟨⟨by rw [kOf_eq z_NameTaken, kOf_eq z_NoMark]; exact k_NoMark_NameTaken, xisB_ok (by rw [kOf_eq z_NameTaken]; exact i_NameTaken)⟩, ⟨⟨by rw [kOf_eq z_NoBraid, kOf_eq z_NoMark]; exact k_NoMark_NoBraid, xisB_ok (by rw [kOf_eq z_NoBraid]; exact i_NoBraid)⟩, ⟨⟨by rw [kOf_eq z_NoDrawing, kOf_eq z_NoMark]; exact k_NoMark_NoDrawing, xisB_ok (by rw [kOf_eq z_NoDrawing]; exact i_NoDrawing)⟩, ⟨⟨by rw [kOf_eq z_NoFit, kOf_eq z_NoMark]; exact k_NoMark_NoFit, xisB_ok (by rw [kOf_eq z_NoFit]; exact i_NoFit)⟩, ⟨⟨by rw [kOf_eq z_NoLength, kOf_eq z_NoMark]; exact k_NoMark_NoLength, xisB_ok (by rw [kOf_eq z_NoLength]; exact i_NoLength)⟩, ⟨⟨by rw [kOf_eq z_NoMark]; exact k_NoMark_NoMark, xisB_ok (by rw [kOf_eq z_NoMark]; exact i_NoMark)⟩, ⟨⟨by rw [kOf_eq z_NoMove, kOf_eq z_NoMark]; exact k_NoMark_NoMove, xisB_ok (by rw [kOf_eq z_NoMove]; exact i_NoMove)⟩, ⟨⟨by rw [kOf_eq z_NoName, kOf_eq z_NoMark]; exact k_NoMark_NoName, xisB_ok (by rw [kOf_eq z_NoName]; exact i_NoName)⟩, ⟨⟨by rw [kOf_eq z_NoPrime, kOf_eq z_NoMark]; exact k_NoMark_NoPrime, xisB_ok (by rw [kOf_eq z_NoPrime]; exact i_NoPrime)⟩, ⟨⟨by rw [kOf_eq z_NoSpot, kOf_eq z_NoMark]; exact k_NoMark_NoSpot, xisB_ok (by rw [kOf_eq z_NoSpot]; exact i_NoSpot)⟩, ⟨⟨by rw [kOf_eq z_NoString, kOf_eq z_NoMark]; exact k_NoMark_NoString, xisB_ok (by rw [kOf_eq z_NoString]; exact i_NoString)⟩, ⟨⟨by rw [kOf_eq z_NoText, kOf_eq z_NoMark]; exact k_NoMark_NoText, xisB_ok (by rw [kOf_eq z_NoText]; exact i_NoText)⟩, ⟨⟨by rw [kOf_eq z_NoWord, kOf_eq z_NoMark]; exact k_NoMark_NoWord, xisB_ok (by rw [kOf_eq z_NoWord]; exact i_NoWord)⟩, ⟨⟨by rw [kOf_eq z_NothingDone, kOf_eq z_NoMark]; exact k_NoMark_NothingDone, xisB_ok (by rw [kOf_eq z_NothingDone]; exact i_NothingDone)⟩, ⟨⟨by rw [kOf_eq z_TooMany, kOf_eq z_NoMark]; exact k_NoMark_TooMany, xisB_ok (by rw [kOf_eq z_TooMany]; exact i_TooMany)⟩, trivial⟩⟩⟩⟩⟩⟩⟩⟩⟩⟩⟩⟩⟩⟩⟩⟩, by rw [kOf_eq z_NoMove]; exact n_NoMove, ⟨⟨by rw [kOf_eq z_KnotError, kOf_eq z_NoMove]; exact k_NoMove_KnotError, xisB_ok (by rw [kOf_eq z_KnotError]; exact i_KnotError)⟩, ⟨⟨by rw [kOf_eq z_NameTaken, kOf_eq z_NoMove]; exact k_NoMove_NameTaken, xisB_ok (by rw [kOf_eq z_NameTaken]; exact i_NameTaken)⟩, ⟨⟨by rw [kOf_eq z_NoBraid, kOf_eq z_NoMove]; exact k_NoMove_NoBraid, xisB_ok (by rw [kOf_eq z_NoBraid]; exact i_NoBraid)⟩, ⟨⟨by rw [kOf_eq z_NoDrawing, kOf_eq z_NoMove]; exact k_NoMove_NoDrawing, xisB_ok (by rw [kOf_eq z_NoDrawing]; exact i_NoDrawing)⟩, ⟨⟨by rw [kOf_eq z_NoFit, kOf_eq z_NoMove]; exact k_NoMove_NoFit, xisB_ok (by rw [kOf_eq z_NoFit]; exact i_NoFit)⟩, ⟨⟨by rw [kOf_eq z_NoLength, kOf_eq z_NoMove]; exact k_NoMove_NoLength, xisB_ok (by rw [kOf_eq z_NoLength]; exact i_NoLength)⟩, ⟨⟨by rw [kOf_eq z_NoMark, kOf_eq z_NoMove]; exact k_NoMove_NoMark, xisB_ok (by rw [kOf_eq z_NoMark]; exact i_NoMark)⟩, ⟨⟨by rw [kOf_eq z_NoMove]; exact k_NoMove_NoMove, xisB_ok (by rw [kOf_eq z_NoMove]; exact i_NoMove)⟩, ⟨⟨by rw [kOf_eq z_NoName, kOf_eq z_NoMove]; exact k_NoMove_NoName, xisB_ok (by rw [kOf_eq z_NoName]; exact i_NoName)⟩, ⟨⟨by rw [kOf_eq z_NoPrime, kOf_eq z_NoMove]; exact k_NoMove_NoPrime, xisB_ok (by rw [kOf_eq z_NoPrime]; exact i_NoPrime)⟩, ⟨⟨by rw [kOf_eq z_NoSpot, kOf_eq z_NoMove]; exact k_NoMove_NoSpot, xisB_ok (by rw [kOf_eq z_NoSpot]; exact i_NoSpot)⟩, ⟨⟨by rw [kOf_eq z_NoString, kOf_eq z_NoMove]; exact k_NoMove_NoString, xisB_ok (by rw [kOf_eq z_NoString]; exact i_NoString)⟩, ⟨⟨by rw [kOf_eq z_NoText, kOf_eq z_NoMove]; exact k_NoMove_NoText, xisB_ok (by rw [kOf_eq z_NoText]; exact i_NoText)⟩, ⟨⟨by rw [kOf_eq z_NoWord, kOf_eq z_NoMove]; exact k_NoMove_NoWord, xisB_ok (by rw [kOf_eq z_NoWord]; exact i_NoWord)⟩, ⟨⟨by rw [kOf_eq z_NothingDone, kOf_eq z_NoMove]; exact k_NoMove_NothingDone, xisB_ok (by rw [kOf_eq z_NothingDone]; exact i_NothingDone)⟩, ⟨⟨by rw [kOf_eq z_TooMany, kOf_eq z_NoMove]; exact k_NoMove_TooMany, xisB_ok (by rw [kOf_eq z_TooMany]; exact i_TooMany)⟩, trivial⟩⟩⟩⟩⟩⟩⟩⟩⟩⟩⟩⟩⟩⟩⟩⟩, by rw [kOf_eq z_NoName]; exact n_NoName, ⟨⟨by rw [kOf_eq z_KnotError, kOf_eq z_NoName]; exact k_NoName_KnotError, xisB_ok (by rw [kOf_eq z_KnotError]; exact i_KnotError)⟩, ⟨⟨by rw [kOf_eq z_NameTaken, kOf_eq z_NoName]; exact k_NoName_NameTaken, xisB_ok (by rw [kOf_eq z_NameTaken]; exact i_NameTaken)⟩, ⟨⟨by rw [kOf_eq z_NoBraid, kOf_eq z_NoName]; exact k_NoName_NoBraid, xisB_ok (by rw [kOf_eq z_NoBraid]; exact i_NoBraid)⟩, ⟨⟨by rw [kOf_eq z_NoDrawing, kOf_eq z_NoName]; exact k_NoName_NoDrawing, xisB_ok (by rw [kOf_eq z_NoDrawing]; exact i_NoDrawing)⟩, ⟨⟨by rw [kOf_eq z_NoFit, kOf_eq z_NoName]; exact k_NoName_NoFit, xisB_ok (by rw [kOf_eq z_NoFit]; exact i_NoFit)⟩, ⟨⟨by rw [kOf_eq z_NoLength, kOf_eq z_NoName]; exact k_NoName_NoLength, xisB_ok (by rw [kOf_eq z_NoLength]; exact i_NoLength)⟩, ⟨⟨by rw [kOf_eq z_NoMark, kOf_eq z_NoName]; exact k_NoName_NoMark, xisB_ok (by rw [kOf_eq z_NoMark]; exact i_NoMark)⟩, ⟨⟨by rw [kOf_eq z_NoMove, kOf_eq z_NoName]; exact k_NoName_NoMove, xisB_ok (by rw [kOf_eq z_NoMove]; exact i_NoMove)⟩, ⟨⟨by rw [kOf_eq z_NoName]; exact k_NoName_NoName, xisB_ok (by rw [kOf_eq z_NoName]; exact i_NoName)⟩, ⟨⟨by rw [kOf_eq z_NoPrime, kOf_eq z_NoName]; exact k_NoName_NoPrime, xisB_ok (by rw [kOf_eq z_NoPrime]; exact i_NoPrime)⟩, ⟨⟨by rw [kOf_eq z_NoSpot, kOf_eq z_NoName]; exact k_NoName_NoSpot, xisB_ok (by rw [kOf_eq z_NoSpot]; exact i_NoSpot)⟩, ⟨⟨by rw [kOf_eq z_NoString, kOf_eq z_NoName]; exact k_NoName_NoString, xisB_ok (by rw [kOf_eq z_NoString]; exact i_NoString)⟩, ⟨⟨by rw [kOf_eq z_NoText, kOf_eq z_NoName]; exact k_NoName_NoText, xisB_ok (by rw [kOf_eq z_NoText]; exact i_NoText)⟩, ⟨⟨by rw [kOf_eq z_NoWord, kOf_eq z_NoName]; exact k_NoName_NoWord, xisB_ok (by rw [kOf_eq z_NoWord]; exact i_NoWord)⟩, ⟨⟨by rw [kOf_eq z_NothingDone, kOf_eq z_NoName]; exact k_NoName_NothingDone, xisB_ok (by rw [kOf_eq z_NothingDone]; exact i_NothingDone)⟩, ⟨⟨by rw [kOf_eq z_TooMany, kOf_eq z_NoName]; exact k_NoName_TooMany, xisB_ok (by rw [kOf_eq z_TooMany]; exact i_TooMany)⟩, trivial⟩⟩⟩⟩⟩⟩⟩⟩⟩⟩⟩⟩⟩⟩⟩⟩, by rw [kOf_eq z_NoPrime]; exact n_NoPrime, ⟨⟨by rw [kOf_eq z_KnotError, kOf_eq z_NoPrime]; exact k_NoPrime_KnotError, xisB_ok (by rw [kOf_eq z_KnotError]; exact i_KnotError)⟩, ⟨⟨by rw [kOf_eq z_NameTaken, kOf_eq z_NoPrime]; exact k_NoPrime_NameTaken, xisB_ok (by rw [kOf_eq z_NameTaken]; exact i_NameTaken)⟩, ⟨⟨by rw [kOf_eq z_NoBraid, kOf_eq z_NoPrime]; exact k_NoPrime_NoBraid, xisB_ok (by rw [kOf_eq z_NoBraid]; exact i_NoBraid)⟩, ⟨⟨by rw [kOf_eq z_NoDrawing, kOf_eq z_NoPrime]; exact k_NoPrime_NoDrawing, xisB_ok (by rw [kOf_eq z_NoDrawing]; exact i_NoDrawing)⟩, ⟨⟨by rw [kOf_eq z_NoFit, kOf_eq z_NoPrime]; exact k_NoPrime_NoFit, xisB_ok (by rw [kOf_eq z_NoFit]; exact i_NoFit)⟩, ⟨⟨by rw [kOf_eq z_NoLength, kOf_eq z_NoPrime]; exact k_NoPrime_NoLength, xisB_ok (by rw [kOf_eq z_NoLength]; exact i_NoLength)⟩, ⟨⟨by rw [kOf_eq z_NoMark, kOf_eq z_NoPrime]; exact k_NoPrime_NoMark, xisB_ok (by rw [kOf_eq z_NoMark]; exact i_NoMark)⟩, ⟨⟨by rw [kOf_eq z_NoMove, kOf_eq z_NoPrime]; exact k_NoPrime_NoMove, xisB_ok (by rw [kOf_eq z_NoMove]; exact i_NoMove)⟩, ⟨⟨by rw [kOf_eq z_NoName, kOf_eq z_NoPrime]; exact k_NoPrime_NoName, xisB_ok (by rw [kOf_eq z_NoName]; exact i_NoName)⟩, ⟨⟨by rw [kOf_eq z_NoPrime]; exact k_NoPrime_NoPrime, xisB_ok (by rw [kOf_eq z_NoPrime]; exact i_NoPrime)⟩, ⟨⟨by rw [kOf_eq z_NoSpot, kOf_eq z_NoPrime]; exact k_NoPrime_NoSpot, xisB_ok (by rw [kOf_eq z_NoSpot]; exact i_NoSpot)⟩, ⟨⟨by rw [kOf_eq z_NoString, kOf_eq z_NoPrime]; exact k_NoPrime_NoString, xisB_ok (by rw [kOf_eq z_NoString]; exact i_NoString)⟩, ⟨⟨by rw [kOf_eq z_NoText, kOf_eq z_NoPrime]; exact k_NoPrime_NoText, xisB_ok (by rw [kOf_eq z_NoText]; exact i_NoText)⟩, ⟨⟨by rw [kOf_eq z_NoWord, kOf_eq z_NoPrime]; exact k_NoPrime_NoWord, xisB_ok (by rw [kOf_eq z_NoWord]; exact i_NoWord)⟩, ⟨⟨by rw [kOf_eq z_NothingDone, kOf_eq z_NoPrime]; exact k_NoPrime_NothingDone, xisB_ok (by rw [kOf_eq z_NothingDone]; exact i_NothingDone)⟩, ⟨⟨by rw [kOf_eq z_TooMany, kOf_eq z_NoPrime]; exact k_NoPrime_TooMany, xisB_ok (by rw [kOf_eq z_TooMany]; exact i_TooMany)⟩, trivial⟩⟩⟩⟩⟩⟩⟩⟩⟩⟩⟩⟩⟩⟩⟩⟩, by rw [kOf_eq z_NoSpot]; exact n_NoSpot, ⟨⟨by rw [kOf_eq z_KnotError, kOf_eq z_NoSpot]; exact k_NoSpot_KnotError, xisB_ok (by rw [kOf_eq z_KnotError]; exact i_KnotError)⟩, ⟨⟨by rw [kOf_eq z_NameTaken, kOf_eq z_NoSpot]; exact k_NoSpot_NameTaken, xisB_ok (by rw [kOf_eq z_NameTaken]; exact i_NameTaken)⟩, ⟨⟨by rw [kOf_eq z_NoBraid, kOf_eq z_NoSpot]; exact k_NoSpot_NoBraid, xisB_ok (by rw [kOf_eq z_NoBraid]; exact i_NoBraid)⟩, ⟨⟨by rw [kOf_eq z_NoDrawing, kOf_eq z_NoSpot]; exact k_NoSpot_NoDrawing, xisB_ok (by rw [kOf_eq z_NoDrawing]; exact i_NoDrawing)⟩, ⟨⟨by rw [kOf_eq z_NoFit, kOf_eq z_NoSpot]; exact k_NoSpot_NoFit, xisB_ok (by rw [kOf_eq z_NoFit]; exact i_NoFit)⟩, ⟨⟨by rw [kOf_eq z_NoLength, kOf_eq z_NoSpot]; exact k_NoSpot_NoLength, xisB_ok (by rw [kOf_eq z_NoLength]; exact i_NoLength)⟩, ⟨⟨by rw [kOf_eq z_NoMark, kOf_eq z_NoSpot]; exact k_NoSpot_NoMark, xisB_ok (by rw [kOf_eq z_NoMark]; exact i_NoMark)⟩, ⟨⟨by rw [kOf_eq z_NoMove, kOf_eq z_NoSpot]; exact k_NoSpot_NoMove, xisB_ok (by rw [kOf_eq z_NoMove]; exact i_NoMove)⟩, ⟨⟨by rw [kOf_eq z_NoName, kOf_eq z_NoSpot]; exact k_NoSpot_NoName, xisB_ok (by rw [kOf_eq z_NoName]; exact i_NoName)⟩, ⟨⟨by rw [kOf_eq z_NoPrime, kOf_eq z_NoSpot]; exact k_NoSpot_NoPrime, xisB_ok (by rw [kOf_eq z_NoPrime]; exact i_NoPrime)⟩, ⟨⟨by rw [kOf_eq z_NoSpot]; exact k_NoSpot_NoSpot, xisB_ok (by rw [kOf_eq z_NoSpot]; exact i_NoSpot)⟩, ⟨⟨by rw [kOf_eq z_NoString, kOf_eq z_NoSpot]; exact k_NoSpot_NoString, xisB_ok (by rw [kOf_eq z_NoString]; exact i_NoString)⟩, ⟨⟨by rw [kOf_eq z_NoText, kOf_eq z_NoSpot]; exact k_NoSpot_NoText, xisB_ok (by rw [kOf_eq z_NoText]; exact i_NoText)⟩, ⟨⟨by rw [kOf_eq z_NoWord, kOf_eq z_NoSpot]; exact k_NoSpot_NoWord, xisB_ok (by rw [kOf_eq z_NoWord]; exact i_NoWord)⟩, ⟨⟨by rw [kOf_eq z_NothingDone, kOf_eq z_NoSpot]; exact k_NoSpot_NothingDone, xisB_ok (by rw [kOf_eq z_NothingDone]; exact i_NothingDone)⟩, ⟨⟨by rw [kOf_eq z_TooMany, kOf_eq z_NoSpot]; exact k_NoSpot_TooMany, xisB_ok (by rw [kOf_eq z_TooMany]; exact i_TooMany)⟩, trivial⟩⟩⟩⟩⟩⟩⟩⟩⟩⟩⟩⟩⟩⟩⟩⟩, by rw [kOf_eq z_NoString]; exact n_NoString, ⟨⟨by rw [kOf_eq z_KnotError, kOf_eq z_NoString]; exact k_NoString_KnotError, xisB_ok (by rw [kOf_eq z_KnotError]; exact i_KnotError)⟩, ⟨⟨by rw [kOf_eq z_NameTaken, kOf_eq z_NoString]; exact k_NoString_NameTaken, xisB_ok (by rw [kOf_eq z_NameTaken]; exact i_NameTaken)⟩, ⟨⟨by rw [kOf_eq z_NoBraid, kOf_eq z_NoString]; exact k_NoString_NoBraid, xisB_ok (by rw [kOf_eq z_NoBraid]; exact i_NoBraid)⟩, ⟨⟨by rw [kOf_eq z_NoDrawing, kOf_eq z_NoString]; exact k_NoString_NoDrawing, xisB_ok (by rw [kOf_eq z_NoDrawing]; exact i_NoDrawing)⟩, ⟨⟨by rw [kOf_eq z_NoFit, kOf_eq z_NoString]; exact k_NoString_NoFit, xisB_ok (by rw [kOf_eq z_NoFit]; exact i_NoFit)⟩, ⟨⟨by rw [kOf_eq z_NoLength, kOf_eq z_NoString]; exact k_NoString_NoLength, xisB_ok (by rw [kOf_eq z_NoLength]; exact i_NoLength)⟩, ⟨⟨by rw [kOf_eq z_NoMark, kOf_eq z_NoString]; exact k_NoString_NoMark, xisB_ok (by rw [kOf_eq z_NoMark]; exact i_NoMark)⟩, ⟨⟨by rw [kOf_eq z_NoMove, kOf_eq z_NoString]; exact k_NoString_NoMove, xisB_ok (by rw [kOf_eq z_NoMove]; exact i_NoMove)⟩, ⟨⟨by rw [kOf_eq z_NoName, kOf_eq z_NoString]; exact k_NoString_NoName, xisB_ok (by rw [kOf_eq z_NoName]; exact i_NoName)⟩, ⟨⟨by rw [kOf_eq z_NoPrime, kOf_eq z_NoString]; exact k_NoString_NoPrime, xisB_ok (by rw [kOf_eq z_NoPrime]; exact i_NoPrime)⟩, ⟨⟨by rw [kOf_eq z_NoSpot, kOf_eq z_NoString]; exact k_NoString_NoSpot, xisB_ok (by rw [kOf_eq z_NoSpot]; exact i_NoSpot)⟩, ⟨⟨by rw [kOf_eq z_NoString]; exact k_NoString_NoString, xisB_ok (by rw [kOf_eq z_NoString]; exact i_NoString)⟩, ⟨⟨by rw [kOf_eq z_NoText, kOf_eq z_NoString]; exact k_NoString_NoText, xisB_ok (by rw [kOf_eq z_NoText]; exact i_NoText)⟩, ⟨⟨by rw [kOf_eq z_NoWord, kOf_eq z_NoString]; exact k_NoString_NoWord, xisB_ok (by rw [kOf_eq z_NoWord]; exact i_NoWord)⟩, ⟨⟨by rw [kOf_eq z_NothingDone, kOf_eq z_NoString]; exact k_NoString_NothingDone, xisB_ok (by rw [kOf_eq z_NothingDone]; exact i_NothingDone)⟩, ⟨⟨by rw [kOf_eq z_TooMany, kOf_eq z_NoString]; exact k_NoString_TooMany, xisB_ok (by rw [kOf_eq z_TooMany]; exact i_TooMany)⟩, trivial⟩⟩⟩⟩⟩⟩⟩⟩⟩⟩⟩⟩⟩⟩⟩⟩, by rw [kOf_eq z_NoText]; exact n_NoText, ⟨⟨by rw [kOf_eq z_KnotError, kOf_eq z_NoText]; exact k_NoText_KnotError, xisB_ok (by rw [kOf_eq z_KnotError]; exact i_KnotError)⟩, ⟨⟨by rw [kOf_eq z_NameTaken, kOf_eq z_NoText]; exact k_NoText_NameTaken, xisB_ok (by rw [kOf_eq z_NameTaken]; exact i_NameTaken)⟩, ⟨⟨by rw [kOf_eq z_NoBraid, kOf_eq z_NoText]; exact k_NoText_NoBraid, xisB_ok (by rw [kOf_eq z_NoBraid]; exact i_NoBraid)⟩, ⟨⟨by rw [kOf_eq z_NoDrawing, kOf_eq z_NoText]; exact k_NoText_NoDrawing, xisB_ok (by rw [kOf_eq z_NoDrawing]; exact i_NoDrawing)⟩, ⟨⟨by rw [kOf_eq z_NoFit, kOf_eq z_NoText]; exact k_NoText_NoFit, xisB_ok (by rw [kOf_eq z_NoFit]; exact i_NoFit)⟩, ⟨⟨by rw [kOf_eq z_NoLength, kOf_eq z_NoText]; exact k_NoText_NoLength, xisB_ok (by rw [kOf_eq z_NoLength]; exact i_NoLength)⟩, ⟨⟨by rw [kOf_eq z_NoMark, kOf_eq z_NoText]; exact k_NoText_NoMark, xisB_ok (by rw [kOf_eq z_NoMark]; exact i_NoMark)⟩, ⟨⟨by rw [kOf_eq z_NoMove, kOf_eq z_NoText]; exact k_NoText_NoMove, xisB_ok (by rw [kOf_eq z_NoMove]; exact i_NoMove)⟩, ⟨⟨by rw [kOf_eq z_NoName, kOf_eq z_NoText]; exact k_NoText_NoName, xisB_ok (by rw [kOf_eq z_NoName]; exact i_NoName)⟩, ⟨⟨by rw [kOf_eq z_NoPrime, kOf_eq z_NoText]; exact k_NoText_NoPrime, xisB_ok (by rw [kOf_eq z_NoPrime]; exact i_NoPrime)⟩, ⟨⟨by rw [kOf_eq z_NoSpot, kOf_eq z_NoText]; exact k_NoText_NoSpot, xisB_ok (by rw [kOf_eq z_NoSpot]; exact i_NoSpot)⟩, ⟨⟨by rw [kOf_eq z_NoString, kOf_eq z_NoText]; exact k_NoText_NoString, xisB_ok (by rw [kOf_eq z_NoString]; exact i_NoString)⟩, ⟨⟨by rw [kOf_eq z_NoText]; exact k_NoText_NoText, xisB_ok (by rw [kOf_eq z_NoText]; exact i_NoText)⟩, ⟨⟨by rw [kOf_eq z_NoWord, kOf_eq z_NoText]; exact k_NoText_NoWord, xisB_ok (by rw [kOf_eq z_NoWord]; exact i_NoWord)⟩, ⟨⟨by rw [kOf_eq z_NothingDone, kOf_eq z_NoText]; exact k_NoText_NothingDone, xisB_ok (by rw [kOf_eq z_NothingDone]; exact i_NothingDone)⟩, ⟨⟨by rw [kOf_eq z_TooMany, kOf_eq z_NoText]; exact k_NoText_TooMany, xisB_ok (by rw [kOf_eq z_TooMany]; exact i_TooMany)⟩, trivial⟩⟩⟩⟩⟩⟩⟩⟩⟩⟩⟩⟩⟩⟩⟩⟩, by rw [kOf_eq z_NoWord]; exact n_NoWord, ⟨⟨by rw [kOf_eq z_KnotError, kOf_eq z_NoWord]; exact k_NoWord_KnotError, xisB_ok (by rw [kOf_eq z_KnotError]; exact i_KnotError)⟩, ⟨⟨by rw [kOf_eq z_NameTaken, kOf_eq z_NoWord]; exact k_NoWord_NameTaken, xisB_ok (by rw [kOf_eq z_NameTaken]; exact i_NameTaken)⟩, ⟨⟨by rw [kOf_eq z_NoBraid, kOf_eq z_NoWord]; exact k_NoWord_NoBraid, xisB_ok (by rw [kOf_eq z_NoBraid]; exact i_NoBraid)⟩, ⟨⟨by rw [kOf_eq z_NoDrawing, kOf_eq z_NoWord]; exact k_NoWord_NoDrawing, xisB_ok (by rw [kOf_eq z_NoDrawing]; exact i_NoDrawing)⟩, ⟨⟨by rw [kOf_eq z_NoFit, kOf_eq z_NoWord]; exact k_NoWord_NoFit, xisB_ok (by rw [kOf_eq z_NoFit]; exact i_NoFit)⟩, ⟨⟨by rw [kOf_eq z_NoLength, kOf_eq z_NoWord]; exact k_NoWord_NoLength, xisB_ok (by rw [kOf_eq z_NoLength]; exact i_NoLength)⟩, ⟨⟨by rw [kOf_eq z_NoMark, kOf_eq z_NoWord]; exact k_NoWord_NoMark, xisB_ok (by rw [kOf_eq z_NoMark]; exact i_NoMark)⟩, ⟨⟨by rw [kOf_eq z_NoMove, kOf_eq z_NoWord]; exact k_NoWord_NoMove, xisB_ok (by rw [kOf_eq z_NoMove]; exact i_NoMove)⟩, ⟨⟨by rw [kOf_eq z_NoName, kOf_eq z_NoWord]; exact k_NoWord_NoName, xisB_ok (by rw [kOf_eq z_NoName]; exact i_NoName)⟩, ⟨⟨by rw [kOf_eq z_NoPrime, kOf_eq z_NoWord]; exact k_NoWord_NoPrime, xisB_ok (by rw [kOf_eq z_NoPrime]; exact i_NoPrime)⟩, ⟨⟨by rw [kOf_eq z_NoSpot, kOf_eq z_NoWord]; exact k_NoWord_NoSpot, xisB_ok (by rw [kOf_eq z_NoSpot]; exact i_NoSpot)⟩, ⟨⟨by rw [kOf_eq z_NoString, kOf_eq z_NoWord]; exact k_NoWord_NoString, xisB_ok (by rw [kOf_eq z_NoString]; exact i_NoString)⟩, ⟨⟨by rw [kOf_eq z_NoText, kOf_eq z_NoWord]; exact k_NoWord_NoText, xisB_ok (by rw [kOf_eq z_NoText]; exact i_NoText)⟩, ⟨⟨by rw [kOf_eq z_NoWord]; exact k_NoWord_NoWord, xisB_ok (by rw [kOf_eq z_NoWord]; exact i_NoWord)⟩, ⟨⟨by rw [kOf_eq z_NothingDone, kOf_eq z_NoWord]; exact k_NoWord_NothingDone, xisB_ok (by rw [kOf_eq z_NothingDone]; exact i_NothingDone)⟩, ⟨⟨by rw [kOf_eq z_TooMany, kOf_eq z_NoWord]; exact k_NoWord_TooMany, xisB_ok (by rw [kOf_eq z_TooMany]; exact i_TooMany)⟩, trivial⟩⟩⟩⟩⟩⟩⟩⟩⟩⟩⟩⟩⟩⟩⟩⟩, by rw [kOf_eq z_NothingDone]; exact n_NothingDone, ⟨⟨by rw [kOf_eq z_KnotError, kOf_eq z_NothingDone]; exact k_NothingDone_KnotError, xisB_ok (by rw [kOf_eq z_KnotError]; exact i_KnotError)⟩, ⟨⟨by rw [kOf_eq z_NameTaken, kOf_eq z_NothingDone]; exact k_NothingDone_NameTaken, xisB_ok (by rw [kOf_eq z_NameTaken]; exact i_NameTaken)⟩, ⟨⟨by rw [kOf_eq z_NoBraid, kOf_eq z_NothingDone]; exact k_NothingDone_NoBraid, xisB_ok (by rw [kOf_eq z_NoBraid]; exact i_NoBraid)⟩, ⟨⟨by rw [kOf_eq z_NoDrawing, kOf_eq z_NothingDone]; exact k_NothingDone_NoDrawing, xisB_ok (by rw [kOf_eq z_NoDrawing]; exact i_NoDrawing)⟩, ⟨⟨by rw [kOf_eq z_NoFit, kOf_eq z_NothingDone]; exact k_NothingDone_NoFit, xisB_ok (by rw [kOf_eq z_NoFit]; exact i_NoFit)⟩, ⟨⟨by rw [kOf_eq z_NoLength, kOf_eq z_NothingDone]; exact k_NothingDone_NoLength, xisB_ok (by rw [kOf_eq z_NoLength]; exact i_NoLength)⟩, ⟨⟨by rw [kOf_eq z_NoMark, kOf_eq z_NothingDone]; exact k_NothingDone_NoMark, xisB_ok (by rw [kOf_eq z_NoMark]; exact i_NoMark)⟩, ⟨⟨by rw [kOf_eq z_NoMove, kOf_eq z_NothingDone]; exact k_NothingDone_NoMove, xisB_ok (by rw [kOf_eq z_NoMove]; exact i_NoMove)⟩, ⟨⟨by rw [kOf_eq z_NoName, kOf_eq z_NothingDone]; exact k_NothingDone_NoName, xisB_ok (by rw [kOf_eq z_NoName]; exact i_NoName)⟩, ⟨⟨by rw [kOf_eq z_NoPrime, kOf_eq z_NothingDone]; exact k_NothingDone_NoPrime, xisB_ok (by rw [kOf_eq z_NoPrime]; exact i_NoPrime)⟩, ⟨⟨by rw [kOf_eq z_NoSpot, kOf_eq z_NothingDone]; exact k_NothingDone_NoSpot, xisB_ok (by rw [kOf_eq z_NoSpot]; exact i_NoSpot)⟩, ⟨⟨by rw [kOf_eq z_NoString, kOf_eq z_NothingDone]; exact k_NothingDone_NoString, xisB_ok (by rw [kOf_eq z_NoString]; exact i_NoString)⟩, ⟨⟨by rw [kOf_eq z_NoText, kOf_eq z_NothingDone]; exact k_NothingDone_NoText, xisB_ok (by rw [kOf_eq z_NoText]; exact i_NoText)⟩, ⟨⟨by rw [kOf_eq z_NoWord, kOf_eq z_NothingDone]; exact k_NothingDone_NoWord, xisB_ok (by rw [kOf_eq z_NoWord]; exact i_NoWord)⟩, ⟨⟨by rw [kOf_eq z_NothingDone]; exact k_NothingDone_NothingDone, xisB_ok (by rw [kOf_eq z_NothingDone]; exact i_NothingDone)⟩, ⟨⟨by rw [kOf_eq z_TooMany, kOf_eq z_NothingDone]; exact k_NothingDone_TooMany, xisB_ok (by rw [kOf_eq z_TooMany]; exact i_TooMany)⟩, trivial⟩⟩⟩⟩⟩⟩⟩⟩⟩⟩⟩⟩⟩⟩⟩⟩, by rw [kOf_eq z_TooMany]; exact n_TooMany, ⟨⟨by rw [kOf_eq z_KnotError, kOf_eq z_TooMany]; exact k_TooMany_KnotError, xisB_ok (by rw [kOf_eq z_KnotError]; exact i_KnotError)⟩, ⟨⟨by rw [kOf_eq z_NameTaken, kOf_eq z_TooMany]; exact k_TooMany_NameTaken, xisB_ok (by rw [kOf_eq z_NameTaken]; exact i_NameTaken)⟩, ⟨⟨by rw [kOf_eq z_NoBraid, kOf_eq z_TooMany]; exact k_TooMany_NoBraid, xisB_ok (by rw [kOf_eq z_NoBraid]; exact i_NoBraid)⟩, ⟨⟨by rw [kOf_eq z_NoDrawing, kOf_eq z_TooMany]; exact k_TooMany_NoDrawing, xisB_ok (by rw [kOf_eq z_NoDrawing]; exact i_NoDrawing)⟩, ⟨⟨by rw [kOf_eq z_NoFit, kOf_eq z_TooMany]; exact k_TooMany_NoFit, xisB_ok (by rw [kOf_eq z_NoFit]; exact i_NoFit)⟩, ⟨⟨by rw [kOf_eq z_NoLength, kOf_eq z_TooMany]; exact k_TooMany_NoLength, xisB_ok (by rw [kOf_eq z_NoLength]; exact i_NoLength)⟩, ⟨⟨by rw [kOf_eq z_NoMark, kOf_eq z_TooMany]; exact k_TooMany_NoMark, xisB_ok (by rw [kOf_eq z_NoMark]; exact i_NoMark)⟩, ⟨⟨by rw [kOf_eq z_NoMove, kOf_eq z_TooMany]; exact k_TooMany_NoMove, xisB_ok (by rw [kOf_eq z_NoMove]; exact i_NoMove)⟩, ⟨⟨by rw [kOf_eq z_NoName, kOf_eq z_TooMany]; exact k_TooMany_NoName, xisB_ok (by rw [kOf_eq z_NoName]; exact i_NoName)⟩, ⟨⟨by rw [kOf_eq z_NoPrime, kOf_eq z_TooMany]; exact k_TooMany_NoPrime, xisB_ok (by rw [kOf_eq z_NoPrime]; exact i_NoPrime)⟩, ⟨⟨by rw [kOf_eq z_NoSpot, kOf_eq z_TooMany]; exact k_TooMany_NoSpot, xisB_ok (by rw [kOf_eq z_NoSpot]; exact i_NoSpot)⟩, ⟨⟨by rw [kOf_eq z_NoString, kOf_eq z_TooMany]; exact k_TooMany_NoString, xisB_ok (by rw [kOf_eq z_NoString]; exact i_NoString)⟩, ⟨⟨by rw [kOf_eq z_NoText, kOf_eq z_TooMany]; exact k_TooMany_NoText, xisB_ok (by rw [kOf_eq z_NoText]; exact i_NoText)⟩, ⟨⟨by rw [kOf_eq z_NoWord, kOf_eq z_TooMany]; exact k_TooMany_NoWord, xisB_ok (by rw [kOf_eq z_NoWord]; exact i_NoWord)⟩, ⟨⟨by rw [kOf_eq z_NothingDone, kOf_eq z_TooMany]; exact k_TooMany_NothingDone, xisB_ok (by rw [kOf_eq z_NothingDone]; exact i_NothingDone)⟩, ⟨⟨by rw [kOf_eq z_TooMany]; exact k_TooMany_TooMany, xisB_ok (by rw [kOf_eq z_TooMany]; exact i_TooMany)⟩, trivial⟩⟩⟩⟩⟩⟩⟩⟩⟩⟩⟩⟩⟩⟩⟩⟩, by exact n_ValueError, ⟨⟨by rw [kOf_eq z_KnotError]; exact k_ValueError_KnotError, xisB_ok (by rw [kOf_eq z_KnotError]; exact i_KnotError)⟩, ⟨⟨by rw [kOf_eq z_NameTaken]; exact k_ValueError_NameTaken, xisB_ok (by rw [kOf_eq z_NameTaken]; exact i_NameTaken)⟩, ⟨⟨by rw [kOf_eq z_NoBraid]; exact k_ValueError_NoBraid, xisB_ok (by rw [kOf_eq z_NoBraid]; exact i_NoBraid)⟩, ⟨⟨by rw [kOf_eq z_NoDrawing]; exact k_ValueError_NoDrawing, xisB_ok (by rw [kOf_eq z_NoDrawing]; exact i_NoDrawing)⟩, ⟨⟨by rw [kOf_eq z_NoFit]; exact k_ValueError_NoFit, xisB_ok (by rw [kOf_eq z_NoFit]; exact i_NoFit)⟩, ⟨⟨by rw [kOf_eq z_NoLength]; exact k_ValueError_NoLength, xisB_ok (by rw [kOf_eq z_NoLength]; exact i_NoLength)⟩, ⟨⟨by rw [kOf_eq z_NoMark]; exact k_ValueError_NoMark, xisB_ok (by rw [kOf_eq z_NoMark]; exact i_NoMark)⟩, ⟨⟨by rw [kOf_eq z_NoMove]; exact k_ValueError_NoMove, xisB_ok (by rw [kOf_eq z_NoMove]; exact i_NoMove)⟩, ⟨⟨by rw [kOf_eq z_NoName]; exact k_ValueError_NoName, xisB_ok (by rw [kOf_eq z_NoName]; exact i_NoName)⟩, ⟨⟨by rw [kOf_eq z_NoPrime]; exact k_ValueError_NoPrime, xisB_ok (by rw [kOf_eq z_NoPrime]; exact i_NoPrime)⟩, ⟨⟨by rw [kOf_eq z_NoSpot]; exact k_ValueError_NoSpot, xisB_ok (by rw [kOf_eq z_NoSpot]; exact i_NoSpot)⟩, ⟨⟨by rw [kOf_eq z_NoString]; exact k_ValueError_NoString, xisB_ok (by rw [kOf_eq z_NoString]; exact i_NoString)⟩, ⟨⟨by rw [kOf_eq z_NoText]; exact k_ValueError_NoText, xisB_ok (by rw [kOf_eq z_NoText]; exact i_NoText)⟩, ⟨⟨by rw [kOf_eq z_NoWord]; exact k_ValueError_NoWord, xisB_ok (by rw [kOf_eq z_NoWord]; exact i_NoWord)⟩, ⟨⟨by rw [kOf_eq z_NothingDone]; exact k_ValueError_NothingDone, xisB_ok (by rw [kOf_eq z_NothingDone]; exact i_NothingDone)⟩, ⟨⟨by rw [kOf_eq z_TooMany]; exact k_ValueError_TooMany, xisB_ok (by rw [kOf_eq z_TooMany]; exact i_TooMany)⟩, trivial⟩⟩⟩⟩⟩⟩⟩⟩⟩⟩⟩⟩⟩⟩⟩⟩, by rw [kOf_eq z_NoDrawing]; exact ⟨⟨_, _, _, _, _, _, _, _, _, _, _, _, _, _, _, u_NoDrawing, r_NoDrawing⟩, s_NoDrawing, (xisB_ok i_NoDrawing).sub, (xisB_ok i_NoDrawing).ty, (xisB_ok i_NoDrawing).kp⟩, by rw [kOf_eq z_NoText]; exact ⟨⟨_, _, _, _, _, _, _, _, _, _, _, _, _, _, _, u_NoText, r_NoText⟩, s_NoText, (xisB_ok i_NoText).sub, (xisB_ok i_NoText).ty, (xisB_ok i_NoText).kp⟩, by rw [kOf_eq z_NoDrawing]; exact f_NoDrawing_place, by rw [kOf_eq z_NoDrawing]; exact f_NoDrawing_word, by rw [kOf_eq z_NoText]; exact f_NoText_at, by rw [kOf_eq z_NoText]; exact f_NoText_line⟩
  refine ⟨PySem.W.fnOf "law" "law" (defArgs s_law) (defBody s_law) (defScope s_law) .none kV4 dc4 pm4 an4 cd4 ct4, fun s v => .of_eq rfl, fun base _ _ => ?_⟩
  have KX_NoDrawing := okx_NoDrawing (P := l.prog) (w := w) (base := base) T (XIni.mk' (by rw [kOf_eq z_NoDrawing]; exact aMXNoDrawing) lMXNoDrawing cMXNoDrawing kMXNoDrawing nMXNoDrawing)
  have KX_NoText := okx_NoText (P := l.prog) (w := w) (base := base) T (XIni.mk' (by rw [kOf_eq z_NoText]; exact aMXNoText) lMXNoText cMXNoText kMXNoText nMXNoText)
  have C__law_errors := ok__law_errors (P := l.prog) (w := w) (base := base) T (At.mk' X G a0 l0 c0 k0) KX_NoDrawing KX_NoText
  have C__law_cell := ok__law_cell (P := l.prog) (w := w) (base := base) T (At.mk' X G a1 l1 c1 k1)
  have C__law_classes := ok__law_classes (P := l.prog) (w := w) (base := base) T (At.mk' X G a2 l2 c2 k2)
  have C__law_whole := ok__law_whole (P := l.prog) (w := w) (base := base) T (At.mk' X G a3 l3 c3 k3)
  have A : At K mg "law" s_law := At.mk' X G a4 l4 c4 k4
  have F := fun_mk (st := s_law) l4 c4 k4
  refine def_ok (m := (m_law (kOf K))) F sc_law rfl rfl fun cdv A outer s H E hr => ?_
  exact body_law T C__law_cell C__law_errors C__law_classes C__law_whole hr

end L_k06
open PySem PySem.W PyProof.Rows
set_option maxRecDepth 100000 in
set_option maxHeartbeats 0 in
theorem PySem.Challenge.cw_knotwise_k06_refusals_made_holds : PySem.Challenge.rw_knotwise_k06_refusals_made.Holds := by
  w_on; o_law; k_head; (case hw => w_witness2)
  k_fill
  refine Mir.walk_mirX (l := PySem.Challenge.rw_knotwise_k06_refusals_made) (k := 4) (x := "_law_script") (F := L_k06.F_law) rfl rfl ⟨rfl, by decide, by decide⟩ (fun w h Y => PySem.W.kIn_of Y) (fun w => by first | rfl | decide +kernel) L_k06.law_true ?F
  case F =>
    intro w mg fa h KX G hmg
    refine' L_k06.all_mk KX G hmg ?a0 ?l0 ?c0 ?k0 ?a1 ?l1 ?c1 ?k1 ?a2 ?l2 ?c2 ?k2 ?a3 ?l3 ?c3 ?k3 ?a4 ?l4 ?c4 ?k4 ?z_ValueError ?z_bool ?z_int ?z_isinstance ?z_len ?z_range ?z_KnotError ?i_KnotError ?z_NameTaken ?i_NameTaken ?z_NoBraid ?i_NoBraid ?z_NoDrawing ?i_NoDrawing ?z_NoFit ?i_NoFit ?z_NoLength ?i_NoLength ?z_NoMark ?i_NoMark ?z_NoMove ?i_NoMove ?z_NoName ?i_NoName ?z_NoPrime ?i_NoPrime ?z_NoSpot ?i_NoSpot ?z_NoString ?i_NoString ?z_NoText ?i_NoText ?z_NoWord ?i_NoWord ?z_NothingDone ?i_NothingDone ?z_TooMany ?i_TooMany ?m_KnotError ?m_NameTaken ?m_NoBraid ?m_NoFit ?m_NoLength ?m_NoMark ?m_NoMove ?m_NoName ?m_NoPrime ?m_NoSpot ?m_NoString ?m_NoWord ?m_NothingDone ?m_TooMany ?n_KnotError ?k_KnotError_TooMany ?k_KnotError_NothingDone ?k_KnotError_NoWord ?k_KnotError_NoText ?k_KnotError_NoString ?k_KnotError_NoSpot ?k_KnotError_NoPrime ?k_KnotError_NoName ?k_KnotError_NoMove ?k_KnotError_NoMark ?k_KnotError_NoLength ?k_KnotError_NoFit ?k_KnotError_NoDrawing ?k_KnotError_NoBraid ?k_KnotError_NameTaken ?k_KnotError_KnotError ?n_NameTaken ?k_NameTaken_TooMany ?k_NameTaken_NothingDone ?k_NameTaken_NoWord ?k_NameTaken_NoText ?k_NameTaken_NoString ?k_NameTaken_NoSpot ?k_NameTaken_NoPrime ?k_NameTaken_NoName ?k_NameTaken_NoMove ?k_NameTaken_NoMark ?k_NameTaken_NoLength ?k_NameTaken_NoFit ?k_NameTaken_NoDrawing ?k_NameTaken_NoBraid ?k_NameTaken_NameTaken ?k_NameTaken_KnotError ?n_NoBraid ?k_NoBraid_TooMany ?k_NoBraid_NothingDone ?k_NoBraid_NoWord ?k_NoBraid_NoText ?k_NoBraid_NoString ?k_NoBraid_NoSpot ?k_NoBraid_NoPrime ?k_NoBraid_NoName ?k_NoBraid_NoMove ?k_NoBraid_NoMark ?k_NoBraid_NoLength ?k_NoBraid_NoFit ?k_NoBraid_NoDrawing ?k_NoBraid_NoBraid ?k_NoBraid_NameTaken ?k_NoBraid_KnotError ?n_NoDrawing ?k_NoDrawing_TooMany ?k_NoDrawing_NothingDone ?k_NoDrawing_NoWord ?k_NoDrawing_NoText ?k_NoDrawing_NoString ?k_NoDrawing_NoSpot ?k_NoDrawing_NoPrime ?k_NoDrawing_NoName ?k_NoDrawing_NoMove ?k_NoDrawing_NoMark ?k_NoDrawing_NoLength ?k_NoDrawing_NoFit ?k_NoDrawing_NoDrawing ?k_NoDrawing_NoBraid ?k_NoDrawing_NameTaken ?k_NoDrawing_KnotError ?n_NoFit ?k_NoFit_TooMany ?k_NoFit_NothingDone ?k_NoFit_NoWord ?k_NoFit_NoText ?k_NoFit_NoString ?k_NoFit_NoSpot ?k_NoFit_NoPrime ?k_NoFit_NoName ?k_NoFit_NoMove ?k_NoFit_NoMark ?k_NoFit_NoLength ?k_NoFit_NoFit ?k_NoFit_NoDrawing ?k_NoFit_NoBraid ?k_NoFit_NameTaken ?k_NoFit_KnotError ?n_NoLength ?k_NoLength_TooMany ?k_NoLength_NothingDone ?k_NoLength_NoWord ?k_NoLength_NoText ?k_NoLength_NoString ?k_NoLength_NoSpot ?k_NoLength_NoPrime ?k_NoLength_NoName ?k_NoLength_NoMove ?k_NoLength_NoMark ?k_NoLength_NoLength ?k_NoLength_NoFit ?k_NoLength_NoDrawing ?k_NoLength_NoBraid ?k_NoLength_NameTaken ?k_NoLength_KnotError ?n_NoMark ?k_NoMark_TooMany ?k_NoMark_NothingDone ?k_NoMark_NoWord ?k_NoMark_NoText ?k_NoMark_NoString ?k_NoMark_NoSpot ?k_NoMark_NoPrime ?k_NoMark_NoName ?k_NoMark_NoMove ?k_NoMark_NoMark ?k_NoMark_NoLength ?k_NoMark_NoFit ?k_NoMark_NoDrawing ?k_NoMark_NoBraid ?k_NoMark_NameTaken ?k_NoMark_KnotError ?n_NoMove ?k_NoMove_TooMany ?k_NoMove_NothingDone ?k_NoMove_NoWord ?k_NoMove_NoText ?k_NoMove_NoString ?k_NoMove_NoSpot ?k_NoMove_NoPrime ?k_NoMove_NoName ?k_NoMove_NoMove ?k_NoMove_NoMark ?k_NoMove_NoLength ?k_NoMove_NoFit ?k_NoMove_NoDrawing ?k_NoMove_NoBraid ?k_NoMove_NameTaken ?k_NoMove_KnotError ?n_NoName ?k_NoName_TooMany ?k_NoName_NothingDone ?k_NoName_NoWord ?k_NoName_NoText ?k_NoName_NoString ?k_NoName_NoSpot ?k_NoName_NoPrime ?k_NoName_NoName ?k_NoName_NoMove ?k_NoName_NoMark ?k_NoName_NoLength ?k_NoName_NoFit ?k_NoName_NoDrawing ?k_NoName_NoBraid ?k_NoName_NameTaken ?k_NoName_KnotError ?n_NoPrime ?k_NoPrime_TooMany ?k_NoPrime_NothingDone ?k_NoPrime_NoWord ?k_NoPrime_NoText ?k_NoPrime_NoString ?k_NoPrime_NoSpot ?k_NoPrime_NoPrime ?k_NoPrime_NoName ?k_NoPrime_NoMove ?k_NoPrime_NoMark ?k_NoPrime_NoLength ?k_NoPrime_NoFit ?k_NoPrime_NoDrawing ?k_NoPrime_NoBraid ?k_NoPrime_NameTaken ?k_NoPrime_KnotError ?n_NoSpot ?k_NoSpot_TooMany ?k_NoSpot_NothingDone ?k_NoSpot_NoWord ?k_NoSpot_NoText ?k_NoSpot_NoString ?k_NoSpot_NoSpot ?k_NoSpot_NoPrime ?k_NoSpot_NoName ?k_NoSpot_NoMove ?k_NoSpot_NoMark ?k_NoSpot_NoLength ?k_NoSpot_NoFit ?k_NoSpot_NoDrawing ?k_NoSpot_NoBraid ?k_NoSpot_NameTaken ?k_NoSpot_KnotError ?n_NoString ?k_NoString_TooMany ?k_NoString_NothingDone ?k_NoString_NoWord ?k_NoString_NoText ?k_NoString_NoString ?k_NoString_NoSpot ?k_NoString_NoPrime ?k_NoString_NoName ?k_NoString_NoMove ?k_NoString_NoMark ?k_NoString_NoLength ?k_NoString_NoFit ?k_NoString_NoDrawing ?k_NoString_NoBraid ?k_NoString_NameTaken ?k_NoString_KnotError ?n_NoText ?k_NoText_TooMany ?k_NoText_NothingDone ?k_NoText_NoWord ?k_NoText_NoText ?k_NoText_NoString ?k_NoText_NoSpot ?k_NoText_NoPrime ?k_NoText_NoName ?k_NoText_NoMove ?k_NoText_NoMark ?k_NoText_NoLength ?k_NoText_NoFit ?k_NoText_NoDrawing ?k_NoText_NoBraid ?k_NoText_NameTaken ?k_NoText_KnotError ?n_NoWord ?k_NoWord_TooMany ?k_NoWord_NothingDone ?k_NoWord_NoWord ?k_NoWord_NoText ?k_NoWord_NoString ?k_NoWord_NoSpot ?k_NoWord_NoPrime ?k_NoWord_NoName ?k_NoWord_NoMove ?k_NoWord_NoMark ?k_NoWord_NoLength ?k_NoWord_NoFit ?k_NoWord_NoDrawing ?k_NoWord_NoBraid ?k_NoWord_NameTaken ?k_NoWord_KnotError ?n_NothingDone ?k_NothingDone_TooMany ?k_NothingDone_NothingDone ?k_NothingDone_NoWord ?k_NothingDone_NoText ?k_NothingDone_NoString ?k_NothingDone_NoSpot ?k_NothingDone_NoPrime ?k_NothingDone_NoName ?k_NothingDone_NoMove ?k_NothingDone_NoMark ?k_NothingDone_NoLength ?k_NothingDone_NoFit ?k_NothingDone_NoDrawing ?k_NothingDone_NoBraid ?k_NothingDone_NameTaken ?k_NothingDone_KnotError ?n_TooMany ?k_TooMany_TooMany ?k_TooMany_NothingDone ?k_TooMany_NoWord ?k_TooMany_NoText ?k_TooMany_NoString ?k_TooMany_NoSpot ?k_TooMany_NoPrime ?k_TooMany_NoName ?k_TooMany_NoMove ?k_TooMany_NoMark ?k_TooMany_NoLength ?k_TooMany_NoFit ?k_TooMany_NoDrawing ?k_TooMany_NoBraid ?k_TooMany_NameTaken ?k_TooMany_KnotError ?n_ValueError ?k_ValueError_TooMany ?k_ValueError_NothingDone ?k_ValueError_NoWord ?k_ValueError_NoText ?k_ValueError_NoString ?k_ValueError_NoSpot ?k_ValueError_NoPrime ?k_ValueError_NoName ?k_ValueError_NoMove ?k_ValueError_NoMark ?k_ValueError_NoLength ?k_ValueError_NoFit ?k_ValueError_NoDrawing ?k_ValueError_NoBraid ?k_ValueError_NameTaken ?k_ValueError_KnotError ?u_NoDrawing ?r_NoDrawing ?s_NoDrawing ?u_NoText ?r_NoText ?s_NoText ?f_NoDrawing_place ?f_NoDrawing_word ?f_NoText_at ?f_NoText_line ?aMXNoDrawing ?lMXNoDrawing ?cMXNoDrawing ?kMXNoDrawing ?nMXNoDrawing ?aMXNoText ?lMXNoText ?cMXNoText ?kMXNoText ?nMXNoText
    (case a0 => k_is)
    (case l0 => k_is)
    (case c0 => k_is)
    (case k0 => k_is)
    (case a1 => k_is)
    (case l1 => k_is)
    (case c1 => k_is)
    (case k1 => k_is)
    (case a2 => k_is)
    (case l2 => k_is)
    (case c2 => k_is)
    (case k2 => k_is)
    (case a3 => k_is)
    (case l3 => k_is)
    (case c3 => k_is)
    (case k3 => k_is)
    (case a4 => k_is)
    (case l4 => k_is)
    (case c4 => k_is)
    (case k4 => k_is)
    (case z_ValueError => k_is)
    (case z_bool => k_is)
    (case z_int => k_is)
    (case z_isinstance => k_is)
    (case z_len => k_is)
    (case z_range => k_is)
    (case z_KnotError => k_is)
    (case i_KnotError => first | k_is | kernel_rfl)
    (case z_NameTaken => k_is)
    (case i_NameTaken => first | k_is | kernel_rfl)
    (case z_NoBraid => k_is)
    (case i_NoBraid => first | k_is | kernel_rfl)
    (case z_NoDrawing => k_is)
    (case i_NoDrawing => first | k_is | kernel_rfl)
    (case z_NoFit => k_is)
    (case i_NoFit => first | k_is | kernel_rfl)
    (case z_NoLength => k_is)
    (case i_NoLength => first | k_is | kernel_rfl)
    (case z_NoMark => k_is)
    (case i_NoMark => first | k_is | kernel_rfl)
    (case z_NoMove => k_is)
    (case i_NoMove => first | k_is | kernel_rfl)
    (case z_NoName => k_is)
    (case i_NoName => first | k_is | kernel_rfl)
    (case z_NoPrime => k_is)
    (case i_NoPrime => first | k_is | kernel_rfl)
    (case z_NoSpot => k_is)
    (case i_NoSpot => first | k_is | kernel_rfl)
    (case z_NoString => k_is)
    (case i_NoString => first | k_is | kernel_rfl)
    (case z_NoText => k_is)
    (case i_NoText => first | k_is | kernel_rfl)
    (case z_NoWord => k_is)
    (case i_NoWord => first | k_is | kernel_rfl)
    (case z_NothingDone => k_is)
    (case i_NothingDone => first | k_is | kernel_rfl)
    (case z_TooMany => k_is)
    (case i_TooMany => first | k_is | kernel_rfl)
    (case m_KnotError => first | k_is | kernel_rfl)
    (case m_NameTaken => first | k_is | kernel_rfl)
    (case m_NoBraid => first | k_is | kernel_rfl)
    (case m_NoFit => first | k_is | kernel_rfl)
    (case m_NoLength => first | k_is | kernel_rfl)
    (case m_NoMark => first | k_is | kernel_rfl)
    (case m_NoMove => first | k_is | kernel_rfl)
    (case m_NoName => first | k_is | kernel_rfl)
    (case m_NoPrime => first | k_is | kernel_rfl)
    (case m_NoSpot => first | k_is | kernel_rfl)
    (case m_NoString => first | k_is | kernel_rfl)
    (case m_NoWord => first | k_is | kernel_rfl)
    (case m_NothingDone => first | k_is | kernel_rfl)
    (case m_TooMany => first | k_is | kernel_rfl)
    (case n_KnotError => first | k_is | kernel_rfl)
    (case k_KnotError_TooMany => first | k_is | kernel_rfl)
    (case k_KnotError_NothingDone => first | k_is | kernel_rfl)
    (case k_KnotError_NoWord => first | k_is | kernel_rfl)
    (case k_KnotError_NoText => first | k_is | kernel_rfl)
    (case k_KnotError_NoString => first | k_is | kernel_rfl)
    (case k_KnotError_NoSpot => first | k_is | kernel_rfl)
    (case k_KnotError_NoPrime => first | k_is | kernel_rfl)
    (case k_KnotError_NoName => first | k_is | kernel_rfl)
    (case k_KnotError_NoMove => first | k_is | kernel_rfl)
    (case k_KnotError_NoMark => first | k_is | kernel_rfl)
    (case k_KnotError_NoLength => first | k_is | kernel_rfl)
    (case k_KnotError_NoFit => first | k_is | kernel_rfl)
    (case k_KnotError_NoDrawing => first | k_is | kernel_rfl)
    (case k_KnotError_NoBraid => first | k_is | kernel_rfl)
    (case k_KnotError_NameTaken => first | k_is | kernel_rfl)
    (case k_KnotError_KnotError => first | k_is | kernel_rfl)
    (case n_NameTaken => first | k_is | kernel_rfl)
    (case k_NameTaken_TooMany => first | k_is | kernel_rfl)
    (case k_NameTaken_NothingDone => first | k_is | kernel_rfl)
    (case k_NameTaken_NoWord => first | k_is | kernel_rfl)
    (case k_NameTaken_NoText => first | k_is | kernel_rfl)
    (case k_NameTaken_NoString => first | k_is | kernel_rfl)
    (case k_NameTaken_NoSpot => first | k_is | kernel_rfl)
    (case k_NameTaken_NoPrime => first | k_is | kernel_rfl)
    (case k_NameTaken_NoName => first | k_is | kernel_rfl)
    (case k_NameTaken_NoMove => first | k_is | kernel_rfl)
    (case k_NameTaken_NoMark => first | k_is | kernel_rfl)
    (case k_NameTaken_NoLength => first | k_is | kernel_rfl)
    (case k_NameTaken_NoFit => first | k_is | kernel_rfl)
    (case k_NameTaken_NoDrawing => first | k_is | kernel_rfl)
    (case k_NameTaken_NoBraid => first | k_is | kernel_rfl)
    (case k_NameTaken_NameTaken => first | k_is | kernel_rfl)
    (case k_NameTaken_KnotError => first | k_is | kernel_rfl)
    (case n_NoBraid => first | k_is | kernel_rfl)
    (case k_NoBraid_TooMany => first | k_is | kernel_rfl)
    (case k_NoBraid_NothingDone => first | k_is | kernel_rfl)
    (case k_NoBraid_NoWord => first | k_is | kernel_rfl)
    (case k_NoBraid_NoText => first | k_is | kernel_rfl)
    (case k_NoBraid_NoString => first | k_is | kernel_rfl)
    (case k_NoBraid_NoSpot => first | k_is | kernel_rfl)
    (case k_NoBraid_NoPrime => first | k_is | kernel_rfl)
    (case k_NoBraid_NoName => first | k_is | kernel_rfl)
    (case k_NoBraid_NoMove => first | k_is | kernel_rfl)
    (case k_NoBraid_NoMark => first | k_is | kernel_rfl)
    (case k_NoBraid_NoLength => first | k_is | kernel_rfl)
    (case k_NoBraid_NoFit => first | k_is | kernel_rfl)
    (case k_NoBraid_NoDrawing => first | k_is | kernel_rfl)
    (case k_NoBraid_NoBraid => first | k_is | kernel_rfl)
    (case k_NoBraid_NameTaken => first | k_is | kernel_rfl)
    (case k_NoBraid_KnotError => first | k_is | kernel_rfl)
    (case n_NoDrawing => first | k_is | kernel_rfl)
    (case k_NoDrawing_TooMany => first | k_is | kernel_rfl)
    (case k_NoDrawing_NothingDone => first | k_is | kernel_rfl)
    (case k_NoDrawing_NoWord => first | k_is | kernel_rfl)
    (case k_NoDrawing_NoText => first | k_is | kernel_rfl)
    (case k_NoDrawing_NoString => first | k_is | kernel_rfl)
    (case k_NoDrawing_NoSpot => first | k_is | kernel_rfl)
    (case k_NoDrawing_NoPrime => first | k_is | kernel_rfl)
    (case k_NoDrawing_NoName => first | k_is | kernel_rfl)
    (case k_NoDrawing_NoMove => first | k_is | kernel_rfl)
    (case k_NoDrawing_NoMark => first | k_is | kernel_rfl)
    (case k_NoDrawing_NoLength => first | k_is | kernel_rfl)
    (case k_NoDrawing_NoFit => first | k_is | kernel_rfl)
    (case k_NoDrawing_NoDrawing => first | k_is | kernel_rfl)
    (case k_NoDrawing_NoBraid => first | k_is | kernel_rfl)
    (case k_NoDrawing_NameTaken => first | k_is | kernel_rfl)
    (case k_NoDrawing_KnotError => first | k_is | kernel_rfl)
    (case n_NoFit => first | k_is | kernel_rfl)
    (case k_NoFit_TooMany => first | k_is | kernel_rfl)
    (case k_NoFit_NothingDone => first | k_is | kernel_rfl)
    (case k_NoFit_NoWord => first | k_is | kernel_rfl)
    (case k_NoFit_NoText => first | k_is | kernel_rfl)
    (case k_NoFit_NoString => first | k_is | kernel_rfl)
    (case k_NoFit_NoSpot => first | k_is | kernel_rfl)
    (case k_NoFit_NoPrime => first | k_is | kernel_rfl)
    (case k_NoFit_NoName => first | k_is | kernel_rfl)
    (case k_NoFit_NoMove => first | k_is | kernel_rfl)
    (case k_NoFit_NoMark => first | k_is | kernel_rfl)
    (case k_NoFit_NoLength => first | k_is | kernel_rfl)
    (case k_NoFit_NoFit => first | k_is | kernel_rfl)
    (case k_NoFit_NoDrawing => first | k_is | kernel_rfl)
    (case k_NoFit_NoBraid => first | k_is | kernel_rfl)
    (case k_NoFit_NameTaken => first | k_is | kernel_rfl)
    (case k_NoFit_KnotError => first | k_is | kernel_rfl)
    (case n_NoLength => first | k_is | kernel_rfl)
    (case k_NoLength_TooMany => first | k_is | kernel_rfl)
    (case k_NoLength_NothingDone => first | k_is | kernel_rfl)
    (case k_NoLength_NoWord => first | k_is | kernel_rfl)
    (case k_NoLength_NoText => first | k_is | kernel_rfl)
    (case k_NoLength_NoString => first | k_is | kernel_rfl)
    (case k_NoLength_NoSpot => first | k_is | kernel_rfl)
    (case k_NoLength_NoPrime => first | k_is | kernel_rfl)
    (case k_NoLength_NoName => first | k_is | kernel_rfl)
    (case k_NoLength_NoMove => first | k_is | kernel_rfl)
    (case k_NoLength_NoMark => first | k_is | kernel_rfl)
    (case k_NoLength_NoLength => first | k_is | kernel_rfl)
    (case k_NoLength_NoFit => first | k_is | kernel_rfl)
    (case k_NoLength_NoDrawing => first | k_is | kernel_rfl)
    (case k_NoLength_NoBraid => first | k_is | kernel_rfl)
    (case k_NoLength_NameTaken => first | k_is | kernel_rfl)
    (case k_NoLength_KnotError => first | k_is | kernel_rfl)
    (case n_NoMark => first | k_is | kernel_rfl)
    (case k_NoMark_TooMany => first | k_is | kernel_rfl)
    (case k_NoMark_NothingDone => first | k_is | kernel_rfl)
    (case k_NoMark_NoWord => first | k_is | kernel_rfl)
    (case k_NoMark_NoText => first | k_is | kernel_rfl)
    (case k_NoMark_NoString => first | k_is | kernel_rfl)
    (case k_NoMark_NoSpot => first | k_is | kernel_rfl)
    (case k_NoMark_NoPrime => first | k_is | kernel_rfl)
    (case k_NoMark_NoName => first | k_is | kernel_rfl)
    (case k_NoMark_NoMove => first | k_is | kernel_rfl)
    (case k_NoMark_NoMark => first | k_is | kernel_rfl)
    (case k_NoMark_NoLength => first | k_is | kernel_rfl)
    (case k_NoMark_NoFit => first | k_is | kernel_rfl)
    (case k_NoMark_NoDrawing => first | k_is | kernel_rfl)
    (case k_NoMark_NoBraid => first | k_is | kernel_rfl)
    (case k_NoMark_NameTaken => first | k_is | kernel_rfl)
    (case k_NoMark_KnotError => first | k_is | kernel_rfl)
    (case n_NoMove => first | k_is | kernel_rfl)
    (case k_NoMove_TooMany => first | k_is | kernel_rfl)
    (case k_NoMove_NothingDone => first | k_is | kernel_rfl)
    (case k_NoMove_NoWord => first | k_is | kernel_rfl)
    (case k_NoMove_NoText => first | k_is | kernel_rfl)
    (case k_NoMove_NoString => first | k_is | kernel_rfl)
    (case k_NoMove_NoSpot => first | k_is | kernel_rfl)
    (case k_NoMove_NoPrime => first | k_is | kernel_rfl)
    (case k_NoMove_NoName => first | k_is | kernel_rfl)
    (case k_NoMove_NoMove => first | k_is | kernel_rfl)
    (case k_NoMove_NoMark => first | k_is | kernel_rfl)
    (case k_NoMove_NoLength => first | k_is | kernel_rfl)
    (case k_NoMove_NoFit => first | k_is | kernel_rfl)
    (case k_NoMove_NoDrawing => first | k_is | kernel_rfl)
    (case k_NoMove_NoBraid => first | k_is | kernel_rfl)
    (case k_NoMove_NameTaken => first | k_is | kernel_rfl)
    (case k_NoMove_KnotError => first | k_is | kernel_rfl)
    (case n_NoName => first | k_is | kernel_rfl)
    (case k_NoName_TooMany => first | k_is | kernel_rfl)
    (case k_NoName_NothingDone => first | k_is | kernel_rfl)
    (case k_NoName_NoWord => first | k_is | kernel_rfl)
    (case k_NoName_NoText => first | k_is | kernel_rfl)
    (case k_NoName_NoString => first | k_is | kernel_rfl)
    (case k_NoName_NoSpot => first | k_is | kernel_rfl)
    (case k_NoName_NoPrime => first | k_is | kernel_rfl)
    (case k_NoName_NoName => first | k_is | kernel_rfl)
    (case k_NoName_NoMove => first | k_is | kernel_rfl)
    (case k_NoName_NoMark => first | k_is | kernel_rfl)
    (case k_NoName_NoLength => first | k_is | kernel_rfl)
    (case k_NoName_NoFit => first | k_is | kernel_rfl)
    (case k_NoName_NoDrawing => first | k_is | kernel_rfl)
    (case k_NoName_NoBraid => first | k_is | kernel_rfl)
    (case k_NoName_NameTaken => first | k_is | kernel_rfl)
    (case k_NoName_KnotError => first | k_is | kernel_rfl)
    (case n_NoPrime => first | k_is | kernel_rfl)
    (case k_NoPrime_TooMany => first | k_is | kernel_rfl)
    (case k_NoPrime_NothingDone => first | k_is | kernel_rfl)
    (case k_NoPrime_NoWord => first | k_is | kernel_rfl)
    (case k_NoPrime_NoText => first | k_is | kernel_rfl)
    (case k_NoPrime_NoString => first | k_is | kernel_rfl)
    (case k_NoPrime_NoSpot => first | k_is | kernel_rfl)
    (case k_NoPrime_NoPrime => first | k_is | kernel_rfl)
    (case k_NoPrime_NoName => first | k_is | kernel_rfl)
    (case k_NoPrime_NoMove => first | k_is | kernel_rfl)
    (case k_NoPrime_NoMark => first | k_is | kernel_rfl)
    (case k_NoPrime_NoLength => first | k_is | kernel_rfl)
    (case k_NoPrime_NoFit => first | k_is | kernel_rfl)
    (case k_NoPrime_NoDrawing => first | k_is | kernel_rfl)
    (case k_NoPrime_NoBraid => first | k_is | kernel_rfl)
    (case k_NoPrime_NameTaken => first | k_is | kernel_rfl)
    (case k_NoPrime_KnotError => first | k_is | kernel_rfl)
    (case n_NoSpot => first | k_is | kernel_rfl)
    (case k_NoSpot_TooMany => first | k_is | kernel_rfl)
    (case k_NoSpot_NothingDone => first | k_is | kernel_rfl)
    (case k_NoSpot_NoWord => first | k_is | kernel_rfl)
    (case k_NoSpot_NoText => first | k_is | kernel_rfl)
    (case k_NoSpot_NoString => first | k_is | kernel_rfl)
    (case k_NoSpot_NoSpot => first | k_is | kernel_rfl)
    (case k_NoSpot_NoPrime => first | k_is | kernel_rfl)
    (case k_NoSpot_NoName => first | k_is | kernel_rfl)
    (case k_NoSpot_NoMove => first | k_is | kernel_rfl)
    (case k_NoSpot_NoMark => first | k_is | kernel_rfl)
    (case k_NoSpot_NoLength => first | k_is | kernel_rfl)
    (case k_NoSpot_NoFit => first | k_is | kernel_rfl)
    (case k_NoSpot_NoDrawing => first | k_is | kernel_rfl)
    (case k_NoSpot_NoBraid => first | k_is | kernel_rfl)
    (case k_NoSpot_NameTaken => first | k_is | kernel_rfl)
    (case k_NoSpot_KnotError => first | k_is | kernel_rfl)
    (case n_NoString => first | k_is | kernel_rfl)
    (case k_NoString_TooMany => first | k_is | kernel_rfl)
    (case k_NoString_NothingDone => first | k_is | kernel_rfl)
    (case k_NoString_NoWord => first | k_is | kernel_rfl)
    (case k_NoString_NoText => first | k_is | kernel_rfl)
    (case k_NoString_NoString => first | k_is | kernel_rfl)
    (case k_NoString_NoSpot => first | k_is | kernel_rfl)
    (case k_NoString_NoPrime => first | k_is | kernel_rfl)
    (case k_NoString_NoName => first | k_is | kernel_rfl)
    (case k_NoString_NoMove => first | k_is | kernel_rfl)
    (case k_NoString_NoMark => first | k_is | kernel_rfl)
    (case k_NoString_NoLength => first | k_is | kernel_rfl)
    (case k_NoString_NoFit => first | k_is | kernel_rfl)
    (case k_NoString_NoDrawing => first | k_is | kernel_rfl)
    (case k_NoString_NoBraid => first | k_is | kernel_rfl)
    (case k_NoString_NameTaken => first | k_is | kernel_rfl)
    (case k_NoString_KnotError => first | k_is | kernel_rfl)
    (case n_NoText => first | k_is | kernel_rfl)
    (case k_NoText_TooMany => first | k_is | kernel_rfl)
    (case k_NoText_NothingDone => first | k_is | kernel_rfl)
    (case k_NoText_NoWord => first | k_is | kernel_rfl)
    (case k_NoText_NoText => first | k_is | kernel_rfl)
    (case k_NoText_NoString => first | k_is | kernel_rfl)
    (case k_NoText_NoSpot => first | k_is | kernel_rfl)
    (case k_NoText_NoPrime => first | k_is | kernel_rfl)
    (case k_NoText_NoName => first | k_is | kernel_rfl)
    (case k_NoText_NoMove => first | k_is | kernel_rfl)
    (case k_NoText_NoMark => first | k_is | kernel_rfl)
    (case k_NoText_NoLength => first | k_is | kernel_rfl)
    (case k_NoText_NoFit => first | k_is | kernel_rfl)
    (case k_NoText_NoDrawing => first | k_is | kernel_rfl)
    (case k_NoText_NoBraid => first | k_is | kernel_rfl)
    (case k_NoText_NameTaken => first | k_is | kernel_rfl)
    (case k_NoText_KnotError => first | k_is | kernel_rfl)
    (case n_NoWord => first | k_is | kernel_rfl)
    (case k_NoWord_TooMany => first | k_is | kernel_rfl)
    (case k_NoWord_NothingDone => first | k_is | kernel_rfl)
    (case k_NoWord_NoWord => first | k_is | kernel_rfl)
    (case k_NoWord_NoText => first | k_is | kernel_rfl)
    (case k_NoWord_NoString => first | k_is | kernel_rfl)
    (case k_NoWord_NoSpot => first | k_is | kernel_rfl)
    (case k_NoWord_NoPrime => first | k_is | kernel_rfl)
    (case k_NoWord_NoName => first | k_is | kernel_rfl)
    (case k_NoWord_NoMove => first | k_is | kernel_rfl)
    (case k_NoWord_NoMark => first | k_is | kernel_rfl)
    (case k_NoWord_NoLength => first | k_is | kernel_rfl)
    (case k_NoWord_NoFit => first | k_is | kernel_rfl)
    (case k_NoWord_NoDrawing => first | k_is | kernel_rfl)
    (case k_NoWord_NoBraid => first | k_is | kernel_rfl)
    (case k_NoWord_NameTaken => first | k_is | kernel_rfl)
    (case k_NoWord_KnotError => first | k_is | kernel_rfl)
    (case n_NothingDone => first | k_is | kernel_rfl)
    (case k_NothingDone_TooMany => first | k_is | kernel_rfl)
    (case k_NothingDone_NothingDone => first | k_is | kernel_rfl)
    (case k_NothingDone_NoWord => first | k_is | kernel_rfl)
    (case k_NothingDone_NoText => first | k_is | kernel_rfl)
    (case k_NothingDone_NoString => first | k_is | kernel_rfl)
    (case k_NothingDone_NoSpot => first | k_is | kernel_rfl)
    (case k_NothingDone_NoPrime => first | k_is | kernel_rfl)
    (case k_NothingDone_NoName => first | k_is | kernel_rfl)
    (case k_NothingDone_NoMove => first | k_is | kernel_rfl)
    (case k_NothingDone_NoMark => first | k_is | kernel_rfl)
    (case k_NothingDone_NoLength => first | k_is | kernel_rfl)
    (case k_NothingDone_NoFit => first | k_is | kernel_rfl)
    (case k_NothingDone_NoDrawing => first | k_is | kernel_rfl)
    (case k_NothingDone_NoBraid => first | k_is | kernel_rfl)
    (case k_NothingDone_NameTaken => first | k_is | kernel_rfl)
    (case k_NothingDone_KnotError => first | k_is | kernel_rfl)
    (case n_TooMany => first | k_is | kernel_rfl)
    (case k_TooMany_TooMany => first | k_is | kernel_rfl)
    (case k_TooMany_NothingDone => first | k_is | kernel_rfl)
    (case k_TooMany_NoWord => first | k_is | kernel_rfl)
    (case k_TooMany_NoText => first | k_is | kernel_rfl)
    (case k_TooMany_NoString => first | k_is | kernel_rfl)
    (case k_TooMany_NoSpot => first | k_is | kernel_rfl)
    (case k_TooMany_NoPrime => first | k_is | kernel_rfl)
    (case k_TooMany_NoName => first | k_is | kernel_rfl)
    (case k_TooMany_NoMove => first | k_is | kernel_rfl)
    (case k_TooMany_NoMark => first | k_is | kernel_rfl)
    (case k_TooMany_NoLength => first | k_is | kernel_rfl)
    (case k_TooMany_NoFit => first | k_is | kernel_rfl)
    (case k_TooMany_NoDrawing => first | k_is | kernel_rfl)
    (case k_TooMany_NoBraid => first | k_is | kernel_rfl)
    (case k_TooMany_NameTaken => first | k_is | kernel_rfl)
    (case k_TooMany_KnotError => first | k_is | kernel_rfl)
    (case n_ValueError => first | k_is | kernel_rfl)
    (case k_ValueError_TooMany => first | k_is | kernel_rfl)
    (case k_ValueError_NothingDone => first | k_is | kernel_rfl)
    (case k_ValueError_NoWord => first | k_is | kernel_rfl)
    (case k_ValueError_NoText => first | k_is | kernel_rfl)
    (case k_ValueError_NoString => first | k_is | kernel_rfl)
    (case k_ValueError_NoSpot => first | k_is | kernel_rfl)
    (case k_ValueError_NoPrime => first | k_is | kernel_rfl)
    (case k_ValueError_NoName => first | k_is | kernel_rfl)
    (case k_ValueError_NoMove => first | k_is | kernel_rfl)
    (case k_ValueError_NoMark => first | k_is | kernel_rfl)
    (case k_ValueError_NoLength => first | k_is | kernel_rfl)
    (case k_ValueError_NoFit => first | k_is | kernel_rfl)
    (case k_ValueError_NoDrawing => first | k_is | kernel_rfl)
    (case k_ValueError_NoBraid => first | k_is | kernel_rfl)
    (case k_ValueError_NameTaken => first | k_is | kernel_rfl)
    (case k_ValueError_KnotError => first | k_is | kernel_rfl)
    (case u_NoDrawing => first | k_is | kernel_rfl)
    (case r_NoDrawing => first | k_is | kernel_rfl)
    (case s_NoDrawing => first | k_is | kernel_rfl)
    (case u_NoText => first | k_is | kernel_rfl)
    (case r_NoText => first | k_is | kernel_rfl)
    (case s_NoText => first | k_is | kernel_rfl)
    (case f_NoDrawing_place => first | k_is | kernel_rfl)
    (case f_NoDrawing_word => first | k_is | kernel_rfl)
    (case f_NoText_at => first | k_is | kernel_rfl)
    (case f_NoText_line => first | k_is | kernel_rfl)
    (case aMXNoDrawing => k_is)
    (case lMXNoDrawing => k_is)
    (case cMXNoDrawing => k_is)
    (case kMXNoDrawing => k_is)
    (case nMXNoDrawing => k_is)
    (case aMXNoText => k_is)
    (case lMXNoText => k_is)
    (case cMXNoText => k_is)
    (case kMXNoText => k_is)
    (case nMXNoText => k_is)
