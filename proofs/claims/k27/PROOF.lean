import PyProof.Rows.All
import Wide.All
import OpenK.AllK
import Wide.FinOn
import HandS.ForMost
import HandS.Walk
import HandS.Wide
import HandS.Deep
import HandS.IsInst
import HandS.Flow
import HandS.Rev
import HandS.Conv
import HandS.TupLen
import HandS.More
import HandS.SortInts
import HandS.SetFor
import HandS.TupSets
import HandS.SetKeys
import HandS.Records
import HandS.Rev
import HandS.RevTup
import PyProof.ListNew
import KE.SortData
import KE.DataCmp
import KE.DataMinMax
import HandS.More
import KE.KDictWalk
import KE.KDictSum
import HandS.Strs
import HandS.DictEq
import PyProof.P3Eq
import HandS.Keys
import KE.KDictCopyH
import HandS.TupSets
import HandS.Exc
import HandS.ExcOwn
import HandS.WordsExc
import HandS.TryOnly
import KE.KExcIs
import HandS.ExcField
import HandS.ExcInit
import KE.KeyNested
import KE.KDictDisplayH
import HandS.WordsDict
import PyProof.SetRoads
import HandS.Finally
import HandS.Replace
import HandS.Text
import PySem.Challenge.RW_knotwise_k27_lessening
set_option maxHeartbeats 0
set_option Elab.async false
set_option linter.all false
set_option maxRecDepth 100000
set_option autoImplicit false
namespace Mir
open PySem PySem.Spec L2

/-! ### data -/
inductive D where
  | non | bl (b : Bool) | int (i : Int) | str (x : Str)
  | lst (xs : List D) | tup (xs : List D)
  | dk (ks : List Key) (ds : List D) | dt (ks : List (List Key)) (ds : List D)
  | ob (c : Str) (C : Addr) (ns : List Str) (ds : List D) | exn (c : Str) (C : Addr) (ns : List Str) (ds : List D)
  | dn (ks : List NestedKey) (ds : List D)
mutual
/-- a key's data -/
def kN : NestedKey → D
  | .none => .non | .num i => .int i | .text x => .str x | .tup ks => .tup (kNs ks)
def kNs : List NestedKey → List D
  | [] => []
  | k :: ks => kN k :: kNs ks
end
/-- an exception's object at a -/
def ExH (cls : Value) (d : Option Addr) (a : Addr) : HO := .ext fun h => ∃ oe vs, h.get? a = some oe ∧ Zc cls d oe ∧ oe.data = .fields vs
/-! a key whose hash is the same in all worlds: no texts in it -/
mutual
def plainK : NestedKey → Bool
  | .none => true | .num _ => true | .text _ => false | .tup ks => plainKs ks
def plainKs : List NestedKey → Bool
  | [] => true
  | k :: ks => plainK k && plainKs ks
end
/-- the dict at a: its keys, their addresses, its values -/
def DnH (a : Addr) (es : List (NestedKey × Addr × V)) : HO := .ext fun h => es.length ≤ sizeLine ∧ (a == sysModules) = false ∧ ∃ (xs : List (NestedKey × Addr × Value)) (o : Obj) (des : Array DictEntry) (ep : Nat),
  Paired (fun (p : NestedKey × Addr × V) (q : NestedKey × Addr × Value) => p.1 = q.1 ∧ p.2.1 = q.2.1 ∧ RelV p.2.2 q.2.2) es xs ∧ h.get? a = some o ∧ o.ExactDict ∧ o.data = .dict des ep ∧ ∀ w : World, des.toList = xs.map (fun x => (⟨x.1.hash w, .ref x.2.1, x.2.2⟩ : DictEntry))
/-- what is asked of such a dict's keys -/
def NkOk (hs ks : List NestedKey) : Prop := hs = ks ∧ ks.Nodup ∧ ∀ k ∈ ks, k.depth ≤ 8 ∧ plainK k = true
/-- what is shared wherever it stands -/
def isIm : HO → Bool
  | .tup _ => true
  | .ins _ _ _ => true
  | _ => false

mutual
def D.imm : D → Bool
  | .non => true | .bl _ => true | .int _ => true | .str _ => true
  | .lst _ => false | .tup xs => immAll xs | .dk _ _ => false | .dt _ _ => false
  | .ob _ _ _ ds => immAll ds | .exn _ _ _ _ => false | .dn _ _ => false
def immAll : List D → Bool
  | [] => true
  | d :: ds => d.imm && immAll ds
end
theorem immAll_iff : ∀ {ds : List D}, immAll ds = true ↔ ∀ d ∈ ds, d.imm = true
  | [] => by simp [immAll]
  | d :: ds => by simp [immAll, immAll_iff (ds := ds)]

/-! ### what a value stands for, over a heap of what is shared -/
mutual
inductive Rp (G : Hp) : V → D → Prop
  | non : Rp G .non .non
  | bl (b : Bool) : Rp G (.bl b) (.bl b)
  | int (i : Int) : Rp G (.int i) (.int i)
  | str (x : Str) : Rp G (.str x) (.str x)
  | lst {a : Addr} {vs : List V} {ds : List D} : G a = some (.lst vs) → RpAll G vs ds → Rp G (.ref a) (.lst ds)
  | tup {a : Addr} {vs : List V} {ds : List D} : G a = some (.tup vs) → RpAll G vs ds → Rp G (.ref a) (.tup ds)
  | dk {a : Addr} {kvs : List (Key × V)} {ks : List Key} {ds : List D} : G a = some (.dK kvs) → kvs.map (·.1) = ks → RpAll G (kvs.map (·.2)) ds → Rp G (.ref a) (.dk ks ds)
  | dt {a : Addr} {kvs : List (List Key × V)} {ks : List (List Key)} {ds : List D} : G a = some (.dT kvs) → kvs.map (·.1) = ks → RpAll G (kvs.map (·.2)) ds → Rp G (.ref a) (.dt ks ds)
  | ob {a C dx : Addr} {kvs : List (Str × V)} {ns : List Str} {ds : List D} {c : Str} : G a = some (.ins C dx kvs) → kvs.map (·.1) = ns → RpAll G (kvs.map (·.2)) ds → Rp G (.ref a) (.ob c C ns ds)
  | exn0 {a C : Addr} {c : Str} : G a = some (ExH (.ref C) none a) → Rp G (.ref a) (.exn c C [] [])
  | exn {a C dx : Addr} {kvs : List (Str × V)} {ns : List Str} {ds : List D} {c : Str} : G a = some (ExH (.ref C) (some dx) a) → G dx = some (.xd kvs) → kvs.map (·.1) = ns → RpAll G (kvs.map (·.2)) ds → Rp G (.ref a) (.exn c C ns ds)
  | dn {a : Addr} {es : List (NestedKey × Addr × V)} {ks : List NestedKey} {ds : List D} : G a = some (DnH a es) → NkOk (es.map (·.1)) ks → RpAll G (es.map fun e => V.ref e.2.1) (kNs ks) → RpAll G (es.map (·.2.2)) ds → Rp G (.ref a) (.dn ks ds)
inductive RpAll (G : Hp) : List V → List D → Prop
  | nil : RpAll G [] []
  | cons {v : V} {vs : List V} {d : D} {ds : List D} : Rp G v d → RpAll G vs ds → RpAll G (v :: vs) (d :: ds)
end

mutual
theorem Rp.mono {G G' : Hp} (k : ∀ a o, G a = some o → G' a = some o) : ∀ {v : V} {d : D}, Rp G v d → Rp G' v d
  | _, _, .non => .non
  | _, _, .bl b => .bl b
  | _, _, .int i => .int i
  | _, _, .str x => .str x
  | _, _, .lst h r => .lst (k _ _ h) (RpAll.mono k r)
  | _, _, .tup h r => .tup (k _ _ h) (RpAll.mono k r)
  | _, _, .dk h e r => .dk (k _ _ h) e (RpAll.mono k r)
  | _, _, .dt h e r => .dt (k _ _ h) e (RpAll.mono k r)
  | _, _, .ob h e r => .ob (k _ _ h) e (RpAll.mono k r)
  | _, _, .exn0 h => .exn0 (k _ _ h)
  | _, _, .exn h1 h2 e r => .exn (k _ _ h1) (k _ _ h2) e (RpAll.mono k r)
  | _, _, .dn h n q r => .dn (k _ _ h) n (RpAll.mono k q) (RpAll.mono k r)
theorem RpAll.mono {G G' : Hp} (k : ∀ a o, G a = some o → G' a = some o) : ∀ {vs : List V} {ds : List D}, RpAll G vs ds → RpAll G' vs ds
  | _, _, .nil => .nil
  | _, _, .cons h r => .cons (Rp.mono k h) (RpAll.mono k r)
end
/-! the tuples are the same in both heaps: what holds no list, no dict stands in both -/
mutual
theorem Rp.immTo {G G' : Hp} (k : ∀ a u, isIm u = true → G a = some u → G' a = some u) : ∀ {v : V} {d : D}, Rp G v d → d.imm = true → Rp G' v d
  | _, _, .non, _ => .non
  | _, _, .bl b, _ => .bl b
  | _, _, .int i, _ => .int i
  | _, _, .str x, _ => .str x
  | _, _, .lst _ _, h => by simp [D.imm] at h
  | _, _, .tup h r, e => .tup (k _ _ rfl h) (RpAll.immTo k r (by simpa [D.imm] using e))
  | _, _, .dk _ _ _, h => by simp [D.imm] at h
  | _, _, .dt _ _ _, h => by simp [D.imm] at h
  | _, _, .ob h e1 r, e => .ob (k _ _ rfl h) e1 (RpAll.immTo k r (by simpa [D.imm] using e))
  | _, _, .exn0 _, h => by simp [D.imm] at h
  | _, _, .exn _ _ _ _, h => by simp [D.imm] at h
  | _, _, .dn _ _ _ _, h => by simp [D.imm] at h
theorem RpAll.immTo {G G' : Hp} (k : ∀ a u, isIm u = true → G a = some u → G' a = some u) : ∀ {vs : List V} {ds : List D}, RpAll G vs ds → immAll ds = true → RpAll G' vs ds
  | _, _, .nil, _ => .nil
  | _, _, .cons h r, e => by
    rw [immAll, Bool.and_eq_true] at e
    exact .cons (Rp.immTo k h e.1) (RpAll.immTo k r e.2)
end
theorem RpAll.length {G : Hp} : ∀ {vs : List V} {ds : List D}, RpAll G vs ds → vs.length = ds.length
  | _, _, .nil => rfl
  | _, _, .cons _ r => by simp [r.length]
theorem RpAll.get {G : Hp} : ∀ {vs : List V} {ds : List D} {i : Nat} {d : D}, RpAll G vs ds → ds[i]? = some d → ∃ v, vs[i]? = some v ∧ Rp G v d
  | _, _, _, _, .nil, e => by simp at e
  | _, _, 0, _, .cons h _, e => by simp at e; subst e; exact ⟨_, rfl, h⟩
  | _, _, i + 1, d, .cons _ r, e => by
    obtain ⟨v, h1, h2⟩ := RpAll.get (i := i) (d := d) r (by simpa using e)
    exact ⟨v, by simpa using h1, h2⟩
theorem RpAll.get' {G : Hp} : ∀ {vs : List V} {ds : List D} {i : Nat} {v : V}, RpAll G vs ds → vs[i]? = some v → ∃ d, ds[i]? = some d ∧ Rp G v d
  | _, _, _, _, .nil, e => by simp at e
  | _, _, 0, _, .cons h _, e => by simp at e; subst e; exact ⟨_, rfl, h⟩
  | _, _, i + 1, d, .cons _ r, e => by
    obtain ⟨v, h1, h2⟩ := RpAll.get' (i := i) (v := d) r (by simpa using e)
    exact ⟨v, by simpa using h1, h2⟩
theorem RpAll.append {G : Hp} : ∀ {vs ws : List V} {ds es : List D}, RpAll G vs ds → RpAll G ws es → RpAll G (vs ++ ws) (ds ++ es)
  | _, _, _, _, .nil, s => s
  | _, _, _, _, .cons h r, s => .cons h (RpAll.append r s)
theorem RpAll.take {G : Hp} : ∀ {vs : List V} {ds : List D} (n : Nat), RpAll G vs ds → RpAll G (vs.take n) (ds.take n)
  | _, _, 0, _ => .nil
  | _, _, _ + 1, .nil => .nil
  | _, _, n + 1, .cons h r => .cons h (RpAll.take n r)
theorem RpAll.drop {G : Hp} : ∀ {vs : List V} {ds : List D} (n : Nat), RpAll G vs ds → RpAll G (vs.drop n) (ds.drop n)
  | _, _, 0, r => r
  | _, _, _ + 1, .nil => .nil
  | _, _, n + 1, .cons _ r => RpAll.drop n r
theorem RpAll.set {G : Hp} : ∀ {vs : List V} {ds : List D} (i : Nat) {v : V} {d : D}, RpAll G vs ds → Rp G v d → RpAll G (vs.set i v) (ds.set i d)
  | _, _, _, _, _, .nil, _ => .nil
  | _, _, 0, _, _, .cons _ r, h => .cons h r
  | _, _, i + 1, _, _, .cons q r, h => .cons q (RpAll.set i r h)

/-- a heap without its locks -/
def unf : HO → HO
  | .frz _ u => u
  | o => o
def view (H : Hp) : Hp := fun a => (H a).map unf
theorem view_rd {H : Hp} {a : Addr} {u : HO} (h : view H a = some u) : Rd H a u := by
  unfold view at h
  cases e : H a with
  | none => rw [e] at h; cases h
  | some o =>
    rw [e] at h
    have q : unf o = u := Option.some.inj h
    cases o with
    | frz ob w => exact .inr ⟨ob, by rw [e]; exact congrArg some (congrArg _ q)⟩
    | _ => exact .inl (by rw [e]; exact congrArg some q)
theorem view_ext {H H' : Hp} (k : ∀ a o, H a = some o → H' a = some o) : ∀ a o, view H a = some o → view H' a = some o := fun a o h => by
  unfold view at h ⊢
  cases e : H a with
  | none => rw [e] at h; cases h
  | some u => rw [e] at h; rw [k a u e]; exact h

/-! ### what is owned: Od k: the lists and dicts of the first k levels stand at the addresses of the footprint and nowhere else -/
mutual
inductive Od (G H : Hp) : Nat → List Addr → V → D → Prop
  | sh {k : Nat} {v : V} {d : D} : (k = 0 ∨ d.imm = true) → Rp G v d → Od G H k [] v d
  | lst {k : Nat} {a : Addr} {vs : List V} {ds : List D} {f : List Addr} : H a = some (.lst vs) → OdAll G H k f vs ds → Od G H (k + 1) (a :: f) (.ref a) (.lst ds)
  | tup {k : Nat} {a : Addr} {vs : List V} {ds : List D} {f : List Addr} : H a = some (.tup vs) → OdAll G H k f vs ds → Od G H (k + 1) f (.ref a) (.tup ds)
  | dk {k : Nat} {a : Addr} {kvs : List (Key × V)} {ks : List Key} {ds : List D} {f : List Addr} : H a = some (.dK kvs) → kvs.map (·.1) = ks → OdAll G H k f (kvs.map (·.2)) ds → Od G H (k + 1) (a :: f) (.ref a) (.dk ks ds)
  | dt {k : Nat} {a : Addr} {kvs : List (List Key × V)} {ks : List (List Key)} {ds : List D} {f : List Addr} : H a = some (.dT kvs) → kvs.map (·.1) = ks → OdAll G H k f (kvs.map (·.2)) ds → Od G H (k + 1) (a :: f) (.ref a) (.dt ks ds)
  | dn {k : Nat} {a : Addr} {es : List (NestedKey × Addr × V)} {ks : List NestedKey} {ds : List D} {f : List Addr} : H a = some (DnH a es) → NkOk (es.map (·.1)) ks → RpAll G (es.map fun e => V.ref e.2.1) (kNs ks) → OdAll G H k f (es.map (·.2.2)) ds → Od G H (k + 1) (a :: f) (.ref a) (.dn ks ds)
inductive OdAll (G H : Hp) : Nat → List Addr → List V → List D → Prop
  | nil {k : Nat} : OdAll G H k [] [] []
  | cons {k : Nat} {f g : List Addr} {v : V} {vs : List V} {d : D} {ds : List D} : Od G H k f v d → OdAll G H k g vs ds → OdAll G H k (f ++ g) (v :: vs) (d :: ds)
end
end Mir

namespace Mir
open PySem PySem.Spec L2

mutual
theorem Od.frame {G G' H H' : Hp} (hG : ∀ a u, G a = some u → G' a = some u) : ∀ {k : Nat} {f : List Addr} {v : V} {d : D}, (∀ a u, H a = some u → (a ∈ f ∨ ∃ xs, u = .tup xs) → H' a = some u) → Od G H k f v d → Od G' H' k f v d
  | _, _, _, _, _, .sh h r => .sh h (r.mono hG)
  | _, _, _, _, hH, .lst h r => .lst (hH _ _ h (.inl List.mem_cons_self)) (OdAll.frame hG (fun a u e q => hH a u e (q.imp (List.mem_cons_of_mem _) id)) r)
  | _, _, _, _, hH, .tup h r => .tup (hH _ _ h (.inr ⟨_, rfl⟩)) (OdAll.frame hG hH r)
  | _, _, _, _, hH, .dk h e r => .dk (hH _ _ h (.inl List.mem_cons_self)) e (OdAll.frame hG (fun a u e q => hH a u e (q.imp (List.mem_cons_of_mem _) id)) r)
  | _, _, _, _, hH, .dt h e r => .dt (hH _ _ h (.inl List.mem_cons_self)) e (OdAll.frame hG (fun a u e q => hH a u e (q.imp (List.mem_cons_of_mem _) id)) r)
  | _, _, _, _, hH, .dn h n q r => .dn (hH _ _ h (.inl List.mem_cons_self)) n (q.mono hG) (OdAll.frame hG (fun a u e q => hH a u e (q.imp (List.mem_cons_of_mem _) id)) r)
theorem OdAll.frame {G G' H H' : Hp} (hG : ∀ a u, G a = some u → G' a = some u) : ∀ {k : Nat} {f : List Addr} {vs : List V} {ds : List D}, (∀ a u, H a = some u → (a ∈ f ∨ ∃ xs, u = .tup xs) → H' a = some u) → OdAll G H k f vs ds → OdAll G' H' k f vs ds
  | _, _, _, _, _, .nil => .nil
  | _, _, _, _, hH, .cons h r => .cons (Od.frame hG (fun a u e q => hH a u e (q.imp (List.mem_append_left _) id)) h) (OdAll.frame hG (fun a u e q => hH a u e (q.imp (List.mem_append_right _) id)) r)
end
mutual
theorem Od.frozen {G G' H : Hp} (hG : ∀ a u, G a = some u → G' a = some u) (hT : ∀ a xs, H a = some (.tup xs) → G' a = some (.tup xs)) : ∀ {k : Nat} {f : List Addr} {v : V} {d : D}, (∀ a u, H a = some u → a ∈ f → G' a = some u) → Od G H k f v d → Rp G' v d
  | _, _, _, _, _, .sh _ r => r.mono hG
  | _, _, _, _, hH, .lst h r => .lst (hH _ _ h List.mem_cons_self) (OdAll.frozen hG hT (fun a u e q => hH a u e (List.mem_cons_of_mem _ q)) r)
  | _, _, _, _, hH, .tup h r => .tup (hT _ _ h) (OdAll.frozen hG hT hH r)
  | _, _, _, _, hH, .dk h e r => .dk (hH _ _ h List.mem_cons_self) e (OdAll.frozen hG hT (fun a u e q => hH a u e (List.mem_cons_of_mem _ q)) r)
  | _, _, _, _, hH, .dt h e r => .dt (hH _ _ h List.mem_cons_self) e (OdAll.frozen hG hT (fun a u e q => hH a u e (List.mem_cons_of_mem _ q)) r)
  | _, _, _, _, hH, .dn h n q r => .dn (hH _ _ h List.mem_cons_self) n (q.mono hG) (OdAll.frozen hG hT (fun a u e q => hH a u e (List.mem_cons_of_mem _ q)) r)
theorem OdAll.frozen {G G' H : Hp} (hG : ∀ a u, G a = some u → G' a = some u) (hT : ∀ a xs, H a = some (.tup xs) → G' a = some (.tup xs)) : ∀ {k : Nat} {f : List Addr} {vs : List V} {ds : List D}, (∀ a u, H a = some u → a ∈ f → G' a = some u) → OdAll G H k f vs ds → RpAll G' vs ds
  | _, _, _, _, _, .nil => .nil
  | _, _, _, _, hH, .cons h r => .cons (Od.frozen hG hT (fun a u e q => hH a u e (List.mem_append_left _ q)) h) (OdAll.frozen hG hT (fun a u e q => hH a u e (List.mem_append_right _ q)) r)
end
/-- what is owned is a list or a dict -/
def isMu : HO → Prop
  | .lst _ => True
  | .dK _ => True
  | .dT _ => True
  | .ext _ => True
  | _ => False
theorem im_mu {u : HO} (h : isIm u = true) (m : isMu u) : False := by cases u <;> first | exact m.elim | cases h
theorem isMu.unf {u : HO} (h : isMu u) : unf u = u := by cases u <;> first | rfl | exact h.elim
mutual
theorem Od.mu {G H : Hp} : ∀ {k : Nat} {f : List Addr} {v : V} {d : D}, Od G H k f v d → ∀ p ∈ f, ∃ u, H p = some u ∧ isMu u
  | _, _, _, _, .sh _ _, p, hp => by cases hp
  | _, _, _, _, .lst h r, p, hp => by
    rcases List.mem_cons.mp hp with rfl | hp
    · exact ⟨_, h, trivial⟩
    · exact OdAll.mu r p hp
  | _, _, _, _, .tup h r, p, hp => OdAll.mu r p hp
  | _, _, _, _, .dk h _ r, p, hp => by
    rcases List.mem_cons.mp hp with rfl | hp
    · exact ⟨_, h, trivial⟩
    · exact OdAll.mu r p hp
  | _, _, _, _, .dt h _ r, p, hp => by
    rcases List.mem_cons.mp hp with rfl | hp
    · exact ⟨_, h, trivial⟩
    · exact OdAll.mu r p hp
  | _, _, _, _, .dn h _ _ r, p, hp => by
    rcases List.mem_cons.mp hp with rfl | hp
    · exact ⟨_, h, trivial⟩
    · exact OdAll.mu r p hp
theorem OdAll.mu {G H : Hp} : ∀ {k : Nat} {f : List Addr} {vs : List V} {ds : List D}, OdAll G H k f vs ds → ∀ p ∈ f, ∃ u, H p = some u ∧ isMu u
  | _, _, _, _, .nil, p, hp => by cases hp
  | _, _, _, _, .cons h r, p, hp => by
    rcases List.mem_append.mp hp with hp | hp
    · exact Od.mu h p hp
    · exact OdAll.mu r p hp
end
/-- a level's zero owns nothing -/
theorem Od.zero {G H : Hp} {f : List Addr} {v : V} {d : D} (h : Od G H 0 f v d) : f = [] ∧ Rp G v d := by
  cases h with
  | sh _ r => exact ⟨rfl, r⟩
theorem Od.of {G H : Hp} {v : V} {d : D} (r : Rp G v d) : Od G H 0 [] v d := .sh (.inl rfl) r
theorem Od.im {G H : Hp} {k : Nat} {v : V} {d : D} (r : Rp G v d) (h : d.imm = true) : Od G H k [] v d := .sh (.inr h) r

abbrev Hold := V × Nat × D
inductive HoldAll (G H : Hp) : List Hold → List Addr → Prop
  | nil : HoldAll G H [] []
  | cons {v : V} {k : Nat} {d : D} {hs : List Hold} {f g : List Addr} : Od G H k f v d → HoldAll G H hs g → HoldAll G H ((v, k, d) :: hs) (f ++ g)
theorem HoldAll.perm {G H : Hp} {hs hs' : List Hold} (p : hs.Perm hs') : ∀ {fp}, HoldAll G H hs fp → ∃ fp', HoldAll G H hs' fp' ∧ fp.Perm fp' := by
  induction p with
  | nil => intro fp h; exact ⟨fp, h, List.Perm.refl _⟩
  | cons x _ ih =>
    intro fp h
    cases h with
    | cons h1 h2 =>
      obtain ⟨g, h3, q⟩ := ih h2
      exact ⟨_, .cons h1 h3, List.Perm.append_left _ q⟩
  | swap x y l =>
    intro fp h
    cases h with
    | cons h1 h2 =>
      cases h2 with
      | @cons _ _ _ _ f2 g2 h2 h3 =>
        refine ⟨_, .cons h2 (.cons h1 h3), ?_⟩
        rw [← List.append_assoc, ← List.append_assoc]
        exact List.Perm.append_right _ List.perm_append_comm
  | trans _ _ ih1 ih2 =>
    intro fp h
    obtain ⟨g, h1, q1⟩ := ih1 h
    obtain ⟨g', h2, q2⟩ := ih2 h1
    exact ⟨g', h2, q1.trans q2⟩
theorem HoldAll.frame {G G' H H' : Hp} (hG : ∀ a u, G a = some u → G' a = some u) : ∀ {hs : List Hold} {fp : List Addr}, (∀ a u, H a = some u → (a ∈ fp ∨ ∃ xs, u = .tup xs) → H' a = some u) → HoldAll G H hs fp → HoldAll G' H' hs fp
  | _, _, _, .nil => .nil
  | _, _, hH, .cons h r => .cons (h.frame hG (fun a u e q => hH a u e (q.imp (List.mem_append_left _) id))) (HoldAll.frame hG (fun a u e q => hH a u e (q.imp (List.mem_append_right _) id)) r)
theorem HoldAll.mu {G H : Hp} : ∀ {hs : List Hold} {fp : List Addr}, HoldAll G H hs fp → ∀ p ∈ fp, ∃ u, H p = some u ∧ isMu u
  | _, _, .nil, p, hp => by cases hp
  | _, _, .cons h r, p, hp => (List.mem_append.mp hp).elim (Od.mu h p) (HoldAll.mu r p)
/-- all of one level -/
def lev (k : Nat) (vs : List V) (ds : List D) : List Hold := List.zipWith (fun v d => (v, k, d)) vs ds
theorem HoldAll.ofAll {G H : Hp} : ∀ {k : Nat} {f : List Addr} {vs : List V} {ds : List D} {hs : List Hold} {g : List Addr}, OdAll G H k f vs ds → HoldAll G H hs g → HoldAll G H (lev k vs ds ++ hs) (f ++ g)
  | _, _, _, _, _, _, .nil, s => s
  | _, _, _, _, _, _, .cons h r, s => by
    rw [List.append_assoc]
    exact HoldAll.cons h (HoldAll.ofAll r s)
theorem HoldAll.toAll {G H : Hp} : ∀ {k : Nat} {vs : List V} {ds : List D} {hs : List Hold} {fp : List Addr}, vs.length = ds.length → HoldAll G H (lev k vs ds ++ hs) fp → ∃ f g, fp = f ++ g ∧ OdAll G H k f vs ds ∧ HoldAll G H hs g
  | _, [], [], _, fp, _, h => ⟨[], fp, rfl, .nil, h⟩
  | _, [], _ :: _, _, _, e, _ => by simp at e
  | _, _ :: _, [], _, _, e, _ => by simp at e
  | k, v :: vs, d :: ds, hs, fp, e, h => by
    have h' : HoldAll G H ((v, k, d) :: (lev k vs ds ++ hs)) fp := h
    cases h' with
    | cons h1 h2 =>
      obtain ⟨f, g, rfl, h3, h4⟩ := HoldAll.toAll (by simpa using e) h2
      exact ⟨_, g, (List.append_assoc _ _ _).symm, .cons h1 h3, h4⟩

theorem set_self {α : Type} : ∀ {l : List α} {i : Nat} {x : α}, l[i]? = some x → l.set i x = l
  | [], _, _, h => by simp at h
  | y :: l, 0, x, h => by simp at h; subst h; rfl
  | y :: l, i + 1, x, h => congrArg (List.cons y) (set_self (l := l) (by simpa using h))
abbrev Env := List (Option (Nat × D))
def slots : Env → St → List Hold
  | some (k, d) :: e, some v :: s => (v, k, d) :: slots e s
  | some _ :: e, none :: s => slots e s
  | none :: e, _ :: s => slots e s
  | _, _ => []
theorem slots_take : ∀ {env : Env} {σ : St} {i : Nat} {k : Nat} {d : D} {v : V}, env[i]? = some (some (k, d)) → σ[i]? = some (some v) → (slots env σ).Perm ((v, k, d) :: slots (env.set i none) σ)
  | some _ :: e, some w :: s, 0, _, _, _, h1, h2 => by
    simp at h1 h2
    subst h1 h2
    exact List.Perm.refl _
  | some (k', d') :: e, some w :: s, i + 1, k, d, v, h1, h2 => by
    have ih := slots_take (env := e) (σ := s) (i := i) (by simpa using h1) (by simpa using h2)
    exact (List.Perm.cons _ ih).trans (List.Perm.swap _ _ _)
  | some _ :: e, none :: s, i + 1, k, d, v, h1, h2 => slots_take (env := e) (σ := s) (i := i) (by simpa using h1) (by simpa using h2)
  | none :: e, x :: s, i + 1, k, d, v, h1, h2 => by
    have ih := slots_take (env := e) (σ := s) (i := i) (by simpa using h1) (by simpa using h2)
    cases x <;> exact ih
  | none :: e, x :: s, 0, k, d, v, h1, h2 => by simp at h1
  | some _ :: e, none :: s, 0, k, d, v, h1, h2 => by simp at h2
  | [], _, _, _, _, _, h1, _ => by simp at h1
  | _ :: _, [], _, _, _, _, _, h2 => by simp at h2
theorem slots_none : ∀ {env : Env} {σ : St} {i : Nat} {x : Option V}, env[i]? = some none → slots env (σ.set i x) = slots env σ
  | none :: e, y :: s, 0, x, h => by cases x <;> cases y <;> rfl
  | some (k, d) :: e, y :: s, i + 1, x, h => by
    have ih := slots_none (env := e) (σ := s) (i := i) (x := x) (by simpa using h)
    cases y with
    | none => exact ih
    | some v => exact congrArg (List.cons _) ih
  | none :: e, y :: s, i + 1, x, h => by
    have ih := slots_none (env := e) (σ := s) (i := i) (x := x) (by simpa using h)
    cases y <;> exact ih
  | some _ :: e, y :: s, 0, x, h => by simp at h
  | [], _, _, _, h => by simp at h
  | some _ :: _, [], _, _, h => rfl
  | none :: _, [], _, _, h => rfl
/-- the slots of an env that is weaker -/
theorem slots_drop : ∀ {env : Env} {σ : St} (i : Nat), ∃ l, (slots env σ).Perm (l ++ slots (env.set i none) σ)
  | [], _, i => ⟨[], by simp⟩
  | x :: e, [], i => ⟨[], by cases i <;> cases x <;> exact List.Perm.refl _⟩
  | none :: e, y :: s, 0 => ⟨[], by cases y <;> exact List.Perm.refl _⟩
  | some (k, d) :: e, none :: s, 0 => ⟨[], List.Perm.refl _⟩
  | some (k, d) :: e, some v :: s, 0 => ⟨[(v, k, d)], List.Perm.refl _⟩
  | none :: e, y :: s, i + 1 => by
    obtain ⟨l, h⟩ := slots_drop (env := e) (σ := s) i
    exact ⟨l, by cases y <;> exact h⟩
  | some (k, d) :: e, none :: s, i + 1 => by
    obtain ⟨l, h⟩ := slots_drop (env := e) (σ := s) i
    exact ⟨l, h⟩
  | some (k, d) :: e, some v :: s, i + 1 => by
    obtain ⟨l, h⟩ := slots_drop (env := e) (σ := s) i
    exact ⟨l, (List.Perm.cons _ h).trans List.perm_middle.symm⟩

/-- where a def began: the heap, what was shared in it -/
structure Bs where
  h : Hp
  g : Hp
instance : CoeFun Bs (fun _ => Hp) := ⟨Bs.h⟩
structure Good (B : Bs) (G H : Hp) : Prop where
  bs : ∀ a o, B a = some o → H a = some o
  g0 : ∀ a, B a ≠ none → G a = B.g a
  gs : ∀ a u, G a = some u → view H a = some u
  gt : ∀ a u, isIm u = true → view H a = some u → G a = some u
  nf : ∀ a u, isIm u = true → view H a = some u → H a = some u
structure EnvOk (B : Bs) (H : Hp) (env : Env) (σ : St) (tm : List Hold) : Prop where
  ex : ∃ G fp, Good B G H ∧ HoldAll G H (slots env σ ++ tm) fp ∧ fp.Nodup ∧ ∀ p ∈ fp, B p = none ∧ G p = none
  len : env.length = σ.length
  has : ∀ (i : Nat) kd, env[i]? = some (some kd) → ∃ v, σ[i]? = some (some v)

section
variable {B : Bs} {H : Hp} {env : Env} {σ : St} {tm tm' : List Hold}
theorem EnvOk.perm (h : EnvOk B H env σ tm) (p : tm.Perm tm') : EnvOk B H env σ tm' := by
  obtain ⟨⟨G, fp, g, hs, nd, hp⟩, h2, h3⟩ := h
  obtain ⟨fp', hs', q⟩ := hs.perm (List.Perm.append_left _ p)
  exact ⟨⟨G, fp', g, hs', q.nodup_iff.mp nd, fun p hm => hp p (q.mem_iff.mpr hm)⟩, h2, h3⟩
/-- what is held no longer -/
theorem EnvOk.less {l : List Hold} (h : EnvOk B H env σ (l ++ tm)) : EnvOk B H env σ tm := by
  obtain ⟨⟨G, fp, g, hs, nd, hp⟩, h2, h3⟩ := h
  obtain ⟨fp', hs', q⟩ := hs.perm (hs' := l ++ (slots env σ ++ tm)) (by
    rw [← List.append_assoc, ← List.append_assoc]
    exact List.Perm.append_right _ List.perm_append_comm)
  have cut : ∀ (l : List Hold) {fp : List Addr}, HoldAll G H (l ++ (slots env σ ++ tm)) fp → ∃ f g, fp = f ++ g ∧ HoldAll G H (slots env σ ++ tm) g := by
    intro l
    induction l with
    | nil => intro fp h; exact ⟨[], fp, rfl, h⟩
    | cons x l ih =>
      intro fp h
      cases h with
      | cons h1 h2 =>
        obtain ⟨f, g, rfl, h3⟩ := ih h2
        exact ⟨_, g, (List.append_assoc _ _ _).symm, h3⟩
  obtain ⟨f, g', rfl, h4⟩ := cut l hs'
  have nd' := q.nodup_iff.mp nd
  exact ⟨⟨G, g', g, h4, (List.nodup_append.mp nd').2.1, fun p hm => hp p (q.mem_iff.mpr (List.mem_append_right _ hm))⟩, h2, h3⟩
theorem EnvOk.tail {x : Hold} (h : EnvOk B H env σ (x :: tm)) : EnvOk B H env σ tm := EnvOk.less (l := [x]) h
theorem EnvOk.swap {x y : Hold} (h : EnvOk B H env σ (x :: y :: tm)) : EnvOk B H env σ (y :: x :: tm) := h.perm (List.Perm.swap _ _ _)
/-- a slot's content goes to the hand -/
theorem EnvOk.move {i k : Nat} {d : D} {v : V} (h : EnvOk B H env σ tm) (e : env[i]? = some (some (k, d))) (s : σ[i]? = some (some v)) : EnvOk B H (env.set i none) σ ((v, k, d) :: tm) := by
  obtain ⟨⟨G, fp, g, hs, nd, hp⟩, h2, h3⟩ := h
  obtain ⟨fp', hs', q⟩ := hs.perm (hs' := slots (env.set i none) σ ++ (v, k, d) :: tm) (((slots_take e s).append_right _).trans List.perm_middle.symm)
  refine ⟨⟨G, fp', g, hs', q.nodup_iff.mp nd, fun p hm => hp p (q.mem_iff.mpr hm)⟩, by simpa using h2, fun j kd e' => ?_⟩
  by_cases ej : i = j
  · subst ej
    rw [List.getElem?_set_self (List.getElem?_eq_some_iff.mp e).1] at e'
    cases e'
  · rw [List.getElem?_set_ne ej] at e'
    exact h3 j kd e'
theorem EnvOk.forget (h : EnvOk B H env σ tm) (i : Nat) : EnvOk B H (env.set i none) σ tm := by
  obtain ⟨l, q⟩ := slots_drop (env := env) (σ := σ) i
  obtain ⟨⟨G, fp, g, hs, nd, hp⟩, h2, h3⟩ := h
  obtain ⟨fp', hs', q'⟩ := hs.perm (hs' := slots (env.set i none) σ ++ (l ++ tm)) (by
    refine (q.append_right _).trans ?_
    rw [← List.append_assoc]
    exact List.Perm.append_right _ List.perm_append_comm)
  have h' : EnvOk B H (env.set i none) σ (l ++ tm) := by
    refine ⟨⟨G, fp', g, hs', q'.nodup_iff.mp nd, fun p hm => hp p (q'.mem_iff.mpr hm)⟩, by simpa using h2, fun j kd e' => ?_⟩
    by_cases ej : i = j
    · subst ej
      rw [List.getElem?_set] at e'
      simp at e'
    · rw [List.getElem?_set_ne ej] at e'
      exact h3 j kd e'
  exact h'.less
def clear : Env → List Nat → Env
  | env, [] => env
  | env, i :: is => clear (env.set i none) is
theorem EnvOk.clear : ∀ {env : Env} (is : List Nat), EnvOk B H env σ tm → EnvOk B H (clear env is) σ tm
  | _, [], h => h
  | _, i :: is, h => EnvOk.clear is (h.forget i)
/-- .. and to a slot -/
theorem EnvOk.store {i k : Nat} {d : D} {v : V} (h : EnvOk B H env σ ((v, k, d) :: tm)) (hi : i < env.length) : EnvOk B H (env.set i (some (k, d))) (σ.set i (some v)) tm := by
  have h1 := h.forget i
  obtain ⟨⟨G, fp, g, hs, nd, hp⟩, h2, h3⟩ := h1
  have e1 : (env.set i none)[i]? = some none := List.getElem?_set_self hi
  have e2 : (env.set i (some (k, d)))[i]? = some (some (k, d)) := List.getElem?_set_self hi
  have hσ : i < σ.length := by rw [← h.len]; exact hi
  have e3 : (σ.set i (some v))[i]? = some (some v) := List.getElem?_set_self hσ
  have q := slots_take e2 e3
  rw [List.set_set, slots_none e1] at q
  obtain ⟨fp', hs', q'⟩ := hs.perm (hs' := slots (env.set i (some (k, d))) (σ.set i (some v)) ++ tm) (List.perm_middle.trans (q.symm.append_right _))
  refine ⟨⟨G, fp', g, hs', q'.nodup_iff.mp nd, fun p hm => hp p (q'.mem_iff.mpr hm)⟩, by simpa using h.len, fun j kd e' => ?_⟩
  by_cases ej : i = j
  · subst ej
    exact ⟨v, e3⟩
  · rw [List.getElem?_set_ne ej] at e'
    rw [List.getElem?_set_ne ej]
    exact h.has j kd e'
/-- σ may change where env knows nothing -/
theorem EnvOk.blank {i : Nat} {x : Option V} (h : EnvOk B H env σ tm) (e : env[i]? = some none) : EnvOk B H env (σ.set i x) tm := by
  obtain ⟨⟨G, fp, g, hs, nd, hp⟩, h2, h3⟩ := h
  refine ⟨⟨G, fp, g, by rw [slots_none e]; exact hs, nd, hp⟩, by simpa using h2, fun j kd e' => ?_⟩
  by_cases ej : i = j
  · subst ej
    rw [e] at e'
    cases e'
  · rw [List.getElem?_set_ne ej]
    exact h3 j kd e'
theorem Good.rp {G : Hp} (g : Good B G H) {k : Nat} {f : List Addr} {v : V} {d : D} (h : Od G H k f v d) (hf : ∀ p ∈ f, ∃ u, H p = some u ∧ isMu u) : Rp (view H) v d := by
  refine h.frozen g.gs (fun a xs e => by unfold view; rw [e]; rfl) fun a u e m => ?_
  obtain ⟨u', e', m'⟩ := hf a m
  rw [e] at e'
  cases e'
  unfold view
  rw [e]
  exact congrArg some m'.unf
/-- the first thing in the hand may be read -/
theorem EnvOk.rp {k : Nat} {d : D} {v : V} (h : EnvOk B H env σ ((v, k, d) :: tm)) : Rp (view H) v d := by
  obtain ⟨⟨G, fp, g, hs, nd, hp⟩, h2, h3⟩ := h
  obtain ⟨fp', hs', q⟩ := hs.perm (hs' := (v, k, d) :: (slots env σ ++ tm)) List.perm_middle
  cases hs' with
  | cons h1 _ => exact g.rp h1 h1.mu
theorem EnvOk.slot {i k : Nat} {d : D} (h : EnvOk B H env σ tm) (e : env[i]? = some (some (k, d))) : ∃ v, σ[i]? = some (some v) ∧ Rp (view H) v d := by
  obtain ⟨v, hv⟩ := h.has i _ e
  exact ⟨v, hv, (h.move e hv).rp⟩
/-- what is shared may be held twice -/
theorem EnvOk.dup {d : D} {v : V} (h : EnvOk B H env σ ((v, 0, d) :: tm)) : EnvOk B H env σ ((v, 0, d) :: (v, 0, d) :: tm) := by
  obtain ⟨⟨G, fp, g, hs, nd, hp⟩, h2, h3⟩ := h
  obtain ⟨fp', hs', q⟩ := hs.perm (hs' := (v, 0, d) :: (slots env σ ++ tm)) List.perm_middle
  cases hs' with
  | @cons _ _ _ _ f1 g1 h1 h4 =>
    obtain ⟨rfl, r⟩ := h1.zero
    obtain ⟨fp2, hs2, q2⟩ := (HoldAll.cons (Od.of (H := H) r) (HoldAll.cons h1 h4)).perm (hs' := slots env σ ++ (v, 0, d) :: (v, 0, d) :: tm) ((List.Perm.cons _ List.perm_middle.symm).trans List.perm_middle.symm)
    simp only [List.nil_append] at q q2
    have q3 := q.trans q2
    exact ⟨⟨G, fp2, g, hs2, q3.nodup_iff.mp nd, fun p hm => hp p (q3.mem_iff.mpr hm)⟩, h2, h3⟩
/-- a thing that may be read and holds no list and no dict -/
theorem EnvOk.imm {k : Nat} {d : D} {v : V} (h : EnvOk B H env σ tm) (r : Rp (view H) v d) (hd : d.imm = true) : EnvOk B H env σ ((v, k, d) :: tm) := by
  obtain ⟨⟨G, fp, g, hs, nd, hp⟩, h2, h3⟩ := h
  have r' : Rp G v d := r.immTo g.gt hd
  obtain ⟨fp2, hs2, q2⟩ := (HoldAll.cons (Od.im (H := H) (k := k) r' hd) hs).perm (hs' := slots env σ ++ (v, k, d) :: tm) List.perm_middle.symm
  simp only [List.nil_append] at q2
  exact ⟨⟨G, fp2, g, hs2, q2.nodup_iff.mp nd, fun p hm => hp p (q2.mem_iff.mpr hm)⟩, h2, h3⟩
/-- a slot that is shared -/
theorem EnvOk.slot0 {i : Nat} {d : D} (h : EnvOk B H env σ tm) (e : env[i]? = some (some (0, d))) : ∃ v, σ[i]? = some (some v) ∧ EnvOk B H env σ ((v, 0, d) :: tm) := by
  obtain ⟨v, hv⟩ := h.has i _ e
  refine ⟨v, hv, ?_⟩
  have hi : i < env.length := (List.getElem?_eq_some_iff.mp e).1
  have h1 := ((h.move e hv).dup).store (i := i) (by simpa using hi)
  have e1 : (env.set i none).set i (some (0, d)) = env := by
    rw [List.set_set]
    exact set_self e
  have e2 : σ.set i (some v) = σ := set_self hv
  rw [e1, e2] at h1
  exact h1
/-- G and H grow, what is owned stays -/
theorem EnvOk.grow {H' : Hp} (h : EnvOk B H env σ tm) (hH : ∀ a u, H a = some u → H' a = some u) (hB : ∀ a, H a = none → B a = none)
    (more : List Hold) (mk : ∀ G, Good B G H → ∃ G' f, (∀ a u, G a = some u → G' a = some u) ∧ (∀ a, H a ≠ none → G' a = G a) ∧ Good B G' H' ∧ HoldAll G' H' more f ∧ f.Nodup ∧ ∀ p ∈ f, H p = none ∧ G' p = none) : EnvOk B H' env σ (more ++ tm) := by
  obtain ⟨⟨G, fp, g, hs, nd, hp⟩, h2, h3⟩ := h
  obtain ⟨G', f, g1, g2, g3, g4, g5, g6⟩ := mk G g
  have hs' : HoldAll G' H' (slots env σ ++ tm) fp := hs.frame g1 fun a u e _ => hH a u e
  have app : ∀ {l : List Hold} {f : List Addr} {m : List Hold} {g : List Addr}, HoldAll G' H' l f → HoldAll G' H' m g → HoldAll G' H' (l ++ m) (f ++ g) := by
    intro l
    induction l with
    | nil => intro f m g a b; cases a; exact b
    | cons x l ih =>
      intro f m g a b
      cases a with
      | cons a1 a2 =>
        rw [List.append_assoc]
        exact .cons a1 (ih a2 b)
  obtain ⟨fp2, hs2, q2⟩ := (app g4 hs').perm (hs' := slots env σ ++ (more ++ tm)) (by
    rw [← List.append_assoc, ← List.append_assoc]
    exact List.Perm.append_right _ List.perm_append_comm)
  have mu := hs.mu
  have nd2 : (f ++ fp).Nodup := List.nodup_append.mpr ⟨g5, nd, fun a ha b hb e => by
    subst e
    obtain ⟨u, e, _⟩ := mu a hb
    rw [(g6 a ha).1] at e
    cases e⟩
  refine ⟨⟨G', fp2, g3, hs2, q2.nodup_iff.mp nd2, fun p hm => ?_⟩, h2, h3⟩
  rcases List.mem_append.mp (q2.mem_iff.mpr hm) with hm | hm
  · exact ⟨hB p (g6 p hm).1, (g6 p hm).2⟩
  · obtain ⟨u, e, _⟩ := mu p hm
    exact ⟨(hp p hm).1, by rw [g2 p (by rw [e]; simp)]; exact (hp p hm).2⟩
theorem EnvOk.bnone (h : EnvOk B H env σ tm) : ∀ a, H a = none → B a = none := fun a e => by
  obtain ⟨⟨G, fp, g, _⟩, _⟩ := h
  cases q : B a with
  | none => rfl
  | some o => rw [g.bs a o q] at e; cases e
theorem view_none {H : Hp} {a : Addr} (h : H a = none) : view H a = none := by unfold view; rw [h]; rfl
theorem view_upd {H : Hp} {p : Addr} {o : HO} : view (upd H p o) = upd (view H) p (unf o) := by
  funext a
  unfold view upd
  by_cases e : a = p
  · rw [if_pos e, if_pos e]; rfl
  · rw [if_neg e, if_neg e]
theorem up_keep {H : Hp} {p : Addr} {o : HO} (hp : H p = none) : ∀ a u, H a = some u → upd H p o a = some u := fun a u e => by
  rw [upd_ne (ne_of_none e hp)]; exact e
theorem Good.gnone {G : Hp} (g : Good B G H) {p : Addr} (hp : H p = none) : G p = none := by
  cases q : G p with
  | none => rfl
  | some u => rw [← g.gs p u q, view_none hp] 
/-- a new list or dict at p; its items go with it -/
theorem Good.newMu {G : Hp} (g : Good B G H) {p : Addr} {o : HO} (hp : H p = none) (hu : unf o = o) (ho : isIm o = false) : Good B G (upd H p o) where
  g0 := g.g0
  bs := fun a u e => up_keep hp a u (g.bs a u e)
  gs := fun a u e => by
    rw [view_upd, hu]
    exact up_keep (view_none hp) a u (g.gs a u e)
  gt := fun a xs im e => by
    rw [view_upd, hu] at e
    by_cases q : a = p
    · subst q
      rw [upd_same] at e
      rw [Option.some.inj e, im] at ho; cases ho
    · rw [upd_ne q] at e
      exact g.gt a xs im e
  nf := fun a xs im e => by
    rw [view_upd, hu] at e
    by_cases q : a = p
    · subst q
      rw [upd_same] at e
      rw [Option.some.inj e, im] at ho; cases ho
    · rw [upd_ne q] at e ⊢
      exact g.nf a xs im e
theorem Good.newSh {G : Hp} (g : Good B G H) {p : Addr} {o : HO} (hp : H p = none) (hu : unf o = o) : Good B (upd G p o) (upd H p o) where
  g0 := fun a e => by
    have : a ≠ p := fun z => by
      subst z
      cases q : B a with
      | none => exact e q
      | some u => rw [g.bs a u q] at hp; cases hp
    rw [upd_ne this]
    exact g.g0 a e
  bs := fun a u e => up_keep hp a u (g.bs a u e)
  gs := fun a u e => by
    rw [view_upd, hu]
    by_cases q : a = p
    · subst q
      rw [upd_same] at e ⊢
      exact e
    · rw [upd_ne q] at e ⊢
      exact g.gs a u e
  gt := fun a xs im e => by
    rw [view_upd, hu] at e
    by_cases q : a = p
    · subst q
      rw [upd_same] at e ⊢
      exact e
    · rw [upd_ne q] at e ⊢
      exact g.gt a xs im e
  nf := fun a xs im e => by
    rw [view_upd, hu] at e
    by_cases q : a = p
    · subst q
      rw [upd_same] at e ⊢
      exact e
    · rw [upd_ne q] at e ⊢
      exact g.nf a xs im e
theorem EnvOk.tupAt {a : Addr} {xs : List V} (h : EnvOk B H env σ tm) (e : view H a = some (.tup xs)) : H a = some (.tup xs) := by
  obtain ⟨⟨G, fp, g, _⟩, _⟩ := h
  exact g.nf a _ rfl e
theorem EnvOk.imAt {a : Addr} {u : HO} (h : EnvOk B H env σ tm) (im : isIm u = true) (e : view H a = some u) : H a = some u := by
  obtain ⟨⟨G, fp, g, _⟩, _⟩ := h
  exact g.nf a _ im e
/-- the hand's first things, taken apart -/
theorem EnvOk.apart {l : List Hold} (h : EnvOk B H env σ (l ++ tm)) : ∃ G f g, Good B G H ∧ HoldAll G H l f ∧ HoldAll G H (slots env σ ++ tm) g ∧ (f ++ g).Nodup ∧ (∀ p ∈ f ++ g, B p = none ∧ G p = none) := by
  obtain ⟨⟨G, fp, g, hs, nd, hp⟩, h2, h3⟩ := h
  obtain ⟨fp', hs', q⟩ := hs.perm (hs' := l ++ (slots env σ ++ tm)) (by
    rw [← List.append_assoc, ← List.append_assoc]
    exact List.Perm.append_right _ List.perm_append_comm)
  have cut : ∀ (l : List Hold) {fp : List Addr}, HoldAll G H (l ++ (slots env σ ++ tm)) fp → ∃ f g, fp = f ++ g ∧ HoldAll G H l f ∧ HoldAll G H (slots env σ ++ tm) g := by
    intro l
    induction l with
    | nil => intro fp h; exact ⟨[], fp, rfl, .nil, h⟩
    | cons x l ih =>
      intro fp h
      cases h with
      | cons h1 h2 =>
        obtain ⟨f, g, rfl, h3, h4⟩ := ih h2
        exact ⟨_, g, (List.append_assoc _ _ _).symm, .cons h1 h3, h4⟩
  obtain ⟨f, g', rfl, h4, h5⟩ := cut l hs'
  exact ⟨G, f, g', g, h4, h5, q.nodup_iff.mp nd, fun p hm => hp p (q.mem_iff.mpr hm)⟩
/-- .. and put together -/
theorem EnvOk.join {G : Hp} {l : List Hold} {f g : List Addr} (h2 : env.length = σ.length) (h3 : ∀ (i : Nat) kd, env[i]? = some (some kd) → ∃ v, σ[i]? = some (some v)) (hg : Good B G H) (hl : HoldAll G H l f) (hr : HoldAll G H (slots env σ ++ tm) g) (nd : (f ++ g).Nodup) (hp : ∀ p ∈ f ++ g, B p = none ∧ G p = none) : EnvOk B H env σ (l ++ tm) := by
  have app : ∀ {l : List Hold} {f : List Addr} {m : List Hold} {g : List Addr}, HoldAll G H l f → HoldAll G H m g → HoldAll G H (l ++ m) (f ++ g) := by
    intro l
    induction l with
    | nil => intro f m g a b; cases a; exact b
    | cons x l ih =>
      intro f m g a b
      cases a with
      | cons a1 a2 =>
        rw [List.append_assoc]
        exact .cons a1 (ih a2 b)
  obtain ⟨fp2, hs2, q2⟩ := (app hl hr).perm (hs' := slots env σ ++ (l ++ tm)) (by
    rw [← List.append_assoc, ← List.append_assoc]
    exact List.Perm.append_right _ List.perm_append_comm)
  exact ⟨⟨G, fp2, hg, hs2, q2.nodup_iff.mp nd, fun p hm => hp p (q2.mem_iff.mpr hm)⟩, h2, h3⟩
/-- what is owned becomes shared -/
theorem EnvOk.freeze {k : Nat} {d : D} {v : V} (h : EnvOk B H env σ ((v, k, d) :: tm)) : EnvOk B H env σ ((v, 0, d) :: tm) := by
  have h2 := h.len
  have h3 := h.has
  obtain ⟨G, f, g, hg, hl, hr, nd, hp⟩ := EnvOk.apart (l := [(v, k, d)]) h
  cases hl with
  | @cons _ _ _ _ f1 g1 h1 hn =>
    cases hn
    rw [List.append_nil] at nd hp
    have m1 := h1.mu
    obtain ⟨nd1, nd2, nd3⟩ := List.nodup_append.mp nd
    let G' : Hp := fun a => if a ∈ f1 then H a else G a
    have out : ∀ a, a ∉ f1 → G' a = G a := fun a ha => if_neg ha
    have inn : ∀ a, a ∈ f1 → G' a = H a := fun a ha => if_pos ha
    have e1 : ∀ a u, G a = some u → G' a = some u := fun a u e => by
      by_cases q : a ∈ f1
      · rw [(hp a (List.mem_append_left _ q)).2] at e; cases e
      · rw [out a q]; exact e
    have hg' : Good B G' H := ⟨hg.bs, fun a e => by
      rw [out a fun q => e (hp a (List.mem_append_left _ q)).1]
      exact hg.g0 a e, fun a u e => by
      by_cases q : a ∈ f1
      · rw [inn a q] at e
        obtain ⟨u', e', m'⟩ := m1 a q
        rw [e] at e'; cases e'
        unfold view; rw [e]; exact congrArg some m'.unf
      · rw [out a q] at e; exact hg.gs a u e, fun a xs im e => by
      by_cases q : a ∈ f1
      · obtain ⟨u', e', m'⟩ := m1 a q
        unfold view at e; rw [e'] at e
        have e2 : unf u' = xs := Option.some.inj e
        rw [m'.unf] at e2
        rw [e2] at m'
        exact (im_mu im m').elim
      · rw [out a q]; exact hg.gt a xs im e, hg.nf⟩
    have r : Rp G' v d := h1.frozen e1 (fun a xs e => hg'.gt a _ rfl (by unfold view; rw [e]; rfl)) fun a u e m => by rw [inn a m]; exact e
    refine EnvOk.join (l := [(v, 0, d)]) (G := G') (f := []) (g := g) h2 h3 hg' (HoldAll.cons (f := []) (g := []) (.of r) .nil) (hr.frame e1 fun _ _ e _ => e) nd2 fun p hm => ?_
    have hm' : p ∈ g := hm
    refine ⟨(hp p (List.mem_append_right _ hm')).1, ?_⟩
    rw [out p fun q => nd3 p q p hm' rfl]
    exact (hp p (List.mem_append_right _ hm')).2
end
end Mir

namespace Mir
open PySem PySem.Spec L2

section
variable {B : Bs} {H : Hp} {env : Env} {σ : St} {tm tm' : List Hold} {k : Nat} {vs : List V} {ds : List D} {p : Addr}
theorem EnvOk.newMu {o : HO} {d : D} (h : EnvOk B H env σ (lev k vs ds ++ tm)) (hl : vs.length = ds.length) (hp : H p = none) (hu : unf o = o) (ho : isIm o = false)
    (mk : ∀ (G H' : Hp) (f : List Addr), Good B G H → H' p = some o → OdAll G H' k f vs ds → Od G H' (k + 1) (p :: f) (.ref p) d) : EnvOk B (upd H p o) env σ ((.ref p, k + 1, d) :: tm) := by
  have h2 := h.len
  have h3 := h.has
  have hb := h.bnone p hp
  obtain ⟨G, f, g, hg, hf, hr, nd, hq⟩ := h.apart
  have hfm := hf.mu
  have hrm := hr.mu
  have hf' : HoldAll G H (lev k vs ds ++ []) f := by rw [List.append_nil]; exact hf
  obtain ⟨f1, f2, e, ha, hn⟩ := HoldAll.toAll hl hf'
  cases hn
  rw [List.append_nil] at e
  subst e
  have hH : ∀ a u, H a = some u → upd H p o a = some u := up_keep hp
  have hgp := hg.gnone hp
  refine EnvOk.join (l := [(.ref p, k + 1, d)]) (G := G) (f := (p :: f) ++ []) (g := g) h2 h3 (hg.newMu hp hu ho) (.cons (mk _ _ _ hg upd_same (ha.frame (fun _ _ e => e) fun a u e _ => hH a u e)) .nil) (hr.frame (fun _ _ e => e) fun a u e _ => hH a u e) ?_ ?_
  · rw [List.append_nil, List.cons_append]
    refine List.nodup_cons.mpr ⟨fun m => ?_, nd⟩
    rcases List.mem_append.mp m with m | m
    · obtain ⟨u, e, _⟩ := hfm p m; rw [hp] at e; cases e
    · obtain ⟨u, e, _⟩ := hrm p m; rw [hp] at e; cases e
  · rw [List.append_nil, List.cons_append]
    intro q m
    rcases List.mem_cons.mp m with rfl | m
    · exact ⟨hb, hgp⟩
    · exact hq q m
theorem EnvOk.newLst (h : EnvOk B H env σ (lev k vs ds ++ tm)) (hl : vs.length = ds.length) (hp : H p = none) : EnvOk B (upd H p (.lst vs)) env σ ((.ref p, k + 1, .lst ds) :: tm) :=
  h.newMu hl hp rfl rfl fun _ _ _ _ e r => .lst e r
theorem EnvOk.newDk {kvs : List (Key × V)} {ks : List Key} (h : EnvOk B H env σ (lev k (kvs.map (·.2)) ds ++ tm)) (hl : kvs.length = ds.length) (hk : kvs.map (·.1) = ks) (hp : H p = none) : EnvOk B (upd H p (.dK kvs)) env σ ((.ref p, k + 1, .dk ks ds) :: tm) :=
  h.newMu (by simpa using hl) hp rfl rfl fun _ _ _ _ e r => .dk e hk r
theorem EnvOk.newDt {kvs : List (List Key × V)} {ks : List (List Key)} (h : EnvOk B H env σ (lev k (kvs.map (·.2)) ds ++ tm)) (hl : kvs.length = ds.length) (hk : kvs.map (·.1) = ks) (hp : H p = none) : EnvOk B (upd H p (.dT kvs)) env σ ((.ref p, k + 1, .dt ks ds) :: tm) :=
  h.newMu (by simpa using hl) hp rfl rfl fun _ _ _ _ e r => .dt e hk r
mutual
theorem kN_imm : ∀ k : NestedKey, (kN k).imm = true
  | .none => rfl | .num _ => rfl | .text _ => rfl
  | .tup ks => by rw [kN, D.imm]; exact kNs_imm ks
theorem kNs_imm : ∀ ks : List NestedKey, immAll (kNs ks) = true
  | [] => rfl
  | k :: ks => by rw [kNs, immAll, kN_imm k, kNs_imm ks]; rfl
end
theorem EnvOk.newTup (h : EnvOk B H env σ (lev k vs ds ++ tm)) (hl : vs.length = ds.length) (hp : H p = none) : EnvOk B (upd H p (.tup vs)) env σ ((.ref p, k + 1, .tup ds) :: tm) := by
  have h2 := h.len
  have h3 := h.has
  obtain ⟨G, f, g, hg, hf, hr, nd, hq⟩ := h.apart
  have hfm := hf.mu
  have hrm := hr.mu
  have hf' : HoldAll G H (lev k vs ds ++ []) f := by rw [List.append_nil]; exact hf
  obtain ⟨f1, f2, e, ha, hn⟩ := HoldAll.toAll hl hf'
  cases hn
  rw [List.append_nil] at e
  subst e
  have hH : ∀ a u, H a = some u → upd H p (.tup vs) a = some u := up_keep hp
  have hgp := hg.gnone hp
  have hG : ∀ a u, G a = some u → upd G p (.tup vs) a = some u := up_keep hgp
  refine EnvOk.join (l := [(.ref p, k + 1, .tup ds)]) (G := upd G p (.tup vs)) (f := f ++ []) (g := g) h2 h3 (hg.newSh hp rfl) (.cons (.tup upd_same (ha.frame hG fun a u e _ => hH a u e)) .nil) (hr.frame hG fun a u e _ => hH a u e) ?_ ?_
  · rw [List.append_nil]; exact nd
  · rw [List.append_nil]
    intro q m
    refine ⟨(hq q m).1, ?_⟩
    have qp : q ≠ p := fun z => by
      subst z
      rcases List.mem_append.mp m with m | m
      · obtain ⟨u, e, _⟩ := hfm q m; rw [hp] at e; cases e
      · obtain ⟨u, e, _⟩ := hrm q m; rw [hp] at e; cases e
    rw [upd_ne qp]
    exact (hq q m).2
/-- the heap without p -/
def del (H : Hp) (p : Addr) : Hp := fun a => if a = p then none else H a
theorem del_self {H : Hp} {p : Addr} : del H p p = none := if_pos rfl
theorem del_ne {H : Hp} {p a : Addr} (h : a ≠ p) : del H p a = H a := if_neg h
theorem upd_del {H : Hp} {p : Addr} {o : HO} : upd (del H p) p o = upd H p o := by
  funext a
  unfold upd
  by_cases e : a = p
  · rw [if_pos e, if_pos e]
  · rw [if_neg e, if_neg e]; exact del_ne e
/-- what is owned is taken out of the heap, its items go to the hand -/
theorem EnvOk.takeMu {d : D} (h : EnvOk B H env σ ((.ref p, k + 1, d) :: tm)) (im : d.imm = false) (nt : ∀ xs, d ≠ .tup xs) (nn : ∀ ks ds, d ≠ .dn ks ds) :
    ∃ o vs ds, H p = some o ∧ vs.length = ds.length ∧ ((o = .lst vs ∧ d = .lst ds) ∨ (∃ kvs, o = .dK kvs ∧ d = .dk (kvs.map (·.1)) ds ∧ vs = kvs.map (·.2)) ∨ (∃ kvs, o = .dT kvs ∧ d = .dt (kvs.map (·.1)) ds ∧ vs = kvs.map (·.2))) ∧ EnvOk B (del H p) env σ (lev k vs ds ++ tm) := by
  have h2 := h.len
  have h3 := h.has
  obtain ⟨G, f, g, hg, hf, hr, nd, hq⟩ := EnvOk.apart (l := [(.ref p, k + 1, d)]) h
  have fin : ∀ {f1 : List Addr} {vs : List V} {ds : List D} {o : HO}, f = p :: f1 → H p = some o → (∀ xs, o ≠ .tup xs) → OdAll G H k f1 vs ds → EnvOk B (del H p) env σ (lev k vs ds ++ tm) := fun {f1 vs ds o} ef hp hnt ha => by
    subst ef
    rw [List.cons_append] at nd hq
    obtain ⟨nd1, nd2⟩ := List.nodup_cons.mp nd
    have hH : ∀ {l : List Addr}, p ∉ l → ∀ a u, H a = some u → (a ∈ l ∨ ∃ xs, u = .tup xs) → del H p a = some u := fun {l} hl a u e q => by
      have : a ≠ p := fun z => by
        subst z
        rcases q with q | ⟨xs, q⟩
        · exact hl q
        · rw [hp] at e; cases e; exact hnt xs q
      rw [del_ne this]; exact e
    have hgp : G p = none := (hq p List.mem_cons_self).2
    have hbp : B p = none := (hq p List.mem_cons_self).1
    have np : ∀ {F : Hp} {a : Addr} {u : HO}, F p = none → F a = some u → a ≠ p := fun n e z => by subst z; rw [n] at e; cases e
    have hg' : Good B G (del H p) := ⟨fun a o e => by rw [del_ne (np hbp e)]; exact hg.bs a o e, hg.g0, fun a u e => by
      have := hg.gs a u e
      unfold view at this ⊢
      rw [del_ne (np hgp e)]; exact this, fun a xs im e => by
      unfold view at e
      by_cases q : a = p
      · subst q; rw [del_self] at e; cases e
      · rw [del_ne q] at e; exact hg.gt a xs im e, fun a xs im e => by
      unfold view at e
      by_cases q : a = p
      · subst q; rw [del_self] at e; cases e
      · rw [del_ne q] at e ⊢; exact hg.nf a xs im e⟩
    have hv : HoldAll G (del H p) (lev k vs ds ++ []) (f1 ++ []) := HoldAll.ofAll (ha.frame (fun _ _ e => e) (hH fun m => nd1 (List.mem_append_left _ m))) .nil
    rw [List.append_nil, List.append_nil] at hv
    exact EnvOk.join h2 h3 hg' hv (hr.frame (fun _ _ e => e) (hH fun m => nd1 (List.mem_append_right _ m))) nd2 fun q m => hq q (List.mem_cons_of_mem _ m)
  cases hf with
  | @cons _ _ _ _ f1 g1 h1 hn =>
    cases hn
    rw [List.append_nil] at fin
    have len : ∀ {k : Nat} {f : List Addr} {vs : List V} {ds : List D}, OdAll G H k f vs ds → vs.length = ds.length := fun {k f vs ds} r => by
      induction vs generalizing ds f with
      | nil => cases r; rfl
      | cons v vs ih => cases r with | cons _ r => simp [ih r]
    cases h1 with
    | sh hz r => rcases hz with hz | hz
                 · cases hz
                 · rw [im] at hz; cases hz
    | lst e r => exact ⟨_, _, _, e, len r, .inl ⟨rfl, rfl⟩, fin rfl e (fun _ z => nomatch z) r⟩
    | tup e r => exact absurd rfl (nt _)
    | dn => exact absurd rfl (nn _ _)
    | dk e ek r =>
      subst ek
      exact ⟨_, _, _, e, len r, .inr (.inl ⟨_, rfl, rfl, rfl⟩), fin rfl e (fun _ z => nomatch z) r⟩
    | dt e ek r =>
      subst ek
      exact ⟨_, _, _, e, len r, .inr (.inr ⟨_, rfl, rfl, rfl⟩), fin rfl e (fun _ z => nomatch z) r⟩
theorem EnvOk.takeLst (h : EnvOk B H env σ ((.ref p, k + 1, .lst ds) :: tm)) : ∃ vs, H p = some (.lst vs) ∧ vs.length = ds.length ∧ EnvOk B (del H p) env σ (lev k vs ds ++ tm) := by
  obtain ⟨o, vs, ds', hp, hl, q, h'⟩ := h.takeMu rfl (fun _ z => nomatch z) (fun _ _ z => nomatch z)
  rcases q with ⟨rfl, e⟩ | ⟨kvs, rfl, e, rfl⟩ | ⟨kvs, rfl, e, rfl⟩
  · cases e; exact ⟨vs, hp, hl, h'⟩
  · cases e
  · cases e
theorem EnvOk.takeDk {ks : List Key} (h : EnvOk B H env σ ((.ref p, k + 1, .dk ks ds) :: tm)) : ∃ kvs, H p = some (.dK kvs) ∧ kvs.map (·.1) = ks ∧ kvs.length = ds.length ∧ EnvOk B (del H p) env σ (lev k (kvs.map (·.2)) ds ++ tm) := by
  obtain ⟨o, vs, ds', hp, hl, q, h'⟩ := h.takeMu rfl (fun _ z => nomatch z) (fun _ _ z => nomatch z)
  rcases q with ⟨rfl, e⟩ | ⟨kvs, rfl, e, rfl⟩ | ⟨kvs, rfl, e, rfl⟩
  · cases e
  · cases e; exact ⟨kvs, hp, rfl, by simpa using hl, h'⟩
  · cases e
theorem EnvOk.takeDt {ks : List (List Key)} (h : EnvOk B H env σ ((.ref p, k + 1, .dt ks ds) :: tm)) : ∃ kvs, H p = some (.dT kvs) ∧ kvs.map (·.1) = ks ∧ kvs.length = ds.length ∧ EnvOk B (del H p) env σ (lev k (kvs.map (·.2)) ds ++ tm) := by
  obtain ⟨o, vs, ds', hp, hl, q, h'⟩ := h.takeMu rfl (fun _ z => nomatch z) (fun _ _ z => nomatch z)
  rcases q with ⟨rfl, e⟩ | ⟨kvs, rfl, e, rfl⟩ | ⟨kvs, rfl, e, rfl⟩
  · cases e
  · cases e
  · cases e; exact ⟨kvs, hp, rfl, by simpa using hl, h'⟩
/-- an owned thing stands at an address -/
theorem EnvOk.isRef {v : V} {d : D} (h : EnvOk B H env σ ((v, k, d) :: tm)) (im : d.imm = false) : ∃ p, v = .ref p := by
  have r := h.rp
  cases r with
  | lst => exact ⟨_, rfl⟩
  | tup => exact ⟨_, rfl⟩
  | dk => exact ⟨_, rfl⟩
  | dt => exact ⟨_, rfl⟩
  | ob => exact ⟨_, rfl⟩
  | exn0 => exact ⟨_, rfl⟩
  | exn => exact ⟨_, rfl⟩
  | dn => exact ⟨_, rfl⟩
  | _ => simp [D.imm] at im
theorem lev_append {k : Nat} : ∀ {vs : List V} {ds : List D} (ws : List V) (es : List D), vs.length = ds.length → lev k (vs ++ ws) (ds ++ es) = lev k vs ds ++ lev k ws es
  | [], [], _, _, _ => rfl
  | [], _ :: _, _, _, e => by simp at e
  | _ :: _, [], _, _, e => by simp at e
  | v :: vs, d :: ds, ws, es, e => congrArg (List.cons _) (lev_append (vs := vs) (ds := ds) ws es (by simpa using e))
/-- all that can be read of shared things -/
theorem EnvOk.levs {vs : List V} {ds : List D} (h : EnvOk B H env σ tm) (r : RpAll (view H) vs ds) (hi : immAll ds = true) {k : Nat} : EnvOk B H env σ (lev k vs ds ++ tm) := by
  induction r using RpAll.rec (motive_1 := fun _ _ _ => True) with
  | nil => exact h
  | cons hr _ _ ih =>
    rw [immAll, Bool.and_eq_true] at hi
    exact (ih hi.2).imm hr hi.1
  | _ => trivial
/-- the items of a shared list, tuple are shared -/
theorem EnvOk.items {d : D} {v : V} (h : EnvOk B H env σ ((v, 0, d) :: tm)) : ∀ {ds : List D}, (d = .lst ds ∨ d = .tup ds ∨ (∃ ks, d = .dk ks ds) ∨ ∃ ks, d = .dt ks ds) → ∃ (p : Addr) (o : HO) (vs : List V), v = .ref p ∧ view H p = some o ∧ vs.length = ds.length ∧
    (d = .lst ds → o = .lst vs) ∧ (d = .tup ds → o = .tup vs) ∧ (∀ ks, d = .dk ks ds → ∃ kvs, o = .dK kvs ∧ kvs.map (·.1) = ks ∧ vs = kvs.map (·.2)) ∧ (∀ ks, d = .dt ks ds → ∃ kvs, o = .dT kvs ∧ kvs.map (·.1) = ks ∧ vs = kvs.map (·.2)) ∧ RpAll (view H) vs ds ∧ EnvOk B H env σ (lev 0 vs ds ++ (v, 0, d) :: tm) := by
  intro ds hd
  have h2 := h.len
  have h3 := h.has
  obtain ⟨G, f, g, hg, hf, hr, nd, hq⟩ := EnvOk.apart (l := [(v, 0, d)]) h
  cases hf with
  | @cons _ _ _ _ f1 g1 h1 hn =>
    cases hn
    obtain ⟨rfl, r⟩ := h1.zero
    have fin : ∀ {vs : List V}, RpAll G vs ds → EnvOk B H env σ (lev 0 vs ds ++ (v, 0, d) :: tm) := fun {vs} ra => by
      have hv : HoldAll G H (lev 0 vs ds ++ [(v, 0, d)]) [] := by
        clear hd
        induction ra using RpAll.rec (motive_1 := fun _ _ _ => True) with
        | nil => exact HoldAll.cons (f := []) (g := []) (.of r) .nil
        | cons hr _ _ ih => exact HoldAll.cons (f := []) (g := []) (.of hr) ih
        | _ => trivial
      have := EnvOk.join (l := lev 0 vs ds ++ [(v, 0, d)]) (f := []) h2 h3 hg hv hr nd hq
      rw [List.append_assoc] at this
      exact this
    cases r with
    | lst e ra =>
      rcases hd with q | q | ⟨_, q⟩ | ⟨_, q⟩ <;> cases q
      exact ⟨_, _, _, rfl, hg.gs _ _ e, ra.length, fun _ => rfl, (fun q => nomatch q), (fun _ q => nomatch q), (fun _ q => nomatch q), ra.mono hg.gs, fin ra⟩
    | tup e ra =>
      rcases hd with q | q | ⟨_, q⟩ | ⟨_, q⟩ <;> cases q
      exact ⟨_, _, _, rfl, hg.gs _ _ e, ra.length, (fun q => nomatch q), fun _ => rfl, (fun _ q => nomatch q), (fun _ q => nomatch q), ra.mono hg.gs, fin ra⟩
    | dk e ek ra =>
      rcases hd with q | q | ⟨_, q⟩ | ⟨_, q⟩ <;> cases q
      exact ⟨_, _, _, rfl, hg.gs _ _ e, ra.length, (fun q => nomatch q), (fun q => nomatch q), (fun ks q => by cases q; exact ⟨_, rfl, ek, rfl⟩), (fun _ q => nomatch q), ra.mono hg.gs, fin ra⟩
    | dt e ek ra =>
      rcases hd with q | q | ⟨_, q⟩ | ⟨_, q⟩ <;> cases q
      exact ⟨_, _, _, rfl, hg.gs _ _ e, ra.length, (fun q => nomatch q), (fun q => nomatch q), (fun _ q => nomatch q), (fun ks q => by cases q; exact ⟨_, rfl, ek, rfl⟩), ra.mono hg.gs, fin ra⟩
    | _ => rcases hd with q | q | ⟨_, q⟩ | ⟨_, q⟩ <;> cases q
end
end Mir

namespace Mir
open PySem PySem.Spec L2

/-! ### results -/
inductive Res (α : Type) where
  | ok (a : α) | exc (c : Str) (ns : List Str) (as : List D) | bad
def Res.bind {α β : Type} : Res α → (α → Res β) → Res β
  | .ok a, f => f a
  | .exc c ns as, _ => .exc c ns as
  | .bad, _ => .bad
instance : Monad Res where
  pure := .ok
  bind := Res.bind
theorem bind_ok {α β : Type} {x : Res α} {f : α → Res β} {b : β} (h : (x >>= f) = .ok b) : ∃ a, x = .ok a ∧ f a = .ok b := by
  cases x with
  | ok a => exact ⟨a, rfl, h⟩
  | exc c ns as => cases h
  | bad => cases h
@[simp] theorem ok_bind {α β : Type} (a : α) (f : α → Res β) : (Res.ok a >>= f) = f a := rfl
@[simp] theorem pure_ok {α : Type} (a : α) : (pure a : Res α) = .ok a := rfl
/-- a guard -/
def chk (b : Bool) : Res Unit := if b then .ok () else .bad
theorem chk_ok {b : Bool} {u : Unit} (h : chk b = .ok u) : b = true := by
  cases b with
  | true => rfl
  | false => cases h
@[simp] theorem chk_true : chk true = .ok () := rfl
inductive Ctl where
  | nx (e : Env) | bk (e : Env) | ct (e : Env) | rt (d : D)

def Ext (H H' : Hp) : Prop := ∀ a o, H a = some o → H' a = some o
theorem Ext.refl (H : Hp) : Ext H H := fun _ _ h => h
theorem Ext.trans {H H1 H2 : Hp} (a : Ext H H1) (b : Ext H1 H2) : Ext H H2 := fun c o h => b c o (a c o h)
theorem Ext.upd {H : Hp} {p : Addr} {o : HO} (h : H p = none) : Ext H (upd H p o) := up_keep h
theorem Ext.rp {H H' : Hp} (h : Ext H H') {v : V} {d : D} (r : Rp (view H) v d) : Rp (view H') v d := r.mono (view_ext h)
theorem Ext.rpAll {H H' : Hp} (h : Ext H H') {v : List V} {d : List D} (r : RpAll (view H) v d) : RpAll (view H') v d := r.mono (view_ext h)

/-! ### the readings by meaning -/
def wE (X : Cx) (e : Expr) : TE := fun σ H Q => ∀ (pins : List (Addr × Obj)) (s : Shared), Inv X pins σ H s → wpAny (model X.prog X.w) X.A (eval e X.env) (EP X pins σ Q) X.xe s
theorem pe_sem {X : Cx} {e : Expr} : PE X e (wE X e) := ⟨fun pins s _ _ _ I h => h pins s I⟩
theorem wE_of {X : Cx} {e : Expr} {t : TE} (h : PE X e t) {σ : St} {H : Hp} {Q : VK} (ht : t σ H Q) : wE X e σ H Q := fun pins s I => h.run pins s σ H Q I ht
def wT (X : Cx) (e : Expr) : TT := fun σ H Q => ∀ (pins : List (Addr × Obj)) (s : Shared), Inv X pins σ H s → wpAny (model X.prog X.w) X.A (isTrue e X.env (eval e X.env)) (TP X pins σ Q) X.xe s
theorem pt_sem {X : Cx} {e : Expr} : PT X e (wT X e) := ⟨fun pins s _ _ _ I h => h pins s I⟩
theorem wT_of {X : Cx} {e : Expr} {t : TT} (h : PT X e t) {σ : St} {H : Hp} {Q : Bool → Hp → Prop} (ht : t σ H Q) : wT X e σ H Q := fun pins s I => h.run pins s σ H Q I ht
def wW (X : Cx) (e : Expr) : TT := fun σ H Q => ∀ (whole : Sem Value) (pins : List (Addr × Obj)) (s : Shared), Inv X pins σ H s → wpAny (model X.prog X.w) X.A (isTrue e X.env whole) (TP X pins σ Q) X.xe s
theorem pw_sem {X : Cx} {e : Expr} : PW X e (wW X e) := ⟨fun w pins s _ _ _ I h => h w pins s I⟩
theorem wW_of {X : Cx} {e : Expr} {t : TT} (h : PW X e t) {σ : St} {H : Hp} {Q : Bool → Hp → Prop} (ht : t σ H Q) : wW X e σ H Q := fun w pins s I => h.run w pins s σ H Q I ht
def wA (X : Cx) (es : List Expr) : TA := fun σ H Q => ∀ (pos : Pos) (pins : List (Addr × Obj)) (s : Shared), Inv X pins σ H s → wpAny (model X.prog X.w) X.A (spliced (backTo pos (starEach es X.env))) (AP X pins σ Q) X.xe s
theorem pa_sem {X : Cx} {e : List Expr} : PA X e (wA X e) := ⟨fun p pins s _ _ _ I h => h p pins s I⟩
theorem wA_of {X : Cx} {e : List Expr} {t : TA} (h : PA X e t) {σ : St} {H : Hp} {Q : List V → Hp → Prop} (ht : t σ H Q) : wA X e σ H Q := fun p pins s I => h.run p pins s σ H Q I ht
def wS (X : Cx) (st : Stmt) : TS := fun D σ H => ∀ (pins : List (Addr × Obj)) (s : Shared), Inv X pins σ H s → wpAny (model X.prog X.w) X.A (exec st X.env) (SP X pins D) X.xe s
theorem ps_sem {X : Cx} {e : Stmt} : PS X e (wS X e) := ⟨fun pins s _ _ _ I h => h pins s I⟩
theorem wS_of {X : Cx} {e : Stmt} {t : TS} (h : PS X e t) {σ : St} {H : Hp} {D : Ends} (ht : t D σ H) : wS X e D σ H := fun pins s I => h.run pins s σ H D I ht
def wB (X : Cx) (st : List Stmt) : TS := fun D σ H => ∀ (pins : List (Addr × Obj)) (s : Shared), Inv X pins σ H s → wpAny (model X.prog X.w) X.A (execs st X.env) (SP X pins D) X.xe s
theorem pss_sem {X : Cx} {e : List Stmt} : PSs X e (wB X e) := ⟨fun pins s _ _ _ I h => h pins s I⟩
theorem wB_of {X : Cx} {e : List Stmt} {t : TS} (h : PSs X e t) {σ : St} {H : Hp} {D : Ends} (ht : t D σ H) : wB X e D σ H := fun pins s I => h.run pins s σ H D I ht

/-! ### the judgements: an expression's worth by its mirror m -/
/-- its value is handed on, owned to the level k; the slots cs are given away -/
def SE (X : Cx) (k : Nat) (cs : List Nat) (e : Expr) (m : Env → Res D) : Prop := ∀ (B : Bs) (H : Hp) (env : Env) (σ : St) (tm : List Hold) (d : D) (Q : VK), EnvOk B H env σ tm → m env = .ok d →
  (∀ v H', Ext H H' → EnvOk B H' (clear env cs) σ ((v, k, d) :: tm) → Q v H') → wE X e σ H Q
/-- its value may be read -/
def SB (X : Cx) (e : Expr) (m : Env → Res D) : Prop := ∀ (B : Bs) (H : Hp) (env : Env) (σ : St) (tm : List Hold) (d : D) (Q : VK), EnvOk B H env σ tm → m env = .ok d →
  (∀ v H', Ext H H' → EnvOk B H' env σ tm → Rp (view H') v d → Q v H') → wE X e σ H Q
/-- .. and holds no list, no dict -/
def SC (X : Cx) (e : Expr) (m : Env → Res D) : Prop := ∀ (B : Bs) (H : Hp) (env : Env) (σ : St) (tm : List Hold) (d : D) (Q : VK), EnvOk B H env σ tm → m env = .ok d →
  (∀ v H', Ext H H' → EnvOk B H' env σ tm → Rp (view H') v d → d.imm = true → Q v H') → wE X e σ H Q
/-- a test -/
def ST (X : Cx) (e : Expr) (m : Env → Res Bool) : Prop := ∀ (B : Bs) (H : Hp) (env : Env) (σ : St) (tm : List Hold) (b : Bool) (Q : Bool → Hp → Prop), EnvOk B H env σ tm → m env = .ok b →
  (∀ H', Ext H H' → EnvOk B H' env σ tm → Q b H') → wT X e σ H Q
def SW (X : Cx) (e : Expr) (m : Env → Res Bool) : Prop := ∀ (B : Bs) (H : Hp) (env : Env) (σ : St) (tm : List Hold) (b : Bool) (Q : Bool → Hp → Prop), EnvOk B H env σ tm → m env = .ok b →
  (∀ H', Ext H H' → EnvOk B H' env σ tm → Q b H') → wW X e σ H Q
/-- arguments that may be read -/
def SAB (X : Cx) (es : List Expr) (m : Env → Res (List D)) : Prop := ∀ (B : Bs) (H : Hp) (env : Env) (σ : St) (tm : List Hold) (ds : List D) (Q : List V → Hp → Prop), EnvOk B H env σ tm → m env = .ok ds →
  (∀ vs H', Ext H H' → EnvOk B H' env σ tm → RpAll (view H') vs ds → Q vs H') → wA X es σ H Q
/-- items that are handed on -/
def SAE (X : Cx) (k : Nat) (cs : List Nat) (es : List Expr) (m : Env → Res (List D)) : Prop := ∀ (B : Bs) (H : Hp) (env : Env) (σ : St) (tm : List Hold) (ds : List D) (Q : List V → Hp → Prop), EnvOk B H env σ tm → m env = .ok ds →
  (∀ vs H', Ext H H' → vs.length = ds.length → EnvOk B H' (clear env cs) σ (lev k vs ds ++ tm) → Q vs H') → wA X es σ H Q

section
variable {X : Cx} {e a b : Expr} {m ma mb : Env → Res D} {k : Nat} {cs : List Nat} {pos : Pos}
theorem sb_c (h : SC X e m) : SB X e m := fun B H env σ tm d Q ok hm q => h B H env σ tm d Q ok hm fun v H' x ok' r _ => q v H' x ok' r
theorem se_c (h : SC X e m) : SE X k [] e m := fun B H env σ tm d Q ok hm q => h B H env σ tm d Q ok hm fun v H' x ok' r i => q v H' x (ok'.imm r i)
theorem sb_e (h : SE X k [] e m) : SB X e m := fun B H env σ tm d Q ok hm q => h B H env σ tm d Q ok hm fun v H' x ok' => q v H' x ok'.tail ok'.rp
/-- what is read and holds no list, no dict -/
def mImm (m : Env → Res D) : Env → Res D := fun env => m env >>= fun d => if d.imm then .ok d else .bad
theorem sc_b (h : SB X e m) : SC X e (mImm m) := fun B H env σ tm d Q ok hm q => by
  obtain ⟨d', h1, h2⟩ := bind_ok hm
  by_cases hi : d'.imm = true
  · rw [if_pos hi] at h2
    cases h2
    exact h B H env σ tm d Q ok h1 fun v H' x ok' r => q v H' x ok' r hi
  · rw [if_neg hi] at h2; cases h2
theorem se_0 (h : SE X k cs e m) : SE X 0 cs e m := fun B H env σ tm d Q ok hm q => h B H env σ tm d Q ok hm fun v H' x ok' => q v H' x ok'.freeze

/-! ### names -/
def mVar (i : Nat) : Env → Res D := fun env => match env[i]? with
  | some (some (_, d)) => .ok d
  | _ => .bad
def mVarK (i k : Nat) : Env → Res D := fun env => match env[i]? with
  | some (some (j, d)) => if j = k then .ok d else .bad
  | _ => .bad
theorem sb_var {i : Nat} (h : PE X e (tVar i)) : SB X e (mVar i) := fun B H env σ tm d Q ok hm q => by
  unfold mVar at hm
  split at hm
  · rename_i j d' e1
    cases hm
    obtain ⟨v, hv, r⟩ := ok.slot e1
    exact wE_of h ⟨v, hv, q v H (Ext.refl H) ok r⟩
  · cases hm
theorem se_var {i : Nat} (h : PE X e (tVar i)) : SE X 0 [] e (mVarK i 0) := fun B H env σ tm d Q ok hm q => by
  unfold mVarK at hm
  split at hm
  · rename_i j d' e1
    split at hm
    · rename_i ej
      subst ej
      cases hm
      obtain ⟨v, hv, ok'⟩ := ok.slot0 e1
      exact wE_of h ⟨v, hv, q v H (Ext.refl H) ok'⟩
    · cases hm
  · cases hm
/-- a slot's content is given away -/
theorem se_move {i : Nat} (h : PE X e (tVar i)) : SE X k [i] e (mVarK i k) := fun B H env σ tm d Q ok hm q => by
  unfold mVarK at hm
  split at hm
  · rename_i j d' e1
    split at hm
    · rename_i ej
      subst ej
      cases hm
      obtain ⟨v, hv, r⟩ := ok.slot e1
      exact wE_of h ⟨v, hv, q v H (Ext.refl H) (ok.move e1 hv)⟩
    · cases hm
  · cases hm

/-! ### constants -/
def mC (d : D) : Env → Res D := fun _ => .ok d
theorem sc_of {d : D} {v : V} (h : PE X e (tC v)) (r : ∀ G, Rp G v d) (hi : d.imm = true) : SC X e (mC d) := fun B H env σ tm d' Q ok hm q => by
  cases hm
  exact wE_of h (q v H (Ext.refl H) ok (r _) hi)
theorem sc_int {i : Int} {j pos} : SC X (.Constant (.int i) j pos) (mC (.int i)) := sc_of pe_int (fun _ => .int i) rfl
theorem sc_bl {i : Bool} {j pos} : SC X (.Constant (.bool i) j pos) (mC (.bl i)) := sc_of pe_bl (fun _ => .bl i) rfl
theorem sc_str {i : Str} {j pos} : SC X (.Constant (.str i) j pos) (mC (.str i)) := sc_of pe_str (fun _ => .str i) rfl

/-! ### operators on values -/
def OpC (X : Cx) (f : Value → Value → Sem Value) (g : D → D → Res D) : Prop := ∃ r : R2, OpR X f r ∧ ∀ (x y : V) (dx dy d : D) (H : Hp) (Q : VK), Rp (view H) x dx → Rp (view H) y dy → g dx dy = .ok d →
  (∀ v, Rp (view H) v d → d.imm = true → Q v H) → r x y H Q
def mOp (g : D → D → Res D) (ma mb : Env → Res D) : Env → Res D := fun env => ma env >>= fun x => mb env >>= fun y => g x y
theorem two {g : D → D → Res D} {env : Env} {d : D} (h : mOp g ma mb env = .ok d) : ∃ x y, ma env = .ok x ∧ mb env = .ok y ∧ g x y = .ok d := by
  obtain ⟨x, h1, h2⟩ := bind_ok h
  obtain ⟨y, h3, h4⟩ := bind_ok h2
  exact ⟨x, y, h1, h3, h4⟩
theorem sb2 (ha : SB X a ma) (hb : SB X b mb) {B : Bs} {H : Hp} {env : Env} {σ : St} {tm : List Hold} {x y : D} (ok : EnvOk B H env σ tm) (hx : ma env = .ok x) (hy : mb env = .ok y) {R : V → V → Hp → Prop}
    (q : ∀ v u H', Ext H H' → EnvOk B H' env σ tm → Rp (view H') v x → Rp (view H') u y → R v u H') : wE X a σ H fun v H1 => wE X b σ H1 fun u H2 => R v u H2 :=
  ha B H env σ tm x _ ok hx fun v H1 x1 ok1 r1 => hb B H1 env σ tm y _ ok1 hy fun u H2 x2 ok2 r2 => q v u H2 (x1.trans x2) ok2 (x2.rp r1) r2
theorem sc_op {op : Operator} {g : D → D → Res D} (ho : OpC X (binaryOp op) g) (ha : SB X a ma) (hb : SB X b mb) : SC X (.BinOp a op b pos) (mOp g ma mb) := fun B H env σ tm d Q ok hm q => by
  obtain ⟨x, y, hx, hy, hg⟩ := two hm
  obtain ⟨r, hr, hq⟩ := ho
  exact wE_of (pe_op hr pe_sem pe_sem) (sb2 ha hb ok hx hy fun v u H' x' ok' r1 r2 => hq v u _ _ _ H' Q r1 r2 hg fun z rz iz => q z H' x' ok' rz iz)
theorem sc_cmp {op : CmpOp} {g : D → D → Res D} (ho : OpC X (compareOp op) g) (ha : SB X a ma) (hb : SB X b mb) (hm : behindInMarks op b = false) : SC X (.Compare a [op] [b] pos) (mOp g ma mb) := fun B H env σ tm d Q ok hm' q => by
  obtain ⟨x, y, hx, hy, hg⟩ := two hm'
  obtain ⟨r, hr, hq⟩ := ho
  exact wE_of (pe_cmpR hr pe_sem pe_sem hm) (sb2 ha hb ok hx hy fun v u H' x' ok' r1 r2 => hq v u _ _ _ H' Q r1 r2 hg fun z rz iz => q z H' x' ok' rz iz)
def toB : D → Res Bool
  | .bl b => .ok b
  | _ => .bad
def mTb (m : Env → Res D) : Env → Res Bool := fun env => m env >>= toB
theorem toB_ok {d : D} {b : Bool} (h : toB d = .ok b) : d = .bl b := by
  cases d with
  | bl c => cases h; rfl
  | _ => cases h
theorem st_cmp {op : CmpOp} {g : D → D → Res D} (ho : OpC X (compareOp op) g) (ha : SB X a ma) (hb : SB X b mb) (hm : behindInMarks op b = false) : ST X (.Compare a [op] [b] pos) (mTb (mOp g ma mb)) := fun B H env σ tm d Q ok hm' q => by
  obtain ⟨z, hz, hd⟩ := bind_ok hm'
  have hd' := toB_ok hd
  subst hd'
  obtain ⟨x, y, hx, hy, hg⟩ := two hz
  obtain ⟨r, hr, hq⟩ := ho
  refine wT_of (pt_cmpR hr pe_sem pe_sem hm) (sb2 ha hb ok hx hy fun v u H' x' ok' r1 r2 => hq v u _ _ _ H' _ r1 r2 hg fun z rz iz => ?_)
  cases rz
  exact ⟨_, rfl, q H' x' ok'⟩
/-- a value True or False as a test -/
theorem st_val (h : SB X e m) (he : ∀ whole, isTrue e X.env whole = (do let v ← whole; standAt e.pos; holding [v] (truthy v)) := by intro _; rfl) : ST X e (mTb m) := fun B H env σ tm d Q ok hm' q => by
  obtain ⟨z, hz, hd⟩ := bind_ok hm'
  have hd' := toB_ok hd
  subst hd'
  refine wT_of (pt_val pe_sem he) (h B H env σ tm _ _ ok hz fun v H' x ok' r => ?_)
  cases r
  exact ⟨_, rfl, q H' x ok'⟩

/-! ### unary -/
def mUn (g : D → Res D) (m : Env → Res D) : Env → Res D := fun env => m env >>= g
def gNeg : D → Res D
  | .int i => .ok (.int (-i))
  | _ => .bad
theorem sc_neg (ha : SB X a ma) : SC X (.UnaryOp .USub a pos) (mUn gNeg ma) := fun B H env σ tm d Q ok hm q => by
  obtain ⟨x, hx, hg⟩ := bind_ok hm
  refine wE_of (pe_un un_neg pe_sem) (ha B H env σ tm x _ ok hx fun v H' x' ok' r => ?_)
  cases r with
  | int i => cases hg; exact ⟨i, rfl, q _ H' x' ok' (.int _) rfl⟩
  | _ => cases hg
/-! ### and, or, not -/
def mNotB (m : Env → Res Bool) : Env → Res Bool := fun env => m env >>= fun b => .ok (!b)
def mAndB (m n : Env → Res Bool) : Env → Res Bool := fun env => m env >>= fun b => if b then n env else .ok false
def mOrB (m n : Env → Res Bool) : Env → Res Bool := fun env => m env >>= fun b => if b then .ok true else n env
variable {ta tb : Env → Res Bool} {rest : List Expr}
theorem st_not (ha : ST X a ta) : ST X (.UnaryOp .Not a pos) (mNotB ta) := fun B H env σ tm d Q ok hm q => by
  obtain ⟨x, hx, hg⟩ := bind_ok hm
  cases hg
  exact wT_of (pt_not pt_sem) (ha B H env σ tm x _ ok hx fun H' x' ok' => q H' x' ok')
theorem sw_and1 (ha : ST X a ta) : SW X (.BoolOp .And [a] pos) ta := fun B H env σ tm d Q ok hm q => wW_of (pw_and1 pt_sem) (ha B H env σ tm d Q ok hm q)
theorem sw_or1 (ha : ST X a ta) : SW X (.BoolOp .Or [a] pos) ta := fun B H env σ tm d Q ok hm q => wW_of (pw_or1 pt_sem) (ha B H env σ tm d Q ok hm q)
theorem sw_and (ha : ST X a ta) (hb : SW X (.BoolOp .And (b :: rest) pos) tb) : SW X (.BoolOp .And (a :: b :: rest) pos) (mAndB ta tb) := fun B H env σ tm d Q ok hm q => by
  obtain ⟨x, hx, hg⟩ := bind_ok hm
  refine wW_of (pw_and pt_sem pw_sem) (ha B H env σ tm x _ ok hx fun H1 x1 ok1 => ?_)
  cases x with
  | true => exact hb B H1 env σ tm d Q ok1 hg fun H2 x2 ok2 => q H2 (x1.trans x2) ok2
  | false => cases hg; exact q H1 x1 ok1
theorem sw_or (ha : ST X a ta) (hb : SW X (.BoolOp .Or (b :: rest) pos) tb) : SW X (.BoolOp .Or (a :: b :: rest) pos) (mOrB ta tb) := fun B H env σ tm d Q ok hm q => by
  obtain ⟨x, hx, hg⟩ := bind_ok hm
  refine wW_of (pw_or pt_sem pw_sem) (ha B H env σ tm x _ ok hx fun H1 x1 ok1 => ?_)
  cases x with
  | false => exact hb B H1 env σ tm d Q ok1 hg fun H2 x2 ok2 => q H2 (x1.trans x2) ok2
  | true => cases hg; exact q H1 x1 ok1
theorem st_w (h : SW X e ta) : ST X e ta := fun B H env σ tm d Q ok hm q pins s I => h B H env σ tm d Q ok hm q _ pins s I
/-- .. as values -/
def mAndV (ma mb : Env → Res D) : Env → Res D := fun env => ma env >>= fun x => toB x >>= fun b => if b then mb env else .ok (.bl false)
def mOrV (ma mb : Env → Res D) : Env → Res D := fun env => ma env >>= fun x => toB x >>= fun b => if b then .ok (.bl true) else mb env
theorem sc_one {op} (h : SC X a ma) : SC X (.BoolOp op [a] pos) ma := fun B H env σ tm d Q ok hm q => wE_of (pe_one pe_sem) (h B H env σ tm d Q ok hm q)
theorem sc_and (ha : SB X a ma) (hb : SC X (.BoolOp .And (b :: rest) pos) mb) : SC X (.BoolOp .And (a :: b :: rest) pos) (mAndV ma mb) := fun B H env σ tm d Q ok hm q => by
  obtain ⟨x, hx, hg⟩ := bind_ok hm
  obtain ⟨c, hc, hg⟩ := bind_ok hg
  have := toB_ok hc
  subst this
  refine wE_of (pe_and pe_sem pe_sem) (ha B H env σ tm _ _ ok hx fun v H1 x1 ok1 r1 => ?_)
  cases r1
  refine ⟨c, rfl, ?_⟩
  cases c with
  | true => rw [if_pos rfl]; exact hb B H1 env σ tm d Q ok1 hg fun v H2 x2 ok2 => q v H2 (x1.trans x2) ok2
  | false => cases hg; exact q _ H1 x1 ok1 (.bl false) rfl
theorem sc_or (ha : SB X a ma) (hb : SC X (.BoolOp .Or (b :: rest) pos) mb) : SC X (.BoolOp .Or (a :: b :: rest) pos) (mOrV ma mb) := fun B H env σ tm d Q ok hm q => by
  obtain ⟨x, hx, hg⟩ := bind_ok hm
  obtain ⟨c, hc, hg⟩ := bind_ok hg
  have := toB_ok hc
  subst this
  refine wE_of (pe_or pe_sem pe_sem) (ha B H env σ tm _ _ ok hx fun v H1 x1 ok1 r1 => ?_)
  cases r1
  refine ⟨c, rfl, ?_⟩
  cases c with
  | false => exact hb B H1 env σ tm d Q ok1 hg fun v H2 x2 ok2 => q v H2 (x1.trans x2) ok2
  | true => cases hg; exact q _ H1 x1 ok1 (.bl true) rfl
/-- not e as a value -/
def mNotV (m : Env → Res D) : Env → Res D := fun env => m env >>= fun x => toB x >>= fun b => .ok (.bl (!b))
theorem sc_not (ha : SB X a ma) : SC X (.UnaryOp .Not a pos) (mNotV ma) := fun B H env σ tm d Q ok hm q => by
  obtain ⟨x, hx, hg⟩ := bind_ok hm
  obtain ⟨c, hc, hg⟩ := bind_ok hg
  have := toB_ok hc
  subst this
  cases hg
  refine wE_of (pe_not pe_sem) (ha B H env σ tm _ _ ok hx fun v H1 x1 ok1 r1 => ?_)
  cases r1
  exact ⟨c, rfl, q _ H1 x1 ok1 (.bl _) rfl⟩
/-- a if t else b -/
def mIf {α : Type} (t : Env → Res Bool) (ma mb : Env → Res α) : Env → Res α := fun env => t env >>= fun c => if c then ma env else mb env
/-! ### arguments, displays -/
def mNilA : Env → Res (List D) := fun _ => .ok []
def mConsA (m : Env → Res D) (n : Env → Res (List D)) : Env → Res (List D) := fun env => m env >>= fun x => n env >>= fun xs => .ok (x :: xs)
theorem sab_nil : SAB X [] mNilA := fun B H env σ tm ds Q ok hm q => by
  cases hm
  exact wA_of pa_nil (q [] H (Ext.refl H) ok .nil)
theorem sab_cons {es : List Expr} {ms : Env → Res (List D)} (he : SB X e m) (hs : SAB X es ms) (hst : starEach (e :: es) X.env = (false, eval e X.env) :: starEach es X.env := by rfl) : SAB X (e :: es) (mConsA m ms) := fun B H env σ tm ds Q ok hm q => by
  obtain ⟨x, hx, hg⟩ := bind_ok hm
  obtain ⟨xs, hxs, hg⟩ := bind_ok hg
  cases hg
  refine wA_of (pa_cons pe_sem pa_sem hst) (he B H env σ tm x _ ok hx fun v H1 x1 ok1 r1 => hs B H1 env σ tm xs _ ok1 hxs fun vs H2 x2 ok2 r2 => ?_)
  exact q _ H2 (x1.trans x2) ok2 (.cons (x2.rp r1) r2)
/-- items: the mirror of what stands behind sees the slots that are left -/
def mConsE (m : Env → Res D) (cs : List Nat) (n : Env → Res (List D)) : Env → Res (List D) := fun env => m env >>= fun x => n (clear env cs) >>= fun xs => .ok (x :: xs)
theorem clear_app : ∀ (env : Env) (cs cs' : List Nat), clear (clear env cs) cs' = clear env (cs ++ cs')
  | _, [], _ => rfl
  | env, c :: cs, cs' => clear_app (env.set c none) cs cs'
theorem sae_nil : SAE X k [] [] mNilA := fun B H env σ tm ds Q ok hm q => by
  cases hm
  exact wA_of pa_nil (q [] H (Ext.refl H) rfl ok)
theorem sae_cons {es : List Expr} {cs' : List Nat} {ms : Env → Res (List D)} (he : SE X k cs e m) (hs : SAE X k cs' es ms) (hst : starEach (e :: es) X.env = (false, eval e X.env) :: starEach es X.env := by rfl) : SAE X k (cs ++ cs') (e :: es) (mConsE m cs ms) := fun B H env σ tm ds Q ok hm q => by
  obtain ⟨x, hx, hg⟩ := bind_ok hm
  obtain ⟨xs, hxs, hg⟩ := bind_ok hg
  cases hg
  refine wA_of (pa_cons pe_sem pa_sem hst) (he B H env σ tm x _ ok hx fun v H1 x1 ok1 => hs B H1 (clear env cs) σ _ xs _ ok1 hxs fun vs H2 x2 hl ok2 => ?_)
  refine q _ H2 (x1.trans x2) (by simp [hl]) ?_
  rw [← clear_app]
  exact ok2.perm (List.perm_middle (l₁ := lev k vs xs) (a := (v, k, x)) (l₂ := tm))
def mTup (n : Env → Res (List D)) : Env → Res D := fun env => n env >>= fun xs => if xs.length ≤ sizeLine then .ok (.tup xs) else .bad
def mLst (n : Env → Res (List D)) : Env → Res D := fun env => n env >>= fun xs => if xs.length ≤ sizeLine then .ok (.lst xs) else .bad
theorem se_tup {es : List Expr} {ms : Env → Res (List D)} {x1} (hs : SAE X k cs es ms) : SE X (k + 1) cs (.Tuple es x1 pos) (mTup ms) := fun B H env σ tm d Q ok hm q => by
  obtain ⟨xs, hx, hg⟩ := bind_ok hm
  by_cases hl : xs.length ≤ sizeLine
  · rw [if_pos hl] at hg
    cases hg
    refine wE_of (pe_tup pa_sem) (hs B H env σ tm xs _ ok hx fun vs H1 x1 e1 ok1 => ⟨by rw [e1]; exact hl, fun p hp => ?_⟩)
    exact q _ _ (x1.trans (Ext.upd hp)) (ok1.newTup e1 hp)
  · rw [if_neg hl] at hg; cases hg
theorem se_lst {es : List Expr} {ms : Env → Res (List D)} (hs : SAE X k cs es ms) : SE X (k + 1) cs (.List es pos) (mLst ms) := fun B H env σ tm d Q ok hm q => by
  obtain ⟨xs, hx, hg⟩ := bind_ok hm
  by_cases hl : xs.length ≤ sizeLine
  · rw [if_pos hl] at hg
    cases hg
    refine wE_of (pe_lst pa_sem) (hs B H env σ tm xs _ ok hx fun vs H1 x1 e1 ok1 => ⟨by rw [e1]; exact hl, fun p hp => ?_⟩)
    exact q _ _ (x1.trans (Ext.upd hp)) (ok1.newLst e1 hp)
  · rw [if_neg hl] at hg; cases hg
/-- a tuple of things that hold no list, no dict -/
theorem sc_tup {es : List Expr} {ms : Env → Res (List D)} {x1} (hs : SAE X 0 [] es ms) : SC X (.Tuple es x1 pos) (mImm (mTup ms)) := sc_b (sb_e (se_0 (se_tup hs)))
end
end Mir

namespace Mir
open PySem PySem.Spec L2

/-! ### as the library's data -/
mutual
def D.py : D → PyData
  | .non => .none | .bl b => .bool b | .int i => .int i | .str x => .str x
  | .lst xs => .list (pyAll xs) | .tup xs => .tuple (pyAll xs) | .dk _ _ => .dict [] | .dt _ _ => .dict []
  | .ob _ _ _ _ => .dict [] | .exn _ _ _ _ => .dict [] | .dn _ _ => .dict []
def pyAll : List D → List PyData
  | [] => []
  | d :: ds => d.py :: pyAll ds
end
theorem pyAll_map : ∀ ds : List D, pyAll ds = ds.map D.py
  | [] => rfl
  | d :: ds => by rw [pyAll, pyAll_map ds]; rfl
mutual
theorem Rp.dp {K : PySem.W.Frag} {H : Hp} : ∀ {v : V} {d : D}, Rp (view H) v d → PyData.canLay0 d.py = true → Dp K H v d.py
  | _, _, .non, _ => .non
  | _, _, .bl b, _ => .bl b
  | _, _, .int i, _ => .int i
  | _, _, .str x, _ => .str x
  | _, _, .lst h r, e => .lst (.inl (view_rd h)) (RpAll.dp r (by simpa [D.py, PyData.canLay0] using e))
  | _, _, .tup h r, e => .tup (.inl (view_rd h)) (RpAll.dp r (by simpa [D.py, PyData.canLay0] using e))
  | _, _, .dk _ _ _, e => by simp [D.py, PyData.canLay0] at e
  | _, _, .dt _ _ _, e => by simp [D.py, PyData.canLay0] at e
  | _, _, .ob _ _ _, e => by simp [D.py, PyData.canLay0] at e
  | _, _, .exn0 _, e => by simp [D.py, PyData.canLay0] at e
  | _, _, .exn _ _ _ _, e => by simp [D.py, PyData.canLay0] at e
  | _, _, .dn _ _ _ _, e => by simp [D.py, PyData.canLay0] at e
theorem RpAll.dp {K : PySem.W.Frag} {H : Hp} : ∀ {v : List V} {d : List D}, RpAll (view H) v d → PyData.canLayAll0 (pyAll d) = true → DpAll K H v (pyAll d)
  | _, _, .nil, _ => .nil
  | _, _, .cons h r, e => by
    rw [pyAll, PyData.canLayAll0, Bool.and_eq_true] at e
    exact .cons (Rp.dp h e.1) (RpAll.dp r e.2)
end
theorem shaped_lay {d : PyData} (h : SeqAt.shaped d = true) : PyData.canLay0 d = true := by
  unfold SeqAt.shaped at h
  rw [Bool.and_eq_true] at h
  exact h.1

/-! ### arithmetic -/
def gAdd : D → D → Res D
  | .int i, .int j => .ok (.int (i + j))
  | .str a, .str b => if a.length + b.length ≤ sizeLine then .ok (.str (a ++ b)) else .bad
  | _, _ => .bad
def gSub : D → D → Res D
  | .int i, .int j => .ok (.int (i - j))
  | _, _ => .bad
def mulOk (i j : Int) : Bool := (decide (-(2 ^ 64) < i) && decide (i < 2 ^ 64)) || (decide (-(2 ^ 64) < j) && decide (j < 2 ^ 64)) || decide (i.natAbs.log2 + j.natAbs.log2 < 1000000)
def gMul : D → D → Res D
  | .int i, .int j => if mulOk i j then .ok (.int (i * j)) else .bad
  | _, _ => .bad
def gMod : D → D → Res D
  | .int i, .int j => if 0 < j then .ok (.int (i % j)) else .bad
  | _, _ => .bad
def gFdv : D → D → Res D
  | .int i, .int j => if 0 < j ∧ j.natAbs.log2 < 9000 then .ok (.int (i / j)) else .bad
  | _, _ => .bad
def gPow : D → D → Res D
  | .int i, .int j => if 0 ≤ j ∧ j ≤ 1000000 ∧ i.natAbs < 2 ^ 64 then .ok (.int (i ^ j.toNat)) else .bad
  | _, _ => .bad
section
variable {X : Cx}
theorem op_i {f : Value → Value → Sem Value} {C : Int → Int → Prop} {g : Int → Int → Int} {gg : D → D → Res D} (ho : OpR X f (rI C fun i j => .int (g i j)))
    (hg : ∀ x y d, gg x y = .ok d → ∃ i j, x = .int i ∧ y = .int j ∧ C i j ∧ d = .int (g i j)) : OpC X f gg := ⟨_, ho, fun x y dx dy d H Q rx ry e q => by
  obtain ⟨i, j, rfl, rfl, c, rfl⟩ := hg _ _ _ e
  cases rx
  cases ry
  exact ⟨i, j, rfl, rfl, c, q _ (.int _) rfl⟩⟩
theorem o_sub : OpC X (binaryOp .Sub) gSub := by
  refine ⟨_, op_sub, fun x y dx dy d H Q rx ry e q => ?_⟩
  unfold gSub at e
  split at e
  · cases e; cases rx; cases ry; exact ⟨_, _, rfl, rfl, q _ (.int _) rfl⟩
  · cases e
theorem o_mul : OpC X (binaryOp .Mult) gMul := by
  have h1 : OpR X (binaryOp .Mult) (fun x y H Q => (rI CMul fun i j => .int (i * j)) x y H Q ∨ (rI CMulW fun i j => .int (i * j)) x y H Q) := fun pins s σ H x y v u Q I rx ry h => h.elim (fun h => op_mul pins s σ H x y v u Q I rx ry h) fun h => op_mulW pins s σ H x y v u Q I rx ry h
  refine ⟨_, h1, fun x y dx dy d H Q rx ry e q => ?_⟩
  unfold gMul at e
  split at e
  · rename_i i j
    split at e
    · rename_i hm
      cases e; cases rx; cases ry
      unfold mulOk at hm
      rw [Bool.or_eq_true, Bool.or_eq_true, Bool.and_eq_true, Bool.and_eq_true] at hm
      simp only [decide_eq_true_eq] at hm
      rcases hm with (hm | hm) | hm
      · exact .inl ⟨_, _, rfl, rfl, .inl hm, q _ (.int _) rfl⟩
      · exact .inl ⟨_, _, rfl, rfl, .inr hm, q _ (.int _) rfl⟩
      · exact .inr ⟨_, _, rfl, rfl, hm, q _ (.int _) rfl⟩
    · cases e
  · cases e
theorem o_mod : OpC X (binaryOp .Mod) gMod := op_i op_mod fun x y d h => by
  unfold gMod at h
  split at h
  · split at h
    · rename_i hj; cases h; exact ⟨_, _, rfl, rfl, hj, rfl⟩
    · cases h
  · cases h
theorem o_fdv : OpC X (binaryOp .FloorDiv) gFdv := op_i op_fdivW fun x y d h => by
  unfold gFdv at h
  split at h
  · split at h
    · rename_i hj; cases h; exact ⟨_, _, rfl, rfl, hj, rfl⟩
    · cases h
  · cases h
theorem o_pow : OpC X (binaryOp .Pow) gPow := op_i op_pow fun x y d h => by
  unfold gPow at h
  split at h
  · split at h
    · rename_i hj; cases h; exact ⟨_, _, rfl, rfl, hj, rfl⟩
    · cases h
  · cases h
theorem o_add : OpC X (binaryOp .Add) gAdd := by
  have h1 : OpR X (binaryOp .Add) (fun x y H Q => (rI0 fun i j => .int (i + j)) x y H Q ∨ (∃ i j, x = .str i ∧ y = .str j ∧ i.length + j.length ≤ sizeLine ∧ Q (.str (i ++ j)) H)) := fun pins s σ H x y v u Q I rx ry h => h.elim (fun h => op_add pins s σ H x y v u Q I rx ry h) fun h => op_add_str pins s σ H x y v u Q I rx ry h
  refine ⟨_, h1, fun x y dx dy d H Q rx ry e q => ?_⟩
  unfold gAdd at e
  split at e
  · cases e; cases rx; cases ry
    exact .inl ⟨_, _, rfl, rfl, q _ (.int _) rfl⟩
  · split at e
    · rename_i hl
      cases e; cases rx; cases ry
      exact .inr ⟨_, _, rfl, rfl, hl, q _ (.str _) rfl⟩
    · cases e
  · cases e

/-! ### comparisons -/
def shp (d : D) : Bool := SeqAt.shaped d.py
def gEq (x y : D) : Res D := if shp x && shp y then .ok (.bl (PyData.eqv x.py y.py)) else .bad
def gNe (x y : D) : Res D := if shp x && shp y then .ok (.bl (!PyData.eqv x.py y.py)) else .bad
theorem o_eq (hu : X.A.units + 64 < cLine) : OpC X (compareOp .Eq) gEq := by
  refine ⟨_, op_eqD hu, fun x y dx dy d H Q rx ry e q => ?_⟩
  unfold gEq at e
  split at e
  · rename_i hs
    rw [Bool.and_eq_true] at hs
    cases e
    exact ⟨_, _, rx.dp (shaped_lay hs.1), ry.dp (shaped_lay hs.2), hs.1, hs.2, q _ (.bl _) rfl⟩
  · cases e
theorem o_ne (hu : X.A.units + 64 < cLine) : OpC X (compareOp .NotEq) gNe := by
  refine ⟨_, op_neD hu, fun x y dx dy d H Q rx ry e q => ?_⟩
  unfold gNe at e
  split at e
  · rename_i hs
    rw [Bool.and_eq_true] at hs
    cases e
    exact ⟨_, _, rx.dp (shaped_lay hs.1), ry.dp (shaped_lay hs.2), hs.1, hs.2, q _ (.bl _) rfl⟩
  · cases e
/-- what may be set in order -/
def ordOk (x y : D) : Bool := shp x && shp y && PySem.W.alike x.py y.py && (match x with | .non => false | _ => true) && decide (min x.py.depth y.py.depth ≤ 60)
def gLt : D → D → Res D
  | .int i, .int j => .ok (.bl (decide (i < j)))
  | x, y => if ordOk x y then .ok (.bl (PySem.W.dataLt x.py y.py)) else .bad
def gGt : D → D → Res D
  | .int i, .int j => .ok (.bl (decide (j < i)))
  | x, y => if ordOk x y then .ok (.bl (PySem.W.dataLt y.py x.py)) else .bad
def gLe : D → D → Res D
  | .int i, .int j => .ok (.bl (decide (i ≤ j)))
  | x, y => if ordOk x y then .ok (.bl (!PySem.W.dataLt y.py x.py)) else .bad
def gGe : D → D → Res D
  | .int i, .int j => .ok (.bl (decide (j ≤ i)))
  | x, y => if ordOk x y then .ok (.bl (!PySem.W.dataLt x.py y.py)) else .bad
def rOrd (K : PySem.W.Frag) (f : PyData → PyData → Bool) : R2 := fun x y H Q => ∃ d e, Dp K H x d ∧ Dp K H y e ∧ PySem.W.alike d e = true ∧ d ≠ .none ∧ min d.depth e.depth ≤ 60 ∧ Q (.bl (f d e)) H
theorem op_ord {op : CmpOp} {f : PyData → PyData → Bool} (hu : X.A.units + 64 < cLine)
    (rule : ∀ {a b : Value} {da db : PyData} {as bs : List Addr} {s : Shared} {Q : Value → Shared → Prop}, Reads s.heap a da as → Reads s.heap b db bs → PySem.W.alike da db = true → da ≠ .none → X.A.units + min da.depth db.depth < cLine → Q (.bool (f da db)) s → wpAny (model X.prog X.w) X.A (compareOp op a b) Q X.xe s) : OpR X (compareOp op) (rOrd X.K f) := by
  intro pins s σ H x y v u Q I rx ry h
  obtain ⟨d, e, hd, he, ha, hn, hm, q⟩ := h
  obtain ⟨as, r1⟩ := Dp.reads I d x v hd rx
  obtain ⟨bs, r2⟩ := Dp.reads I e y u he ry
  exact rule r1 r2 ha hn (by omega) ⟨.bl _, H, I, rfl, q⟩
theorem ord_ok {x y : D} {H : Hp} {K : PySem.W.Frag} {v u : V} (h : ordOk x y = true) (rx : Rp (view H) v x) (ry : Rp (view H) u y) : Dp K H v x.py ∧ Dp K H u y.py ∧ PySem.W.alike x.py y.py = true ∧ x.py ≠ .none ∧ min x.py.depth y.py.depth ≤ 60 := by
  unfold ordOk at h
  simp only [Bool.and_eq_true, decide_eq_true_eq] at h
  obtain ⟨⟨⟨⟨h1, h2⟩, h3⟩, h4⟩, h5⟩ := h
  refine ⟨rx.dp (shaped_lay h1), ry.dp (shaped_lay h2), h3, ?_, h5⟩
  cases x <;> simp [D.py] at h4 ⊢
theorem o_ord {op : CmpOp} {f : PyData → PyData → Bool} {p : Int → Int → Bool} {g : D → D → Res D} (h1 : OpR X (compareOp op) (rI0 fun i j => .bl (p i j))) (h2 : OpR X (compareOp op) (rOrd X.K f))
    (hg : ∀ x y d, g x y = .ok d → (∃ i j, x = .int i ∧ y = .int j ∧ d = .bl (p i j)) ∨ (ordOk x y = true ∧ d = .bl (f x.py y.py))) : OpC X (compareOp op) g := by
  have h3 : OpR X (compareOp op) (fun x y H Q => (rI0 fun i j => .bl (p i j)) x y H Q ∨ rOrd X.K f x y H Q) := fun pins s σ H x y v u Q I rx ry h => h.elim (fun h => h1 pins s σ H x y v u Q I rx ry h) fun h => h2 pins s σ H x y v u Q I rx ry h
  refine ⟨_, h3, fun x y dx dy d H Q rx ry e q => ?_⟩
  rcases hg _ _ _ e with ⟨i, j, rfl, rfl, rfl⟩ | ⟨ho, rfl⟩
  · cases rx; cases ry
    exact .inl ⟨_, _, rfl, rfl, q _ (.bl _) rfl⟩
  · obtain ⟨a1, a2, a3, a4, a5⟩ := ord_ok (K := X.K) ho rx ry
    exact .inr ⟨_, _, a1, a2, a3, a4, a5, q _ (.bl _) rfl⟩
theorem o_lt (hu : X.A.units + 64 < cLine) : OpC X (compareOp .Lt) gLt := o_ord op_lt (op_ord (f := fun d e => PySem.W.dataLt d e) hu fun r1 r2 a n u q => PySem.W.lt_data r1 r2 a n u q) fun x y d h => by
  unfold gLt at h
  split at h
  · cases h; exact .inl ⟨_, _, rfl, rfl, rfl⟩
  · split at h
    · rename_i ho; cases h; exact .inr ⟨ho, rfl⟩
    · cases h
theorem o_gt (hu : X.A.units + 64 < cLine) : OpC X (compareOp .Gt) gGt := o_ord op_gt (op_ord (f := fun d e => PySem.W.dataLt e d) hu fun r1 r2 a n u q => PySem.W.gt_data r1 r2 a n u q) fun x y d h => by
  unfold gGt at h
  split at h
  · cases h; exact .inl ⟨_, _, rfl, rfl, rfl⟩
  · split at h
    · rename_i ho; cases h; exact .inr ⟨ho, rfl⟩
    · cases h
/-- is None -/
def gIsN : D → Res D := fun d => .ok (.bl (match d with | .non => true | _ => false))
def gNotN : D → Res D := fun d => .ok (.bl (match d with | .non => false | _ => true))
variable {a b e : Expr} {ma mb m : Env → Res D} {pos : Pos} {k : Nat}
/-! ### truth -/
def gTru : D → Res Bool
  | .non => .ok false
  | .bl b => .ok b
  | .int i => .ok (i != 0)
  | .str z => if z.length ≤ sizeLine then .ok ((z.length : Int) != 0) else .bad
  | .lst xs => .ok (!xs.isEmpty)
  | .tup xs => .ok (!xs.isEmpty)
  | _ => .bad
theorem empty_len {α β : Type} {xs : List α} {ys : List β} (h : xs.length = ys.length) : (!xs.isEmpty) = !ys.isEmpty := by
  cases xs <;> cases ys <;> simp_all
theorem st_tru (ha : SB X a ma) (he : ∀ whole, isTrue a X.env whole = (do let v ← whole; standAt a.pos; holding [v] (truthy v)) := by intro _; rfl) : ST X a (fun env => ma env >>= gTru) := fun B H env σ tm d Q ok hm q => by
  obtain ⟨x, hx, hg⟩ := bind_ok hm
  refine wT_of (pt_truth pe_sem he) (ha B H env σ tm x _ ok hx fun v H1 x1 ok1 r1 => ?_)
  cases r1 with
  | non => cases hg; exact ⟨_, rfl, q H1 x1 ok1⟩
  | bl => cases hg; exact ⟨_, rfl, q H1 x1 ok1⟩
  | int => cases hg; exact ⟨_, rfl, q H1 x1 ok1⟩
  | str z =>
    unfold gTru at hg
    split at hg <;> first | cases hg | skip
    all_goals first | (rename_i e; cases e) | skip
    all_goals first | (split at hg; (rename_i hl; cases hg; exact ⟨_, ⟨hl, rfl⟩, q H1 x1 ok1⟩); cases hg) | skip
  | lst h r =>
    cases hg
    exact ⟨_, .inl ⟨_, .inl (view_rd h), (empty_len r.length).symm⟩, q H1 x1 ok1⟩
  | tup h r =>
    cases hg
    exact ⟨_, .inr (.inl ⟨_, .inl (view_rd h), (empty_len r.length).symm⟩), q H1 x1 ok1⟩
  | dk => cases hg
  | dt => cases hg
  | ob => cases hg
  | exn0 => cases hg
  | dn => cases hg
  | exn => cases hg

/-! ### subscripts -/
def gIx : D → D → Res D
  | .lst xs, .int i => match atI xs i with | some d => .ok d | none => .bad
  | .tup xs, .int i => match atI xs i with | some d => .ok d | none => .bad
  | .str z, .int i => if z.length ≤ sizeLine then (match atI z.cps.toList i with | some c => .ok (.str ⟨#[c]⟩) | none => .bad) else .bad
  | _, _ => .bad
theorem atI_rp {G : Hp} {vs : List V} {ds : List D} {i : Int} {d : D} (r : RpAll G vs ds) (h : atI ds i = some d) : ∃ v, atI vs i = some v ∧ Rp G v d := by
  unfold atI at h ⊢
  rw [r.length]
  cases e : ixN ds.length i with
  | none => rw [e] at h; cases h
  | some j =>
    rw [e] at h
    exact r.get (show ds[j]? = some d from h)
theorem sb_ix (ha : SB X a ma) (hb : SB X b mb) (hs : PlainIx b) : SB X (.Subscript a b pos) (mOp gIx ma mb) := fun B H env σ tm d Q ok hm q => by
  obtain ⟨x, y, hx, hy, hg⟩ := two hm
  refine wE_of (pe_ix ix_seq pe_sem pe_sem hs) (sb2 ha hb ok hx hy fun v u H' x' ok' r1 r2 => ?_)
  unfold gIx at hg
  split at hg
  · cases r1 with
    | lst h r =>
      cases r2
      split at hg
      · rename_i d' he
        cases hg
        obtain ⟨z, hz, rz⟩ := atI_rp r he
        exact .inl ⟨_, _, _, _, rfl, rfl, .inl (view_rd h), hz, q z H' x' ok' rz⟩
      · cases hg
  · cases r1 with
    | tup h r =>
      cases r2
      split at hg
      · rename_i d' he
        cases hg
        obtain ⟨z, hz, rz⟩ := atI_rp r he
        exact .inr (.inl ⟨_, _, _, _, rfl, rfl, .inl (view_rd h), hz, q z H' x' ok' rz⟩)
      · cases hg
  · cases r1
    cases r2
    split at hg
    · rename_i hl
      split at hg
      · rename_i c he
        cases hg
        exact .inr (.inr ⟨_, _, c, rfl, rfl, hl, he, q _ H' x' ok' (.str _)⟩)
      · cases hg
    · cases hg
  · cases hg
theorem lev_get {vs : List V} {ds : List D} {k i : Nat} {v : V} {d : D} (h1 : vs[i]? = some v) (h2 : ds[i]? = some d) : ∃ l, (lev k vs ds).Perm ((v, k, d) :: l) := by
  have : (v, k, d) ∈ lev k vs ds := by
    unfold lev
    rw [List.mem_iff_getElem?]
    exact ⟨i, by rw [List.getElem?_zipWith, h1, h2]⟩
  obtain ⟨l1, l2, e⟩ := List.append_of_mem this
  exact ⟨l1 ++ l2, by rw [e]; exact List.perm_middle⟩
theorem atI_some {α : Type} {xs : List α} {i : Int} {x : α} (h : atI xs i = some x) : ∃ j, ixN xs.length i = some j ∧ xs[j]? = some x := by
  unfold atI at h
  cases e : ixN xs.length i with
  | none => rw [e] at h; cases h
  | some j => rw [e] at h; exact ⟨j, rfl, h⟩
/-- a shared thing's item is shared -/
theorem se_ix (ha : SE X 0 [] a ma) (hb : SB X b mb) (hs : PlainIx b) : SE X 0 [] (.Subscript a b pos) (mOp gIx ma mb) := fun B H env σ tm d Q ok hm q => by
  obtain ⟨x, y, hx, hy, hg⟩ := two hm
  refine wE_of (pe_ix ix_seq pe_sem pe_sem hs) (ha B H env σ tm x _ ok hx fun v H1 x1 ok1 => hb B H1 env σ _ y _ ok1 hy fun u H2 x2 ok2 r2 => ?_)
  have fin : ∀ {ds : List D} {i : Int}, (x = .lst ds ∨ x = .tup ds) → y = .int i → atI ds i = some d → (rIx X.K) v u H2 Q := fun {ds i} hxx hyy he => by
    subst hyy
    cases r2
    obtain ⟨p, o, vs, ev, hp, hl, f1, f2, _, _, ra, ok3⟩ := ok2.items (ds := ds) (hxx.imp id .inl)
    obtain ⟨j, hj, hd⟩ := atI_some he
    obtain ⟨z, hz, rz⟩ := ra.get hd
    have hz' : atI vs i = some z := by
      unfold atI
      rw [hl, hj]
      exact hz
    obtain ⟨l, hp'⟩ := lev_get (k := 0) hz hd
    have ok4 : EnvOk B H2 env σ ((z, 0, d) :: tm) := by
      refine EnvOk.less (l := l ++ [(v, 0, x)]) (ok3.perm ((hp'.append_right _).trans ?_))
      have e : (l ++ [(v, 0, x)]) ++ (z, 0, d) :: tm = l ++ (v, 0, x) :: (z, 0, d) :: tm := by simp
      rw [e]
      have e2 : (z, 0, d) :: l ++ (v, 0, x) :: tm = (z, 0, d) :: ((l ++ [(v, 0, x)]) ++ tm) := by simp
      rw [e2]
      refine List.perm_middle.symm.trans ?_
      rw [e]
    have ext := x1.trans x2
    subst ev
    rcases hxx with e | e
    · have := f1 e
      subst this
      exact .inl ⟨_, _, _, _, rfl, rfl, .inl (view_rd hp), hz', q z H2 ext ok4⟩
    · have := f2 e
      subst this
      exact .inr (.inl ⟨_, _, _, _, rfl, rfl, .inl (view_rd hp), hz', q z H2 ext ok4⟩)
  unfold gIx at hg
  split at hg
  · split at hg
    · rename_i he; cases hg; exact fin (.inl rfl) rfl he
    · cases hg
  · split at hg
    · rename_i he; cases hg; exact fin (.inr rfl) rfl he
    · cases hg
  · split at hg
    · rename_i hl
      split at hg
      · rename_i c he
        cases hg
        have r1 := ok2.rp
        cases r1
        cases r2
        exact .inr (.inr ⟨_, _, c, rfl, rfl, hl, he, q _ H2 (x1.trans x2) (ok2.tail.imm (.str _) rfl)⟩)
      · cases hg
    · cases hg
  · cases hg
end
end Mir

namespace Mir
open PySem PySem.Spec L2

def wG (X : Cx) (tg : Expr) : TG := fun v σ H Q => ∀ (pins : List (Addr × Obj)) (s : Shared) (u : Value), Inv X pins σ H s → RelV v u → wpAny (model X.prog X.w) X.A (assign tg X.env u) (fun _ s' => ∃ σ' H', Inv X pins σ' H' s' ∧ Q σ' H') X.xe s
theorem pg_sem {X : Cx} {tg : Expr} : PG X tg (wG X tg) := ⟨fun pins s σ H v u Q I r h => h pins s u I r⟩
theorem wG_of {X : Cx} {tg : Expr} {t : TG} (h : PG X tg t) {v : V} {σ : St} {H : Hp} {Q : St → Hp → Prop} (ht : t v σ H Q) : wG X tg v σ H Q := fun pins s u I r => h.run pins s σ H v u Q I r ht
def wGs (X : Cx) (ts : List Expr) : TGs := fun vs σ H Q => ∀ (pins : List (Addr × Obj)) (s : Shared) (us : List Value), Inv X pins σ H s → Vals vs us → wpAny (model X.prog X.w) X.A (assignInOrder ((assignEach ts X.env).map (·.2)) us) (fun _ s' => ∃ σ' H', Inv X pins σ' H' s' ∧ Q σ' H') X.xe s
theorem pgs_sem {X : Cx} {tg : List Expr} : PGs X tg (wGs X tg) := ⟨fun pins s σ H v u Q I r h => h pins s u I r⟩
theorem wGs_of {X : Cx} {tg : List Expr} {t : TGs} (h : PGs X tg t) {v : List V} {σ : St} {H : Hp} {Q : St → Hp → Prop} (ht : t v σ H Q) : wGs X tg v σ H Q := fun pins s u I r => h.run pins s σ H v u Q I r ht
def wI (X : Cx) (tg it : Expr) : TI := fun σ H R => ∀ (pins : List (Addr × Obj)) (s : Shared), Inv X pins σ H s → wpAny (model X.prog X.w) X.A (eval it X.env) (fun v s1 => wpAny (model X.prog X.w) X.A (pyIter v) (PIE X pins σ tg R) X.xe s1) X.xe s
theorem pi_sem {X : Cx} {tg it : Expr} : PI X tg it (wI X tg it) := ⟨fun pins s σ H R I h => h pins s I⟩
theorem wI_of {X : Cx} {tg it : Expr} {t : TI} (h : PI X tg it t) {σ : St} {H : Hp} {R : It → Hp → Prop} (ht : t σ H R) : wI X tg it σ H R := fun pins s I => h.run pins s σ H R I ht

/-- a target: what stands in the hand goes into the slots -/
def Off (is : List Nat) (σ σ' : St) : Prop := σ'.length = σ.length ∧ ∀ j, j ∉ is → σ'[j]? = σ[j]?
def STg (X : Cx) (tg : Expr) (is : List Nat) (m : Nat → D → Env → Res Env) : Prop := ∀ (k : Nat) (B : Bs) (H : Hp) (env : Env) (σ : St) (tm : List Hold) (d : D) (v : V) (env' : Env) (Q : St → Hp → Prop), EnvOk B H env σ ((v, k, d) :: tm) → m k d env = .ok env' →
  (∀ σ', Off is σ σ' → EnvOk B H env' σ' tm → Q σ' H) → wG X tg v σ H Q
def STgs (X : Cx) (ts : List Expr) (is : List Nat) (m : Nat → List D → Env → Res Env) : Prop := ∀ (k : Nat) (B : Bs) (H : Hp) (env : Env) (σ : St) (tm : List Hold) (ds : List D) (vs : List V) (env' : Env) (Q : St → Hp → Prop), vs.length = ds.length → EnvOk B H env σ (lev k vs ds ++ tm) → m k ds env = .ok env' →
  (∀ σ', Off is σ σ' → EnvOk B H env' σ' tm → Q σ' H) → wGs X ts vs σ H Q
def tName (i : Nat) : Nat → D → Env → Res Env := fun k d env => if i < env.length then .ok (env.set i (some (k, d))) else .bad
theorem tg_name {X : Cx} {tg : Expr} {i : Nat} (h : PG X tg (gName i)) : STg X tg [i] (tName i) := fun k B H env σ tm d v env' Q ok hm q => by
  unfold tName at hm
  split at hm
  · rename_i hi
    cases hm
    exact wG_of h (q _ ⟨by simp, fun j hj => by rw [List.getElem?_set_ne (fun z => hj (by simp [z]))]⟩ (ok.store hi))
  · cases hm
def tNil : Nat → List D → Env → Res Env := fun _ ds env => match ds with
  | [] => .ok env
  | _ => .bad
def tCons (t : Nat → D → Env → Res Env) (u : Nat → List D → Env → Res Env) : Nat → List D → Env → Res Env := fun k ds env => match ds with
  | d :: r => t k d env >>= fun e => u k r e
  | _ => .bad
section
variable {X : Cx} {e a b tg it : Expr} {m ma mb : Env → Res D} {k : Nat} {cs : List Nat} {pos : Pos}
theorem tgs_nil : STgs X [] [] tNil := fun k B H env σ tm ds vs env' Q hl ok hm q => by
  unfold tNil at hm
  split at hm
  · cases hm
    have : vs = [] := List.length_eq_zero_iff.mp hl
    subst this
    exact wGs_of pgs_nil ⟨rfl, q σ ⟨rfl, fun _ _ => rfl⟩ ok⟩
  · cases hm
theorem tgs_cons {es : List Expr} {t : Nat → D → Env → Res Env} {u : Nat → List D → Env → Res Env} {is js : List Nat} (h1 : STg X e is t) (h2 : STgs X es js u)
    (hs : (assignEach (e :: es) X.env).map (·.2) = assign e X.env :: (assignEach es X.env).map (·.2) := by rfl) : STgs X (e :: es) (is ++ js) (tCons t u) := fun k B H env σ tm ds vs env' Q hl ok hm q => by
  unfold tCons at hm
  split at hm
  · rename_i d r
    obtain ⟨e1, h3, h4⟩ := bind_ok hm
    cases vs with
    | nil => simp at hl
    | cons v vr =>
      have ok' : EnvOk B H env σ ((v, k, d) :: (lev k vr r ++ tm)) := ok
      exact wGs_of (pgs_cons pg_sem pgs_sem hs) ⟨v, vr, rfl, h1 k B H env σ _ d v e1 _ ok' h3 fun σ' o1 ok2 => h2 k B H e1 σ' tm r vr env' Q (by simpa using hl) ok2 h4 fun σ2 o2 ok3 => q σ2 ⟨o2.1.trans o1.1, fun j hj => (o2.2 j fun z => hj (List.mem_append_right _ z)).trans (o1.2 j fun z => hj (List.mem_append_left _ z))⟩ ok3⟩
  · cases hm
/-- a tuple, taken apart -/
def tTupT (n : Nat) (u : Nat → List D → Env → Res Env) : Nat → D → Env → Res Env := fun k d env => match d with
  | .tup ds => if ds.length = n then u (k - 1) ds env else .bad
  | _ => .bad
theorem EnvOk.opTup {B : Bs} {H : Hp} {env : Env} {σ : St} {tm : List Hold} {v : V} {ds : List D} (h : EnvOk B H env σ ((v, k, .tup ds) :: tm)) : ∃ p vs, v = .ref p ∧ view H p = some (.tup vs) ∧ vs.length = ds.length ∧ EnvOk B H env σ (lev (k - 1) vs ds ++ tm) := by
  have h2 := h.len
  have h3 := h.has
  obtain ⟨G, f, g, hg, hf, hr, nd, hq⟩ := EnvOk.apart (l := [(v, k, D.tup ds)]) h
  cases hf with
  | @cons _ _ _ _ f1 g1 h1 hn =>
    cases hn
    rw [List.append_nil] at nd hq
    cases h1 with
    | sh hz r =>
      cases r with
      | @tup a0 vs0 _ e ra =>
        refine ⟨_, _, rfl, hg.gs _ _ e, ra.length, ?_⟩
        have hv : HoldAll G H (lev (k - 1) vs0 ds) [] := by
          have hz' : k - 1 = 0 ∨ immAll ds = true := hz.imp (fun z => by omega) fun z => by simpa [D.imm] using z
          clear hz hq nd e h
          induction ra using RpAll.rec (motive_1 := fun _ _ _ => True) with
          | nil => exact .nil
          | @cons v' vs' d' ds' hr' _ _ ih =>
            have a1 : k - 1 = 0 ∨ d'.imm = true := hz'.imp id fun z => by rw [immAll, Bool.and_eq_true] at z; exact z.1
            have a2 : k - 1 = 0 ∨ immAll ds' = true := hz'.imp id fun z => by rw [immAll, Bool.and_eq_true] at z; exact z.2
            exact HoldAll.cons (f := []) (g := []) (.sh a1 hr') (ih a2)
          | _ => trivial
        exact EnvOk.join h2 h3 hg hv hr nd hq
    | @tup k' a vs _ _ e ra =>
      refine ⟨_, vs, rfl, by unfold view; rw [e]; rfl, ?_, ?_⟩
      · have len : ∀ {k : Nat} {f : List Addr} {vs : List V} {ds : List D}, OdAll G H k f vs ds → vs.length = ds.length := fun {k f vs ds} r => by
          induction vs generalizing ds f with
          | nil => cases r; rfl
          | cons v vs ih => cases r with | cons _ r => simp [ih r]
        exact len ra
      · have hv : HoldAll G H (lev k' vs ds ++ []) (f1 ++ []) := HoldAll.ofAll ra .nil
        rw [List.append_nil, List.append_nil] at hv
        exact EnvOk.join h2 h3 hg hv hr nd hq
theorem tg_tup {es : List Expr} {j : Nat} {n : Nat} {u : Nat → List D → Env → Res Env} {is : List Nat} (hc : X.calm = true) (h : STgs X es is u) (hn : (assignEach es X.env).length = n := by rfl) (hst : (assignEach es X.env).findIdx? (·.1) = none := by rfl) : STg X (.Tuple es j pos) is (tTupT n u) := fun k B H env σ tm d v env' Q ok hm q => by
  unfold tTupT at hm
  split at hm
  · rename_i ds
    split at hm
    · rename_i hl
      obtain ⟨p, vs, rfl, hp, hvl, ok2⟩ := ok.opTup
      exact wG_of (pg_tup hc pgs_sem hn hst) ⟨p, vs, rfl, .inl (view_rd hp), hvl.trans hl, h (k - 1) B H env σ tm ds vs env' Q hvl ok2 hm q⟩
    · cases hm
  · cases hm

/-! ### statements -/
def Post (kr : Nat) (B : Bs) (tm : List Hold) (D : Ends) : Ctl → Prop
  | .nx e => ∀ σ' H', EnvOk B H' e σ' tm → D.nx σ' H'
  | .bk e => ∀ σ' H', EnvOk B H' e σ' tm → D.bk σ' H'
  | .ct e => ∀ σ' H', EnvOk B H' e σ' tm → D.ct σ' H'
  | .rt d => ∀ v H', EnvOk B H' [] [] ((v, kr, d) :: tm) → D.rt v H'
def S1 (X : Cx) (kr : Nat) (st : Stmt) (m : Env → Res Ctl) : Prop := ∀ (B : Bs) (H : Hp) (env : Env) (σ : St) (tm : List Hold) (D : Ends) (r : Ctl), EnvOk B H env σ tm → m env = .ok r → Post kr B tm D r → wS X st D σ H
def SS (X : Cx) (kr : Nat) (ss : List Stmt) (m : Env → Res Ctl) : Prop := ∀ (B : Bs) (H : Hp) (env : Env) (σ : St) (tm : List Hold) (D : Ends) (r : Ctl), EnvOk B H env σ tm → m env = .ok r → Post kr B tm D r → wB X ss D σ H
variable {kr : Nat} {st : Stmt} {ss : List Stmt} {m1 m2 : Env → Res Ctl}
def mSkip : Env → Res Ctl := fun env => .ok (.nx env)
def mSeq (m n : Env → Res Ctl) : Env → Res Ctl := fun env => m env >>= fun c => match c with
  | .nx e => n e
  | c => .ok c
theorem ss_nil : SS X kr [] mSkip := fun B H env σ tm D r ok hm p => by
  cases hm
  exact wB_of pss_nil (p σ H ok)
theorem ss_cons (h1 : S1 X kr st m1) (h2 : SS X kr ss m2) : SS X kr (st :: ss) (mSeq m1 m2) := fun B H env σ tm D r ok hm p => by
  obtain ⟨c, hc, hd⟩ := bind_ok hm
  refine wB_of (pss_cons ps_sem pss_sem) (h1 B H env σ tm { D with nx := wB X ss D } c ok hc ?_)
  cases c with
  | nx e => exact fun σ' H' ok' => h2 B H' e σ' tm D r ok' hd p
  | bk e => cases hd; exact p
  | ct e => cases hd; exact p
  | rt d => cases hd; exact p
theorem ss_one (h1 : S1 X kr st m1) : SS X kr [st] m1 := fun B H env σ tm D r ok hm p => wB_of (pss_one ps_sem) (h1 B H env σ tm D r ok hm p)
/-- something is forgotten ahead of a block -/
def mForget (is : List Nat) (m : Env → Res Ctl) : Env → Res Ctl := fun env => m (clear env is)
/-- a slot is shared from here on -/
def fz (i : Nat) (env : Env) : Env := match env[i]? with
  | some (some (_, d)) => env.set i (some (0, d))
  | _ => env
theorem EnvOk.fz {B : Bs} {H : Hp} {env : Env} {σ : St} {tm : List Hold} (h : EnvOk B H env σ tm) (i : Nat) : EnvOk B H (fz i env) σ tm := by
  unfold Mir.fz
  split
  · rename_i k d e
    obtain ⟨v, hv⟩ := h.has i _ e
    have hi : i < env.length := (List.getElem?_eq_some_iff.mp e).1
    have h1 := ((h.move e hv).freeze).store (i := i) (by simpa using hi)
    rw [List.set_set, set_self hv] at h1
    exact h1
  · exact h
def mFz (i : Nat) (m : Env → Res Ctl) : Env → Res Ctl := fun env => m (fz i env)
theorem ss_fz {i : Nat} (h : SS X kr ss m1) : SS X kr ss (mFz i m1) := fun B H env σ tm D r ok hm p => h B H _ σ tm D r (ok.fz i) hm p
theorem s1_fz {i : Nat} (h : S1 X kr st m1) : S1 X kr st (mFz i m1) := fun B H env σ tm D r ok hm p => h B H _ σ tm D r (ok.fz i) hm p

def mSet (i k : Nat) (cs : List Nat) (m : Env → Res D) : Env → Res Ctl := fun env => m env >>= fun d => tName i k d (clear env cs) >>= fun e => .ok (.nx e)
theorem s_set {i : Nat} {x : Str} {pos' : Pos} (hN : X.N.Nodup) (hi : X.N[i]? = some x) (hx : Loc X.env.scope x) (he : SE X k cs e m) (hs : swapsWith e (some (.Name x pos')) pos.line X.env = pure false := by rfl)
    (hf : X.fn x = true ∨ X.env.scope.names.lookup x = some .local := by first | exact .inl rfl | exact .inr rfl | assumption) : S1 X kr (.Assign [.Name x pos'] e pos) (mSet i k cs m) := fun B H env σ tm D r ok hm p => by
  obtain ⟨d, hd, h2⟩ := bind_ok hm
  obtain ⟨e', h3, h4⟩ := bind_ok h2
  cases h4
  unfold tName at h3
  split at h3
  · rename_i hl
    cases h3
    exact wS_of (ps_set hN hi hx pe_sem hs hf) (he B H env σ tm d _ ok hd fun v H' x' ok' => p _ _ (ok'.store hl))
  · cases h3
/-- any target -/
def mAsg (t : Nat → D → Env → Res Env) (k : Nat) (cs : List Nat) (m : Env → Res D) : Env → Res Ctl := fun env => m env >>= fun d => t k d (clear env cs) >>= fun e => .ok (.nx e)
theorem s_asg {t : Nat → D → Env → Res Env} {is : List Nat} (hg : STg X tg is t) (he : SE X k cs e m) (hs : swapsWithSole [tg] e pos.line X.env = pure false := by rfl) (hw : swappedStores [tg] e X.env = pure none := by rfl)
    (h1 : (assignEach [tg] X.env).map (·.2) = [assign tg X.env] := by rfl) : S1 X kr (.Assign [tg] e pos) (mAsg t k cs m) := fun B H env σ tm D r ok hm p => by
  obtain ⟨d, hd, h2⟩ := bind_ok hm
  obtain ⟨e', h3, h4⟩ := bind_ok h2
  cases h4
  exact wS_of (ps_asg pe_sem pg_sem hs hw h1) (he B H env σ tm d _ ok hd fun v H' x' ok' => hg k B H' _ σ tm d v e' _ ok' h3 fun σ2 _ ok2 => p σ2 H' ok2)
theorem EnvOk.noSlots {B : Bs} {H : Hp} {env : Env} {σ : St} {tm : List Hold} (h : EnvOk B H env σ tm) : EnvOk B H [] [] tm := by
  obtain ⟨⟨G, fp, g, hs, nd, hp⟩, h2, h3⟩ := h
  have h' : EnvOk B H [] [] (slots env σ ++ tm) := ⟨⟨G, fp, g, hs, nd, hp⟩, rfl, fun i kd e => by simp at e⟩
  exact h'.less
def mRet (m : Env → Res D) : Env → Res Ctl := fun env => m env >>= fun d => .ok (.rt d)
theorem s_ret (he : SE X kr cs e m) : S1 X kr (.Return (some e) pos) (mRet m) := fun B H env σ tm D r ok hm p => by
  obtain ⟨d, hd, h2⟩ := bind_ok hm
  cases h2
  exact wS_of (ps_ret pe_sem) (he B H env σ tm d _ ok hd fun v H' x' ok' => p v H' ok'.noSlots)
theorem s_if {c : Expr} {as bs : List Stmt} {t : Env → Res Bool} (hc : ST X c t) (ha : SS X kr as m1) (hb : SS X kr bs m2) : S1 X kr (.If c as bs pos) (mIf t m1 m2) := fun B H env σ tm D r ok hm p => by
  obtain ⟨b, hb', h2⟩ := bind_ok hm
  refine wS_of (ps_if pt_sem pss_sem pss_sem) (hc B H env σ tm b _ ok hb' fun H' x' ok' => ?_)
  cases b with
  | true => rw [if_pos rfl] at h2 ⊢; exact ha B H' env σ tm D r ok' h2 p
  | false => exact hb B H' env σ tm D r ok' h2 p
/-- what the proof never comes to -/
def mNo {α : Type} : Env → Res α := fun _ => .bad
theorem s_no : S1 X kr st mNo := fun B H env σ tm D r ok hm p => by cases hm
/-! ### for -/
/-- what an iterator gives, while what it leans on is held -/
def Yields (B : Bs) (J : It) (ex : List Hold) (ds : List D) : Prop := ∀ (i : Nat) (H : Hp) (env : Env) (σ : St) (tm : List Hold), EnvOk B H env σ (ex ++ tm) → (i = ds.length → J.stop i H) ∧ (i < ds.length → J.go i H ∧
  ∀ x H', J.yld i H x H' → ∃ d, ds[i]? = some d ∧ Ext H H' ∧ EnvOk B H' env σ ((x, 0, d) :: (ex ++ tm)))
def SI (X : Cx) (tg it : Expr) (m : Env → Res (List D)) : Prop := ∀ (B : Bs) (H : Hp) (env : Env) (σ : St) (tm : List Hold) (ds : List D) (R : It → Hp → Prop), EnvOk B H env σ tm → m env = .ok ds →
  (∀ J H' ex, Ext H H' → EnvOk B H' env σ (ex ++ tm) → Yields B J ex ds → R J H') → wI X tg it σ H R
def loop (t : Nat → D → Env → Res Env) (body : Env → Res Ctl) (fg : List Nat) : List D → Env → Res Ctl
  | [], env => .ok (.nx env)
  | x :: xs, env => t 0 x env >>= fun e1 => body e1 >>= fun c => match c with
    | .nx e => loop t body fg xs (clear e fg)
    | .ct e => loop t body fg xs (clear e fg)
    | .bk e => .ok (.nx (clear e fg))
    | .rt d => .ok (.rt d)
def mFor (m : Env → Res (List D)) (t : Nat → D → Env → Res Env) (body : Env → Res Ctl) (fg : List Nat) : Env → Res Ctl := fun env => m env >>= fun ds => loop t body fg ds env
theorem s_for {body : List Stmt} {mi : Env → Res (List D)} {t : Nat → D → Env → Res Env} {fg : List Nat} (hp : PassesOwn (model X.prog X.w) X.A X.env X.xe) (hc : X.calm = true) (hi : SI X tg it mi) {is : List Nat} (hg : STg X tg is t) (hb : SS X kr body m1)
    (hs : ∀ x, foldedSetIterable it X.env x = pure x := by intro _; rfl) : S1 X kr (.For tg it body [] pos) (mFor mi t m1 fg) := fun B H env σ tm D r ok hm p => by
  obtain ⟨ds, hd, hl⟩ := bind_ok hm
  refine wS_of (ps_for hp hc pi_sem pg_sem pss_sem hs) (hi B H env σ tm ds _ ok hd fun J H1 ex x1 ok1 Y => ?_)
  refine ⟨fun i m σ H => m = ds.length - i ∧ i ≤ ds.length ∧ ∃ env, EnvOk B H env σ (ex ++ tm) ∧ loop t m1 fg (ds.drop i) env = .ok r, ⟨ds.length, by simp, Nat.zero_le _, env, ok1, by simpa using hl⟩, ?_⟩
  rintro i n σ2 H2 ⟨rfl, hi2, env2, ok2, hr⟩
  obtain ⟨y1, y2⟩ := Y i H2 env2 σ2 tm ok2
  by_cases hlt : i < ds.length
  · obtain ⟨go, yl⟩ := y2 hlt
    refine .inr ⟨go, fun σ' H' => i + 1 ≤ ds.length ∧ ∃ env, EnvOk B H' env σ' (ex ++ tm) ∧ loop t m1 fg (ds.drop (i + 1)) env = .ok r, fun σ' H' ⟨h1, h2⟩ => ⟨ds.length - (i + 1), by omega, rfl, h1, h2⟩, fun x H3 hy => ?_⟩
    obtain ⟨d, hd2, x3, ok3⟩ := yl x H3 hy
    have hdr : ds.drop i = d :: ds.drop (i + 1) := by
      obtain ⟨h1, h2⟩ := List.getElem?_eq_some_iff.mp hd2
      rw [← h2]
      exact List.drop_eq_getElem_cons h1
    rw [hdr] at hr
    obtain ⟨e1, h3, h4⟩ := bind_ok hr
    obtain ⟨c, h5, h6⟩ := bind_ok h4
    refine hg 0 B H3 env2 σ2 (ex ++ tm) d x e1 _ ok3 h3 fun σ4 _ ok4 => ?_
    refine hb B H3 e1 σ4 (ex ++ tm) _ c ok4 h5 ?_
    cases c with
    | nx e => exact fun σ5 H5 ok5 => ⟨hlt, _, ok5.clear fg, h6⟩
    | ct e => exact fun σ5 H5 ok5 => ⟨hlt, _, ok5.clear fg, h6⟩
    | bk e =>
      cases h6
      exact fun σ5 H5 ok5 => p σ5 H5 ((ok5.clear fg).less)
    | rt d' =>
      cases h6
      refine fun v H5 ok5 => p v H5 (EnvOk.less (l := ex) (ok5.perm ?_))
      exact List.perm_middle.symm
  · have ei : i = ds.length := by omega
    refine .inl ⟨y1 ei, ?_⟩
    rw [ei, List.drop_length] at hr
    cases hr
    exact p σ2 H2 ok2.less

/-! ### iterators -/
def items : D → Res (List D)
  | .lst xs => .ok xs
  | .tup xs => .ok xs
  | _ => .bad
def itemsL : D → Res (List D)
  | .lst xs => .ok xs
  | _ => .bad
def itemsT : D → Res (List D)
  | .tup xs => .ok xs
  | _ => .bad
theorem EnvOk.item {B : Bs} {H : Hp} {env : Env} {σ : St} {tm : List Hold} {v x : V} {d y : D} {ds : List D} {vs : List V} {p : Addr} {i : Nat} (h : EnvOk B H env σ ((v, 0, d) :: tm)) (hd : d = .lst ds ∨ d = .tup ds) (ev : v = .ref p) (hp : view H p = some (.lst vs) ∨ view H p = some (.tup vs)) (hx : vs[i]? = some x) (hy : ds[i]? = some y) :
    EnvOk B H env σ ((x, 0, y) :: (v, 0, d) :: tm) := by
  obtain ⟨q, o, ws, ev', hq, hl, f1, f2, _, _, ra, ok⟩ := h.items (ds := ds) (hd.imp id .inl)
  rw [ev] at ev'
  cases ev'
  have ew : ws = vs := by
    rcases hd with rfl | rfl
    · rw [f1 rfl] at hq
      rcases hp with hp | hp <;> rw [hq] at hp <;> cases hp
      rfl
    · rw [f2 rfl] at hq
      rcases hp with hp | hp <;> rw [hq] at hp <;> cases hp
      rfl
  subst ew
  obtain ⟨l, hp'⟩ := lev_get (k := 0) hx hy
  refine EnvOk.less (l := l) (ok.perm ((hp'.append_right _).trans ?_))
  exact (List.perm_middle (l₁ := l) (a := (x, 0, y)) (l₂ := (v, 0, d) :: tm)).symm
theorem si_list (he : SE X 0 [] it m) : SI X tg it (fun env => m env >>= itemsL) := fun B H env σ tm ds R ok hm q => by
  obtain ⟨d, hd, h2⟩ := bind_ok hm
  unfold itemsL at h2
  split at h2
  · rename_i xs
    cases h2
    refine wI_of (pi_list pe_sem) (he B H env σ tm _ _ ok hd fun v H1 x1 ok1 => ?_)
    have r := ok1.rp
    cases r with
    | @lst a vs _ hv ra =>
      refine ⟨a, rfl, ⟨_, .inl (view_rd hv)⟩, q _ H1 [(.ref a, 0, .lst ds)] x1 ok1 fun i H2 env2 σ2 tm2 ok2 => ?_⟩
      have r2 := EnvOk.rp ok2
      cases r2 with
      | @lst _ ws _ hw rb =>
        have hs : SqL X.K H2 a ws := .inl (view_rd hw)
        refine ⟨fun ei => ⟨ws, hs, by have := rb.length; omega⟩, fun hi => ?_⟩
        obtain ⟨x, hx, rx⟩ := rb.get (List.getElem?_eq_getElem hi)
        refine ⟨⟨ws, x, hs, hx⟩, fun y H3 hy => ?_⟩
        obtain ⟨rfl, hy⟩ := hy
        have ey : y = x := Option.some.inj ((hy ws hs).symm.trans hx)
        subst ey
        exact ⟨_, List.getElem?_eq_getElem hi, Ext.refl _, EnvOk.item ok2 (.inl rfl) rfl (.inl hw) hx (List.getElem?_eq_getElem hi)⟩
  · cases h2
theorem si_tup (he : SE X 0 [] it m) : SI X tg it (fun env => m env >>= itemsT) := fun B H env σ tm ds R ok hm q => by
  obtain ⟨d, hd, h2⟩ := bind_ok hm
  unfold itemsT at h2
  split at h2
  · rename_i xs
    cases h2
    refine wI_of (pi_tup pe_sem) (he B H env σ tm _ _ ok hd fun v H1 x1 ok1 => ?_)
    have r := ok1.rp
    cases r with
    | @tup a vs _ hv ra =>
      refine ⟨a, rfl, ⟨_, .inl (view_rd hv)⟩, q _ H1 [(.ref a, 0, .tup ds)] x1 ok1 fun i H2 env2 σ2 tm2 ok2 => ?_⟩
      have r2 := EnvOk.rp ok2
      cases r2 with
      | @tup _ ws _ hw rb =>
        have hs : SqT X.K H2 a ws := .inl (view_rd hw)
        refine ⟨fun ei => ⟨ws, hs, by have := rb.length; omega⟩, fun hi => ?_⟩
        obtain ⟨x, hx, rx⟩ := rb.get (List.getElem?_eq_getElem hi)
        refine ⟨⟨ws, x, hs, hx⟩, fun y H3 hy => ?_⟩
        obtain ⟨rfl, hy⟩ := hy
        have ey : y = x := Option.some.inj ((hy ws hs).symm.trans hx)
        subst ey
        exact ⟨_, List.getElem?_eq_getElem hi, Ext.refl _, EnvOk.item ok2 (.inr rfl) rfl (.inr hw) hx (List.getElem?_eq_getElem hi)⟩
  · cases h2
def intsD (lo : Int) (n : Nat) : List D := (List.range n).map fun i => .int (lo + (i : Nat))
def rangeOk (i : Int) : Bool := decide (-(2 ^ 62) ≤ i) && decide (i < 2 ^ 62)
def gRng1 : D → Res (List D)
  | .int j => if rangeOk j then .ok (intsD 0 j.toNat) else .bad
  | _ => .bad
def gRng2 : D → D → Res (List D)
  | .int i, .int j => if rangeOk i && rangeOk j then .ok (intsD i (j - i).toNat) else .bad
  | _, _ => .bad
theorem rangeOk_iff {i : Int} : rangeOk i = true ↔ -(2 ^ 62) ≤ i ∧ i < 2 ^ 62 := by
  unfold rangeOk
  rw [Bool.and_eq_true, decide_eq_true_eq, decide_eq_true_eq]
theorem yields_range {B : Bs} {lo : Int} {n : Nat} : Yields B (Itr lo n) [] (intsD lo n) := fun i H env σ tm ok => by
  have hl : (intsD lo n).length = n := by unfold intsD; simp
  rw [hl]
  refine ⟨fun e => Nat.le_of_eq e.symm, fun hi => ⟨hi, fun x H' hy => ?_⟩⟩
  obtain ⟨rfl, rfl⟩ := hy
  refine ⟨.int (lo + i), ?_, Ext.refl _, ok.imm (.int _) rfl⟩
  unfold intsD
  rw [List.getElem?_map, List.getElem?_range hi]
  rfl
theorem si_range1 {p : Pos} (hg : Gl X "range") (hm : X.mg "range" = none) (ha : SB X a ma) (hs : starEach [a] X.env = [(false, eval a X.env)] := by rfl) : SI X tg (.Call (.Name "range" p) [a] [] pos) (fun env => ma env >>= gRng1) := fun B H env σ tm ds R ok hm' q => by
  obtain ⟨d, hd, h2⟩ := bind_ok hm'
  unfold gRng1 at h2
  split at h2
  · split at h2
    · rename_i hr
      cases h2
      obtain ⟨r1, r2⟩ := rangeOk_iff.mp hr
      refine wI_of (pi_range1 hg hm (pa_cons pe_sem pa_nil (by rw [hs]; rfl)) hs) (ha B H env σ tm _ _ ok hd fun v H1 x1 ok1 rv => ?_)
      cases rv
      exact ⟨_, rfl, r1, r2, q _ H1 [] x1 ok1 yields_range⟩
    · cases h2
  · cases h2
theorem si_range2 {p : Pos} (hg : Gl X "range") (hm : X.mg "range" = none) (ha : SB X a ma) (hb : SB X b mb) (hs : starEach [a, b] X.env = [(false, eval a X.env), (false, eval b X.env)] := by rfl) (hs2 : starEach [b] X.env = [(false, eval b X.env)] := by rfl) :
    SI X tg (.Call (.Name "range" p) [a, b] [] pos) (fun env => ma env >>= fun x => mb env >>= fun y => gRng2 x y) := fun B H env σ tm ds R ok hm' q => by
  obtain ⟨d, hd, h2⟩ := bind_ok hm'
  obtain ⟨d2, hd2, h2⟩ := bind_ok h2
  unfold gRng2 at h2
  split at h2
  · split at h2
    · rename_i hr
      cases h2
      rw [Bool.and_eq_true] at hr
      obtain ⟨r1, r2⟩ := rangeOk_iff.mp hr.1
      obtain ⟨r3, r4⟩ := rangeOk_iff.mp hr.2
      refine wI_of (pi_range2 hg hm (pa_cons pe_sem (pa_cons pe_sem pa_nil (by rw [hs2]; rfl)) (by rw [hs, hs2])) hs hs2) (ha B H env σ tm _ _ ok hd fun v H1 x1 ok1 rv => hb B H1 env σ tm _ _ ok1 hd2 fun u H2 x2 ok2 ru => ?_)
      cases rv
      cases ru
      exact ⟨_, _, rfl, ⟨r1, r2, r3, r4⟩, q _ H2 [] (x1.trans x2) ok2 yields_range⟩
    · cases h2
  · cases h2
end
end Mir

namespace Mir
open PySem PySem.Spec L2

theorem slots_cong : ∀ {env : Env} {σ σ' : St}, σ'.length = σ.length → (∀ (j : Nat) kd, env[j]? = some (some kd) → σ'[j]? = σ[j]?) → slots env σ' = slots env σ
  | [], σ, σ', _, _ => by cases σ <;> cases σ' <;> rfl
  | x :: e, [], [], _, _ => rfl
  | x :: e, [], _ :: _, h, _ => by simp at h
  | x :: e, _ :: _, [], h, _ => by simp at h
  | none :: e, y :: s, y' :: s', hl, h => by
    have ih := slots_cong (env := e) (σ := s) (σ' := s') (by simpa using hl) (fun j kd hj => by simpa using h (j + 1) kd (by simpa using hj))
    cases y <;> cases y' <;> exact ih
  | some kd :: e, y :: s, y' :: s', hl, h => by
    have ih := slots_cong (env := e) (σ := s) (σ' := s') (by simpa using hl) (fun j kd hj => by simpa using h (j + 1) kd (by simpa using hj))
    have e0 : y' = y := by simpa using h 0 kd rfl
    subst e0
    obtain ⟨k, d⟩ := kd
    cases y' with
    | none => exact ih
    | some v => exact congrArg (List.cons _) ih
theorem EnvOk.cong {B : Bs} {H : Hp} {env : Env} {σ σ' : St} {tm : List Hold} (h : EnvOk B H env σ tm) (hl : σ'.length = σ.length) (hs : ∀ (j : Nat) kd, env[j]? = some (some kd) → σ'[j]? = σ[j]?) : EnvOk B H env σ' tm := by
  obtain ⟨⟨G, fp, g, hh, nd, hp⟩, h2, h3⟩ := h
  exact ⟨⟨G, fp, g, by rw [slots_cong hl hs]; exact hh, nd, hp⟩, h2.trans hl.symm, fun i kd e => by rw [hs i kd e]; exact h3 i kd e⟩
theorem wipe_len : ∀ (σ : St) (vs : List Nat), (wipe σ vs).length = σ.length
  | _, [] => rfl
  | σ, v :: vs => by unfold wipe; rw [List.length_set, wipe_len σ vs]
theorem wipe_get : ∀ (σ : St) (vs : List Nat) (j : Nat), (wipe σ vs)[j]? = if j ∈ vs then (σ[j]?).map (fun _ => none) else σ[j]?
  | σ, [], j => by simp [wipe]
  | σ, v :: vs, j => by
    unfold wipe
    rw [List.getElem?_set]
    by_cases e : v = j
    · subst e
      rw [if_pos rfl, if_pos List.mem_cons_self, wipe_len]
      by_cases h : v < σ.length
      · rw [if_pos h, List.getElem?_eq_getElem h]; rfl
      · rw [if_neg h, List.getElem?_eq_none (by omega)]; rfl
    · rw [if_neg e, wipe_get σ vs j]
      have : (j ∈ v :: vs) ↔ j ∈ vs := by simp [Ne.symm e]
      by_cases h : j ∈ vs
      · rw [if_pos h, if_pos (this.mpr h)]
      · rw [if_neg h, if_neg fun z => h (this.mp z)]
theorem clear_get : ∀ (is : List Nat) (env : Env) (j : Nat), (clear env is)[j]? = if j ∈ is then (env[j]?).map (fun _ => none) else env[j]?
  | [], env, j => by simp [clear]
  | i :: is, env, j => by
    unfold clear
    rw [clear_get is, List.getElem?_set]
    by_cases e : i = j
    · subst e
      rw [if_pos rfl, if_pos List.mem_cons_self]
      by_cases h : i < env.length
      · rw [if_pos h, List.getElem?_eq_getElem h]
        split <;> rfl
      · rw [if_neg h, List.getElem?_eq_none (by omega)]
        split <;> rfl
    · rw [if_neg e]
      have : (j ∈ i :: is) ↔ j ∈ is := by simp [Ne.symm e]
      by_cases h : j ∈ is
      · rw [if_pos h, if_pos (this.mpr h)]
      · rw [if_neg h, if_neg fun z => h (this.mp z)]
/-- a target's mirror changes just its slots -/
def TgOk (is : List Nat) (t : Nat → D → Env → Res Env) : Prop := ∀ k d env env', t k d env = .ok env' → env'.length = env.length ∧ ∀ j, j ∉ is → env'[j]? = env[j]?
theorem tok_name {i : Nat} : TgOk [i] (tName i) := fun k d env env' h => by
  unfold tName at h
  split at h
  · cases h
    exact ⟨by simp, fun j hj => by rw [List.getElem?_set_ne (fun z => hj (by simp [z]))]⟩
  · cases h
theorem wipe_off {σ σ' : St} {vs is : List Nat} (o : Off is (wipe σ vs) σ') (hs : ∀ i ∈ is, i ∈ vs) : wipe σ' vs = wipe σ vs := by
  refine List.ext_getElem? fun j => ?_
  rw [wipe_get, wipe_get]
  have hl : σ'.length = σ.length := o.1.trans (wipe_len σ vs)
  by_cases h : j ∈ vs
  · rw [if_pos h, if_pos h]
    by_cases hj : j < σ.length
    · rw [List.getElem?_eq_getElem hj, List.getElem?_eq_getElem (by omega)]; rfl
    · rw [List.getElem?_eq_none (by omega), List.getElem?_eq_none (by omega)]
  · rw [if_neg h, if_neg h, o.2 j fun z => h (hs j z), wipe_get, if_neg h]

/-! ### list comprehensions -/
section
variable {X : Cx} {e a b tg it elt : Expr} {m ma mb me : Env → Res D} {k : Nat} {cs : List Nat} {pos : Pos}
def SPT (X : Cx) (ifs : List Expr) (m : Env → Res Bool) : Prop := ∀ (B : Bs) (H : Hp) (env : Env) (σ : St) (tm : List Hold) (b : Bool) (Q : Bool → Hp → Prop), EnvOk B H env σ tm → m env = .ok b → (∀ H', Ext H H' → EnvOk B H' env σ tm → Q b H') →
  ∀ (pins : List (Addr × Obj)) (s : Shared), Inv X pins σ H s → wpAny (model X.prog X.w) X.A (forIn ifs true fun c r => if r = true then do let ok ← isTrue c X.env (eval c X.env); pure (ForInStep.yield ok) else pure (ForInStep.yield r)) (TP X pins σ Q) X.xe s
theorem spt_nil : SPT X [] (fun _ => .ok true) := fun B H env σ tm b Q ok hm q pins s I => by
  cases hm
  exact pts_nil.run pins s σ H Q I (q H (Ext.refl H) ok)
theorem spt_one {c : Expr} {t : Env → Res Bool} (h : ST X c t) : SPT X [c] t := fun B H env σ tm b Q ok hm q pins s I => (pts_one pt_sem).run pins s σ H Q I (h B H env σ tm b Q ok hm q)
def lcLoop (t : Nat → D → Env → Res Env) (mt : Env → Res Bool) (me : Env → Res D) (env : Env) : List D → Res (List D)
  | [] => .ok []
  | x :: xs => t 0 x env >>= fun e1 => mt e1 >>= fun b => if b then me e1 >>= fun y => lcLoop t mt me env xs >>= fun ys => .ok (y :: ys) else lcLoop t mt me env xs
/-- the comprehension's own slots hold nothing -/
def noOwn (own : List Nat) (env : Env) : Bool := own.all fun i => match env[i]? with
  | some none => true
  | _ => false
def mLc (mi : Env → Res (List D)) (t : Nat → D → Env → Res Env) (mt : Env → Res Bool) (me : Env → Res D) (own : List Nat) : Env → Res D := fun env =>
  chk (noOwn own env) >>= fun _ => mi env >>= fun ds => lcLoop t mt me env ds >>= fun ys => if ys.length ≤ sizeLine then .ok (.lst ys) else .bad
theorem noOwn_iff {own : List Nat} {env : Env} (h : noOwn own env = true) : ∀ i ∈ own, env[i]? = some none := fun i hi => by
  unfold noOwn at h
  have := List.all_eq_true.mp h i hi
  cases q : env[i]? with
  | none => rw [q] at this; cases this
  | some x =>
    cases x with
    | none => rfl
    | some y => rw [q] at this; cases this
abbrev Blk (X : Cx) (scope : Scope) (P : Cx → Prop) : Prop := ∀ (s : Shared) (H : Hp) (C : Addr) (cl : List (Str × Addr)) (fp : List Addr), P (X.blk s H scope (compEnvC scope cl C X.env) fp)
/-- the reading of the comprehension, at its mirror -/
theorem lc_read {wi : TI} {B : Bs} {H : Hp} {env : Env} {σ : St} {tm : List Hold} {own is : List Nat} {scope : Scope} {ifs : List Expr} {mi : Env → Res (List D)} {t : Nat → D → Env → Res Env} {mt : Env → Res Bool} {d : D} {Q : VK}
    (hi : ∀ (ds : List D) (R : It → Hp → Prop), mi env = .ok ds → (∀ J H' ex, Ext H H' → EnvOk B H' env σ (ex ++ tm) → Yields B J ex ds → R J H') → wi σ H R) (hg : Blk X scope fun Y => STg Y tg is t) (htg : TgOk is t) (his : ∀ i ∈ is, i ∈ own) (ht : Blk X scope fun Y => SPT Y ifs mt) (he : Blk X scope fun Y => SE Y k [] elt me) (ok : EnvOk B H env σ tm) (hm : mLc mi t mt me own env = .ok d)
    (q : ∀ v H', Ext H H' → EnvOk B H' env σ ((v, k + 1, d) :: tm) → Q v H') :
    tLc wi (fun v σ H Q => Blk X scope fun Y => wG Y tg v σ H Q) (fun σ H Q => Blk X scope fun Y => ∀ (pins : List (Addr × Obj)) (s : Shared), Inv Y pins σ H s → wpAny (model Y.prog Y.w) Y.A (forIn ifs true fun c r => if r = true then do let ok ← isTrue c Y.env (eval c Y.env); pure (ForInStep.yield ok) else pure (ForInStep.yield r)) (TP Y pins σ Q) Y.xe s)
      (fun σ H Q => Blk X scope fun Y => wE Y elt σ H Q) own σ H Q := by
  obtain ⟨u, hc, h2⟩ := bind_ok hm
  have hno := noOwn_iff (chk_ok hc)
  obtain ⟨ds, hds, h3⟩ := bind_ok h2
  obtain ⟨ys, hys, h4⟩ := bind_ok h3
  by_cases hl : ys.length ≤ sizeLine
  · rw [if_pos hl] at h4
    cases h4
    have offOwn : ∀ (j : Nat) kd, env[j]? = some (some kd) → j ∉ own := fun j kd e z => by rw [hno j z] at e; cases e
    refine hi ds _ hds fun J H1 ex x1 ok1 Y L hD => ?_
    have ok1' : EnvOk B H1 env (wipe σ own) (ex ++ tm) := ok1.cong (wipe_len _ _) fun j kd e => by rw [wipe_get, if_neg (offOwn j kd e)]
    have ok2 : EnvOk B (upd H1 L (.lst [])) env (wipe σ own) ((.ref L, k + 1, .lst []) :: (ex ++ tm)) := EnvOk.newLst (vs := []) (ds := []) ok1' rfl hD
    refine ⟨fun i m H' => m = ds.length - i ∧ i ≤ ds.length ∧ Ext H1 (del H' L) ∧ ∃ acc rest, ys = acc ++ rest ∧ lcLoop t mt me env (ds.drop i) = .ok rest ∧ EnvOk B H' env (wipe σ own) ((.ref L, k + 1, .lst acc) :: (ex ++ tm)), ⟨ds.length, by simp, Nat.zero_le _, fun a o e => ?_, [], ys, rfl, by simpa using hys, ok2⟩, ?_⟩
    · rw [del_ne (ne_of_none e hD), upd_ne (ne_of_none e hD)]; exact e
    rintro i n H2 ⟨rfl, hi2, x2, acc, rest, ey, hr, ok3⟩
    have swp : ∀ {H : Hp} {x : Hold}, EnvOk B H env (wipe σ own) (x :: (ex ++ tm)) → EnvOk B H env (wipe σ own) (ex ++ x :: tm) := fun h => h.perm List.perm_middle.symm
    obtain ⟨y1, y2⟩ := Y i H2 env (wipe σ own) _ (swp ok3)
    by_cases hlt : i < ds.length
    · obtain ⟨go, yl⟩ := y2 hlt
      refine .inr ⟨go, fun H' => i + 1 ≤ ds.length ∧ Ext H1 (del H' L) ∧ ∃ acc rest, ys = acc ++ rest ∧ lcLoop t mt me env (ds.drop (i + 1)) = .ok rest ∧ EnvOk B H' env (wipe σ own) ((.ref L, k + 1, .lst acc) :: (ex ++ tm)), fun H' ⟨h1, h2, h3⟩ => ⟨ds.length - (i + 1), by omega, rfl, h1, h2, h3⟩, fun x H3 hy => ?_⟩
      obtain ⟨d, hd2, x3, ok4⟩ := yl x H3 hy
      have hdr : ds.drop i = d :: ds.drop (i + 1) := by
        obtain ⟨h1, h2⟩ := List.getElem?_eq_some_iff.mp hd2
        rw [← h2]
        exact List.drop_eq_getElem_cons h1
      rw [hdr] at hr
      obtain ⟨e1, g1, hr⟩ := bind_ok hr
      obtain ⟨b, g2, hr⟩ := bind_ok hr
      have xd : ∀ {Ha Hb : Hp}, Ext Ha Hb → Ext H1 (del Ha L) → Ext H1 (del Hb L) := fun {Ha Hb} p r a o e => by
        have ha : a ≠ L := ne_of_none e hD
        have := r a o e
        rw [del_ne ha] at this ⊢
        exact p a o this
      intro sX HX CX clX fpX
      refine hg sX HX CX clX fpX 0 B H3 env (wipe σ own) (ex ++ (V.ref L, k + 1, D.lst acc) :: tm) d x e1 _ ok4 g1 fun σ4 o4 ok5 => ⟨wipe_off o4 his, ?_⟩
      intro sY HY CY clY fpY pins s I
      refine ht sY HY CY clY fpY B H3 e1 σ4 (ex ++ (V.ref L, k + 1, D.lst acc) :: tm) b _ ok5 g2 (fun H5 x5 ok6 => ?_) pins s I
      -- back to the frame's env
      obtain ⟨tl, tk⟩ := htg _ _ _ _ g1
      have ec : clear e1 own = env := List.ext_getElem? fun j => by
        rw [clear_get]
        by_cases h : j ∈ own
        · rw [if_pos h, hno j h]
          have hj : j < env.length := (List.getElem?_eq_some_iff.mp (hno j h)).1
          rw [List.getElem?_eq_getElem (by omega)]; rfl
        · rw [if_neg h, tk j fun z => h (his j z)]
      have back : ∀ {H : Hp} {tm : List Hold}, EnvOk B H e1 σ4 tm → EnvOk B H env (wipe σ own) tm := fun {H tm} h => by
        have h1 := h.clear own
        rw [ec] at h1
        exact h1.cong (by rw [o4.1]) fun j kd e => (o4.2 j fun z => offOwn j kd e (his j z)).symm
      cases b with
      | false =>
        refine (show i + 1 ≤ ds.length ∧ _ from ⟨hlt, xd (x3.trans x5) x2, acc, rest, ey, hr, (back ok6).perm List.perm_middle⟩)
      | true =>
        rw [if_pos rfl] at hr ⊢
        obtain ⟨y, g3, hr⟩ := bind_ok hr
        obtain ⟨rest', g4, hr⟩ := bind_ok hr
        cases hr
        intro sZ HZ CZ clZ fpZ
        refine he sZ HZ CZ clZ fpZ B H5 e1 σ4 (ex ++ (V.ref L, k + 1, D.lst acc) :: tm) y _ ok6 g3 fun v H6 x6 ok7 => ?_
        have ok8 : EnvOk B H6 env (wipe σ own) ((V.ref L, k + 1, D.lst acc) :: (v, k, y) :: (ex ++ tm)) := by
          have h1 : EnvOk B H6 env (wipe σ own) ((v, k, y) :: (ex ++ (V.ref L, k + 1, D.lst acc) :: tm)) := back ok7
          refine h1.perm ?_
          refine (List.Perm.cons _ (List.perm_middle (l₁ := ex) (a := (V.ref L, k + 1, D.lst acc)) (l₂ := tm))).trans (List.Perm.swap _ _ _)
        obtain ⟨vs, hL, hvl, ok9⟩ := ok8.takeLst
        have ok10 : EnvOk B (del H6 L) env (wipe σ own) (lev k (vs ++ [v]) (acc ++ [y]) ++ (ex ++ tm)) := by
          rw [lev_append [v] [y] hvl, List.append_assoc]
          exact ok9
        have ok11 := ok10.newLst (p := L) (by simp [hvl]) del_self
        rw [upd_del] at ok11
        refine ⟨vs, hL, ?_, hlt, fun a o e => ?_, acc ++ [y], rest', by rw [ey, List.append_assoc]; rfl, g4, ok11⟩
        · have : acc.length + (rest'.length + 1) ≤ sizeLine := by rw [ey] at hl; simpa using hl
          omega
        · have ha : a ≠ L := ne_of_none e hD
          have := xd (x3.trans (x5.trans x6)) x2 a o e
          rw [del_ne ha] at this ⊢
          rw [upd_ne ha]; exact this
    · have ei : i = ds.length := by omega
      refine .inl ⟨y1 ei, ?_⟩
      rw [ei, List.drop_length] at hr
      cases hr
      rw [List.append_nil] at ey
      subst ey
      refine q _ _ (fun a o e => ?_) ?_
      · have e1 := x1 a o e
        have := x2 a o e1
        rw [del_ne (ne_of_none e1 hD)] at this
        exact this
      · have ok5 := ok3.cong (σ' := σ) (wipe_len _ _).symm fun j kd e => by rw [wipe_get, if_neg (offOwn j kd e)]
        exact EnvOk.less (l := ex) (ok5.perm List.perm_middle.symm)
  · rw [if_neg hl] at h4; cases h4
theorem se_lc {own is : List Nat} {scope : Scope} {ifs : List Expr} {mi : Env → Res (List D)} {t : Nat → D → Env → Res Env} {mt : Env → Res Bool} (ow : List (Str × Nat)) (hc : X.calm = true) (hN : X.N.Nodup) (ok : BlkOk X.N X.env.scope scope ow) (eo : ow.map (·.2) = own)
    (hi : SI X tg it mi) (hg : Blk X scope fun Y => STg Y tg is t) (htg : TgOk is t) (his : ∀ i ∈ is, i ∈ own) (ht : Blk X scope fun Y => SPT Y ifs mt) (he : Blk X scope fun Y => SE Y k [] elt me)
    (hs : ∀ x, foldedSetIterable it X.env x = pure x := by intro _; rfl) : SE X (k + 1) [] (.ListComp elt [⟨tg, it, ifs, 0⟩] scope pos) (mLc mi t mt me own) := fun B H env σ tm d Q ok1 hm q => by
  subst eo
  exact wE_of (pe_lc hc hN pi_sem ok (fun s H C cl fp => ⟨fun pins s' σ H' v u Q I r h => h s H C cl fp pins s' u I r⟩) (fun s H C cl fp => ⟨fun pins s' σ H' Q I h => h s H C cl fp pins s' I⟩) (fun s H C cl fp => ⟨fun pins s' σ H' Q I h => h s H C cl fp pins s' I⟩) hs) (lc_read (fun ds R h q => hi B H env σ tm ds R ok1 h q) hg htg his ht he ok1 hm q)
/-- name = [..] -/
theorem s_setLc {kr : Nat} {i : Nat} {y : Str} {py : Pos} {spos : Pos} {own is : List Nat} {scope : Scope} {ifs : List Expr} {mi : Env → Res (List D)} {t : Nat → D → Env → Res Env} {mt : Env → Res Bool} (ow : List (Str × Nat)) (hc : X.calm = true) (hN : X.N.Nodup) (hy : X.N[i]? = some y) (hyl : X.env.scope.names.lookup y = some .local)
    (hsw : swapsWith (.ListComp elt [⟨tg, it, ifs, 0⟩] scope pos) (some (.Name y py)) spos.line X.env = pure true) (ok : BlkOk X.N X.env.scope scope ow) (eo : ow.map (·.2) = own)
    (hi : SI X tg it mi) (hg : Blk X scope fun Y => STg Y tg is t) (htg : TgOk is t) (his : ∀ i ∈ is, i ∈ own) (ht : Blk X scope fun Y => SPT Y ifs mt) (he : Blk X scope fun Y => SE Y k [] elt me)
    (hs : ∀ x, foldedSetIterable it X.env x = pure x := by intro _; rfl) : S1 X kr (.Assign [.Name y py] (.ListComp elt [⟨tg, it, ifs, 0⟩] scope pos) spos) (mSet i (k + 1) [] (mLc mi t mt me own)) := fun B H env σ tm D r ok1 hm p => by
  subst eo
  obtain ⟨d, hd, h2⟩ := bind_ok hm
  obtain ⟨e', h3, h4⟩ := bind_ok h2
  cases h4
  unfold tName at h3
  split at h3
  · rename_i hl
    cases h3
    exact wS_of (ps_setLc hc hN hy hyl hsw pi_sem ok (fun s H C cl fp => ⟨fun pins s' σ H' v u Q I r h => h s H C cl fp pins s' u I r⟩) (fun s H C cl fp => ⟨fun pins s' σ H' Q I h => h s H C cl fp pins s' I⟩) (fun s H C cl fp => ⟨fun pins s' σ H' Q I h => h s H C cl fp pins s' I⟩) hs) (lc_read (fun ds R h q => hi B H env σ tm ds R ok1 h q) hg htg his ht he ok1 hd fun v H' x' ok' => p _ _ (ok'.store hl))
  · cases h3
end
end Mir

namespace Mir
open PySem PySem.Spec L2

section
variable {X : Cx}
theorem lstR {X : Cx} {pins : List (Addr × Obj)} {σ : St} {H : Hp} {s : Shared} {l : Addr} {xs : List V} (I : Inv X pins σ H s) (hH : Rd H l (.lst xs)) : xs.length ≤ sizeLine ∧ ∃ (its : List Value) (n : Nat), Vals xs its ∧ xs.length = its.length ∧ s.heap.get? l = some { cls := .type "list", data := .seq its.toArray n } := by
  obtain ⟨z, its, n, r, e⟩ := hH.ok I.hok
  exact ⟨z, its, n, r, r.length, e⟩
def rCatR : R2 := fun x y H Q => ∃ l b xs zs, x = .ref l ∧ y = .ref b ∧ Rd H l (.lst xs) ∧ Rd H b (.lst zs) ∧ xs.length + zs.length ≤ sizeLine ∧ ∀ p, H p = none → Q (.ref p) (upd H p (.lst (xs ++ zs)))
theorem op_catR : OpR X (binaryOp .Add) rCatR := by
  intro pins s σ H x y v u Q I rx ry h
  obtain ⟨l, b, xs, zs, rfl, rfl, hH, hB, hz, q⟩ := h
  cases rx
  cases ry
  obtain ⟨z, its, n, r, hl, e⟩ := lstR I hH
  obtain ⟨z2, its2, n2, r2, hl2, e2⟩ := lstR I hB
  refine PySem.P.add_list e e2 ?_ (by rw [List.size_toArray, List.size_toArray]; omega)
  have ea : its.toArray ++ its2.toArray = (its ++ its2).toArray := by simp
  rw [ea]
  exact ⟨.ref _, _, I.lnew (t' := s.toks) (r.append r2) (by rw [List.length_append]; omega), rfl, q _ I.fresh⟩
def rExtR : V → List V → Hp → VK → Prop := fun x vs H Q => ∃ l b xs zs, x = .ref l ∧ vs = [.ref b] ∧ H l = some (.lst xs) ∧ Rd H b (.lst zs) ∧ xs.length + zs.length ≤ sizeLine ∧ Q .non (upd H l (.lst (xs ++ zs)))
theorem mt_extR : MtM X "list.extend" rExtR := by
  intro pins s σ H x vs v us Q I rx rv h
  obtain ⟨l, b, xs, zs, rfl, rfl, hH, hB, hz, q⟩ := h
  cases rx
  obtain ⟨u, rfl, ru⟩ := rv.one
  cases ru
  obtain ⟨z, its, n, r, hl, e⟩ := I.lstM hH
  obtain ⟨z2, its2, n2, r2, hl2, e2⟩ := lstR I hB
  have hsz : its.toArray.size + its2.toArray.size ≤ sizeLine := by rw [List.size_toArray, List.size_toArray]; omega
  have hlong : ¬ (!its.toArray.isEmpty && Builtin.List.listTooLong (its.toArray.size + its2.toArray.size)) = true := by
    rw [notLongL hsz, Bool.and_false]
    exact Bool.false_ne_true
  refine call_meets F.slot_list_extend ⟨_, e, rfl⟩ F.entry_list_extend (F.args_list_extend_2 _ _)
    (AutoSeq1.list_extend_list_list_0 l its.toArray n b its2.toArray n2 hlong (by rw [List.size_toArray]; omega) (by omega)) ⟨e, e2, ?_⟩
  refine ⟨.non, _, I.lset (its' := its ++ its2) hH e (by simp) (r.append r2) ?_, rfl, q⟩
  rw [List.length_append]
  omega
end

/-! ### lists that are read as a whole: their items go to new lists -/
def Sel (vs : List V) (ds : List D) (ws : List V) (es : List D) : Prop := ws.length = es.length ∧ ∀ (i : Nat) w e, ws[i]? = some w → es[i]? = some e → ∃ j : Nat, vs[j]? = some w ∧ ds[j]? = some e
def Pick (k : Nat) (B : Bs) (H : Hp) (ex : List Hold) (vs : List V) (ds : List D) : Prop := ∀ (H' : Hp) (env : Env) (σ : St) (tm : List Hold), Ext H H' → EnvOk B H' env σ (ex ++ tm) → ∀ ws es, Sel vs ds ws es → EnvOk B H' env σ (lev k ws es ++ (ex ++ tm))
theorem Sel.tail {vs : List V} {ds : List D} {w : V} {e : D} {ws : List V} {es : List D} (h : Sel vs ds (w :: ws) (e :: es)) : Sel vs ds ws es := ⟨by simpa using h.1, fun i w' e' h1 h2 => h.2 (i + 1) w' e' (by simpa using h1) (by simpa using h2)⟩
theorem pick_imm {k : Nat} {B : Bs} {H : Hp} {vs : List V} {ds : List D} (r : RpAll (view H) vs ds) (hi : immAll ds = true) : Pick k B H [] vs ds := fun H' env σ tm x ok ws es => by
  have r' := x.rpAll r
  induction ws generalizing es with
  | nil => intro s; cases es with
    | nil => exact ok
    | cons => exact absurd s.1 (by simp)
  | cons w ws ih =>
    intro s
    cases es with
    | nil => exact absurd s.1 (by simp)
    | cons e es =>
      obtain ⟨j, h1, h2⟩ := s.2 0 w e rfl rfl
      obtain ⟨d, h3, h4⟩ := r'.get' h1
      rw [h2] at h3
      cases h3
      exact (ih es s.tail).imm h4 (immAll_iff.mp hi e (List.mem_of_getElem? h2))
theorem pick_sh {B : Bs} {H : Hp} {v : V} {d : D} {p : Addr} {vs : List V} {ds : List D} (hd : d = .lst ds ∨ d = .tup ds) (ev : v = .ref p) (hp : view H p = some (.lst vs) ∨ view H p = some (.tup vs)) : Pick 0 B H [(v, 0, d)] vs ds := fun H' env σ tm x ok ws es => by
  have hp' : view H' p = some (.lst vs) ∨ view H' p = some (.tup vs) := hp.imp (view_ext x _ _) (view_ext x _ _)
  induction ws generalizing es with
  | nil => intro s; cases es with
    | nil => exact ok
    | cons => exact absurd s.1 (by simp)
  | cons w ws ih =>
    intro s
    cases es with
    | nil => exact absurd s.1 (by simp)
    | cons e es =>
      obtain ⟨j, h1, h2⟩ := s.2 0 w e rfl rfl
      have h3 : EnvOk B H' env σ ((v, 0, d) :: (lev 0 ws es ++ tm)) := (ih es s.tail).perm List.perm_middle
      have h4 := EnvOk.item h3 hd ev hp' h1 h2
      refine h4.perm (List.Perm.cons _ ?_)
      exact (List.perm_middle (l₁ := lev 0 ws es) (a := (v, 0, d)) (l₂ := tm)).symm
/-- c: a list, a tuple -/
def SL (X : Cx) (k : Nat) (c : List V → HO) (e : Expr) (m : Env → Res (List D)) : Prop := ∀ (B : Bs) (H : Hp) (env : Env) (σ : St) (tm : List Hold) (ds : List D) (Q : VK), EnvOk B H env σ tm → m env = .ok ds →
  (∀ p vs H' ex, Ext H H' → view H' p = some (c vs) → vs.length = ds.length → RpAll (view H') vs ds → EnvOk B H' env σ (ex ++ tm) → Pick k B H' ex vs ds → Q (.ref p) H') → wE X e σ H Q
section
variable {X : Cx} {e a b : Expr} {m ma mb : Env → Res D} {k : Nat} {cs : List Nat} {pos : Pos}
def immL (ds : List D) : Res (List D) := if immAll ds then .ok ds else .bad
theorem sl_imm (h : SB X e m) : SL X k .lst e (fun env => m env >>= fun d => itemsL d >>= immL) := fun B H env σ tm ds Q ok hm q => by
  obtain ⟨d, hd, h2⟩ := bind_ok hm
  obtain ⟨ds', h3, h4⟩ := bind_ok h2
  unfold itemsL at h3
  split at h3
  · cases h3
    unfold immL at h4
    split at h4
    · rename_i hi
      cases h4
      refine h B H env σ tm _ _ ok hd fun v H1 x1 ok1 r => ?_
      cases r with
      | lst hv ra => exact q _ _ H1 [] x1 hv ra.length ra ok1 (pick_imm ra hi)
    · cases h4
  · cases h3
theorem sl_sh (h : SE X 0 [] e m) : SL X 0 .lst e (fun env => m env >>= itemsL) := fun B H env σ tm ds Q ok hm q => by
  obtain ⟨d, hd, h2⟩ := bind_ok hm
  unfold itemsL at h2
  split at h2
  · cases h2
    refine h B H env σ tm _ _ ok hd fun v H1 x1 ok1 => ?_
    have r := ok1.rp
    cases r with
    | lst hv ra => exact q _ _ H1 [_] x1 hv ra.length ra ok1 (pick_sh (.inl rfl) rfl (.inl hv))
  · cases h2
/-! ### slices -/
def SO (X : Cx) (o : Option Expr) (m : Env → Res (Option Int)) : Prop := ∀ (B : Bs) (H : Hp) (env : Env) (σ : St) (tm : List Hold) (i : Option Int) (Q : Option Int → Hp → Prop), EnvOk B H env σ tm → m env = .ok i → (∀ H', Ext H H' → EnvOk B H' env σ tm → Q i H') →
  ∀ (pins : List (Addr × Obj)) (s : Shared), Inv X pins σ H s → wpAny (model X.prog X.w) X.A (evalPart o X.env) (fun u s' => ∃ o H', Inv X pins σ H' s' ∧ IsPart u o ∧ Q o H') X.xe s
def wO (X : Cx) (o : Option Expr) : TO := fun σ H Q => ∀ (pins : List (Addr × Obj)) (s : Shared), Inv X pins σ H s → wpAny (model X.prog X.w) X.A (evalPart o X.env) (fun u s' => ∃ o H', Inv X pins σ H' s' ∧ IsPart u o ∧ Q o H') X.xe s
theorem po_sem {o : Option Expr} : PO X o (wO X o) := ⟨fun pins s _ _ _ I h => h pins s I⟩
theorem so_none : SO X none (fun _ => .ok none) := fun B H env σ tm i Q ok hm q pins s I => by
  cases hm
  exact po_none.run pins s σ H Q I (q H (Ext.refl H) ok)
def toI : D → Res Int
  | .int i => .ok i
  | _ => .bad
theorem toI_ok {d : D} {i : Int} (h : toI d = .ok i) : d = .int i := by
  cases d with
  | int j => cases h; rfl
  | _ => cases h
theorem so_some (h : SB X e m) : SO X (some e) (fun env => m env >>= toI >>= fun i => .ok (some i)) := fun B H env σ tm i Q ok hm q pins s I => by
  obtain ⟨j, hj, h2⟩ := bind_ok hm
  obtain ⟨d, hd, h3⟩ := bind_ok hj
  have := toI_ok h3
  subst this
  cases h2
  refine (po_some pe_sem).run pins s σ H Q I (h B H env σ tm _ _ ok hd fun v H1 x1 ok1 r => ?_)
  cases r
  exact ⟨j, rfl, q H1 x1 ok1⟩
def cutD (xs : List D) (lo hi : Option Int) : List D := (xs.drop (HT.sIx xs.length 0 lo)).take (HT.sIx xs.length xs.length hi - HT.sIx xs.length 0 lo)
theorem sel_cut {vs : List V} {ds : List D} (hl : vs.length = ds.length) (lo hi : Option Int) : Sel vs ds (cutV vs lo hi) (cutD ds lo hi) := by
  unfold cutV cutD
  rw [hl]
  refine ⟨by simp [hl], fun i w e h1 h2 => ⟨HT.sIx ds.length 0 lo + i, ?_, ?_⟩⟩
  · rw [List.getElem?_take] at h1
    split at h1
    · rw [List.getElem?_drop] at h1; exact h1
    · cases h1
  · rw [List.getElem?_take] at h2
    split at h2
    · rw [List.getElem?_drop] at h2; exact h2
    · cases h2
def mSlice (m : Env → Res (List D)) (l u : Env → Res (Option Int)) : Env → Res D := fun env => m env >>= fun ds => l env >>= fun lo => u env >>= fun hi => .ok (.lst (cutD ds lo hi))
theorem se_slice {lo hi : Option Expr} {p2 : Pos} {ml mu : Env → Res (Option Int)} {mm : Env → Res (List D)} (h : SL X k .lst e mm) (hl : SO X lo ml) (hu : SO X hi mu) : SE X (k + 1) [] (.Subscript e (.Slice lo hi none p2) pos) (mSlice mm ml mu) := fun B H env σ tm d Q ok hm q => by
  obtain ⟨ds, hds, h2⟩ := bind_ok hm
  obtain ⟨i, hi', h3⟩ := bind_ok h2
  obtain ⟨j, hj', h4⟩ := bind_ok h3
  cases h4
  refine wE_of (pe_slice sl_list pe_sem po_sem po_sem) (h B H env σ tm ds _ ok hds fun p vs H1 ex x1 hp hl1 ra ok1 pk => ?_)
  refine hl B H1 env σ _ i _ ok1 hi' fun H2 x2 ok2 => hu B H2 env σ _ j _ ok2 hj' fun H3 x3 ok3 => ?_
  have x23 := x2.trans x3
  refine ⟨p, vs, rfl, .inl (view_rd (view_ext x23 _ _ hp)), fun l hnl => ?_⟩
  have s := sel_cut hl1 i j
  have ok4 := (pk H3 env σ tm x23 ok3 _ _ s).newLst s.1 hnl
  exact q _ _ ((x1.trans x23).trans (Ext.upd hnl)) (EnvOk.less (l := ex) (ok4.perm List.perm_middle.symm))
/-- a tuple's slice, shorter than the tuple -/
def gCutT (ds : List D) (lo hi : Option Int) : Res D := if immAll ds && !(decide (HT.sIx ds.length 0 lo = 0) && decide (HT.sIx ds.length ds.length hi = ds.length)) then .ok (.tup (cutD ds lo hi)) else .bad
theorem sc_sliceT {lo hi : Option Expr} {p2 : Pos} {ml mu : Env → Res (Option Int)} (h : SB X e m) (hl : SO X lo ml) (hu : SO X hi mu) : SC X (.Subscript e (.Slice lo hi none p2) pos) (fun env => m env >>= itemsT >>= fun ds => ml env >>= fun lo => mu env >>= fun hi => gCutT ds lo hi) := fun B H env σ tm d Q ok hm q => by
  obtain ⟨ds, hz, h2⟩ := bind_ok hm
  obtain ⟨d', hd', h5⟩ := bind_ok hz
  obtain ⟨i, hi', h3⟩ := bind_ok h2
  obtain ⟨j, hj', h4⟩ := bind_ok h3
  unfold itemsT at h5
  split at h5
  · cases h5
    unfold gCutT at h4
    split at h4
    · rename_i hc
      cases h4
      rw [Bool.and_eq_true] at hc
      obtain ⟨c1, c2⟩ := hc
      refine wE_of (pe_slice sl_tup pe_sem po_sem po_sem) (h B H env σ tm _ _ ok hd' fun v H1 x1 ok1 r => hl B H1 env σ tm i _ ok1 hi' fun H2 x2 ok2 => hu B H2 env σ tm j _ ok2 hj' fun H3 x3 ok3 => ?_)
      have x23 := x2.trans x3
      cases r with
      | @tup a vs _ hv ra =>
        have hlen := ra.length
        refine ⟨a, vs, rfl, .inl (view_rd (view_ext x23 _ _ hv)), ?_, fun l hnl => ?_⟩
        · intro ⟨z1, z2⟩
          rw [hlen] at z1 z2
          rw [decide_eq_true z1, decide_eq_true z2] at c2
          cases c2
        · have s := sel_cut hlen i j
          have hi2 : immAll (cutD ds i j) = true := immAll_iff.mpr fun x hx => immAll_iff.mp c1 x (List.mem_of_mem_drop (List.mem_of_mem_take hx))
          have ok4 := ((pick_imm (k := 0) (x23.rpAll ra) c1 H3 env σ tm (Ext.refl _) ok3 _ _ s).newTup s.1 hnl)
          have r4 := ok4.rp
          exact q _ _ ((x1.trans x23).trans (Ext.upd hnl)) (EnvOk.tail ok4) r4 (by show immAll _ = true; exact hi2)
    · cases h4
  · cases h5

/-! ### lists joined, copied -/
theorem perm_aca {α : Type} (a b c : List α) : (a ++ (b ++ c)).Perm (b ++ (a ++ c)) := by
  rw [← List.append_assoc, ← List.append_assoc]
  exact List.Perm.append_right _ List.perm_append_comm
def mCat (m n : Env → Res (List D)) : Env → Res D := fun env => m env >>= fun xs => n env >>= fun ys => if xs.length + ys.length ≤ sizeLine then .ok (.lst (xs ++ ys)) else .bad
theorem sel_refl {vs : List V} {ds : List D} (hl : vs.length = ds.length) : Sel vs ds vs ds := ⟨hl, fun i w e h1 h2 => ⟨i, h1, h2⟩⟩
theorem se_cat {mm nn : Env → Res (List D)} (ha : SL X k .lst a mm) (hb : SL X k .lst b nn) : SE X (k + 1) [] (.BinOp a .Add b pos) (mCat mm nn) := fun B H env σ tm d Q ok hm q => by
  obtain ⟨xs, hx, h2⟩ := bind_ok hm
  obtain ⟨ys, hy, h3⟩ := bind_ok h2
  split at h3
  · rename_i hl
    cases h3
    refine wE_of (pe_op op_catR pe_sem pe_sem) (ha B H env σ tm xs _ ok hx fun p vs H1 ex x1 hp hl1 ra ok1 pk => hb B H1 env σ (ex ++ tm) ys _ ok1 hy fun p2 ws H2 ex2 x2 hp2 hl2 ra2 ok2 pk2 => ?_)
    refine ⟨p, p2, vs, ws, rfl, rfl, view_rd (view_ext x2 _ _ hp), view_rd hp2, by omega, fun l hnl => ?_⟩
    have ok3 := pk2 H2 env σ _ (Ext.refl _) ok2 _ _ (sel_refl hl2)
    have ok4 : EnvOk B H2 env σ (ex ++ (lev k ws ys ++ (ex2 ++ tm))) := ok3.perm ((List.Perm.append_left _ (perm_aca _ _ _)).trans (perm_aca _ _ _))
    have ok5 := pk H2 env σ _ x2 ok4 _ _ (sel_refl hl1)
    have ok6 : EnvOk B H2 env σ (lev k (vs ++ ws) (xs ++ ys) ++ (ex ++ (ex2 ++ tm))) := by
      rw [lev_append ws ys hl1, List.append_assoc]
      exact ok5.perm (List.Perm.append_left _ (perm_aca _ _ _))
    have ok7 := ok6.newLst (by simp [hl1, hl2]) hnl
    refine q _ _ ((x1.trans x2).trans (Ext.upd hnl)) (EnvOk.less (l := ex ++ ex2) (ok7.perm ?_))
    rw [← List.append_assoc]
    exact List.perm_middle.symm
  · cases h3
/-- list(xs) -/
theorem se_list {c : List V → HO} {p : Pos} {mm : Env → Res (List D)} (hcc : c = .lst ∨ c = .tup) (hg : Gl X "list") (hm0 : X.mg "list" = none) (h : SL X k c e mm) (he : starEach [e] X.env = (false, eval e X.env) :: starEach [] X.env := by rfl) (hpl : (backTo pos (starEach [] X.env)).any (·.1) = false := by rfl) : SE X (k + 1) [] (.Call (.Name "list" p) [e] [] pos) (fun env => mm env >>= fun ds => .ok (.lst ds)) := fun B H env σ tm d Q ok hm q => by
  obtain ⟨ds, hds, h2⟩ := bind_ok hm
  cases h2
  refine wE_of (pe_callTy call_list_of hg hm0 (by decide +kernel) (pa_cons pe_sem pa_nil he) (by decide) (by decide) he hpl) (h B H env σ tm ds _ ok hds fun p vs H1 ex x1 hp hl1 ra ok1 pk => ?_)
  refine ⟨p, vs, rfl, ?_, fun l hnl => ?_⟩
  · rcases hcc with rfl | rfl
    · exact .inl (.inl (view_rd hp))
    · exact .inr (.inl (view_rd hp))
  · have ok2 := (pk H1 env σ tm (Ext.refl _) ok1 _ _ (sel_refl hl1)).newLst hl1 hnl
    exact q _ _ (x1.trans (Ext.upd hnl)) (EnvOk.less (l := ex) (ok2.perm List.perm_middle.symm))
/-- len(x) -/
def gLen : D → Res D
  | .lst xs => .ok (.int xs.length)
  | .tup xs => .ok (.int xs.length)
  | .str z => if z.length ≤ sizeLine then .ok (.int z.length) else .bad
  | _ => .bad
theorem sc_len {p : Pos} (hg : Gl X "len") (hm0 : X.mg "len" = none) (h : SB X e m) (he : starEach [e] X.env = (false, eval e X.env) :: starEach [] X.env := by rfl) (hpl : (backTo pos (starEach [] X.env)).any (·.1) = false := by rfl) : SC X (.Call (.Name "len" p) [e] [] pos) (mUn gLen m) := fun B H env σ tm d Q ok hm q => by
  obtain ⟨x, hx, h2⟩ := bind_ok hm
  refine wE_of (pe_callB call_len hg hm0 PySem.boot_len (pa_cons pe_sem pa_nil he) (by decide) (by decide) he hpl) (h B H env σ tm _ _ ok hx fun v H1 x1 ok1 r => ?_)
  cases r with
  | lst hv ra => cases h2; exact ⟨_, _, rfl, .inl ⟨_, .inl (view_rd hv), rfl⟩, by rw [ra.length]; exact q _ H1 x1 ok1 (.int _) rfl⟩
  | tup hv ra => cases h2; exact ⟨_, _, rfl, .inr ⟨_, .inl (view_rd hv), rfl⟩, by rw [ra.length]; exact q _ H1 x1 ok1 (.int _) rfl⟩
  | str z =>
    have h3 : (if z.length ≤ sizeLine then Res.ok (D.int z.length) else .bad) = .ok d := h2
    split at h3
    · rename_i hl
      cases h3
      exact ⟨_, _, rfl, ⟨hl, rfl⟩, q _ H1 x1 ok1 (.int _) rfl⟩
    · cases h3
  | _ => cases h2
end
end Mir

namespace Mir
open PySem PySem.Spec L2
open PyProof.Rows (envOfC)

/-! ### what a def promises -/
structure RetOk (kr : Nat) (G H H' : Hp) (v : V) (d : D) : Prop where
  ex : ∃ (G' : Hp) (fp : List Addr), Good ⟨H, G⟩ G' H' ∧ Od G' H' kr fp v d ∧ fp.Nodup ∧ ∀ p ∈ fp, H p = none ∧ G' p = none
def spF (kr n : Nat) (F : List D → Res D) : Sp := fun vs H Q _ => vs.length = n ∧ ∃ (G : Hp) (ds : List D) (d : D), Good ⟨H, G⟩ G H ∧ RpAll G vs ds ∧ F ds = .ok d ∧ ∀ v H', RetOk kr G H H' v d → Q v H'
/-- the mirror of a def: its body's mirror, run -/
def runD (n : Nat) (m : Env → Res Ctl) : List D → Res D := fun ds => m (ds.map (fun d => some (0, d)) ++ List.replicate (n - ds.length) none) >>= fun c => match c with
  | .rt d => .ok d
  | .nx _ => .ok .non
  | _ => .bad
theorem slots_start : ∀ (vs : List V) (ds : List D) (n : Nat), vs.length = ds.length → slots (ds.map (fun d => some (0, d)) ++ List.replicate n none) (vs.map some ++ List.replicate n none) = lev 0 vs ds
  | [], [], n, _ => by
    induction n with
    | zero => rfl
    | succ n ih => exact ih
  | v :: vs, d :: ds, n, h => congrArg (List.cons (v, 0, d)) (slots_start vs ds n (by simpa using h))
  | [], _ :: _, _, h => by simp at h
  | _ :: _, [], _, h => by simp at h
theorem hold_lev {G H : Hp} {vs : List V} {ds : List D} (r : RpAll G vs ds) : HoldAll G H (lev 0 vs ds) [] := by
  induction r using RpAll.rec (motive_1 := fun _ _ _ => True) with
  | nil => exact .nil
  | cons hr _ _ ih => exact HoldAll.cons (f := []) (g := []) (.of hr) ih
  | _ => trivial
section
variable {P : Program} {w : World} {K : PySem.W.Frag} {mg : Str → Option Value} {base : Heap}
/-- THE RULE for a def -/
theorem def_ok {x qual : Str} {st : Stmt} {f : Addr} {fd : FuncData} {N ps : List Str} {k kr : Nat} {m : Env → Res Ctl} {n : Nat} {FF : List D → Res D} (F : Fun K x qual st f fd) (S : FnScope N ps (defScope st)) (hn : ps.length = n) (hFF : FF = runD N.length m)
    (hb : ∀ (cdv : Value) (A : Around) (outer : List PySem.Env) (s : Shared) (H : Hp) (E : XK), Room k (A.deeper (envOfC qual (defScope st) s.heap.objs.size f cdv)) → SS (cxOf CX0 P w K mg base N qual (defScope st) f cdv A outer s H E).nox kr (defBody st) m) :
    FnOk P w K mg base CX0 (k + 1) f fd ps (spF kr n FF) := by
  subst hn hFF
  refine F.ok S (fun vs H Q E h => h.1) (fun cdv A outer s H vs Q E hr h => ?_)
  obtain ⟨hl, G, ds, d, hg, ra, hF, q⟩ := h
  have hlen := ra.length
  refine ⟨_, pss_sem, ?_⟩
  have hF' : (m (ds.map (fun d => some (0, d)) ++ List.replicate (N.length - ds.length) none) >>= fun c => match c with | .rt d => .ok d | .nx _ => .ok .non | _ => Res.bad) = .ok d := hF
  obtain ⟨c, hc, hd⟩ := bind_ok hF'
  have ok : EnvOk ⟨H, G⟩ H (ds.map (fun d => some (0, d)) ++ List.replicate (N.length - ds.length) none) (L2.start N vs) [] := by
    unfold L2.start
    rw [hlen]
    refine ⟨⟨G, [], hg, by rw [slots_start _ _ _ hlen, List.append_nil]; exact hold_lev ra, List.nodup_nil, fun p hp => by cases hp⟩, by simp [hlen], fun i kd e => ?_⟩
    by_cases hi : i < ds.length
    · have hv : i < (vs.map some).length := by rw [List.length_map]; omega
      rw [List.getElem?_append_left hv, List.getElem?_map, List.getElem?_eq_getElem (by omega)]
      exact ⟨_, rfl⟩
    · rw [List.getElem?_append_right (by simpa using hi), List.getElem?_replicate] at e
      split at e <;> cases e
  refine hb cdv A outer s H E hr ⟨H, G⟩ H _ _ [] _ c ok hc ?_
  have fin : ∀ {v : V} {H' : Hp} {e : Env} {σ : St}, EnvOk ⟨H, G⟩ H' e σ [(v, kr, d)] → Q v H' := fun {v H' e σ} ok' => by
    obtain ⟨⟨G', fp, g, hh, nd, hp⟩, _⟩ := ok'.noSlots
    have hh' : HoldAll G' H' [(v, kr, d)] fp := hh
    cases hh' with
    | @cons _ _ _ _ f1 g1 h1 h2 =>
      cases h2
      rw [List.append_nil] at nd hp
      exact q v H' ⟨G', f1, g, h1, nd, hp⟩
  cases c with
  | nx e =>
    cases hd
    exact fun σ' H' ok' => fin (ok'.imm (k := kr) .non rfl)
  | rt d' =>
    cases hd
    exact fun v H' ok' => fin ok'
  | bk e => cases hd
  | ct e => cases hd
end

/-! ### calls -/
mutual
/-- below the first k levels stands no list, no dict -/
def immAt : Nat → D → Bool
  | 0, d => d.imm
  | k + 1, .lst ds => immAtL k ds
  | k + 1, .tup ds => immAtL k ds
  | k + 1, .dk _ ds => immAtL k ds
  | k + 1, .dt _ ds => immAtL k ds
  | k + 1, .dn _ ds => immAtL k ds
  | _ + 1, _ => true
def immAtL : Nat → List D → Bool
  | _, [] => true
  | k, d :: ds => immAt k d && immAtL k ds
end
mutual
theorem Od.toImm {G G' H : Hp} (hT : ∀ a u, isIm u = true → G a = some u → G' a = some u) : ∀ {k : Nat} {f : List Addr} {v : V} {d : D}, Od G H k f v d → immAt k d = true → Od G' H k f v d
  | 0, _, _, _, .sh h r, e => .sh h (r.immTo hT (by simpa [immAt] using e))
  | k + 1, _, _, _, .sh h r, e => by
    rcases h with h | h
    · cases h
    · exact .sh (.inr h) (r.immTo hT h)
  | _, _, _, _, .lst h r, e => .lst h (OdAll.toImm hT r (by simpa [immAt] using e))
  | _, _, _, _, .tup h r, e => .tup h (OdAll.toImm hT r (by simpa [immAt] using e))
  | _, _, _, _, .dk h e1 r, e => .dk h e1 (OdAll.toImm hT r (by simpa [immAt] using e))
  | _, _, _, _, .dt h e1 r, e => .dt h e1 (OdAll.toImm hT r (by simpa [immAt] using e))
  | _, _, _, _, .dn h n q r, e => .dn h n (q.immTo hT (kNs_imm _)) (OdAll.toImm hT r (by simpa [immAt] using e))
theorem OdAll.toImm {G G' H : Hp} (hT : ∀ a u, isIm u = true → G a = some u → G' a = some u) : ∀ {k : Nat} {f : List Addr} {v : List V} {d : List D}, OdAll G H k f v d → immAtL k d = true → OdAll G' H k f v d
  | _, _, _, _, .nil, _ => .nil
  | _, _, _, _, .cons h r, e => by
    rw [immAtL, Bool.and_eq_true] at e
    exact .cons (Od.toImm hT h e.1) (OdAll.toImm hT r e.2)
end
theorem Good.ne {B : Bs} {G H : Hp} (g : Good B G H) {a : Addr} {u : HO} (e : G a = some u) : H a ≠ none := fun z => by
  have := g.gs a u e
  rw [view_none z] at this
  cases this
/-- what has come of a call, its arguments read -/
theorem EnvOk.retB {B : Bs} {H H' : Hp} {env : Env} {σ : St} {tm : List Hold} {kr : Nat} {v : V} {d : D} (ok : EnvOk B H env σ tm) (r : RetOk kr (view H) H H' v d) (hi : immAt kr d = true) : Ext H H' ∧ EnvOk B H' env σ ((v, kr, d) :: tm) := by
  obtain ⟨G', f, g, od, nd, hf⟩ := r.ex
  have x : Ext H H' := g.bs
  refine ⟨x, ?_⟩
  refine ok.grow x ok.bnone [(v, kr, d)] fun G1 g1 => ?_
  refine ⟨fun a => if H a = none then G' a else G1 a, f, fun a u e => ?_, fun a e => if_neg e, ⟨fun a o e => x a o (g1.bs a o e), fun a e => ?_, fun a u e => ?_, fun a xs im e => ?_, g.nf⟩, ?_, nd, fun p hp => ?_⟩
  · show (if H a = none then G' a else G1 a) = some u
    rw [if_neg (g1.ne e)]; exact e
  · show (if H a = none then G' a else G1 a) = _
    have : H a ≠ none := fun z => e (ok.bnone a z)
    rw [if_neg this]; exact g1.g0 a e
  · have e' : (if H a = none then G' a else G1 a) = some u := e
    split at e'
    · exact g.gs a u e'
    · exact view_ext x a u (g1.gs a u e')
  · show (if H a = none then G' a else G1 a) = _
    split
    · exact g.gt a xs im e
    · rename_i hn
      cases q : H a with
      | none => exact absurd q hn
      | some o =>
        have e2 : H' a = some o := x a o q
        refine g1.gt a xs im ?_
        unfold view at e ⊢
        rw [q]; rw [e2] at e; exact e
  · refine HoldAll.cons (f := f) (g := []) (od.toImm (fun a xs im e => ?_) hi) .nil |> fun h => by rw [List.append_nil] at h; exact h
    show (if H a = none then G' a else G1 a) = _
    split
    · exact e
    · rename_i hn
      have e1 : G' a = view H a := g.g0 a hn
      exact g1.gt a xs im (e1.symm.trans e)
  · refine ⟨(hf p hp).1, ?_⟩
    show (if H p = none then G' p else G1 p) = _
    rw [if_pos (hf p hp).1]; exact (hf p hp).2
/-- .. its arguments shared -/
theorem EnvOk.ret0 {B : Bs} {H H' : Hp} {env : Env} {σ : St} {tm : List Hold} {kr : Nat} {vs : List V} {ds : List D} (hl : vs.length = ds.length) (ok : EnvOk B H env σ (lev 0 vs ds ++ tm)) :
    ∃ G, Good ⟨H, G⟩ G H ∧ RpAll G vs ds ∧ ∀ H' v d, RetOk kr G H H' v d → Ext H H' ∧ EnvOk B H' env σ ((v, kr, d) :: tm) := by
  have h2 := ok.len
  have h3 := ok.has
  obtain ⟨G1, f, g, hg, hf, hr, nd, hq⟩ := ok.apart
  have hf' : HoldAll G1 H (lev 0 vs ds ++ []) f := by rw [List.append_nil]; exact hf
  obtain ⟨f1, f2, e, ha, hn⟩ := HoldAll.toAll hl hf'
  cases hn
  rw [List.append_nil] at e
  subst e
  have ra : ∀ {f : List Addr} {vs : List V} {ds : List D}, OdAll G1 H 0 f vs ds → RpAll G1 vs ds := fun {f vs ds} r => by
    induction vs generalizing ds f with
    | nil => cases r; exact .nil
    | cons v vs ih => cases r with | cons h r => exact .cons h.zero.2 (ih r)
  refine ⟨G1, ⟨fun _ _ e => e, fun _ _ => rfl, hg.gs, hg.gt, hg.nf⟩, ra ha, fun H' v d r => ?_⟩
  obtain ⟨G', fr, gr, od, ndr, hfr⟩ := r.ex
  have x : Ext H H' := gr.bs
  refine ⟨x, ?_⟩
  have hG : ∀ a u, G1 a = some u → G' a = some u := fun a u e => (gr.g0 a (hg.ne e)).trans e
  have hrm := hr.mu
  refine EnvOk.join (l := [(v, kr, d)]) (G := G') (f := fr) (g := g) h2 h3 ⟨fun a o e => x a o (hg.bs a o e), fun a e => ?_, gr.gs, gr.gt, gr.nf⟩ ?_ (hr.frame hG fun a u e _ => x a u e) ?_ ?_
  · have : H a ≠ none := fun z => e (ok.bnone a z)
    exact (gr.g0 a this).trans (hg.g0 a e)
  · have := HoldAll.cons od (.nil (G := G') (H := H'))
    rw [List.append_nil] at this; exact this
  · refine List.nodup_append.mpr ⟨ndr, (List.nodup_append.mp nd).2.1, fun a m1 b m2 e => ?_⟩
    subst e
    obtain ⟨u, e, _⟩ := hrm a m2
    rw [(hfr a m1).1] at e; cases e
  · intro p m
    rcases List.mem_append.mp m with m | m
    · exact ⟨ok.bnone p (hfr p m).1, (hfr p m).2⟩
    · obtain ⟨u, e, _⟩ := hrm p m
      refine ⟨(hq p (List.mem_append_right _ m)).1, ?_⟩
      have : H p ≠ none := by rw [e]; simp
      exact (gr.g0 p this).trans (hq p (List.mem_append_right _ m)).2
section
variable {X : Cx} {e a b : Expr} {es : List Expr} {m ma mb : Env → Res D} {ms : Env → Res (List D)} {k kr n : Nat} {cs : List Nat} {pos p : Pos} {x : Str} {F : List D → Res D} {j : Nat} {f : Addr} {fd : FuncData} {ps : List Str}
/-- f(..), its arguments read, its worth owned to the level kr -/
def mCall (kr : Nat) (F : List D → Res D) (ms : Env → Res (List D)) : Env → Res D := fun env => ms env >>= fun ds => F ds >>= fun d => if immAt kr d then .ok d else .bad
theorem se_call (Fo : FnOk X.prog X.w X.K X.mg X.base CX0 j f fd ps (spF kr n F)) (hr : Room j X.A) (hg : Gl X x) (hm : X.mg x = some (.ref f)) (hk : PySem.W.keepIn X.K (.ref f) = true) (hb : Binds X.K fd ps [])
    (ha : SAB X (e :: es) ms) (hdb : (x == ("__debug__" : Str)) = false := by decide) (he : starEach (e :: es) X.env = (false, eval e X.env) :: starEach es X.env := by rfl) (hpl : (backTo pos (starEach es X.env)).any (·.1) = false := by rfl) (hl : ∀ env ds, ms env = .ok ds → ds.length = n) :
    SE X kr [] (.Call (.Name x p) (e :: es) [] pos) (mCall kr F ms) := fun B H env σ tm d Q ok hm' q => by
  obtain ⟨ds, hds, h2⟩ := bind_ok hm'
  obtain ⟨d', hF, h3⟩ := bind_ok h2
  split at h3
  · rename_i hi
    cases h3
    refine wE_of (pe_call Fo hr hg hm hk hb .nil pass0 pa_sem hdb he hpl) (ha B H env σ tm ds _ ok hds fun vs H1 x1 ok1 ra => ?_)
    rw [List.append_nil]
    refine ⟨by rw [ra.length]; exact hl _ _ hds, view H1, ds, _, ⟨fun _ _ e => e, fun _ _ => rfl, fun _ _ e => e, fun _ _ _ e => e, fun a xs im e => ok1.imAt im e⟩, ra, hF, fun v H' r => ?_⟩
    obtain ⟨x2, ok2⟩ := ok1.retB r hi
    exact q v H' (x1.trans x2) ok2
  · cases h3
theorem sab_len {ms : Env → Res (List D)} : ∀ {n : Nat}, (∀ env ds, ms env = .ok ds → ds.length = n) → ∀ {m : Env → Res D}, ∀ env ds, mConsA m ms env = .ok ds → ds.length = n + 1 := fun {n} h {m} env ds hm => by
  obtain ⟨y, _, h2⟩ := bind_ok hm
  obtain ⟨ys, h3, h4⟩ := bind_ok h2
  cases h4
  simp [h env ys h3]
theorem sab_len0 : ∀ env ds, mNilA env = .ok ds → ds.length = 0 := fun env ds h => by cases h; rfl
end
end Mir

namespace Mir
open PySem PySem.Spec L2

/-! ### dicts in the mirror -/
section
variable {κ : Type} [DecidableEq κ]
def dFind : List κ → List D → κ → Option D
  | k :: ks, d :: ds, x => if k = x then some d else dFind ks ds x
  | _, _, _ => none
def dPutK (ks : List κ) (x : κ) : List κ := if x ∈ ks then ks else ks ++ [x]
def dPutD : List κ → List D → κ → D → List D
  | k :: ks, d :: ds, x, y => (if k = x then y else d) :: dPutD ks ds x y
  | _, _, _, _ => []
def dPutV (ks : List κ) (ds : List D) (x : κ) (y : D) : List D := if x ∈ ks then dPutD ks ds x y else ds ++ [y]
theorem find_rp {G : Hp} : ∀ {kvs : List (κ × V)} {ds : List D} {x : κ}, RpAll G (kvs.map (·.2)) ds → (dFind (kvs.map (·.1)) ds x = none → valV kvs x = none) ∧ ∀ d, dFind (kvs.map (·.1)) ds x = some d → ∃ v, valV kvs x = some v ∧ Rp G v d
  | [], _, _, _ => ⟨fun _ => rfl, fun d h => by simp [dFind] at h⟩
  | (k, v) :: kvs, [], _, r => by cases r
  | (k, v) :: kvs, d :: ds, x, r => by
    cases r with
    | cons h r =>
      have ih := find_rp (kvs := kvs) (ds := ds) (x := x) r
      by_cases e : k = x
      · subst e
        refine ⟨fun h' => ?_, fun d' h' => ⟨v, ?_, ?_⟩⟩
        · have : (if k = k then some d else _) = none := h'
          rw [if_pos rfl] at this; cases this
        · unfold valV; simp
        · have : (if k = k then some d else _) = some d' := h'
          rw [if_pos rfl] at this; cases this; exact h
      · have e1 : valV ((k, v) :: kvs) x = valV kvs x := by unfold valV; simp [List.find?_cons, e]
        have e2 : dFind (((k, v) :: kvs).map (·.1)) (d :: ds) x = dFind (kvs.map (·.1)) ds x := if_neg e
        rw [e1, e2]
        exact ih
theorem putK_keys (kvs : List (κ × V)) (x : κ) (v : V) : (putK kvs x v).map (·.1) = dPutK (kvs.map (·.1)) x := by
  unfold putK dPutK
  by_cases h : x ∈ kvs.map (·.1)
  · have h' : (kvs.any fun kv => decide (kv.1 = x)) = true := by
      obtain ⟨p, hp, e⟩ := List.mem_map.mp h
      exact List.any_eq_true.mpr ⟨p, hp, decide_eq_true e⟩
    rw [if_pos h', if_pos h, List.map_map]
    refine List.map_congr_left fun p _ => ?_
    by_cases e : p.1 = x
    · simp [e]
    · simp [e]
  · have h' : ¬ (kvs.any fun kv => decide (kv.1 = x)) = true := fun q => by
      obtain ⟨p, hp, e⟩ := List.any_eq_true.mp q
      exact h (List.mem_map.mpr ⟨p, hp, of_decide_eq_true e⟩)
    rw [if_neg h', if_neg h]
    simp
theorem putV_len {ks : List κ} {ds : List D} {x : κ} {y : D} (h : ks.length = ds.length) : (dPutK ks x).length = (dPutV ks ds x y).length := by
  unfold dPutK dPutV
  have : ∀ (ks : List κ) (ds : List D), ks.length = ds.length → ks.length = (dPutD ks ds x y).length := fun ks ds h => by
    induction ks generalizing ds with
    | nil => rfl
    | cons k ks ih =>
      cases ds with
      | nil => simp at h
      | cons d ds => simp [dPutD, ih ds (by simpa using h)]
  by_cases e : x ∈ ks
  · rw [if_pos e, if_pos e]; exact this ks ds h
  · rw [if_neg e, if_neg e]; simp [h]
theorem putK_len' {kvs : List (κ × V)} {x : κ} {v : V} : (putK kvs x v).length = (dPutK (kvs.map (·.1)) x).length := by
  rw [← putK_keys kvs x v, List.length_map]
/-- the values behind a store: old ones or the new one -/
theorem putK_sel : ∀ {kvs : List (κ × V)} {ds : List D} {x : κ} {v : V} {y : D}, kvs.length = ds.length → Sel (kvs.map (·.2) ++ [v]) (ds ++ [y]) ((putK kvs x v).map (·.2)) (dPutV (kvs.map (·.1)) ds x y) := by
  intro kvs ds x v y hl
  have hlen : ((putK kvs x v).map (·.2)).length = (dPutV (kvs.map (·.1)) ds x y).length := by
    rw [List.length_map, putK_len', putV_len (by simpa using hl)]
  refine ⟨hlen, fun i w e h1 h2 => ?_⟩
  unfold putK at h1
  unfold dPutV at h2
  by_cases h : x ∈ kvs.map (·.1)
  · have h' : (kvs.any fun kv => decide (kv.1 = x)) = true := by
      obtain ⟨p, hp, e⟩ := List.mem_map.mp h
      exact List.any_eq_true.mpr ⟨p, hp, decide_eq_true e⟩
    rw [if_pos h', List.map_map] at h1
    rw [if_pos h] at h2
    have key : ∀ (kvs : List (κ × V)) (ds : List D) (i : Nat), kvs.length = ds.length → (kvs.map ((·.2) ∘ fun kv => if kv.1 = x then (kv.1, v) else kv))[i]? = some w → (dPutD (kvs.map (·.1)) ds x y)[i]? = some e → (w = v ∧ e = y) ∨ ((kvs.map (·.2))[i]? = some w ∧ ds[i]? = some e) := by
      intro kvs
      induction kvs with
      | nil => intro ds i _ q; simp at q
      | cons p kvs ih =>
        intro ds i hl q1 q2
        cases ds with
        | nil => simp at hl
        | cons d ds =>
          cases i with
          | zero =>
            simp [dPutD] at q1 q2
            by_cases e1 : p.1 = x
            · rw [if_pos e1] at q1 q2; exact .inl ⟨q1.symm, q2.symm⟩
            · rw [if_neg e1] at q1 q2; exact .inr ⟨by simp [q1], by simp [q2]⟩
          | succ i =>
            have := ih ds i (by simpa using hl) (by simpa using q1) (by simpa [dPutD] using q2)
            exact this.imp id fun z => ⟨by simpa using z.1, by simpa using z.2⟩
    rcases key kvs ds i hl h1 h2 with ⟨rfl, rfl⟩ | ⟨a1, a2⟩
    · exact ⟨kvs.length, by simp, by rw [hl]; simp⟩
    · have hi : i < ds.length := (List.getElem?_eq_some_iff.mp a2).1
      exact ⟨i, by rw [List.getElem?_append_left (by simp; omega)]; exact a1, by rw [List.getElem?_append_left hi]; exact a2⟩
  · have h' : ¬ (kvs.any fun kv => decide (kv.1 = x)) = true := fun q => by
      obtain ⟨p, hp, e⟩ := List.any_eq_true.mp q
      exact h (List.mem_map.mpr ⟨p, hp, of_decide_eq_true e⟩)
    rw [if_neg h'] at h1
    rw [if_neg h] at h2
    exact ⟨i, by simpa using h1, h2⟩
end
/-- keys -/
def keyOf : D → Option Key
  | .int i => some (.inl i)
  | .str z => some (.inr z)
  | _ => none
def keysOf : List D → Option (List Key)
  | [] => some []
  | d :: ds => match keyOf d, keysOf ds with
    | some k, some ks => some (k :: ks)
    | _, _ => none
def keyT : D → Option (List Key)
  | .tup ds => keysOf ds
  | _ => none
theorem keyOf_rp {G : Hp} {v : V} {d : D} {k : Key} (r : Rp G v d) (h : keyOf d = some k) : v = kV k := by
  cases r with
  | int i => cases h; rfl
  | str z => cases h; rfl
  | _ => simp [keyOf] at h
theorem keysOf_rp {G : Hp} : ∀ {vs : List V} {ds : List D} {ks : List Key}, RpAll G vs ds → keysOf ds = some ks → vs = ks.map kV
  | _, _, ks, .nil, h => by cases h; rfl
  | _, _, ks, .cons (d := d) (ds := ds) hr r, h => by
    unfold keysOf at h
    split at h
    · rename_i k ks' h1 h2
      cases h
      rw [keyOf_rp hr h1, keysOf_rp r h2]; rfl
    · cases h
theorem keyT_rp {B : Bs} {H : Hp} {env : Env} {σ : St} {tm : List Hold} {v : V} {d : D} {k : List Key} (ok : EnvOk B H env σ tm) (r : Rp (view H) v d) (h : keyT d = some k) : ∃ b, v = .ref b ∧ H b = some (.tup (k.map kV)) := by
  cases r with
  | tup hv ra => exact ⟨_, rfl, by rw [← keysOf_rp ra h]; exact ok.tupAt hv⟩
  | _ => simp [keyT] at h
/-- what a dict holds at a key: none where the key isn't one -/
def dGet : D → D → Option (Option D)
  | .dk ks ds, key => (keyOf key).map fun k => dFind ks ds k
  | .dt ks ds, key => (keyT key).map fun k => dFind ks ds k
  | _, _ => none
theorem dGet_rp {B : Bs} {H : Hp} {env : Env} {σ : St} {tm : List Hold} {v y : V} {d key : D} {o : Option D} (ok : EnvOk B H env σ tm) (r : Rp (view H) v d) (ry : Rp (view H) y key) (h : dGet d key = some o) :
    ∃ a ov, v = .ref a ∧ IsD H a ∧ DGet H a y ov ∧ (o = none → ov = none) ∧ ∀ x, o = some x → ∃ w, ov = some w ∧ Rp (view H) w x := by
  unfold dGet at h
  split at h
  · rename_i ks ds
    cases r with
    | @dk a kvs _ _ hv ek ra =>
      subst ek
      cases hk : keyOf key with
      | none => rw [hk] at h; cases h
      | some k =>
        rw [hk] at h
        cases h
        obtain ⟨f1, f2⟩ := find_rp (x := k) ra
        exact ⟨a, valV kvs k, rfl, .inl ⟨_, view_rd hv⟩, .inl ⟨kvs, k, view_rd hv, keyOf_rp ry hk, rfl⟩, f1, f2⟩
  · rename_i ks ds
    cases r with
    | @dt a kvs _ _ hv ek ra =>
      subst ek
      cases hk : keyT key with
      | none => rw [hk] at h; cases h
      | some k =>
        rw [hk] at h
        cases h
        obtain ⟨f1, f2⟩ := find_rp (x := k) ra
        obtain ⟨b, eb, hb⟩ := keyT_rp ok ry hk
        exact ⟨a, valV kvs k, rfl, .inr ⟨_, view_rd hv⟩, .inr ⟨kvs, k, b, view_rd hv, eb, hb, rfl⟩, f1, f2⟩
  · cases h
section
variable {X : Cx} {e o i a b : Expr} {m ma mb md mk : Env → Res D} {k kr : Nat} {cs : List Nat} {pos cpos apos : Pos}
/-- d[k] -/
def gDGet (d key : D) : Res D := match dGet d key with
  | some (some x) => .ok x
  | _ => .bad
theorem sb_dget (hu : X.A.units + 1 < cLine) (ho : SB X o md) (hi : SB X i mk) (hs : NoSl i) : SB X (.Subscript o i pos) (mOp gDGet md mk) := fun B H env σ tm d Q ok hm q => by
  obtain ⟨x, y, hx, hy, hg⟩ := two hm
  refine wE_of (pe_dget hu pe_sem pe_sem hs) (sb2 ho hi ok hx hy fun v u H' x' ok' r1 r2 => ?_)
  unfold gDGet at hg
  split at hg
  · rename_i z hz
    cases hg
    obtain ⟨p, ov, rfl, _, g, _, f2⟩ := dGet_rp ok' r1 r2 hz
    obtain ⟨w, rfl, rw'⟩ := f2 _ rfl
    exact ⟨p, w, rfl, g, q w H' x' ok' rw'⟩
  · cases hg
/-- k in d, k not in d -/
def gDIn (key d : D) : Res D := match dGet d key with
  | some o => .ok (.bl o.isSome)
  | none => .bad
def gDNotIn (key d : D) : Res D := match dGet d key with
  | some o => .ok (.bl (!o.isSome))
  | none => .bad
theorem some_eq {o : Option D} {ov : Option V} (h1 : o = none → ov = none) (h2 : ∀ x, o = some x → ∃ w, ov = some w ∧ True) : ov.isSome = o.isSome := by
  cases o with
  | none => rw [h1 rfl]; rfl
  | some x => obtain ⟨w, rfl, _⟩ := h2 x rfl; rfl
theorem din_core {x y d : D} {B : Bs} {H : Hp} {env : Env} {σ : St} {tm : List Hold} (hg : gDIn x y = .ok d) {v u : V} (ok' : EnvOk B H env σ tm) (r1 : Rp (view H) v x) (r2 : Rp (view H) u y) : ∃ a o, u = .ref a ∧ DGet H a v o ∧ d = .bl o.isSome := by
  unfold gDIn at hg
  split at hg
  · rename_i z hz
    cases hg
    obtain ⟨p, ov, rfl, _, g, f1, f2⟩ := dGet_rp ok' r2 r1 hz
    refine ⟨p, ov, rfl, g, ?_⟩
    rw [some_eq f1 fun x e => let ⟨w, a, _⟩ := f2 x e; ⟨w, a, trivial⟩]
  · cases hg
theorem dnotin_core {x y d : D} {B : Bs} {H : Hp} {env : Env} {σ : St} {tm : List Hold} (hg : gDNotIn x y = .ok d) {v u : V} (ok' : EnvOk B H env σ tm) (r1 : Rp (view H) v x) (r2 : Rp (view H) u y) : ∃ a o, u = .ref a ∧ DGet H a v o ∧ d = .bl (!o.isSome) := by
  unfold gDNotIn at hg
  split at hg
  · rename_i z hz
    cases hg
    obtain ⟨p, ov, rfl, _, g, f1, f2⟩ := dGet_rp ok' r2 r1 hz
    refine ⟨p, ov, rfl, g, ?_⟩
    rw [some_eq f1 fun x e => let ⟨w, a, _⟩ := f2 x e; ⟨w, a, trivial⟩]
  · cases hg
theorem st_din (hu : X.A.units + 1 < cLine) (hi : SB X i mk) (ho : SB X o md) (h1 : behindInMarks .In o = false := by rfl) : ST X (.Compare i [.In] [o] pos) (mTb (mOp gDIn mk md)) := fun B H env σ tm d Q ok hm q => by
  obtain ⟨z, hz, hd⟩ := bind_ok hm
  have hd' := toB_ok hd
  subst hd'
  obtain ⟨x, y, hx, hy, hg⟩ := two hz
  refine wT_of (pt_cmp (pc_din hu pe_sem pe_sem) h1) (sb2 hi ho ok hx hy fun v u H' x' ok' r1 r2 => ?_)
  obtain ⟨p, ov, rfl, g, e⟩ := din_core hg ok' r1 r2
  cases e
  exact ⟨p, ov, rfl, g, _, rfl, q H' x' ok'⟩
theorem st_dnotin (hu : X.A.units + 1 < cLine) (hi : SB X i mk) (ho : SB X o md) (h1 : behindInMarks .NotIn o = false := by rfl) : ST X (.Compare i [.NotIn] [o] pos) (mTb (mOp gDNotIn mk md)) := fun B H env σ tm d Q ok hm q => by
  obtain ⟨z, hz, hd⟩ := bind_ok hm
  have hd' := toB_ok hd
  subst hd'
  obtain ⟨x, y, hx, hy, hg⟩ := two hz
  refine wT_of (pt_cmp (pc_dnotin hu pe_sem pe_sem) h1) (sb2 hi ho ok hx hy fun v u H' x' ok' r1 r2 => ?_)
  obtain ⟨p, ov, rfl, g, e⟩ := dnotin_core hg ok' r1 r2
  cases e
  exact ⟨p, ov, rfl, g, _, rfl, q H' x' ok'⟩
/-- d.get(k, x): what it tells may be read -/
def mGet2 (md mk m : Env → Res D) : Env → Res D := fun env => md env >>= fun d => mk env >>= fun y => m env >>= fun z => match dGet d y with
  | some o => .ok (o.getD z)
  | none => .bad
/-- {} -/
theorem se_dnewK : SE X (k + 1) [] (.Dict [] [] pos) (mC (.dk [] [])) := fun B H env σ tm d Q ok hm q => by
  cases hm
  exact wE_of pe_dnewK fun p hp => q _ _ (Ext.upd hp) (EnvOk.newDk (kvs := []) (ds := []) ok rfl rfl hp)
theorem se_dnewT : SE X (k + 1) [] (.Dict [] [] pos) (mC (.dt [] [])) := fun B H env σ tm d Q ok hm q => by
  cases hm
  exact wE_of pe_dnewT fun p hp => q _ _ (Ext.upd hp) (EnvOk.newDt (kvs := []) (ds := []) ok rfl rfl hp)

/-! ### what a slot holds is changed -/
theorem EnvOk.slotMu {B : Bs} {H : Hp} {env : Env} {σ : St} {tm : List Hold} {j : Nat} {d : D} (ok : EnvOk B H env σ tm) (e : env[j]? = some (some (k + 1, d))) (im : d.imm = false) : ∃ p, σ[j]? = some (some (.ref p)) ∧ EnvOk B H (env.set j none) σ ((.ref p, k + 1, d) :: tm) := by
  obtain ⟨v, hv⟩ := ok.has j _ e
  have ok1 := ok.move e hv
  obtain ⟨p, rfl⟩ := ok1.isRef im
  exact ⟨p, hv, ok1⟩
theorem EnvOk.putBack {B : Bs} {H : Hp} {env : Env} {σ : St} {tm : List Hold} {j : Nat} {d d0 : D} {v : V} (hj : env[j]? = some (some (k, d0))) (hv : σ[j]? = some (some v)) (ok : EnvOk B H (env.set j none) σ ((v, k, d) :: tm)) : EnvOk B H (env.set j (some (k, d))) σ tm := by
  have hi : j < env.length := (List.getElem?_eq_some_iff.mp hj).1
  have h1 := ok.store (i := j) (by simpa using hi)
  rw [List.set_set, set_self hv] at h1
  exact h1
/-- the slot's list, the hand -/
def atL (env : Env) (j k : Nat) : Res (List D) := match env[j]? with
  | some (some (k', .lst ds)) => if k' = k then .ok ds else .bad
  | _ => .bad
theorem atL_ok {env : Env} {j k : Nat} {ds : List D} (h : atL env j k = .ok ds) : env[j]? = some (some (k, .lst ds)) := by
  unfold atL at h
  split at h
  · rename_i k' ds' he
    split at h
    · rename_i ek
      subst ek
      cases h
      exact he
    · cases h
  · cases h
theorem clear_some {env : Env} {cs : List Nat} {j : Nat} {kd : Nat × D} (h : (clear env cs)[j]? = some (some kd)) : env[j]? = some (some kd) := by
  induction cs generalizing env with
  | nil => exact h
  | cons c cs ih =>
    have h1 := ih h
    rw [List.getElem?_set] at h1
    split at h1
    · split at h1 <;> cases h1
    · exact h1
/-- x.append(e) -/
def mAppend (j k : Nat) (cs : List Nat) (m : Env → Res D) : Env → Res Ctl := fun env => m env >>= fun d => atL (clear env cs) j (k + 1) >>= fun ds =>
  if ds.length < sizeLine then .ok (.nx ((clear env cs).set j (some (k + 1, .lst (ds ++ [d]))))) else .bad
theorem s_append {j : Nat} (hx : PE X o (tVar j)) (he : SE X k cs e m)
    (hbase : attributeBase o "append" X.env (eval o X.env) = eval o X.env := by rfl)
    (hfew : ((backTo cpos (starEach [e] X.env)).all (fun x => !x.1) && (backToKw cpos (keywordEach [] X.env)).all (fun x => x.1.isSome)
      && decide ([e].length + ([] : List Keyword).length + (if ([] : List Keyword).isEmpty then 0 else 1) < 30)) = true := by rfl)
    (hline : (apos.endLine == cpos.line) = true := by rfl) (hs : starEach [e] X.env = (false, eval e X.env) :: starEach [] X.env := by rfl) (hplain : (backTo cpos (starEach [] X.env)).any (·.1) = false := by rfl)
    (hsw : swapsWith (.Call (.Attribute o "append" apos) [e] [] cpos) none pos.line X.env = pure false := by rfl) : S1 X kr (.Expr (.Call (.Attribute o "append" apos) [e] [] cpos) pos) (mAppend j k cs m) := fun B H env σ tm D r ok hm p => by
  obtain ⟨d, hd, h2⟩ := bind_ok hm
  obtain ⟨ds, hds, h3⟩ := bind_ok h2
  split at h3
  · rename_i hl
    cases h3
    have he1 := atL_ok hds
    obtain ⟨v, hv, rv⟩ := ok.slot (clear_some he1)
    refine wS_of (ps_expr (pe_bm F.plainAttrs_list F.slot_list_append F.type_list_append mt_append hx (pa_cons pe_sem pa_nil hs) hbase hfew hline hs hplain) hsw) ?_
    refine ⟨v, hv, ?_⟩
    cases rv with
    | @lst q vs0 _ hq ra0 =>
      refine ⟨.inl ⟨rfl, _, .inl (view_rd hq)⟩, ?_⟩
      refine he B H env σ tm d _ ok hd fun w H1 x1 ok1 => ?_
      obtain ⟨q', hv', ok2⟩ := ok1.slotMu he1 rfl
      rw [hv] at hv'
      cases hv'
      obtain ⟨vs, hL, hvl, ok3⟩ := ok2.takeLst
      refine ⟨q, vs, w, rfl, rfl, hL, by omega, ?_⟩
      have ok4 : EnvOk B (del H1 q) ((clear env cs).set j none) σ (lev k (vs ++ [w]) (ds ++ [d]) ++ tm) := by
        rw [lev_append [w] [d] hvl, List.append_assoc]
        exact ok3
      have ok5 := ok4.newLst (p := q) (by simp [hvl]) del_self
      rw [upd_del] at ok5
      exact p σ _ (ok5.putBack he1 hv)
  · cases h3
/-- x.extend(e) -/
def mExtend (j k : Nat) (m : Env → Res (List D)) : Env → Res Ctl := fun env => m env >>= fun es => atL env j (k + 1) >>= fun ds =>
  if ds.length + es.length ≤ sizeLine then .ok (.nx (env.set j (some (k + 1, .lst (ds ++ es))))) else .bad
theorem s_extend {j : Nat} {mm : Env → Res (List D)} (hx : PE X o (tVar j)) (he : SL X k .lst e mm)
    (hbase : attributeBase o "extend" X.env (eval o X.env) = eval o X.env := by rfl)
    (hfew : ((backTo cpos (starEach [e] X.env)).all (fun x => !x.1) && (backToKw cpos (keywordEach [] X.env)).all (fun x => x.1.isSome)
      && decide ([e].length + ([] : List Keyword).length + (if ([] : List Keyword).isEmpty then 0 else 1) < 30)) = true := by rfl)
    (hline : (apos.endLine == cpos.line) = true := by rfl) (hs : starEach [e] X.env = (false, eval e X.env) :: starEach [] X.env := by rfl) (hplain : (backTo cpos (starEach [] X.env)).any (·.1) = false := by rfl)
    (hsw : swapsWith (.Call (.Attribute o "extend" apos) [e] [] cpos) none pos.line X.env = pure false := by rfl) : S1 X kr (.Expr (.Call (.Attribute o "extend" apos) [e] [] cpos) pos) (mExtend j k mm) := fun B H env σ tm D r ok hm p => by
  obtain ⟨es, hd, h2⟩ := bind_ok hm
  obtain ⟨ds, hds, h3⟩ := bind_ok h2
  split at h3
  · rename_i hl
    cases h3
    have he1 := atL_ok hds
    obtain ⟨v, hv, rv⟩ := ok.slot he1
    refine wS_of (ps_expr (pe_bm F.plainAttrs_list F.slot_list_extend F.type_list_extend mt_extR hx (pa_cons pe_sem pa_nil hs) hbase hfew hline hs hplain) hsw) ?_
    refine ⟨v, hv, ?_⟩
    cases rv with
    | @lst q vs0 _ hq ra0 =>
      refine ⟨.inl ⟨rfl, _, .inl (view_rd hq)⟩, ?_⟩
      refine he B H env σ tm es _ ok hd fun w ws H1 ex x1 hw hwl raw ok1 pk => ?_
      have okp := pk H1 env σ tm (Ext.refl _) ok1 _ _ (sel_refl hwl)
      obtain ⟨q', hv', ok2⟩ := okp.slotMu he1 rfl
      rw [hv] at hv'
      cases hv'
      obtain ⟨vs, hL, hvl, ok3⟩ := ok2.takeLst
      refine ⟨q, w, vs, ws, rfl, rfl, hL, view_rd hw, by omega, ?_⟩
      have ok4 : EnvOk B (del H1 q) (env.set j none) σ (lev k (vs ++ ws) (ds ++ es) ++ (ex ++ tm)) := by
        rw [lev_append ws es hvl, List.append_assoc]
        exact ok3
      have ok5 := ok4.newLst (p := q) (by simp [hvl, hwl]) del_self
      rw [upd_del] at ok5
      exact p σ _ ((ok5.putBack he1 hv).less)
  · cases h3
/-- d[key] = e, d a dict whose values are shared -/
def atK (env : Env) (j : Nat) : Res D := match env[j]? with
  | some (some (1, d)) => .ok d
  | _ => .bad
theorem atK_ok {env : Env} {j : Nat} {d : D} (h : atK env j = .ok d) : env[j]? = some (some (1, d)) := by
  unfold atK at h
  split at h
  · rename_i d' he; cases h; exact he
  · cases h
def dSet (d key v : D) : Res D := match d with
  | .dk ks ds => if ds.length < sizeLine ∧ ks.length = ds.length then (match keyOf key with | some k => .ok (.dk (dPutK ks k) (dPutV ks ds k v)) | none => .bad) else .bad
  | .dt ks ds => if ds.length < sizeLine ∧ ks.length = ds.length then (match keyT key with | some k => .ok (.dt (dPutK ks k) (dPutV ks ds k v)) | none => .bad) else .bad
  | _ => .bad
def mDput (j : Nat) (cs : List Nat) (m mk : Env → Res D) : Env → Res Ctl := fun env => m env >>= fun d => mk (clear env cs) >>= fun y => atK (clear env cs) j >>= fun dd => dSet dd y d >>= fun d' => .ok (.nx ((clear env cs).set j (some (1, d'))))
theorem sel_lev0 {B : Bs} {H : Hp} {env : Env} {σ : St} {tm : List Hold} {vs : List V} {ds : List D} (ok : EnvOk B H env σ (lev 0 vs ds ++ tm)) : ∀ {ws : List V} {es : List D}, Sel vs ds ws es → EnvOk B H env σ (lev 0 ws es ++ (lev 0 vs ds ++ tm)) := by
  intro ws
  induction ws with
  | nil => intro es s; cases es with
    | nil => exact ok
    | cons => exact absurd s.1 (by simp)
  | cons w ws ih =>
    intro es s
    cases es with
    | nil => exact absurd s.1 (by simp)
    | cons e es =>
      obtain ⟨j, h1, h2⟩ := s.2 0 w e rfl rfl
      have h3 := ih s.tail
      obtain ⟨l, hp⟩ := lev_get (k := 0) h1 h2
      have h4 : EnvOk B H env σ ((w, 0, e) :: (l ++ (lev 0 ws es ++ tm))) := h3.perm ((perm_aca _ _ _).trans (hp.append_right _))
      refine h4.dup.perm (List.Perm.cons _ ?_)
      refine List.Perm.trans ?_ ((perm_aca (lev 0 vs ds) (lev 0 ws es) tm))
      exact (hp.append_right (lev 0 ws es ++ tm)).symm
theorem s_dput {j : Nat} {pos' : Pos} (hu : X.A.units + 1 < cLine) (hx : PE X o (tVar j)) (hi : SB X i mk) (hv : SE X 0 cs e m) (hs : swapsWith e (some (.Subscript o i pos')) pos.line X.env = pure false := by rfl) :
    S1 X kr (.Assign [.Subscript o i pos'] e pos) (mDput j cs m mk) := fun B H env σ tm D r ok hm p => by
  obtain ⟨d, hd, h2⟩ := bind_ok hm
  obtain ⟨y, hy, h3⟩ := bind_ok h2
  obtain ⟨dd, hdd, h4⟩ := bind_ok h3
  obtain ⟨d', hd', h5⟩ := bind_ok h4
  cases h5
  have he1 := atK_ok hdd
  refine wS_of (ps_dput hu hx pe_sem pe_sem hs) (hv B H env σ tm d _ ok hd fun w H1 x1 ok1 => ?_)
  obtain ⟨v, hv', rv⟩ := ok1.slot he1
  refine ⟨v, hv', hi B H1 (clear env cs) σ _ y _ ok1 hy fun u H2 x2 ok2 r2 => ?_⟩
  have im : dd.imm = false := by
    unfold dSet at hd'
    split at hd' <;> first | rfl | cases hd'
  obtain ⟨q, hq, ok3⟩ := ok2.slotMu he1 im
  rw [hv'] at hq
  cases hq
  unfold dSet at hd'
  split at hd'
  · rename_i ks ds
    split at hd'
    · rename_i hl
      split at hd'
      · rename_i kk hk
        cases hd'
        obtain ⟨kvs, hq, ek, hlen, ok4⟩ := ok3.takeDk
        refine ⟨q, _, rfl, .inl ⟨kvs, kk, hq, keyOf_rp r2 hk, by omega, rfl⟩, ?_⟩
        have ok5 : EnvOk B (del H2 q) ((clear env cs).set j none) σ (lev 0 (kvs.map (·.2) ++ [w]) (ds ++ [d]) ++ tm) := by
          rw [lev_append [w] [d] (by simpa using hlen), List.append_assoc]
          exact ok4
        subst ek
        have ok6 := sel_lev0 ok5 (putK_sel (x := kk) (v := w) (y := d) hlen)
        have ok7 := ok6.newDk (p := q) (kvs := putK kvs kk w) (by have := (putK_sel (x := kk) (v := w) (y := d) hlen).1; simpa using this) (putK_keys kvs kk w) del_self
        rw [upd_del] at ok7
        exact p σ _ ((EnvOk.less (l := lev 0 (kvs.map (·.2) ++ [w]) (ds ++ [d])) (ok7.perm List.perm_middle.symm |> fun h => h)).putBack he1 hv')
      · cases hd'
    · cases hd'
  · rename_i ks ds
    split at hd'
    · rename_i hl
      split at hd'
      · rename_i kk hk
        cases hd'
        obtain ⟨kvs, hq, ek, hlen, ok4⟩ := ok3.takeDt
        obtain ⟨bb, eb, hb⟩ := keyT_rp ok2 r2 hk
        refine ⟨q, _, rfl, .inr ⟨kvs, kk, bb, hq, eb, hb, by omega, rfl⟩, ?_⟩
        have ok5 : EnvOk B (del H2 q) ((clear env cs).set j none) σ (lev 0 (kvs.map (·.2) ++ [w]) (ds ++ [d]) ++ tm) := by
          rw [lev_append [w] [d] (by simpa using hlen), List.append_assoc]
          exact ok4
        subst ek
        have ok6 := sel_lev0 ok5 (putK_sel (x := kk) (v := w) (y := d) hlen)
        have ok7 := ok6.newDt (p := q) (kvs := putK kvs kk w) (by have := (putK_sel (x := kk) (v := w) (y := d) hlen).1; simpa using this) (putK_keys kvs kk w) del_self
        rw [upd_del] at ok7
        exact p σ _ ((EnvOk.less (l := lev 0 (kvs.map (·.2) ++ [w]) (ds ++ [d])) (ok7.perm List.perm_middle.symm |> fun h => h)).putBack he1 hv')
      · cases hd'
    · cases hd'
  · cases hd'
end
end Mir

namespace Mir
open PySem PySem.Spec L2

section
variable {X : Cx} {e a b tg it o : Expr} {m ma mb md : Env → Res D} {k kr : Nat} {cs : List Nat} {pos cpos apos : Pos} {m1 : Env → Res Ctl}
/-! ### dicts, walked -/
def kD : Key → D
  | .inl i => .int i
  | .inr z => .str z
/-- what a dict gives when it is walked -/
def dKeys : D → Res (List D)
  | .dk ks _ => .ok (ks.map kD)
  | .dt ks _ => .ok (ks.map fun k => .tup (k.map kD))
  | _ => .bad
def dItems : D → Res (List D)
  | .dk ks ds => if ks.length = ds.length then .ok (List.zipWith (fun k d => .tup [kD k, d]) ks ds) else .bad
  | _ => .bad
end
end Mir

namespace Mir
open PySem PySem.Spec L2

/-! ### isinstance -/
inductive Ty6 where | int | bool | str | list | tuple | dict
def Ty6.s : Ty6 → String
  | .int => "int" | .bool => "bool" | .str => "str" | .list => "list" | .tuple => "tuple" | .dict => "dict"
inductive Tg where | non | bl | int | str | lst | tup | dic
def Tg.s : Tg → String
  | .non => "NoneType" | .bl => "bool" | .int => "int" | .str => "str" | .lst => "list" | .tup => "tuple" | .dic => "dict"
def tgD : D → Tg
  | .non => .non | .bl _ => .bl | .int _ => .int | .str _ => .str | .lst _ => .lst | .tup _ => .tup | .dk _ _ => .dic | .dt _ _ => .dic | .ob _ _ _ _ => .non | .exn _ _ _ _ => .non | .dn _ _ => .dic
/-- an object of an own class -/
def isOb : D → Bool
  | .ob _ _ _ _ => true
  | .exn _ _ _ _ => true
  | _ => false
def isiT : Ty6 → Tg → Bool
  | .int, .int => true | .int, .bl => true | .bool, .bl => true | .str, .str => true | .list, .lst => true | .tuple, .tup => true | .dict, .dic => true
  | _, _ => false
def isi (T : Ty6) (d : D) : Bool := isiT T (tgD d)
theorem kit_tab (T : Ty6) (t : Tg) : kitB t.s T.s = some (isiT T t) := by
  cases T <;> cases t <;> decide +kernel
abbrev tyN (d : D) : String := (tgD d).s
theorem kit_isi (T : Ty6) (d : D) : kitB (tyN d) T.s = some (isi T d) := kit_tab T (tgD d)
theorem kit_rp {X : Cx} {pins : List (Addr × Obj)} {σ : St} {H : Hp} {s : Shared} {x : V} {u : Value} {d : D} (I : Inv X pins σ H s) (rx : RelV x u) (r : Rp (view H) x d) (hob : isOb d = false) : ∃ P : Heap → Prop, PySem.W.KitX X.K u (.type (tyN d)) P ∧ P s.heap ∧ u ≠ .builtin "__main__.__loader__#opaque" := by
  cases r with
  | non => cases (show u = Value.none from rx); exact ⟨_, PySem.W.kitx_none, True.intro, fun z => nomatch z⟩
  | bl y => cases (show u = Value.bool y from rx); exact ⟨_, PySem.W.kitx_bool, True.intro, fun z => nomatch z⟩
  | int i => obtain ⟨t, q⟩ := (show ∃ t, u = Value.int i t from rx); cases q; exact ⟨_, PySem.W.kitx_int, True.intro, fun z => nomatch z⟩
  | str y => obtain ⟨t, q⟩ := (show ∃ t, u = Value.str y t from rx); cases q; exact ⟨_, PySem.W.kitx_str, True.intro, fun z => nomatch z⟩
  | @lst a xs _ ea =>
    cases (show u = Value.ref a from rx)
    obtain ⟨_, _, n, _, h1⟩ := (show ObjOk X.prog X.w H s.heap a (.lst xs) from (view_rd ea).ok I.hok)
    exact ⟨_, PySem.W.kitx_list, ⟨_, h1, rfl⟩, fun z => nomatch z⟩
  | @tup a xs _ ea =>
    cases (show u = Value.ref a from rx)
    obtain ⟨_, _, _, o, h1, h2, _⟩ := (show ObjOk X.prog X.w H s.heap a (.tup xs) from (view_rd ea).ok I.hok)
    exact ⟨_, PySem.W.kitx_tuple, ⟨o, h1, h2⟩, fun z => nomatch z⟩
  | @dk a kvs _ _ ea =>
    cases (show u = Value.ref a from rx)
    obtain ⟨_, _, vs, _, o, es, ep, h1, h2, _⟩ := (show ObjOk X.prog X.w H s.heap a (.dK kvs) from (view_rd ea).ok I.hok)
    exact ⟨_, PySem.W.kitx_dict, ⟨o, h1, h2.1⟩, fun z => nomatch z⟩
  | @dt a kvs _ _ ea =>
    cases (show u = Value.ref a from rx)
    obtain ⟨_, _, xs, _, o, es, ep, h1, h2, _⟩ := (show ObjOk X.prog X.w H s.heap a (.dT kvs) from (view_rd ea).ok I.hok)
    exact ⟨_, PySem.W.kitx_dict, ⟨o, h1, h2.1⟩, fun z => nomatch z⟩
  | ob => cases hob
  | exn0 => cases hob
  | @dn a es _ _ ea =>
    cases (show u = Value.ref a from rx)
    obtain ⟨⟨_, _, _, o, _, _, _, h1, h2, _⟩, _⟩ := (show ObjOk X.prog X.w H s.heap a (DnH a es) from (view_rd ea).ok I.hok)
    exact ⟨_, PySem.W.kitx_dict, ⟨o, h1, h2.1⟩, fun z => nomatch z⟩
  | exn => cases hob
theorem call_isiD {X : Cx} : CallR X (.builtin "isinstance") (fun xs H Q => ∃ x d T, xs = [x, .ty (Ty6.s T)] ∧ Rp (view H) x d ∧ isOb d = false ∧ Q (.bl (isi T d)) H) := by
  intro pins s σ H xs us Q I r h
  obtain ⟨x, d, T, rfl, rp, hob, q⟩ := h
  obtain ⟨u1, u2, rfl, r1, r2⟩ := vals2 r
  cases (show u2 = Value.type T.s from r2)
  obtain ⟨P, Z, p, hx⟩ := kit_rp I r1 rp hob
  exact PySem.W.kia_one Z I.kIn p (kit_ty (kit_isi T d)) hx fun tk => ⟨.bl _, H, I.tok tk, rfl, q⟩
section
variable {X : Cx} {e a b c : Expr} {m ma mb mc : Env → Res D} {k kr : Nat} {cs : List Nat} {pos p cpos apos : Pos}
def mIsi (T : Ty6) (m : Env → Res D) : Env → Res D := fun env => m env >>= fun d => if isOb d = true then .bad else .ok (.bl (isi T d))
theorem sc_isi {T : Ty6} (hg : Gl X "isinstance") (hm0 : X.mg "isinstance" = none) (h : SB X a m) (hT : PE X b (tC (.ty T.s))) (he : starEach [a, b] X.env = (false, eval a X.env) :: starEach [b] X.env := by rfl) (he2 : starEach [b] X.env = (false, eval b X.env) :: starEach [] X.env := by rfl) (hpl : (backTo pos (starEach [b] X.env)).any (·.1) = false := by rfl) :
    SC X (.Call (.Name "isinstance" p) [a, b] [] pos) (mIsi T m) := fun B H env σ tm d Q ok hm q => by
  obtain ⟨x, hx, h2⟩ := bind_ok hm
  split at h2
  · cases h2
  rename_i hob
  cases h2
  refine wE_of (pe_callB call_isiD hg hm0 (by decide +kernel) (pa_cons pe_sem (pa_cons hT pa_nil he2) he) (by decide) (by decide) he hpl) (h B H env σ tm _ _ ok hx fun v H1 x1 ok1 r => ?_)
  exact ⟨v, x, T, rfl, r, by simpa using hob, q _ H1 x1 ok1 (.bl _) rfl⟩
theorem pe_tyD {x : Str} {n : String} {pos : Pos} (hg : Gl X x) (hm : X.mg x = none) (hv : bootBuiltins x = some (.type n)) (hn : x ≠ "__name__" := by decide) (hd : (x == ("__debug__" : Str)) = false := by decide) : PE X (.Name x pos) (tC (.ty n)) := pe_bltn hg hm hv rfl hn hd

/-! ### dict(d), == of dicts -/
/-- dict(d) of a dict with keys that are numbers, texts; its values shared or of one level -/
def gDictC : D → Res D
  | .dk ks ds => if immAll ds then .ok (.dk ks ds) else .bad
  | _ => .bad
end
end Mir

namespace Mir
open PySem PySem.Spec L2

/-- a def as it stands; as it is called -/
structure At (K : PySem.W.Frag) (mg : Str → Option Value) (x : Str) (st : Stmt) : Prop where
  ex : ∃ f fd, Fun K x x st f fd ∧ mg x = some (.ref f)
structure Cal (P : Program) (w : World) (K : PySem.W.Frag) (mg : Str → Option Value) (base : Heap) (x : Str) (j n kr : Nat) (F : List D → Res D) : Prop where
  ex : ∃ f fd ps, mg x = some (.ref f) ∧ PySem.W.keepIn K (.ref f) = true ∧ Binds K fd ps [] ∧ FnOk P w K mg base CX0 j f fd ps (spF kr n F)
theorem se_cal {X : Cx} {e : Expr} {es : List Expr} {ms : Env → Res (List D)} {j n kr : Nat} {F : List D → Res D} {x : Str} {p pos : Pos} (C : Cal X.prog X.w X.K X.mg X.base x j n kr F) (hr : Room j X.A) (hg : Gl X x)
    (ha : SAB X (e :: es) ms) (hl : ∀ env ds, ms env = .ok ds → ds.length = n) (hdb : (x == ("__debug__" : Str)) = false := by decide) (he : starEach (e :: es) X.env = (false, eval e X.env) :: starEach es X.env := by rfl) (hpl : (backTo pos (starEach es X.env)).any (·.1) = false := by rfl) :
    SE X kr [] (.Call (.Name x p) (e :: es) [] pos) (mCall kr F ms) := by
  obtain ⟨f, fd, ps, hm, hk, hb, Fo⟩ := C.ex
  exact se_call Fo hr hg hm hk hb ha hdb he hpl hl
theorem At.mk' {K : PySem.W.Frag} {mg : Str → Option Value} {h : Heap} {x : Str} {st : Stmt} {f : Addr} {oc : Value} {od an : Option Addr} {osl : Array (Option Value)} {kV doc pm cdv ct : Value} (X : K.In h) (G : h.Ns mainGlobals mg) (a : PySem.W.nsIn K mainGlobals x = some (some (.ref f)))
    (l : K.lookup f = some ⟨oc, od, .func (PySem.W.fnOf x x (defArgs st) (defBody st) (defScope st) .none kV doc pm an cdv ct), osl⟩) (c : PySem.W.codeIn K cdv x = true) (k : PySem.W.keepIn K (.ref f) = true) : At K mg x st :=
  ⟨f, _, fun_mk l c k, PySem.W.mg_of X G a⟩
/-- no list stands in the written part -/
def noLists (K : PySem.W.Frag) : Bool := K.all fun p => match p.2.cls with
  | .type n => n != "list"
  | _ => true
theorem noLists_lookup : ∀ {K : PySem.W.Frag} {a : Addr} {o : Obj}, noLists K = true → K.lookup a = some o → o.cls ≠ .type "list"
  | [], _, _, _, h => by simp at h
  | (b, ob) :: K, a, o, hn, h => by
    unfold noLists at hn
    rw [List.all_cons, Bool.and_eq_true] at hn
    rw [List.lookup_cons] at h
    split at h
    · cases h
      intro e
      have := hn.1
      rw [e] at this
      simp at this
    · exact noLists_lookup (K := K) hn.2 h
theorem ints_rp {G : Hp} : ∀ ns : List Int, RpAll G (ns.map V.int) (ns.map D.int)
  | [] => .nil
  | n :: ns => .cons (.int n) (ints_rp ns)
theorem law_sp {F : List D → Res D} {K : PySem.W.Frag} {H : Hp} {a : Addr} {ns : List Int} (hK : noLists K = true) (hO : Only H) (hS : SqL K H a (ns.map V.int)) (hF : F [.lst (ns.map D.int)] = .ok (.bl true)) : spF 0 1 F [.ref a] H (fun v _ => v = .bl true) fun _ _ _ => False := by
  have hv : view H a = some (.lst (ns.map V.int)) := by
    rcases hS with (h | ⟨o, h⟩) | ⟨o, its, n, h1, h2, _⟩
    · unfold view; rw [h]; rfl
    · unfold view; rw [h]; rfl
    · exact absurd h2 (noLists_lookup hK h1)
  refine ⟨rfl, view H, [.lst (ns.map D.int)], .bl true, ⟨fun _ _ e => e, fun _ _ => rfl, fun _ _ e => e, fun _ _ _ e => e, fun b xs im e => ?_⟩, .cons (.lst hv (ints_rp ns)) .nil, hF, fun v H' r => ?_⟩
  · rcases hO b with h | ⟨o, ys, h⟩
    · rw [view_none h] at e; cases e
    · unfold view at e; rw [h] at e
      rw [← Option.some.inj e] at im; cases im
  · obtain ⟨G', fp, g, od, _⟩ := r.ex
    obtain ⟨_, rp⟩ := od.zero
    cases rp
    rfl
end Mir

namespace Mir
open PySem PySem.Spec L2

/-! ### the mirror, reckoned -/
@[simp] theorem exc_bind {α β : Type} (c : Str) (ns : List Str) (as : List D) (f : α → Res β) : (Res.exc c ns as >>= f) = .exc c ns as := rfl
@[simp] theorem bad_bind {α β : Type} (f : α → Res β) : ((Res.bad : Res α) >>= f) = .bad := rfl
@[simp] theorem res_assoc {α β γ : Type} (x : Res α) (f : α → Res β) (g : β → Res γ) : (x >>= f >>= g) = (x >>= fun a => f a >>= g) := by cases x <;> rfl
section
variable (env : Mir.Env) (m n : Mir.Env → Res D) (m1 m2 : Mir.Env → Res Ctl) (ma mb : Mir.Env → Res Bool) (g : D → D → Res D) (g1 : D → Res D) (ms ns : Mir.Env → Res (List D)) (i j k : Nat) (cs fg : List Nat) (d : D) (F : List D → Res D)
@[simp] theorem e_mSeq : mSeq m1 m2 env = (m1 env >>= fun c => match c with | .nx e => m2 e | c => .ok c) := rfl
@[simp] theorem e_mIf {α : Type} (x y : Mir.Env → Res α) : mIf ma x y env = (ma env >>= fun c => if c then x env else y env) := rfl
@[simp] theorem e_mTb : mTb m env = (m env >>= toB) := rfl
@[simp] theorem e_toB (b : Bool) : toB (.bl b) = .ok b := rfl
@[simp] theorem e_mOp : mOp g m n env = (m env >>= fun x => n env >>= fun y => g x y) := rfl
@[simp] theorem e_mUn : mUn g1 m env = (m env >>= g1) := rfl
@[simp] theorem e_mVar : mVar i env = (match env[i]? with | some (some (_, d)) => .ok d | _ => .bad) := rfl
@[simp] theorem e_mVarK : mVarK i k env = (match env[i]? with | some (some (j, d)) => if j = k then .ok d else .bad | _ => .bad) := rfl
@[simp] theorem e_mC : mC d env = .ok d := rfl
@[simp] theorem e_mRet : mRet m env = (m env >>= fun d => .ok (.rt d)) := rfl
@[simp] theorem e_mImm : mImm m env = (m env >>= fun d => if d.imm then .ok d else .bad) := rfl
@[simp] theorem e_mSkip : mSkip env = .ok (.nx env) := rfl
@[simp] theorem e_mSet : mSet i k cs m env = (m env >>= fun d => tName i k d (clear env cs) >>= fun e => .ok (.nx e)) := rfl
@[simp] theorem e_tName : tName i k d env = if i < env.length then .ok (env.set i (some (k, d))) else .bad := rfl
@[simp] theorem e_mCall : mCall k F ms env = (ms env >>= fun ds => F ds >>= fun d => if immAt k d then .ok d else .bad) := rfl
@[simp] theorem e_mNilA : mNilA env = .ok [] := rfl
@[simp] theorem e_mConsA : mConsA m ms env = (m env >>= fun x => ms env >>= fun xs => .ok (x :: xs)) := rfl
@[simp] theorem e_mConsE : mConsE m cs ms env = (m env >>= fun x => ms (clear env cs) >>= fun xs => .ok (x :: xs)) := rfl
@[simp] theorem e_mTup : mTup ms env = (ms env >>= fun xs => if xs.length ≤ sizeLine then .ok (.tup xs) else .bad) := rfl
@[simp] theorem e_mLst : mLst ms env = (ms env >>= fun xs => if xs.length ≤ sizeLine then .ok (.lst xs) else .bad) := rfl
@[simp] theorem e_mNotB : mNotB ma env = (ma env >>= fun b => .ok (!b)) := rfl
@[simp] theorem e_mAndB : mAndB ma mb env = (ma env >>= fun b => if b then mb env else .ok false) := rfl
@[simp] theorem e_mOrB : mOrB ma mb env = (ma env >>= fun b => if b then .ok true else mb env) := rfl
@[simp] theorem e_mAndV : mAndV m n env = (m env >>= fun x => toB x >>= fun b => if b then n env else .ok (.bl false)) := rfl
@[simp] theorem e_mOrV : mOrV m n env = (m env >>= fun x => toB x >>= fun b => if b then .ok (.bl true) else n env) := rfl
@[simp] theorem e_mNotV : mNotV m env = (m env >>= fun x => toB x >>= fun b => .ok (.bl (!b))) := rfl
@[simp] theorem e_mFz : mFz i m1 env = m1 (fz i env) := rfl
@[simp] theorem e_fz : fz i env = (match env[i]? with | some (some (_, d)) => env.set i (some (0, d)) | _ => env) := rfl
@[simp] theorem e_mForget : mForget cs m1 env = m1 (clear env cs) := rfl
@[simp] theorem e_clear0 : clear env [] = env := rfl
@[simp] theorem e_clear1 (i : Nat) (is : List Nat) : clear env (i :: is) = clear (env.set i none) is := rfl
@[simp] theorem e_mGet2 (o : Mir.Env → Res D) : mGet2 m n o env = (m env >>= fun d => n env >>= fun y => o env >>= fun z => match dGet d y with | some o => .ok (o.getD z) | none => .bad) := rfl
@[simp] theorem e_mIsi (T : Ty6) : mIsi T m env = (m env >>= fun d => if isOb d = true then .bad else .ok (.bl (isi T d))) := rfl
@[simp] theorem isOb_n : isOb .non = false := rfl
@[simp] theorem isOb_b (b : Bool) : isOb (.bl b) = false := rfl
@[simp] theorem isOb_i (i : Int) : isOb (.int i) = false := rfl
@[simp] theorem isOb_s (z : Str) : isOb (.str z) = false := rfl
@[simp] theorem isOb_l (xs : List D) : isOb (.lst xs) = false := rfl
@[simp] theorem isOb_t (xs : List D) : isOb (.tup xs) = false := rfl
@[simp] theorem isOb_dk (ks : List Key) (ds : List D) : isOb (.dk ks ds) = false := rfl
@[simp] theorem isOb_dt (ks : List (List Key)) (ds : List D) : isOb (.dt ks ds) = false := rfl
@[simp] theorem isOb_ob (c : Str) (C : Addr) (ns : List Str) (ds : List D) : isOb (.ob c C ns ds) = true := rfl
@[simp] theorem isOb_exn (c : Str) (C : Addr) (ns : List Str) (ds : List D) : isOb (.exn c C ns ds) = true := rfl
@[simp] theorem e_mSlice (l u : Mir.Env → Res (Option Int)) : mSlice ms l u env = (ms env >>= fun ds => l env >>= fun lo => u env >>= fun hi => .ok (.lst (cutD ds lo hi))) := rfl
@[simp] theorem e_mFor (t : Nat → D → Mir.Env → Res Mir.Env) : mFor ms t m1 fg env = (ms env >>= fun ds => loop t m1 fg ds env) := rfl
@[simp] theorem e_mDput : mDput j cs m n env = (m env >>= fun d => n (clear env cs) >>= fun y => atK (clear env cs) j >>= fun dd => dSet dd y d >>= fun d' => .ok (.nx ((clear env cs).set j (some (1, d'))))) := rfl
@[simp] theorem e_atK : atK env j = (match env[j]? with | some (some (1, d)) => .ok d | _ => .bad) := rfl
@[simp] theorem e_mAppend : mAppend j k cs m env = (m env >>= fun d => atL (clear env cs) j (k + 1) >>= fun ds => if ds.length < sizeLine then .ok (.nx ((clear env cs).set j (some (k + 1, .lst (ds ++ [d]))))) else .bad) := rfl
@[simp] theorem e_atL : atL env j k = (match env[j]? with | some (some (k', d)) => if k' = k then itemsL d else .bad | _ => .bad) := by
  unfold atL
  cases env[j]? with
  | none => rfl
  | some x =>
    cases x with
    | none => rfl
    | some y =>
      obtain ⟨k', d⟩ := y
      cases d <;> simp [itemsL]
end
@[simp] theorem e_itemsL (xs : List D) : itemsL (.lst xs) = .ok xs := rfl
@[simp] theorem e_itemsT (xs : List D) : itemsT (.tup xs) = .ok xs := rfl
@[simp] theorem e_toI (i : Int) : toI (.int i) = .ok i := rfl
@[simp] theorem e_gAdd (i j : Int) : gAdd (.int i) (.int j) = .ok (.int (i + j)) := rfl
@[simp] theorem e_gSub (i j : Int) : gSub (.int i) (.int j) = .ok (.int (i - j)) := rfl
@[simp] theorem e_gNeg (i : Int) : gNeg (.int i) = .ok (.int (-i)) := rfl
@[simp] theorem e_gLt (i j : Int) : gLt (.int i) (.int j) = .ok (.bl (decide (i < j))) := rfl
@[simp] theorem e_gLe (i j : Int) : gLe (.int i) (.int j) = .ok (.bl (decide (i ≤ j))) := rfl
@[simp] theorem e_gGt (i j : Int) : gGt (.int i) (.int j) = .ok (.bl (decide (j < i))) := rfl
@[simp] theorem e_gGe (i j : Int) : gGe (.int i) (.int j) = .ok (.bl (decide (j ≤ i))) := rfl
@[simp] theorem e_gLenL (xs : List D) : gLen (.lst xs) = .ok (.int xs.length) := rfl
@[simp] theorem e_gLenT (xs : List D) : gLen (.tup xs) = .ok (.int xs.length) := rfl
theorem e_gMod (i j : Int) (h : 0 < j) : gMod (.int i) (.int j) = .ok (.int (i % j)) := if_pos h
theorem e_gFdv (i j : Int) (h : 0 < j) (h2 : j < 2 ^ 30) : gFdv (.int i) (.int j) = .ok (.int (i / j)) := if_pos ⟨h, by
  have : j.natAbs < 2 ^ 30 := by omega
  exact Nat.lt_of_lt_of_le (PySem.Flt.log2_lt_of (by decide) this) (by decide)⟩
theorem e_gMul (i j : Int) (h : (-(2 ^ 64) < i ∧ i < 2 ^ 64) ∨ (-(2 ^ 64) < j ∧ j < 2 ^ 64)) : gMul (.int i) (.int j) = .ok (.int (i * j)) := if_pos (by
  unfold mulOk
  rw [Bool.or_eq_true, Bool.or_eq_true, Bool.and_eq_true, Bool.and_eq_true]
  simp only [decide_eq_true_eq]
  exact .inl h)
@[simp] theorem e_int_imm (i : Int) : (D.int i).imm = true := rfl
@[simp] theorem e_bl_imm (i : Bool) : (D.bl i).imm = true := rfl
@[simp] theorem e_str_imm (i : Str) : (D.str i).imm = true := rfl
@[simp] theorem e_non_imm : D.non.imm = true := rfl
@[simp] theorem e_tup_imm (xs : List D) : (D.tup xs).imm = immAll xs := rfl
@[simp] theorem e_immAll_nil : immAll [] = true := rfl
@[simp] theorem e_immAll_cons (d : D) (ds : List D) : immAll (d :: ds) = (d.imm && immAll ds) := rfl
@[simp] theorem e_immAll_map {α : Type} (f : α → D) (xs : List α) : immAll (xs.map f) = xs.all fun x => (f x).imm := by
  induction xs with
  | nil => rfl
  | cons x xs ih => simp [ih]
@[simp] theorem e_immAt0 (d : D) : immAt 0 d = d.imm := by unfold immAt; rfl
@[simp] theorem e_shp_int (i : Int) : shp (.int i) = true := rfl
@[simp] theorem e_shp_bl (i : Bool) : shp (.bl i) = true := rfl
@[simp] theorem e_py_int (i : Int) : (D.int i).py = .int i := rfl
@[simp] theorem e_eqv_int (i j : Int) : PyData.eqv (.int i) (.int j) = (i == j) := by simp [PyData.eqv]
@[simp] theorem e_gEq_int (i j : Int) : gEq (.int i) (.int j) = .ok (.bl (i == j)) := by unfold gEq; simp
@[simp] theorem e_gNe_int (i j : Int) : gNe (.int i) (.int j) = .ok (.bl (!(i == j))) := by unfold gNe; simp
theorem sizeLine_big {n : Nat} (h : n ≤ 16000000) : n ≤ sizeLine := by rw [sizeLine_eq]; omega
theorem sizeLine_lt {n : Nat} (h : n ≤ 16000000) : n < sizeLine := by rw [sizeLine_eq]; omega
/-! ### dicts of whole numbers -/
abbrev Pol := List (Int × Int)
def look (p : Pol) (k : Int) : Option Int := (p.find? fun x => decide (x.1 = k)).map (·.2)
def put (p : Pol) (k v : Int) : Pol := if k ∈ p.map (·.1) then p.map (fun x => if x.1 = k then (x.1, v) else x) else p ++ [(k, v)]
def encP (p : Pol) : D := .dk (p.map fun x => .inl x.1) (p.map fun x => .int x.2)
theorem dFind_enc : ∀ (p : Pol) (k : Int), dFind (p.map fun x => (Sum.inl x.1 : Key)) (p.map fun x => D.int x.2) (Sum.inl k) = (look p k).map D.int
  | [], k => rfl
  | x :: p, k => by
    show (if (Sum.inl x.1 : Key) = Sum.inl k then some (D.int x.2) else dFind (p.map fun x => (Sum.inl x.1 : Key)) (p.map fun x => D.int x.2) (Sum.inl k)) = _
    rw [dFind_enc p k]
    unfold look
    by_cases e : x.1 = k
    · simp [e]
    · have : ¬ (Sum.inl x.1 : Key) = Sum.inl k := fun z => e (Sum.inl.inj z)
      rw [if_neg this]
      simp [e]
@[simp] theorem dGet_enc (p : Pol) (k : Int) : dGet (encP p) (.int k) = some ((look p k).map D.int) := by
  show some (dFind _ _ _) = _
  rw [dFind_enc]
@[simp] theorem immAtL0 : ∀ ds : List D, immAtL 0 ds = immAll ds
  | [] => by unfold immAtL; rfl
  | d :: ds => by rw [immAtL, immAtL0 ds, e_immAt0]; rfl
@[simp] theorem immAt_enc (p : Pol) : immAt 1 (encP p) = true := by
  show immAt 1 (.dk _ _) = true
  unfold immAt
  simp
theorem put_keys (p : Pol) (k v : Int) : (put p k v).map (·.1) = if k ∈ p.map (·.1) then p.map (·.1) else p.map (·.1) ++ [k] := by
  unfold put
  split
  · rw [List.map_map]
    refine List.map_congr_left fun x _ => ?_
    by_cases e : x.1 = k <;> simp [e]
  · simp
theorem put_nodup {p : Pol} (h : (p.map (·.1)).Nodup) (k v : Int) : ((put p k v).map (·.1)).Nodup := by
  rw [put_keys]
  split
  · exact h
  · rename_i hk
    refine List.nodup_append.mpr ⟨h, by simp, fun a ha b hb e => ?_⟩
    rw [List.mem_singleton.mp hb] at e
    exact hk (e ▸ ha)
@[simp] theorem dKeys_enc (p : Pol) : dKeys (encP p) = .ok (p.map fun x => D.int x.1) := by
  show Res.ok ((p.map fun x => (Sum.inl x.1 : Key)).map kD) = _
  rw [List.map_map]; rfl
@[simp] theorem dItems_enc (p : Pol) : dItems (encP p) = .ok (p.map fun x => D.tup [.int x.1, .int x.2]) := by
  show (if (p.map fun x => (Sum.inl x.1 : Key)).length = (p.map fun x => D.int x.2).length then Res.ok _ else .bad) = _
  rw [if_pos (by simp)]
  congr 1
  induction p with
  | nil => rfl
  | cons x p ih => exact congrArg (List.cons _) ih
@[simp] theorem gDictC_enc (p : Pol) : gDictC (encP p) = .ok (encP p) := by
  show (if immAll _ then _ else _) = _
  rw [if_pos (by simp)]; rfl
@[simp] theorem isi_dict_enc (p : Pol) : isi .dict (encP p) = true := rfl
@[simp] theorem isOb_encP (p : Pol) : isOb (encP p) = false := rfl
end Mir

namespace Mir
open PySem PySem.Spec L2
end Mir

namespace Mir
open PySem PySem.Spec L2
/-! ### polynomials: what a sum over the terms says -/
abbrev ND (p : Pol) : Prop := (p.map (·.1)).Nodup
def ev : Pol → (Int → Int) → Int
  | [], _ => 0
  | x :: p, w => x.2 * w x.1 + ev p w
theorem look_cons (x : Int × Int) (p : Pol) (k : Int) : look (x :: p) k = if x.1 = k then some x.2 else look p k := by
  unfold look
  by_cases e : x.1 = k <;> simp [e]
theorem look_in {p : Pol} {k v : Int} (h : look p k = some v) : (k, v) ∈ p := by
  induction p with
  | nil => cases h
  | cons x p ih =>
    rw [look_cons] at h
    split at h
    · rename_i e
      have := Option.some.inj h
      rw [← e, ← this]; exact List.mem_cons_self
    · exact List.mem_cons_of_mem _ (ih h)
theorem nodup_le : ∀ {xs ys : List Int}, xs.Nodup → (∀ x ∈ xs, x ∈ ys) → xs.length ≤ ys.length
  | [], _, _, _ => Nat.zero_le _
  | x :: xs, ys, h, s => by
    have h2 := List.nodup_cons.mp h
    have hx := s x List.mem_cons_self
    have := nodup_le (ys := ys.erase x) h2.2 fun y hy => (List.mem_erase_of_ne (fun e : y = x => h2.1 (e ▸ hy))).mpr (s y (List.mem_cons_of_mem _ hy))
    rw [List.length_erase_of_mem hx] at this
    have pos : 0 < ys.length := List.length_pos_of_mem hx
    rw [List.length_cons]; omega
theorem nodup_range {xs : List Int} (h : xs.Nodup) {m : Nat} (b : ∀ x ∈ xs, -(m : Int) ≤ x ∧ x ≤ m) : xs.length ≤ 2 * m + 1 := by
  have := nodup_le (ys := (List.range (2 * m + 1)).map fun i : Nat => (i : Int) - m) h fun x hx => by
    obtain ⟨h1, h2⟩ := b x hx
    refine List.mem_map.mpr ⟨(x + m).toNat, List.mem_range.mpr (by omega), by omega⟩
  simpa using this
end Mir

namespace Mir
open PySem PySem.Spec L2
/-- unlike powers, none beyond R, numbers of at most B -/
structure PB (R B : Nat) (p : Pol) : Prop where
  nd : ND p
  rg : ∀ x ∈ p, x.1.natAbs ≤ R
  vb : ∀ x ∈ p, x.2.natAbs ≤ B
theorem PB.nil {R B : Nat} : PB R B [] := ⟨List.nodup_nil, fun x h => absurd h List.not_mem_nil, fun x h => absurd h List.not_mem_nil⟩
theorem PB.len {R B : Nat} {p : Pol} (h : PB R B p) : p.length ≤ 2 * R + 1 := by
  have := nodup_range h.nd (m := R) fun x hx => by
    obtain ⟨y, hy, rfl⟩ := List.mem_map.mp hx
    have := h.rg y hy
    omega
  simpa using this
theorem PB.up {R B R' B' : Nat} {p : Pol} (h : PB R B p) (hr : R ≤ R') (hb : B ≤ B') : PB R' B' p := ⟨h.nd, fun x hx => Nat.le_trans (h.rg x hx) hr, fun x hx => Nat.le_trans (h.vb x hx) hb⟩
theorem mem_put {p : Pol} {k v : Int} {x : Int × Int} (h : x ∈ put p k v) : x = (k, v) ∨ x ∈ p := by
  unfold put at h
  split at h
  · obtain ⟨y, hy, e⟩ := List.mem_map.mp h
    split at e
    · rename_i ek; exact .inl (by rw [← e, ek])
    · exact .inr (e ▸ hy)
  · rcases List.mem_append.mp h with h | h
    · exact .inr h
    · exact .inl (List.mem_singleton.mp h)
theorem PB.put {R B : Nat} {p : Pol} (h : PB R B p) {k v : Int} (hk : k.natAbs ≤ R) (hv : v.natAbs ≤ B) : PB R B (put p k v) :=
  ⟨put_nodup h.nd k v, fun x hx => by rcases mem_put hx with rfl | hx; exact hk; exact h.rg x hx, fun x hx => by rcases mem_put hx with rfl | hx; exact hv; exact h.vb x hx⟩
theorem PB.look {R B : Nat} {p : Pol} (h : PB R B p) (k : Int) : ((look p k).getD 0).natAbs ≤ B := by
  cases e : Mir.look p k with
  | none => exact Nat.zero_le _
  | some v => exact h.vb _ (look_in e)
/-- the product -/
def ter (x : Int × Int) (t : Pol) (y : Int × Int) : Pol := Mir.put t (x.1 + y.1) ((Mir.look t (x.1 + y.1)).getD 0 + x.2 * y.2)
def row (b : Pol) (t : Pol) (x : Int × Int) : Pol := b.foldl (ter x) t
/-- of few bits -/
def Sm (A : Nat) : Prop := ∃ k, k < 400000 ∧ A ≤ 2 ^ k
theorem Sm.lt {A : Nat} {i : Int} (h : Sm A) (hi : i.natAbs ≤ A) : i.natAbs.log2 < 400001 := by
  obtain ⟨k, hk, hA⟩ := h
  have h1 : i.natAbs < 2 ^ (k + 1) := Nat.lt_of_le_of_lt (Nat.le_trans hi hA) (Nat.pow_lt_pow_right (by decide) (by omega))
  exact Nat.lt_of_lt_of_le (PySem.Flt.log2_lt_of (by omega) h1) (by omega)
end Mir

namespace Mir
open PySem PySem.Spec L2
/-! ### dict displays, unlike keys, values without lists and dicts -/
def mDispP : List ((Env → Res D) × (Env → Res D)) → Env → Res (List (Key × D))
  | [], _ => .ok []
  | (mk, mv) :: r, env => mk env >>= fun x => mv env >>= fun d => mDispP r env >>= fun t => match keyOf x with
    | some k => if d.imm then .ok ((k, d) :: t) else .bad
    | none => .bad
def mDisp (l : List ((Env → Res D) × (Env → Res D))) : Env → Res D := fun env => mDispP l env >>= fun kds => if (kds.map (·.1)).Nodup ∧ kds.length ≤ 15 then .ok (.dk (kds.map (·.1)) (kds.map (·.2))) else .bad
section
variable {X : Cx} {pos : Pos}
end
variable (env : Mir.Env)
@[simp] theorem e_mDisp (l : List ((Mir.Env → Res D) × (Mir.Env → Res D))) : mDisp l env = (mDispP l env >>= fun kds => if (kds.map (·.1)).Nodup ∧ kds.length ≤ 15 then .ok (.dk (kds.map (·.1)) (kds.map (·.2))) else .bad) := rfl
@[simp] theorem e_mDispP0 : mDispP [] env = .ok [] := rfl
@[simp] theorem e_mDispP1 (mk mv : Mir.Env → Res D) (r : List ((Mir.Env → Res D) × (Mir.Env → Res D))) : mDispP ((mk, mv) :: r) env = (mk env >>= fun x => mv env >>= fun d => mDispP r env >>= fun t => match keyOf x with
    | some k => if d.imm then .ok ((k, d) :: t) else .bad
    | none => .bad) := rfl
@[simp] theorem e_keyOf_int (i : Int) : keyOf (.int i) = some (.inl i) := rfl
@[simp] theorem e_keyOf_str (i : Str) : keyOf (.str i) = some (.inr i) := rfl
theorem rangeOk_nat (n : Nat) (h : n ≤ 1000) : rangeOk (n : Int) = true := by
  have h1 : -(2 ^ 62) ≤ (n : Int) := Int.le_trans (by decide) (Int.natCast_nonneg n)
  have h2 : (n : Int) < 2 ^ 62 := Int.lt_of_le_of_lt (Int.ofNat_le.mpr h) (by decide)
  unfold rangeOk
  rw [decide_eq_true h1, decide_eq_true h2, Bool.true_and]
theorem gRng1_nat (n : Nat) (h : n ≤ 1000) : gRng1 (.int n) = .ok ((List.range n).map fun i : Nat => D.int i) := by
  show (if rangeOk (n : Int) = true then Res.ok (intsD 0 (n : Int).toNat) else .bad) = _
  rw [if_pos (rangeOk_nat n h)]
  simp [intsD]
end Mir

namespace Mir
open PySem PySem.Spec L2
/-! ### a number laid into each dict of a list -/
section
variable {X : Cx} {kr : Nat} {pos p2 p3 p4 p5 p6 p7 : Pos} {o it : Expr} {v : Str}
end
end Mir

namespace Mir
open PySem PySem.Spec L2
/-! ### texts of numbers, joined texts, sorted dicts, the truth of a dict -/
def intsOf : List Key → Option (List Int)
  | [] => some []
  | .inl i :: ks => (intsOf ks).map fun is => i :: is
  | .inr _ :: _ => none
theorem intsOf_eq : ∀ {ks : List Key} {is : List Int}, intsOf ks = some is → ks = is.map Sum.inl
  | [], is, h => by cases h; rfl
  | .inl i :: ks, is, h => by
    unfold intsOf at h
    cases e : intsOf ks with
    | none => rw [e] at h; cases h
    | some js =>
      rw [e] at h
      cases h
      rw [intsOf_eq e]; rfl
  | .inr _ :: _, _, h => by cases h
def insI (x : Int) : List Int → List Int
  | [] => [x]
  | y :: ys => if x ≤ y then x :: y :: ys else y :: insI x ys
def sortI : List Int → List Int
  | [] => []
  | x :: xs => insI x (sortI xs)
theorem insI_perm (x : Int) : ∀ ys : List Int, (insI x ys).Perm (x :: ys)
  | [] => .refl _
  | y :: ys => by
    unfold insI
    split
    · exact .refl _
    · exact ((insI_perm x ys).cons y).trans (.swap x y ys)
theorem sortI_perm : ∀ xs : List Int, (sortI xs).Perm xs
  | [] => .refl _
  | x :: xs => (insI_perm x _).trans ((sortI_perm xs).cons x)
theorem insI_sorted (x : Int) : ∀ ys : List Int, ys.Pairwise (· ≤ ·) → (insI x ys).Pairwise (· ≤ ·)
  | [], _ => List.pairwise_singleton _ _
  | y :: ys, h => by
    have h2 := List.pairwise_cons.mp h
    unfold insI
    split
    · rename_i hx
      exact List.pairwise_cons.mpr ⟨fun z hz => by
        rcases List.mem_cons.mp hz with rfl | hz
        · exact hx
        · exact Int.le_trans hx (h2.1 z hz), h⟩
    · rename_i hx
      refine List.pairwise_cons.mpr ⟨fun z hz => ?_, insI_sorted x ys h2.2⟩
      rcases List.mem_cons.mp ((insI_perm x ys).mem_iff.mp hz) with rfl | hz
      · omega
      · exact h2.1 z hz
theorem sortI_sorted : ∀ xs : List Int, (sortI xs).Pairwise (· ≤ ·)
  | [] => .nil
  | x :: xs => insI_sorted x _ (sortI_sorted xs)
theorem sorted_unique : ∀ {xs ys : List Int}, xs.Perm ys → xs.Pairwise (· ≤ ·) → ys.Pairwise (· ≤ ·) → xs = ys
  | [], ys, h, _, _ => (List.Perm.nil_eq h)
  | x :: xs, [], h, _, _ => (List.Perm.nil_eq h.symm).symm
  | x :: xs, y :: ys, h, hx, hy => by
    have hx2 := List.pairwise_cons.mp hx
    have hy2 := List.pairwise_cons.mp hy
    have e : x = y := by
      have m1 := h.mem_iff.mp (List.mem_cons_self (a := x) (l := xs))
      have m2 := h.mem_iff.mpr (List.mem_cons_self (a := y) (l := ys))
      rcases List.mem_cons.mp m1 with e | m1
      · exact e
      · rcases List.mem_cons.mp m2 with e | m2
        · exact e.symm
        · have := hx2.1 y m2; have := hy2.1 x m1; omega
    subst e
    rw [sorted_unique (h.cons_inv) hx2.2 hy2.2]
def gSortD : D → Res D
  | .dk ks _ => match intsOf ks with
    | some is => if is.length < 64 then .ok (.lst ((sortI is).map D.int)) else .bad
    | none => .bad
  | _ => .bad
section
variable {X : Cx} {e o : Expr} {m mo : Env → Res D} {k : Nat} {pos p apos : Pos}
theorem se_sortDI (hc : X.calm = true) (hg : Gl X "sorted") (hm0 : X.mg "sorted" = none) (h : SB X e m) (he : starEach [e] X.env = (false, eval e X.env) :: starEach [] X.env := by rfl) (hpl : (backTo pos (starEach [] X.env)).any (·.1) = false := by rfl) : SE X (k + 1) [] (.Call (.Name "sorted" p) [e] [] pos) (fun env => m env >>= gSortD) := fun B H env σ tm d Q ok hm q => by
  obtain ⟨x, hx, h2⟩ := bind_ok hm
  refine wE_of (pe_callB (call_sortedDI hc) hg hm0 (by decide +kernel) (pa_cons pe_sem pa_nil he) (by decide) (by decide) he hpl) (h B H env σ tm _ _ ok hx fun v H1 x1 ok1 r => ?_)
  cases r with
  | @dk a kvs ks ds hv ek ra =>
    unfold gSortD at h2
    dsimp only at h2
    split at h2
    · rename_i is his
      split at h2
      · rename_i hlt
        cases h2
        refine ⟨a, kvs, is, rfl, view_rd hv, by rw [ek]; exact intsOf_eq his, hlt, fun ys q' hp hs hn => ?_⟩
        have e : ys = sortI is := sorted_unique (hp.trans (sortI_perm is).symm) hs (sortI_sorted is)
        subst e
        refine q _ _ (x1.trans (Ext.upd hn)) ?_
        have hall : RpAll (view H1) ((sortI is).map V.int) ((sortI is).map D.int) := by
          generalize sortI is = zs
          induction zs with
          | nil => exact .nil
          | cons z zs ih => exact .cons (.int z) ih
        have him : immAll ((sortI is).map D.int) = true := by simp
        exact (ok1.levs (k := k) hall him).newLst (by simp) hn
      · cases h2
    · cases h2
  | _ => cases h2
end
end Mir

namespace Mir
open PySem PySem.Spec PyProof.Rows RT
section
variable {prog : Program} {w : World} {A : Around} {E : Value → Shared → Prop} {s : Shared}
end
end Mir
namespace Mir
open PySem PySem.Spec PyProof.Rows L2 RT
section
variable {X : Cx} {e : Expr} {te : TE} {k : Nat} {p p2 pos pos2 : Pos} {mm : Env → Res (List D)}
end
end Mir

namespace Mir
open PySem PySem.Spec L2
/-! ### a list that is made to be read alone: its items stay where they are -/
theorem EnvOk.extra {B : Bs} {H : Hp} {env : Env} {σ : St} {tm : List Hold} {p : Addr} {o : HO} (h : EnvOk B H env σ tm) (hp : H p = none) (hu : unf o = o) (ho : isIm o = false) : EnvOk B (upd H p o) env σ tm := by
  obtain ⟨⟨G, fp, g, hs, nd, hq⟩, h2, h3⟩ := h
  exact ⟨⟨G, fp, g.newMu hp hu ho, hs.frame (fun a u e => e) (fun a u e _ => up_keep hp a u e), nd, hq⟩, h2, h3⟩
section
variable {X : Cx} {pos : Pos} {es : List Expr} {ms : Env → Res (List D)}
/-- [..] that is read alone -/
theorem sb_lst (hs : SAB X es ms) : SB X (.List es pos) (mLst ms) := fun B H env σ tm d Q ok hm q => by
  obtain ⟨xs, hx, hg⟩ := bind_ok hm
  by_cases hl : xs.length ≤ sizeLine
  · rw [if_pos hl] at hg
    cases hg
    refine wE_of (pe_lst pa_sem) (hs B H env σ tm xs _ ok hx fun vs H1 x1 ok1 ra => ⟨by rw [ra.length]; exact hl, fun p hp => ?_⟩)
    have x2 : Ext H1 (upd H1 p (.lst vs)) := Ext.upd hp
    refine q _ _ (x1.trans x2) (ok1.extra hp rfl rfl) (.lst ?_ (x2.rpAll ra))
    unfold view
    rw [upd_same]; rfl
  · rw [if_neg hl] at hg; cases hg
end
end Mir

namespace Mir
open PySem PySem.Spec L2
/-! ### in a list, the place in a list, all -/
def gIn (x y : D) : Res D := match y with
  | .lst ds => if shp x && shp y then .ok (.bl ((pyAll ds).any fun z => PyData.eqv z x.py)) else .bad
  | _ => .bad
def gNotIn (x y : D) : Res D := match y with
  | .lst ds => if shp x && shp y then .ok (.bl (!(pyAll ds).any fun z => PyData.eqv z x.py)) else .bad
  | _ => .bad
section
variable {X : Cx}
theorem o_in (hu : X.A.units + 65 < cLine) : OpC X (compareOp .In) gIn := by
  refine ⟨_, op_inD hu, fun x y dx dy d H Q rx ry e q => ?_⟩
  unfold gIn at e
  split at e
  · rename_i ds
    split at e
    · rename_i hs
      rw [Bool.and_eq_true] at hs
      cases e
      exact ⟨dx.py, pyAll ds, rx.dp (shaped_lay hs.1), ry.dp (shaped_lay hs.2), hs.1, hs.2, q _ (.bl _) rfl⟩
    · cases e
  · cases e
theorem o_notIn (hu : X.A.units + 65 < cLine) : OpC X (compareOp .NotIn) gNotIn := by
  refine ⟨_, op_notInD hu, fun x y dx dy d H Q rx ry e q => ?_⟩
  unfold gNotIn at e
  split at e
  · rename_i ds
    split at e
    · rename_i hs
      rw [Bool.and_eq_true] at hs
      cases e
      exact ⟨dx.py, pyAll ds, rx.dp (shaped_lay hs.1), ry.dp (shaped_lay hs.2), hs.1, hs.2, q _ (.bl _) rfl⟩
    · cases e
  · cases e
variable {e o : Expr} {m mo : Env → Res D} {pos p apos cpos : Pos}
def idxOf (d : PyData) : List PyData → Nat → Option Nat
  | [], _ => none
  | z :: zs, n => if PyData.eqv z d then some n else idxOf d zs (n + 1)
theorem idxOf_some {d : PyData} : ∀ {zs : List PyData} {n j : Nat}, idxOf d zs n = some j → n ≤ j ∧ (∃ z, zs[j - n]? = some z ∧ PyData.eqv z d = true) ∧ ∀ (m : Nat) (z' : PyData), m < j - n → zs[m]? = some z' → PyData.eqv z' d = false
  | [], n, j, h => by cases h
  | z :: zs, n, j, h => by
    unfold idxOf at h
    split at h
    · rename_i hz
      cases h
      exact ⟨Nat.le_refl _, ⟨z, by simp, hz⟩, fun m z' hm => by omega⟩
    · rename_i hz
      obtain ⟨h1, ⟨w, h2, h3⟩, h4⟩ := idxOf_some h
      refine ⟨by omega, ⟨w, ?_, h3⟩, fun m z' hm hm2 => ?_⟩
      · rw [show j - n = (j - (n + 1)) + 1 by omega]; simpa using h2
      · cases m with
        | zero => cases hm2; simpa using hz
        | succ m => exact h4 m z' (by omega) (by simpa using hm2)
def gIndex (x y : D) : Res D := match x with
  | .lst ds => if shp x && shp y then (match idxOf y.py (pyAll ds) 0 with | some j => .ok (.int j) | none => .bad) else .bad
  | _ => .bad
theorem sc_index (hu : X.A.units + 65 < cLine) (ho : SB X o mo) (h : SB X e m) (hbase : attributeBase o "index" X.env (eval o X.env) = eval o X.env := by rfl)
    (hfew : ((backTo cpos (starEach [e] X.env)).all (fun x => !x.1) && (backToKw cpos (keywordEach [] X.env)).all (fun x => x.1.isSome) && decide ([e].length + ([] : List Keyword).length + (if ([] : List Keyword).isEmpty then 0 else 1) < 30)) = true := by rfl)
    (hline : (apos.endLine == cpos.line) = true := by rfl) (hs : starEach [e] X.env = (false, eval e X.env) :: starEach [] X.env := by rfl) (hplain : (backTo cpos (starEach [] X.env)).any (·.1) = false := by rfl) :
    SC X (.Call (.Attribute o "index" apos) [e] [] cpos) (mOp gIndex mo m) := fun B H env σ tm d Q ok hm q => by
  obtain ⟨x, y, hx, hy, hg⟩ := two hm
  unfold gIndex at hg
  split at hg
  · rename_i ds
    split at hg
    · rename_i hsh
      rw [Bool.and_eq_true] at hsh
      split at hg
      · rename_i j hj
        cases hg
        obtain ⟨_, ⟨z, hz1, hz2⟩, hz3⟩ := idxOf_some hj
        refine wE_of (pe_bm F.plainAttrs_list F.slot_list_index F.type_list_index (mt_indexD hu) pe_sem (pa_cons pe_sem pa_nil hs) hbase hfew hline hs hplain) (ho B H env σ tm _ _ ok hx fun v H1 x1 ok1 r1 => ?_)
        cases r1 with
        | @lst a vs _ hv ra =>
          refine ⟨.inl ⟨rfl, _, .inl (view_rd hv)⟩, h B H1 env σ tm _ _ ok1 hy fun u H2 x2 ok2 r2 => ?_⟩
          exact ⟨a, u, y.py, pyAll ds, j, z, rfl, rfl, (x2.rp (.lst hv ra)).dp (shaped_lay hsh.1), r2.dp (shaped_lay hsh.2), hsh.1, hsh.2, by simpa using hz1, hz2, fun m z' hm => hz3 m z' (by omega), q _ H2 (x1.trans x2) ok2 (.int _) rfl⟩
      · cases hg
    · cases hg
  · cases hg
end
end Mir

namespace Mir
open PySem PySem.Spec L2
/-! ### x = d.setdefault(k, v) -/
def mSetd (i j : Nat) (mk mz : Env → Res D) : Env → Res Ctl := fun env => mk env >>= fun y => mz env >>= fun z => atK env j >>= fun dd => match dd, keyOf y with
  | .dk ks ds, some kk => if i < env.length ∧ z.imm = true ∧ ds.length < sizeLine then (match dFind ks ds kk with
    | some w => if w.imm then .ok (.nx (env.set i (some (0, w)))) else .bad
    | none => .ok (.nx ((env.set j (some (1, .dk (dPutK ks kk) (dPutV ks ds kk z)))).set i (some (0, z))))) else .bad
  | _, _ => .bad
section
variable {X : Cx} {kr : Nat} {o e f : Expr} {pos apos cpos : Pos} {mk mz : Env → Res D}
end
end Mir

namespace Mir
open PySem PySem.Spec L2
/-! ### min of a list of alike data -/
def rMinD (K : PySem.W.Frag) : List V → Hp → VK → Prop := fun xs H Q => ∃ (a : Addr) (vs : List V) (d : PyData) (ds : List PyData), xs = [.ref a] ∧ SqL K H a vs ∧ DpAll K H vs (d :: ds) ∧ PyData.canLayAll0 (d :: ds) = true ∧ PySem.W.AlikeAll (d :: ds) ∧ PyData.depthAll (d :: ds) ≤ 60 ∧
  ∀ (i : Nat) (v : V), vs[i]? = some v → (d :: ds)[i]? = some (PySem.W.minD d ds) → Q v H
theorem cr_minD {X : Cx} (hc : X.calm = true) (hu : X.A.units + 65 < cLine) : CallR X (.builtin "min") (rMinD X.K) := by
  intro pins s σ H xs us Q I r h
  obtain ⟨a, vs, d, ds, rfl, hs, hd, hlay, hal, hdep, q⟩ := h
  obtain ⟨its, rv, hl, _⟩ := I.list hs
  rw [Vals.ref1 r]
  obtain ⟨as, hr⟩ := Dp.readsAll I (d :: ds) vs its hd rv
  refine PySem.W.min_list_data (I.ok.hd hc) hl.isList (by simpa using hr) hal (by omega) fun i v h' tk bs hi hrd hk => ?_
  have hi2 : its[i]? = some v := by simpa using hi
  have hil : i < its.length := (List.getElem?_eq_some_iff.mp hi2).1
  obtain ⟨w, hw⟩ : ∃ w, vs[i]? = some w := ⟨_, List.getElem?_eq_getElem (by rw [rv.length]; exact hil)⟩
  obtain ⟨v2, hv2, rw2⟩ := rv.get hw
  rw [hi2] at hv2
  cases hv2
  obtain ⟨cs, hr2, hlt, _, _⟩ := PySem.W.readsAll_atA (vs := its.toArray) (by simpa using hr) i v hi
  have hgi : (d :: ds)[i]? = some ((d :: ds).getD i .none) := by
    rw [List.getD_eq_getElem?_getD, List.getElem?_eq_getElem hlt]; rfl
  have e := (Reads.unique (PySem.W.reads_keeps hk hr2) _ _ hrd).1
  exact ⟨w, H, I.kept hk, rw2, q i w hw (by rw [hgi, e])⟩
end Mir

namespace Mir
open PySem PySem.Spec L2
mutual
def unpy : PyData → D
  | .none => .non | .bool b => .bl b | .int i => .int i | .str x => .str x
  | .list xs => .lst (unpyAll xs) | .tuple xs => .tup (unpyAll xs)
  | _ => .non
def unpyAll : List PyData → List D
  | [] => []
  | x :: xs => unpy x :: unpyAll xs
end
mutual
theorem unpy_py : ∀ d : D, d.imm = true → PyData.canLay0 d.py = true → unpy d.py = d
  | .non, _, _ => by simp [D.py, unpy]
  | .bl _, _, _ => by simp [D.py, unpy]
  | .int _, _, _ => by simp [D.py, unpy]
  | .str _, _, _ => by simp [D.py, unpy]
  | .lst _, h, _ => by simp [D.imm] at h
  | .tup xs, h, e => by
    have := unpyAll_py xs (by simpa [D.imm] using h) (by simpa [D.py, PyData.canLay0] using e)
    simp [D.py, unpy, this]
  | .dk _ _, h, _ => by simp [D.imm] at h
  | .dt _ _, h, _ => by simp [D.imm] at h
  | .ob _ _ _ _, _, e => by simp [D.py, PyData.canLay0] at e
  | .exn _ _ _ _, h, _ => by simp [D.imm] at h
  | .dn _ _, h, _ => by simp [D.imm] at h
theorem unpyAll_py : ∀ ds : List D, immAll ds = true → PyData.canLayAll0 (pyAll ds) = true → unpyAll (pyAll ds) = ds
  | [], _, _ => by simp [pyAll, unpyAll]
  | d :: ds, h, e => by
    have h2 : d.imm = true ∧ immAll ds = true := by simpa [immAll] using h
    rw [pyAll, PyData.canLayAll0, Bool.and_eq_true] at e
    simp [pyAll, unpyAll, unpy_py d h2.1 e.1, unpyAll_py ds h2.2 e.2]
end
theorem lay_get {ds : List D} (e : PyData.canLayAll0 (pyAll ds) = true) : ∀ {d : D}, d ∈ ds → PyData.canLay0 d.py = true := by
  induction ds with
  | nil => intro d h; cases h
  | cons x xs ih =>
    rw [pyAll, PyData.canLayAll0, Bool.and_eq_true] at e
    intro d h
    rcases List.mem_cons.mp h with rfl | h
    · exact e.1
    · exact ih e.2 h
def notNon : PyData → Bool
  | .none => false
  | _ => true
def alikeB (xs : List PyData) : Bool := xs.all (fun x => xs.all fun y => PySem.W.alike x y) && xs.all notNon
theorem alikeB_iff {xs : List PyData} (h : alikeB xs = true) : PySem.W.AlikeAll xs := by
  unfold alikeB at h
  simp only [Bool.and_eq_true, List.all_eq_true] at h
  exact ⟨h.1, fun x hx e => by have := h.2 x hx; rw [e] at this; cases this⟩
def gMin : D → Res D
  | .lst (d :: ds) => if immAll (d :: ds) = true ∧ PyData.canLayAll0 (pyAll (d :: ds)) = true ∧ alikeB (pyAll (d :: ds)) = true ∧ PyData.depthAll (pyAll (d :: ds)) ≤ 60 then .ok (unpy (PySem.W.minD d.py (pyAll ds))) else .bad
  | _ => .bad
section
variable {X : Cx} {e : Expr} {m : Env → Res D} {pos p : Pos}
theorem sc_min (hc : X.calm = true) (hu : X.A.units + 65 < cLine) (hg : Gl X "min") (hm0 : X.mg "min" = none) (h : SB X e m) (he : starEach [e] X.env = (false, eval e X.env) :: starEach [] X.env := by rfl) (hpl : (backTo pos (starEach [] X.env)).any (·.1) = false := by rfl) : SC X (.Call (.Name "min" p) [e] [] pos) (mUn gMin m) := fun B H env σ tm d Q ok hm q => by
  obtain ⟨x, hx, h2⟩ := bind_ok hm
  refine wE_of (pe_callB (cr_minD hc hu) hg hm0 (by decide +kernel) (pa_cons pe_sem pa_nil he) (by decide) (by decide) he hpl) (h B H env σ tm _ _ ok hx fun v H1 x1 ok1 r => ?_)
  cases r with
  | @lst a vs ds0 hv ra =>
    cases ds0 with
    | nil => cases h2
    | cons d0 ds =>
      unfold gMin at h2
      dsimp only at h2
      split at h2
      · rename_i hh
        obtain ⟨h3, h4, h5, h6⟩ := hh
        cases h2
        refine ⟨a, vs, d0.py, pyAll ds, rfl, .inl (view_rd hv), ra.dp h4, h4, alikeB_iff h5, h6, fun i w hw hmin => ?_⟩
        have hi : i < (d0 :: ds).length := by rw [← ra.length]; exact (List.getElem?_eq_some_iff.mp hw).1
        obtain ⟨w2, hw2, rw2⟩ := ra.get (List.getElem?_eq_getElem hi)
        rw [hw] at hw2
        cases hw2
        have e1 : (d0.py :: pyAll ds)[i]? = some ((d0 :: ds)[i].py) := by
          rw [show d0.py :: pyAll ds = pyAll (d0 :: ds) from rfl, pyAll_map, List.getElem?_map, List.getElem?_eq_getElem hi]; rfl
        rw [e1] at hmin
        have e2 := Option.some.inj hmin
        have im : ((d0 :: ds)[i]).imm = true := immAll_iff.mp h3 _ (List.getElem_mem hi)
        have e3 : unpy (PySem.W.minD d0.py (pyAll ds)) = (d0 :: ds)[i] := by rw [← e2]; exact unpy_py _ im (lay_get h4 (List.getElem_mem hi))
        rw [e3] at q
        exact q w H1 x1 ok1 rw2 im
      · cases h2
  | _ => cases h2
end
end Mir

namespace Mir
open PySem PySem.Spec L2
/-! ### data with a Lean type: ==, <, in, index, min told of the Lean values -/
class Dat (α : Type) [DecidableEq α] where
  enc : α → D
  lt : α → α → Bool
  dep : Nat
  eqv : ∀ a b, PyData.eqv (enc a).py (enc b).py = decide (a = b)
  alike : ∀ a b, PySem.W.alike (enc a).py (enc b).py = true
  lay : ∀ a, PyData.canLay0 (enc a).py = true
  depth : ∀ a, (enc a).py.depth ≤ dep
  dlt : ∀ a b, PySem.W.dataLt (enc a).py (enc b).py = lt a b
  nn : ∀ a, enc a ≠ .non
  tot : ∀ a b, lt a b = false → lt b a = false → a = b
  tr : ∀ a b c, lt a b = true → lt b c = true → lt a c = true
  asy : ∀ a b, lt a b = true → lt b a = false
open Dat
theorem Dat.irr {α : Type} [DecidableEq α] [Dat α] (a : α) : Dat.lt a a = false := by
  cases h : Dat.lt a a with
  | false => rfl
  | true => exact absurd h (by rw [Dat.asy a a h]; decide)
instance : Dat Int where
  enc := D.int
  lt a b := decide (a < b)
  dep := 1
  eqv a b := by
    show PyData.eqv (PyData.int a) (PyData.int b) = _
    simp only [e_eqv_int]; by_cases h : a = b <;> simp [h]
  alike a b := by simp [D.py, PySem.W.alike]
  lay a := by simp [D.py, PyData.canLay0]
  depth a := by simp [D.py, PyData.depth]
  dlt a b := by simp only [D.py, PySem.W.dataLt_int]
  nn a := by simp
  tot a b := by simp; omega
  tr a b c := by simp; omega
  asy a b := by simp; omega
section
variable {α β γ : Type} [DecidableEq α] [Dat α] [DecidableEq β] [Dat β] [DecidableEq γ] [Dat γ]
theorem depthAll_le {ds : List PyData} {n : Nat} (h : ∀ d ∈ ds, d.depth ≤ n) : PyData.depthAll ds ≤ n := by
  induction ds with
  | nil => simp [PyData.depthAll]
  | cons d ds ih =>
    simp only [PyData.depthAll]
    exact Nat.max_le.mpr ⟨h d List.mem_cons_self, ih fun x hx => h x (List.mem_cons_of_mem _ hx)⟩
theorem eqvAll_enc : ∀ xs ys : List α, PyData.eqvAll (pyAll (xs.map enc)) (pyAll (ys.map enc)) = decide (xs = ys)
  | [], [] => by simp [pyAll, PyData.eqvAll]
  | [], y :: ys => by simp [pyAll, PyData.eqvAll]
  | x :: xs, [] => by simp [pyAll, PyData.eqvAll]
  | x :: xs, y :: ys => by
    simp only [List.map_cons, pyAll, PyData.eqvAll, eqv, eqvAll_enc xs ys]
    by_cases h : x = y <;> by_cases h2 : xs = ys <;> simp [h, h2]
theorem alikeAll_enc : ∀ xs ys : List α, PySem.W.alikeAll (pyAll (xs.map enc)) (pyAll (ys.map enc)) = true
  | [], _ => by rw [List.map_nil, pyAll, PySem.W.alikeAll]
  | x :: xs, [] => by rw [List.map_nil, List.map_cons, pyAll, pyAll, PySem.W.alikeAll]
  | x :: xs, y :: ys => by
    simp only [List.map_cons, pyAll, PySem.W.alikeAll, alike x y, alikeAll_enc xs ys, Bool.and_self]
theorem layAll_enc : ∀ xs : List α, PyData.canLayAll0 (pyAll (xs.map enc)) = true
  | [] => by simp [pyAll, PyData.canLayAll0]
  | x :: xs => by simp only [List.map_cons, pyAll, PyData.canLayAll0, lay x, layAll_enc xs, Bool.and_self]
theorem depthAll_enc (xs : List α) : PyData.depthAll (pyAll (xs.map (enc (α := α)))) ≤ dep α := depthAll_le fun d hd => by
  rw [pyAll_map, List.map_map] at hd
  obtain ⟨a, _, rfl⟩ := List.mem_map.mp hd
  exact depth a
/-- the first difference decides, else the shorter one is the less -/
def listLt (lt : α → α → Bool) : List α → List α → Bool
  | [], [] => false
  | [], _ :: _ => true
  | _ :: _, [] => false
  | x :: xs, y :: ys => if x = y then listLt lt xs ys else lt x y
theorem lexAll_enc : ∀ xs ys : List α, PyProof.Rows.lexLt PyProof.Rows.itemOrd (PySem.W.keyToksAll (pyAll (xs.map enc))) (PySem.W.keyToksAll (pyAll (ys.map enc))) = listLt lt xs ys
  | [], [] => PyProof.Rows.lex_irrefl _
  | [], y :: ys => by
    rw [List.map_nil, List.map_cons, pyAll, pyAll, PySem.W.toks_all_cons]
    simp only [PySem.W.keyToksAll]
    rw [PyProof.Rows.lex_diff (O := PyProof.Rows.itemOrd) (by simp)]
    rfl
  | x :: xs, [] => by
    rw [List.map_nil, List.map_cons, pyAll, pyAll, PySem.W.toks_all_cons]
    simp only [PySem.W.keyToksAll]
    rw [PyProof.Rows.lex_diff (O := PyProof.Rows.itemOrd) (by simp)]
    rfl
  | x :: xs, y :: ys => by
    rw [List.map_cons, List.map_cons, pyAll, pyAll, listLt]
    by_cases h : x = y
    · rw [if_pos h, PySem.W.dataLt_all_yes (alike x y) (by rw [eqv, decide_eq_true_eq]; exact h), lexAll_enc xs ys]
    · rw [if_neg h, PySem.W.dataLt_all_no (alike x y) (by rw [eqv, decide_eq_false_iff_not]; exact h), dlt]
theorem listLt_tot {lt : α → α → Bool} (h : ∀ a b, lt a b = false → lt b a = false → a = b) : ∀ xs ys : List α, listLt lt xs ys = false → listLt lt ys xs = false → xs = ys
  | [], [], _, _ => rfl
  | [], _ :: _, h1, _ => by simp [listLt] at h1
  | _ :: _, [], _, h1 => by simp [listLt] at h1
  | x :: xs, y :: ys, h1, h2 => by
    unfold listLt at h1 h2
    by_cases e : x = y
    · subst e
      rw [if_pos rfl] at h1 h2
      rw [listLt_tot h xs ys h1 h2]
    · rw [if_neg e] at h1
      rw [if_neg (Ne.symm e)] at h2
      exact absurd (h x y h1 h2) e
theorem listLt_tr {lt : α → α → Bool} (h : ∀ a b c, lt a b = true → lt b c = true → lt a c = true) (ha : ∀ a b, lt a b = true → lt b a = false) : ∀ xs ys zs : List α, listLt lt xs ys = true → listLt lt ys zs = true → listLt lt xs zs = true
  | [], [], _, h1, _ => by simp [listLt] at h1
  | _, _ :: _, [], _, h1 => by simp [listLt] at h1
  | _ :: _, [], _, h1, _ => by simp [listLt] at h1
  | [], y :: ys, z :: zs, _, _ => rfl
  | x :: xs, y :: ys, z :: zs, h1, h2 => by
    unfold listLt at h1 h2 ⊢
    by_cases e : x = y
    · subst e
      rw [if_pos rfl] at h1
      by_cases e2 : x = z
      · rw [if_pos e2] at h2 ⊢
        exact listLt_tr h ha xs ys zs h1 h2
      · rw [if_neg e2] at h2 ⊢
        exact h2
    · rw [if_neg e] at h1
      by_cases e2 : y = z
      · subst e2
        rw [if_neg e]; exact h1
      · rw [if_neg e2] at h2
        have h3 := h _ _ _ h1 h2
        have e3 : x ≠ z := fun e => by
          subst e
          rw [ha _ _ h1] at h2
          cases h2
        rw [if_neg e3]; exact h3
theorem listLt_asy {lt : α → α → Bool} (ha : ∀ a b, lt a b = true → lt b a = false) : ∀ xs ys : List α, listLt lt xs ys = true → listLt lt ys xs = false
  | [], [], h1 => by simp [listLt] at h1
  | _ :: _, [], h1 => by simp [listLt] at h1
  | [], y :: ys, _ => rfl
  | x :: xs, y :: ys, h1 => by
    unfold listLt at h1 ⊢
    by_cases e : x = y
    · subst e
      rw [if_pos rfl] at h1 ⊢
      exact listLt_asy ha xs ys h1
    · rw [if_neg e] at h1
      rw [if_neg (Ne.symm e)]
      exact ha _ _ h1
instance : Dat (List α) where
  enc xs := .lst (xs.map enc)
  lt := listLt lt
  dep := dep α + 1
  eqv a b := by simp only [D.py, PyData.eqv]; exact eqvAll_enc a b
  alike a b := by simp only [D.py, PySem.W.alike]; exact alikeAll_enc a b
  lay a := by simp only [D.py, PyData.canLay0]; exact layAll_enc a
  depth a := by
    simp only [D.py, PyData.depth]
    have := depthAll_enc a
    omega
  dlt a b := by simp only [D.py, PySem.W.dataLt_list]; exact lexAll_enc a b
  nn a := by simp
  tot := listLt_tot tot
  tr := listLt_tr tr asy
  asy := listLt_asy asy
theorem nilTok : PyProof.Rows.lexLt PyProof.Rows.itemOrd (PySem.W.keyToksAll []) (PySem.W.keyToksAll []) = false := PyProof.Rows.lex_irrefl _
theorem consTok (x y : α) (xs ys : List PyData) : PyProof.Rows.lexLt PyProof.Rows.itemOrd (PySem.W.keyToksAll ((enc x).py :: xs)) (PySem.W.keyToksAll ((enc y).py :: ys)) = if x = y then PyProof.Rows.lexLt PyProof.Rows.itemOrd (PySem.W.keyToksAll xs) (PySem.W.keyToksAll ys) else lt x y := by
  by_cases h : x = y
  · rw [if_pos h, PySem.W.dataLt_all_yes (alike x y) (by rw [eqv, decide_eq_true_eq]; exact h)]
  · rw [if_neg h, PySem.W.dataLt_all_no (alike x y) (by rw [eqv, decide_eq_false_iff_not]; exact h), dlt]
instance : Dat (α × β) where
  enc p := .tup [enc p.1, enc p.2]
  lt p q := if p.1 = q.1 then lt p.2 q.2 else lt p.1 q.1
  dep := max (dep α) (dep β) + 1
  eqv a b := by
    obtain ⟨a1, a2⟩ := a
    obtain ⟨b1, b2⟩ := b
    simp only [D.py, pyAll, PyData.eqv, PyData.eqvAll, eqv]
    by_cases h : a1 = b1 <;> by_cases h2 : a2 = b2 <;> simp [h, h2]
  alike a b := by simp only [D.py, pyAll, PySem.W.alike, PySem.W.alikeAll, alike, Bool.and_self]
  lay a := by simp only [D.py, pyAll, PyData.canLay0, PyData.canLayAll0, lay, Bool.and_self]
  depth a := by
    simp only [D.py, pyAll, PyData.depth, PyData.depthAll]
    have h1 := depth a.1
    have h2 := depth a.2
    omega
  dlt a b := by
    simp only [D.py, pyAll, PySem.W.dataLt_tuple, consTok, nilTok]
    by_cases h : a.1 = b.1
    · rw [if_pos h, if_pos h]
      by_cases h2 : a.2 = b.2
      · rw [if_pos h2, h2, irr]
      · rw [if_neg h2]
    · rw [if_neg h, if_neg h]
  nn a := by simp
  tot a b h1 h2 := by
    obtain ⟨a1, a2⟩ := a
    obtain ⟨b1, b2⟩ := b
    dsimp only at h1 h2
    by_cases e : a1 = b1
    · subst e
      rw [if_pos rfl] at h1 h2
      rw [tot _ _ h1 h2]
    · rw [if_neg e] at h1
      rw [if_neg (Ne.symm e)] at h2
      exact absurd (tot _ _ h1 h2) e
  tr a b c h1 h2 := by
    obtain ⟨a1, a2⟩ := a
    obtain ⟨b1, b2⟩ := b
    obtain ⟨c1, c2⟩ := c
    dsimp only at h1 h2 ⊢
    by_cases e : a1 = b1
    · subst e
      rw [if_pos rfl] at h1
      by_cases e2 : a1 = c1
      · rw [if_pos e2] at h2 ⊢
        exact tr _ _ _ h1 h2
      · rw [if_neg e2] at h2 ⊢
        exact h2
    · rw [if_neg e] at h1
      by_cases e2 : b1 = c1
      · subst e2
        rw [if_neg e]; exact h1
      · rw [if_neg e2] at h2
        have h3 := tr _ _ _ h1 h2
        have e3 : a1 ≠ c1 := fun e => by
          subst e
          rw [asy _ _ h1] at h2
          cases h2
        rw [if_neg e3]; exact h3
  asy a b h1 := by
    obtain ⟨a1, a2⟩ := a
    obtain ⟨b1, b2⟩ := b
    dsimp only at h1 ⊢
    by_cases e : a1 = b1
    · subst e
      rw [if_pos rfl] at h1 ⊢
      exact asy _ _ h1
    · rw [if_neg e] at h1
      rw [if_neg (Ne.symm e)]
      exact asy _ _ h1
end
/-- three whole numbers, a tuple: a passing, a side -/
structure T3 where
  a : Int
  b : Int
  c : Int
  deriving DecidableEq
def T3.lt (x y : T3) : Bool := decide (x.a < y.a ∨ (x.a = y.a ∧ (x.b < y.b ∨ (x.b = y.b ∧ x.c < y.c))))
def t3 (x : T3) : D := .tup [.int x.a, .int x.b, .int x.c]
theorem T3.eq_iff (x y : T3) : x = y ↔ x.a = y.a ∧ x.b = y.b ∧ x.c = y.c := by
  cases x; cases y; simp
instance : Dat T3 where
  enc := t3
  lt := T3.lt
  dep := 2
  eqv x y := by
    simp only [t3, D.py, pyAll, PyData.eqv, PyData.eqvAll]
    by_cases h1 : x.a = y.a <;> by_cases h2 : x.b = y.b <;> by_cases h3 : x.c = y.c <;> simp [h1, h2, h3, T3.eq_iff]
  alike x y := by simp [t3, D.py, pyAll, PySem.W.alike, PySem.W.alikeAll]
  lay a := by simp [t3, D.py, pyAll, PyData.canLay0, PyData.canLayAll0]
  depth a := by simp [t3, D.py, pyAll, PyData.depth, PyData.depthAll]
  dlt x y := by
    have h := fun (i j : Int) (xs ys : List PyData) => consTok i j xs ys
    simp only [enc, e_py_int] at h
    show PySem.W.dataLt (D.tup _).py (D.tup _).py = _
    simp only [D.py, pyAll, PySem.W.dataLt_tuple, h, nilTok, lt, T3.lt]
    by_cases h1 : x.a = y.a <;> by_cases h2 : x.b = y.b <;> by_cases h3 : x.c = y.c <;> simp [h1, h2, h3]
  nn a := by simp [t3]
  tot x y := by simp only [T3.lt, decide_eq_false_iff_not, T3.eq_iff]; omega
  tr x y z := by simp only [T3.lt, decide_eq_true_eq]; omega
  asy x y := by simp only [T3.lt, decide_eq_true_eq, decide_eq_false_iff_not]; omega
section
variable {α : Type} [DecidableEq α] [Dat α]
theorem shp_enc (a : α) (h : dep α ≤ 64) : shp (enc a) = true := by
  unfold shp SeqAt.shaped
  rw [lay a, Bool.true_and, decide_eq_true_eq]
  exact Nat.le_trans (depth a) h
theorem gEq_enc (a b : α) (h : dep α ≤ 64) : gEq (enc a) (enc b) = .ok (.bl (decide (a = b))) := by
  unfold gEq
  rw [shp_enc a h, shp_enc b h, eqv]; rfl
theorem gNe_enc (a b : α) (h : dep α ≤ 64) : gNe (enc a) (enc b) = .ok (.bl (!decide (a = b))) := by
  unfold gNe
  rw [shp_enc a h, shp_enc b h, eqv]; rfl
theorem any_enc (a : α) (xs : List α) : ((pyAll (xs.map enc)).any fun z => PyData.eqv z (enc a).py) = decide (a ∈ xs) := by
  induction xs with
  | nil => simp [pyAll]
  | cons x xs ih =>
    simp only [List.map_cons, pyAll, List.any_cons, ih, eqv]
    by_cases h : x = a
    · simp [h]
    · have : ¬ a = x := fun e => h e.symm
      simp [h, this]
theorem gIn_enc (a : α) (xs : List α) (h : dep α ≤ 60) : gIn (enc a) (.lst (xs.map enc)) = .ok (.bl (decide (a ∈ xs))) := by
  have h2 : shp (D.lst (xs.map (enc (α := α)))) = true := shp_enc (α := List α) xs (by show dep α + 1 ≤ 64; omega)
  unfold gIn
  simp only [shp_enc a (by omega : dep α ≤ 64), h2, any_enc, Bool.and_self, if_true]
theorem gNotIn_enc (a : α) (xs : List α) (h : dep α ≤ 60) : gNotIn (enc a) (.lst (xs.map enc)) = .ok (.bl (!decide (a ∈ xs))) := by
  have h2 : shp (D.lst (xs.map (enc (α := α)))) = true := shp_enc (α := List α) xs (by show dep α + 1 ≤ 64; omega)
  unfold gNotIn
  simp only [shp_enc a (by omega : dep α ≤ 64), h2, any_enc, Bool.and_self, if_true]
theorem idxOf_enc (a : α) : ∀ (xs : List α) (n : Nat), a ∈ xs → idxOf (enc a).py (pyAll (xs.map enc)) n = some (n + xs.idxOf a)
  | [], _, h => by cases h
  | x :: xs, n, h => by
    simp only [List.map_cons, pyAll, idxOf, eqv, decide_eq_true_eq]
    by_cases e : x = a
    · subst e; simp
    · rw [if_neg e, idxOf_enc a xs (n + 1) (by rcases List.mem_cons.mp h with h | h; exact absurd h.symm e; exact h), List.idxOf_cons]
      have : (x == a) = false := by simpa using e
      rw [this]
      show some (n + 1 + xs.idxOf a) = some (n + (xs.idxOf a + 1))
      congr 1; omega
theorem gIndex_enc (a : α) (xs : List α) (h : dep α ≤ 60) (ha : a ∈ xs) : gIndex (.lst (xs.map enc)) (enc a) = .ok (.int (xs.idxOf a : Nat)) := by
  have h2 : shp (D.lst (xs.map (enc (α := α)))) = true := shp_enc (α := List α) xs (by show dep α + 1 ≤ 64; omega)
  unfold gIndex
  simp only [shp_enc a (by omega : dep α ≤ 64), h2, idxOf_enc a xs 0 ha, Bool.and_self, if_true, Nat.zero_add]
/-- the first of the least -/
def minOf (x : α) (xs : List α) : α := xs.foldl (fun a y => if lt y a = true then y else a) x
theorem minD_enc (x : α) (xs : List α) : PySem.W.minD (enc x).py (pyAll (xs.map enc)) = (enc (minOf x xs)).py := by
  unfold PySem.W.minD minOf
  induction xs generalizing x with
  | nil => rfl
  | cons y ys ih =>
    rw [List.map_cons, pyAll, List.foldl_cons, List.foldl_cons, ← ih]
    (try dsimp only)
    rw [dlt y x]
    cases lt y x <;> rfl
theorem notNon_enc (a : α) : notNon (enc a).py = true := by
  have h := alike a a
  have h2 := nn a
  revert h h2
  generalize enc a = x
  intro h h2
  cases x <;> simp_all [D.py, notNon, PySem.W.alike]
theorem alikeB_enc (xs : List α) : alikeB (pyAll (xs.map enc)) = true := by
  unfold alikeB
  simp only [Bool.and_eq_true, List.all_eq_true]
  rw [pyAll_map, List.map_map]
  refine ⟨fun x hx y hy => ?_, fun x hx => ?_⟩
  · obtain ⟨a, _, rfl⟩ := List.mem_map.mp hx
    obtain ⟨b, _, rfl⟩ := List.mem_map.mp hy
    exact alike a b
  · obtain ⟨a, _, rfl⟩ := List.mem_map.mp hx
    exact notNon_enc a
theorem gMin_enc (x : α) (xs : List α) (h : dep α ≤ 60) (hi : ∀ a : α, (enc a).imm = true) : gMin (.lst ((x :: xs).map enc)) = .ok (enc (minOf x xs)) := by
  rw [List.map_cons]
  unfold gMin
  dsimp only
  rw [if_pos ⟨immAll_iff.mpr fun d hd => by
    rw [← List.map_cons] at hd
    obtain ⟨a, _, rfl⟩ := List.mem_map.mp hd
    exact hi a, layAll_enc (x :: xs), alikeB_enc (x :: xs), Nat.le_trans (depthAll_enc (x :: xs)) h⟩, minD_enc, unpy_py _ (hi _) (Dat.lay _)]
theorem minOf_mem (x : α) : ∀ xs : List α, minOf x xs ∈ x :: xs := by
  intro xs
  unfold minOf
  induction xs generalizing x with
  | nil => exact List.mem_cons_self
  | cons y ys ih =>
    rw [List.foldl_cons]
    rcases List.mem_cons.mp (ih (if lt y x = true then y else x)) with h | h
    · rw [h]
      split
      · exact List.mem_cons_of_mem _ List.mem_cons_self
      · exact List.mem_cons_self
    · exact List.mem_cons_of_mem _ (List.mem_cons_of_mem _ h)
theorem minOf_le (x : α) : ∀ xs : List α, ∀ y ∈ x :: xs, lt y (minOf x xs) = false := by
  intro xs
  unfold minOf
  induction xs generalizing x with
  | nil =>
    intro y hy
    rw [List.mem_singleton.mp hy]; exact irr x
  | cons z zs ih =>
    intro y hy
    rw [List.foldl_cons]
    have h0 := ih (if lt z x = true then z else x)
    have hb := h0 _ List.mem_cons_self
    rcases List.mem_cons.mp hy with h | h
    · subst h
      by_cases e : lt z y = true
      · rw [if_pos e] at hb ⊢
        cases hc : lt y (zs.foldl (fun a y => if lt y a = true then y else a) z) with
        | false => rfl
        | true => rw [tr _ _ _ e hc] at hb; cases hb
      · rw [if_neg e] at hb ⊢; exact hb
    · rcases List.mem_cons.mp h with h | h
      · subst h
        by_cases e : lt y x = true
        · rw [if_pos e] at hb ⊢; exact hb
        · rw [if_neg e] at hb ⊢
          cases hc : lt y (zs.foldl (fun a y => if lt y a = true then y else a) x) with
          | false => rfl
          | true =>
            by_cases e2 : lt x y = true
            · rw [tr _ _ _ e2 hc] at hb; cases hb
            · have := tot x y (by simpa using e2) (by simpa using e)
              subst this
              rw [hc] at hb; cases hb
      · exact h0 y (List.mem_cons_of_mem _ h)
end
end Mir

namespace Mir
open PySem PySem.Spec L2
/-! ### branches brought together -/
section
variable {c : Prop} [Decidable c]
end
def setdM (i j : Nat) (y z dd : D) (env : Mir.Env) : Res Ctl := match dd, keyOf y with
  | .dk ks ds, some kk => if i < env.length ∧ z.imm = true ∧ ds.length < sizeLine then (match dFind ks ds kk with
    | some w => if w.imm then .ok (.nx (env.set i (some (0, w)))) else .bad
    | none => .ok (.nx ((env.set j (some (1, .dk (dPutK ks kk) (dPutV ks ds kk z)))).set i (some (0, z))))) else .bad
  | _, _ => .bad
@[simp] theorem e_mSetd (i j : Nat) (mk mz : Mir.Env → Res D) (env : Mir.Env) : mSetd i j mk mz env = (mk env >>= fun y => mz env >>= fun z => atK env j >>= fun dd => setdM i j y z dd env) := rfl
theorem gIx_map {α : Type} {f : α → D} {xs : List α} {i : Nat} {a : α} (h : xs[i]? = some a) : gIx (.lst (xs.map f)) (.int i) = .ok (f a) := by
  have hl := (List.getElem?_eq_some_iff.mp h).1
  have h2 : xs[i] = a := (List.getElem?_eq_some_iff.mp h).2
  simp [gIx, atI, ixN, hl, h2]
theorem gRng1_d {n : Nat} (h : n ≤ 1000) : gRng1 (.int n) = .ok ((List.range n).map fun i : Nat => D.int i) := gRng1_nat n h
@[simp] theorem t3_imm (x : T3) : (t3 x).imm = true := rfl
@[simp] theorem t3_isi (x : T3) : isi .tuple (t3 x) = true := rfl
@[simp] theorem t3_isOb (x : T3) : isOb (t3 x) = false := rfl
@[simp] theorem t3_len (x : T3) : gLen (t3 x) = .ok (.int 3) := rfl
@[simp] theorem t3_items (x : T3) : itemsT (t3 x) = .ok [.int x.a, .int x.b, .int x.c] := rfl
@[simp] theorem t3_0 (x : T3) : gIx (t3 x) (.int 0) = .ok (.int x.a) := rfl
@[simp] theorem t3_1 (x : T3) : gIx (t3 x) (.int 1) = .ok (.int x.b) := rfl
@[simp] theorem t3_2 (x : T3) : gIx (t3 x) (.int 2) = .ok (.int x.c) := rfl
theorem immAll_drop {ds : List D} (h : immAll ds = true) (k : Nat) : immAll (ds.drop k) = true := immAll_iff.mpr fun d hd => immAll_iff.mp h d (List.mem_of_mem_drop hd)
theorem immAll_take {ds : List D} (h : immAll ds = true) (k : Nat) : immAll (ds.take k) = true := immAll_iff.mpr fun d hd => immAll_iff.mp h d (List.mem_of_mem_take hd)
theorem immAll_t3 (xs : List T3) : immAll (xs.map t3) = true := by simp
@[simp] theorem immAll_dt3 (xs : List T3) (k : Nat) : immAll ((xs.map t3).drop k) = true := immAll_drop (immAll_t3 xs) k
@[simp] theorem immAll_tt3 (xs : List T3) (k : Nat) : immAll ((xs.map t3).take k) = true := immAll_take (immAll_t3 xs) k
@[simp] theorem isi_ll (xs : List D) : isi .list (.lst xs) = true := rfl
@[simp] theorem isi_tt (xs : List D) : isi .tuple (.tup xs) = true := rfl
@[simp] theorem isi_ii (i : Int) : isi .int (.int i) = true := rfl
@[simp] theorem isi_bi (i : Int) : isi .bool (.int i) = false := rfl
@[simp] theorem immAt_l (k : Nat) (ds : List D) : immAt (k + 1) (.lst ds) = immAtL k ds := by unfold immAt; rfl
@[simp] theorem immAt_1l (ds : List D) : immAt 1 (.lst ds) = immAll ds := by rw [show (1 : Nat) = 0 + 1 from rfl, immAt_l, immAtL0]
@[simp] theorem e_immL (ds : List D) : immL ds = if immAll ds = true then .ok ds else .bad := rfl
@[simp] theorem gTru_l (ds : List D) : gTru (.lst ds) = .ok (!ds.isEmpty) := rfl
@[simp] theorem gTru_i (i : Int) : gTru (.int i) = .ok (i != 0) := rfl
@[simp] theorem gTru_b (b : Bool) : gTru (.bl b) = .ok b := rfl
@[simp] theorem gTru_n : gTru .non = .ok false := rfl
@[simp] theorem gTru_t (ds : List D) : gTru (.tup ds) = .ok (!ds.isEmpty) := rfl
@[simp] theorem sz1 : 1 ≤ sizeLine := sizeLine_big (by decide)
@[simp] theorem sz2 : 2 ≤ sizeLine := sizeLine_big (by decide)
@[simp] theorem sz3 : 3 ≤ sizeLine := sizeLine_big (by decide)
@[simp] theorem sz4 : 4 ≤ sizeLine := sizeLine_big (by decide)
@[simp] theorem sz5 : 5 ≤ sizeLine := sizeLine_big (by decide)
@[simp] theorem sz6 : 6 ≤ sizeLine := sizeLine_big (by decide)
@[simp] theorem sz7 : 7 ≤ sizeLine := sizeLine_big (by decide)
@[simp] theorem sz8 : 8 ≤ sizeLine := sizeLine_big (by decide)
@[simp] theorem sz9 : 9 ≤ sizeLine := sizeLine_big (by decide)
@[simp] theorem sz10 : 10 ≤ sizeLine := sizeLine_big (by decide)
@[simp] theorem sz11 : 11 ≤ sizeLine := sizeLine_big (by decide)
@[simp] theorem sz12 : 12 ≤ sizeLine := sizeLine_big (by decide)
@[simp] theorem sz13 : 13 ≤ sizeLine := sizeLine_big (by decide)
@[simp] theorem sz14 : 14 ≤ sizeLine := sizeLine_big (by decide)
@[simp] theorem sz15 : 15 ≤ sizeLine := sizeLine_big (by decide)
@[simp] theorem sz16 : 16 ≤ sizeLine := sizeLine_big (by decide)
def t2 (x : Int × Int) : D := .tup [.int x.1, .int x.2]
@[simp] theorem t2_imm (x : Int × Int) : (t2 x).imm = true := rfl
@[simp] theorem t2_isi (x : Int × Int) : isi .tuple (t2 x) = true := rfl
@[simp] theorem t2_isOb (x : Int × Int) : isOb (t2 x) = false := rfl
@[simp] theorem t2_len (x : Int × Int) : gLen (t2 x) = .ok (.int 2) := rfl
@[simp] theorem t2_items (x : Int × Int) : itemsT (t2 x) = .ok [.int x.1, .int x.2] := rfl
@[simp] theorem t2_0 (x : Int × Int) : gIx (t2 x) (.int 0) = .ok (.int x.1) := rfl
@[simp] theorem t2_1 (x : Int × Int) : gIx (t2 x) (.int 1) = .ok (.int x.2) := rfl
theorem cutD_map {α : Type} (f : α → D) (xs : List α) (lo hi : Option Int) : cutD (xs.map f) lo hi = ((xs.drop (HT.sIx xs.length 0 lo)).take (HT.sIx xs.length xs.length hi - HT.sIx xs.length 0 lo)).map f := by simp [cutD]
theorem cutD_from {α : Type} (f : α → D) (xs : List α) (k : Nat) (h : k ≤ xs.length) : cutD (xs.map f) (some (k : Int)) none = (xs.drop k).map f := by
  rw [cutD_map, HT.sIx_nat, HT.sIx_none, Nat.min_eq_left h, List.take_of_length_le (by simp)]
theorem cutD_to {α : Type} (f : α → D) (xs : List α) (k : Nat) (h : k ≤ xs.length) : cutD (xs.map f) none (some (k : Int)) = (xs.take k).map f := by
  rw [cutD_map, HT.sIx_nat, HT.sIx_none, Nat.min_eq_left h]; simp
theorem lc_run {α : Type} {t : Nat → D → Mir.Env → Res Mir.Env} {me : Mir.Env → Res D} {mt : Mir.Env → Res Bool} {env : Mir.Env} (enc : α → D) (p : α → Bool) (f : α → D) : ∀ xs : List α, (∀ a ∈ xs, ∃ e1, t 0 (enc a) env = .ok e1 ∧ mt e1 = .ok (p a) ∧ (p a = true → me e1 = .ok (f a))) → lcLoop t mt me env (xs.map enc) = .ok ((xs.filter p).map f)
  | [], _ => rfl
  | x :: xs, h => by
    obtain ⟨e1, h1, h2, h3⟩ := h x List.mem_cons_self
    have ih := lc_run enc p f xs fun a ha => h a (List.mem_cons_of_mem _ ha)
    rw [List.filter_cons]
    simp only [List.map_cons, lcLoop, h1, ok_bind, h2]
    cases hp : p x with
    | true => simp [h3 hp, ih]
    | false => simp [ih]
theorem lc_all {α : Type} {t : Nat → D → Mir.Env → Res Mir.Env} {me : Mir.Env → Res D} {env : Mir.Env} (enc : α → D) (f : α → D) (xs : List α) (h : ∀ a ∈ xs, (t 0 (enc a) env >>= me) = .ok (f a)) : lcLoop t (fun _ => .ok true) me env (xs.map enc) = .ok (xs.map f) := by
  have := lc_run (mt := fun _ => .ok true) (me := me) (t := t) (env := env) enc (fun _ => true) f xs fun a ha => by
    obtain ⟨e1, h1, h2⟩ := bind_ok (h a ha)
    exact ⟨e1, h1, rfl, fun _ => h2⟩
  rw [this, List.filter_eq_self.mpr fun _ _ => rfl]
/-! ### loops, with what comes behind them -/
def stepc (fg : List Nat) : Ctl → Res Mir.Env
  | .nx e => .ok (clear e fg)
  | .ct e => .ok (clear e fg)
  | _ => .bad
@[simp] theorem stepc_nx (fg : List Nat) (e : Mir.Env) : stepc fg (.nx e) = .ok (clear e fg) := rfl
@[simp] theorem stepc_ct (fg : List Nat) (e : Mir.Env) : stepc fg (.ct e) = .ok (clear e fg) := rfl
theorem loop_step {t : Nat → D → Mir.Env → Res Mir.Env} {body : Mir.Env → Res Ctl} {fg : List Nat} {x : D} {xs : List D} {env env' : Mir.Env} (h : (t 0 x env >>= fun e => body e >>= stepc fg) = .ok env') : loop t body fg (x :: xs) env = loop t body fg xs env' := by
  obtain ⟨e1, h1, h2⟩ := bind_ok h
  obtain ⟨c, h3, h4⟩ := bind_ok h2
  show (t 0 x env >>= fun e1 => body e1 >>= fun c => match c with | .nx e => loop t body fg xs (clear e fg) | .ct e => loop t body fg xs (clear e fg) | .bk e => .ok (.nx (clear e fg)) | .rt d => .ok (.rt d)) = _
  rw [h1, ok_bind, h3, ok_bind]
  cases c with
  | nx e => cases h4; rfl
  | ct e => cases h4; rfl
  | bk e => cases h4
  | rt e => cases h4
theorem loop_run {σ α : Type} {t : Nat → D → Mir.Env → Res Mir.Env} {body : Mir.Env → Res Ctl} {fg : List Nat} (mk : σ → Mir.Env) (enc : α → D) (P : Nat → σ → Prop) : ∀ (xs : List α) (n : Nat) (s : σ), P n s →
    (∀ i s a, xs[i]? = some a → P (n + i) s → ∃ s', P (n + i + 1) s' ∧ (t 0 (enc a) (mk s) >>= fun e => body e >>= stepc fg) = .ok (mk s')) → ∃ s', loop t body fg (xs.map enc) (mk s) = .ok (.nx (mk s')) ∧ P (n + xs.length) s'
  | [], n, s, p, _ => ⟨s, rfl, p⟩
  | x :: xs, n, s, p, h => by
    obtain ⟨s', p2, h1⟩ := h 0 s x rfl p
    obtain ⟨s2, q1, q2⟩ := loop_run mk enc P xs (n + 1) s' p2 fun i s a ha hp => by
      have := h (i + 1) s a (by simpa using ha) (by rw [show n + (i + 1) = n + 1 + i by omega]; exact hp)
      rw [show n + (i + 1) + 1 = n + 1 + i + 1 by omega] at this
      exact this
    exact ⟨s2, by rw [List.map_cons, loop_step h1]; exact q1, by rw [List.length_cons, show n + (xs.length + 1) = n + 1 + xs.length by omega]; exact q2⟩
/-- it is told, and Q holds of it -/
def Tells {β : Type} (r : Res β) (Q : β → Prop) : Prop := ∃ b, r = .ok b ∧ Q b
theorem Tells.eq {β : Type} {r : Res β} {b : β} (h : Tells r (· = b)) : r = .ok b := by
  obtain ⟨_, h1, rfl⟩ := h
  exact h1
theorem Tells.of {β : Type} {r : Res β} {b : β} {Q : β → Prop} (h : r = .ok b) (q : Q b) : Tells r Q := ⟨b, h, q⟩
theorem Tells.ok {β : Type} {b : β} {Q : β → Prop} (q : Q b) : Tells (.ok b) Q := ⟨b, rfl, q⟩
theorem Tells.eqI {β : Type} {r : Res β} {b : β} (h : r = .ok b) : Tells r (· = b) := ⟨b, h, rfl⟩
/-- a loop that keeps P; then what comes behind it -/
theorem loop_then {σ α β : Type} {t : Nat → D → Mir.Env → Res Mir.Env} {body : Mir.Env → Res Ctl} {fg : List Nat} {k : Ctl → Res β} {Q : β → Prop} (mk : σ → Mir.Env) (enc : α → D) (P : Nat → σ → Prop) (xs : List α) {ds : List D} {env : Mir.Env} (s : σ) (hds : ds = xs.map enc) (henv : env = mk s) (h0 : P 0 s)
    (step : ∀ i s a, xs[i]? = some a → P i s → ∃ s', P (i + 1) s' ∧ (t 0 (enc a) (mk s) >>= fun e => body e >>= stepc fg) = .ok (mk s')) (hk : ∀ s', P xs.length s' → Tells (k (.nx (mk s'))) Q) : Tells (loop t body fg ds env >>= k) Q := by
  subst hds
  subst henv
  obtain ⟨s', h1, h2⟩ := loop_run mk enc P xs 0 s h0 fun i s a ha hp => by
    rw [Nat.zero_add] at hp ⊢
    exact step i s a ha hp
  rw [Nat.zero_add] at h2
  rw [h1, ok_bind]
  exact hk s' h2
/-- .. the state reckoned by f -/
theorem loop_thenF {σ α β : Type} {t : Nat → D → Mir.Env → Res Mir.Env} {body : Mir.Env → Res Ctl} {fg : List Nat} {k : Ctl → Res β} {Q : β → Prop} (mk : σ → Mir.Env) (enc : α → D) (f : σ → α → σ) (P : Nat → σ → Prop) (xs : List α) {ds : List D} {env : Mir.Env} (s : σ) (hds : ds = xs.map enc) (henv : env = mk s) (h0 : P 0 s)
    (step : ∀ i s a, xs[i]? = some a → P i s → P (i + 1) (f s a) ∧ (t 0 (enc a) (mk s) >>= fun e => body e >>= stepc fg) = .ok (mk (f s a))) (hk : P xs.length (xs.foldl f s) → Tells (k (.nx (mk (xs.foldl f s)))) Q) : Tells (loop t body fg ds env >>= k) Q := by
  refine loop_then mk enc (fun i s' => P i s' ∧ s' = (xs.take i).foldl f s) xs s hds henv ⟨h0, rfl⟩ (fun i s1 a ha hp => ?_) fun s' hs => ?_
  · obtain ⟨hp, e⟩ := hp
    obtain ⟨h1, h2⟩ := step i s1 a ha hp
    refine ⟨f s1 a, ⟨h1, ?_⟩, h2⟩
    rw [List.take_succ, ha, e]
    simp
  · obtain ⟨h1, e⟩ := hs
    rw [List.take_length] at e
    subst e
    exact hk h1
end Mir

namespace Mir
open PySem PySem.Spec L2
section
variable {X : Cx} {e a b tg it : Expr} {m ma mb : Env → Res D} {k kr : Nat} {cs : List Nat} {pos p : Pos} {m1 : Env → Res Ctl}
/-! ### names of the module -/
theorem sc_globI {x : Str} {i : Int} (hg : Gl X x) (hm : ∃ t, X.mg x = some (.int i t)) (hd : (x == ("__debug__" : Str)) = false := by decide) : SC X (.Name x pos) (mC (.int i)) := by
  obtain ⟨t, ht⟩ := hm
  exact sc_of (pe_glob (v := .int i) hg ht ⟨t, rfl⟩ hd) (fun _ => .int i) rfl
/-! ### while -/
def wloop (t : Env → Res Bool) (body : Env → Res Ctl) (fg : List Nat) : Nat → Env → Res Ctl
  | 0, _ => .bad
  | n + 1, env => t env >>= fun b => if b then body env >>= fun c => match c with
      | .nx e => wloop t body fg n (clear e fg)
      | .ct e => wloop t body fg n (clear e fg)
      | .bk e => .ok (.nx (clear e fg))
      | .rt d => .ok (.rt d)
    else .ok (.nx env)
theorem s_while {c : Expr} {body : List Stmt} {t : Env → Res Bool} {fg : List Nat} {n : Nat} (hp : PassesOwn (model X.prog X.w) X.A X.env X.xe) (hc : ST X c t) (hb : SS X kr body m1) : S1 X kr (.While c body [] pos) (fun env => wloop t m1 fg n env) := fun B H env σ tm D r ok hm p => by
  refine wS_of (ps_while hp pt_sem pss_sem) ?_
  refine ⟨fun m σ H => ∃ env, EnvOk B H env σ tm ∧ wloop t m1 fg m env = .ok r, ⟨n, env, ok, hm⟩, ?_⟩
  rintro m σ2 H2 ⟨env2, ok2, hr⟩
  cases m with
  | zero => cases hr
  | succ m =>
    obtain ⟨b, hb', h2⟩ := bind_ok hr
    refine hc B H2 env2 σ2 tm b _ ok2 hb' fun H3 x3 ok3 => ?_
    cases b with
    | false =>
      cases h2
      exact p σ2 H3 ok3
    | true =>
      rw [if_pos rfl] at h2 ⊢
      obtain ⟨c', h5, h6⟩ := bind_ok h2
      refine ⟨fun σ' H' => ∃ env, EnvOk B H' env σ' tm ∧ wloop t m1 fg m env = .ok r, fun σ' H' h => ⟨m, by omega, h⟩, ?_⟩
      refine hb B H3 env2 σ2 tm _ c' ok3 h5 ?_
      cases c' with
      | nx e => exact fun σ5 H5 ok5 => ⟨_, ok5.clear fg, h6⟩
      | ct e => exact fun σ5 H5 ok5 => ⟨_, ok5.clear fg, h6⟩
      | bk e =>
        cases h6
        exact fun σ5 H5 ok5 => p σ5 H5 (ok5.clear fg)
      | rt d' =>
        cases h6
        exact p

/-! ### sum of whole numbers -/
def intsD? : List D → Option (List Int)
  | [] => some []
  | .int i :: ds => (intsD? ds).map fun is => i :: is
  | _ :: _ => none
theorem intsD_rp {G : Hp} : ∀ {vs : List V} {ds : List D} {is : List Int}, RpAll G vs ds → intsD? ds = some is → vs = is.map V.int
  | [], [], is, .nil, h => by cases h; rfl
  | v :: vs, d :: ds, is, .cons hr r, h => by
    cases hr with
    | int i =>
      unfold intsD? at h
      cases e : intsD? ds with
      | none => rw [e] at h; cases h
      | some cs =>
        rw [e] at h
        cases h
        rw [intsD_rp r e]; rfl
    | _ => cases h
def gSum : D → Res D
  | .lst ds => match intsD? ds with
    | some is => .ok (.int is.sum)
    | none => .bad
  | _ => .bad
theorem sc_sum (hc : X.calm = true) (hg : Gl X "sum") (hm0 : X.mg "sum" = none) (h : SB X e m) (he : starEach [e] X.env = (false, eval e X.env) :: starEach [] X.env := by rfl) (hpl : (backTo pos (starEach [] X.env)).any (·.1) = false := by rfl) : SC X (.Call (.Name "sum" p) [e] [] pos) (mUn gSum m) := fun B H env σ tm d Q ok hm q => by
  obtain ⟨x, hx, h2⟩ := bind_ok hm
  refine wE_of (pe_callB (cr_sum hc) hg hm0 (by decide +kernel) (pa_cons pe_sem pa_nil he) (by decide) (by decide) he hpl) (h B H env σ tm _ _ ok hx fun v H1 x1 ok1 r => ?_)
  cases r with
  | @lst a vs ds hv ra =>
    unfold gSum at h2
    dsimp only at h2
    split at h2
    · rename_i bs hb
      cases h2
      have e := intsD_rp ra hb
      subst e
      exact ⟨a, bs, rfl, .inl (view_rd hv), q _ H1 x1 ok1 (.int _) rfl⟩
    · cases h2
  | _ => cases h2

/-! ### enumerate, zip -/
def enumD : Nat → List D → List D
  | _, [] => []
  | n, d :: ds => .tup [.int n, d] :: enumD (n + 1) ds
theorem enumD_len : ∀ (n : Nat) (ds : List D), (enumD n ds).length = ds.length
  | _, [] => rfl
  | n, _ :: ds => by simp [enumD, enumD_len (n + 1) ds]
theorem enumD_get : ∀ (n : Nat) (ds : List D) (i : Nat) (d : D), ds[i]? = some d → (enumD n ds)[i]? = some (.tup [.int ((n + i : Nat) : Int), d])
  | n, d :: ds, 0, _, h => by cases h; rfl
  | n, d :: ds, i + 1, x, h => by
    have := enumD_get (n + 1) ds i x (by simpa using h)
    rw [show n + 1 + i = n + (i + 1) by omega] at this
    simpa [enumD] using this
theorem si_enum {elts : List Expr} {kk : Nat} {tpos : Pos} (hg : Gl X "enumerate") (hm0 : X.mg "enumerate" = none) (he : SE X 0 [] it m) (hs : starEach [it] X.env = [(false, eval it X.env)] := by rfl) (hs2 : starEach [it] X.env = (false, eval it X.env) :: starEach [] X.env := by rfl) :
    SI X (.Tuple elts kk tpos) (.Call (.Name "enumerate" p) [it] [] pos) (fun env => m env >>= itemsL >>= fun ds => .ok (enumD 0 ds)) := fun B H env σ tm ds R ok hm q => by
  obtain ⟨ds0, hd0, h3⟩ := bind_ok hm
  obtain ⟨d, hd, h2⟩ := bind_ok hd0
  cases h3
  unfold itemsL at h2
  split at h2
  · rename_i xs
    cases h2
    refine wI_of (pi_enum hg hm0 (pa_cons pe_sem pa_nil hs2) hs) (he B H env σ tm _ _ ok hd fun v H1 x1 ok1 => ?_)
    have r := ok1.rp
    cases r with
    | @lst a vs _ hv ra =>
      refine ⟨a, vs, rfl, .inl (view_rd hv), q _ H1 [(.ref a, 0, .lst ds0)] x1 ok1 fun i H2 env2 σ2 tm2 ok2 => ?_⟩
      have r2 := EnvOk.rp ok2
      cases r2 with
      | @lst _ ws _ hw rb =>
        have hs : SqL X.K H2 a ws := .inl (view_rd hw)
        rw [enumD_len]
        refine ⟨fun ei => ⟨ws, hs, by have := rb.length; omega⟩, fun hi => ?_⟩
        obtain ⟨x, hx, rx⟩ := rb.get (List.getElem?_eq_getElem hi)
        refine ⟨⟨ws, x, hs, hx⟩, fun y H3 hy => ?_⟩
        obtain ⟨T, y', rfl, hT, rfl, hy⟩ := hy
        have ey : y' = x := Option.some.inj ((hy ws hs).symm.trans hx)
        subst ey
        have ok3 := EnvOk.item ok2 (.inl rfl) rfl (.inl hw) hx (List.getElem?_eq_getElem hi)
        have ok4 := ok3.imm (k := 0) (.int ((i : Nat) : Int)) rfl
        have ok5 := EnvOk.newTup (k := 0) (vs := [.int ((i : Nat) : Int), y']) (ds := [.int ((i : Nat) : Int), ds0[i]]) ok4 rfl hT
        have hget := enumD_get 0 ds0 i _ (List.getElem?_eq_getElem hi)
        rw [Nat.zero_add] at hget
        exact ⟨_, hget, Ext.upd hT, ok5.freeze⟩
  · cases h2
end
end Mir

namespace Mir
open PySem PySem.Spec L2
section
variable {X : Cx} {e a b o i : Expr} {m ma mb mi mv : Env → Res D} {k kr : Nat} {cs : List Nat} {pos p : Pos} {m1 : Env → Res Ctl}
/-! ### [..] * n -/
/-! ### x[i] = e -/
def mPutI (j k : Nat) (cs : List Nat) (mv mi : Env → Res D) : Env → Res Ctl := fun env => mv env >>= fun d => mi (clear env cs) >>= fun y => atL (clear env cs) j (k + 1) >>= fun ds => match y with
  | .int n => (match ixN ds.length n with | some jj => .ok (.nx ((clear env cs).set j (some (k + 1, .lst (ds.set jj d))))) | none => .bad)
  | _ => .bad
theorem ixN_lt {n : Nat} {i : Int} {j : Nat} (h : ixN n i = some j) : j < n := by
  unfold ixN at h
  split at h
  · split at h
    · cases h; omega
    · cases h
  · split at h
    · cases h; omega
    · cases h
/-- one of a list's things, and the others -/
theorem lev_one {k : Nat} : ∀ {vs : List V} {ds : List Mir.D} {jj : Nat} {v : V} {d : Mir.D}, vs.length = ds.length → vs[jj]? = some v → ds[jj]? = some d → ∃ l, (lev k vs ds).Perm ((v, k, d) :: l) ∧ ∀ w e, (lev k (vs.set jj w) (ds.set jj e)).Perm ((w, k, e) :: l)
  | [], ds, jj, v, d, _, h, _ => by simp at h
  | x :: vs, [], jj, v, d, hl, _, _ => by simp at hl
  | x :: vs, y :: ds, 0, v, d, hl, h, h' => by
    cases h; cases h'
    exact ⟨lev k vs ds, .refl _, fun _ _ => .refl _⟩
  | x :: vs, y :: ds, jj + 1, v, d, hl, h, h' => by
    obtain ⟨l, h1, h2⟩ := lev_one (k := k) (vs := vs) (ds := ds) (jj := jj) (by simpa using hl) (by simpa using h) (by simpa using h')
    exact ⟨(x, k, y) :: l, (h1.cons _).trans (.swap _ _ _), fun w e => ((h2 w e).cons _).trans (.swap _ _ _)⟩
/-- x[i][j] = e, e without lists, dicts -/
def mPutII (j k : Nat) (mv mi mj : Env → Res D) : Env → Res Ctl := fun env => mv env >>= fun d => mi env >>= fun y => mj env >>= fun z => atL env j (k + 2) >>= fun ds => match y, z with
  | .int n, .int n2 => (match ixN ds.length n with
    | some jj => (match ds[jj]? with
      | some (.lst es) => (match ixN es.length n2 with
        | some j2 => if d.imm = true then .ok (.nx (env.set j (some (k + 2, .lst (ds.set jj (.lst (es.set j2 d))))))) else .bad
        | none => .bad)
      | _ => .bad)
    | none => .bad)
  | _, _ => .bad
end
end Mir

namespace Mir
open PySem PySem.Spec L2
/-! ### a list's item is taken by a name and changed: x = xs[i]; x.insert(p, v) -/
def Bs.lent (B : Bs) (q : Addr) (o : HO) : Bs := ⟨upd B.h q o, fun a => if a = q then none else B.g a⟩
section
variable {B : Bs} {H : Hp} {env : Env} {σ : St} {tm : List Hold} {k : Nat} {vs : List V} {ds : List D} {q : Addr}
theorem EnvOk.lend (h : EnvOk B H env σ ((.ref q, k + 1, .lst ds) :: tm)) : ∃ vs, H q = some (.lst vs) ∧ vs.length = ds.length ∧ B q = none ∧ EnvOk (B.lent q (.lst vs)) H env σ (lev k vs ds ++ tm) := by
  have h2 := h.len
  have h3 := h.has
  obtain ⟨G, f, g, hg, hf, hr, nd, hq⟩ := EnvOk.apart (l := [(.ref q, k + 1, D.lst ds)]) h
  cases hf with
  | @cons _ _ _ _ f1 g1 h1 hn =>
    cases hn
    have len : ∀ {k : Nat} {f : List Addr} {vs : List V} {ds : List D}, OdAll G H k f vs ds → vs.length = ds.length := fun {k f vs ds} r => by
      induction vs generalizing ds f with
      | nil => cases r; rfl
      | cons v vs ih => cases r with | cons _ r => simp [ih r]
    rw [List.append_nil] at nd hq
    cases h1 with
    | sh hz r => rcases hz with hz | hz
                 · cases hz
                 · simp [D.imm] at hz
    | @lst _ _ vs _ f2 e r =>
      have hq0 := hq q (List.mem_append_left _ List.mem_cons_self)
      refine ⟨vs, e, len r, hq0.1, ?_⟩
      rw [List.cons_append] at nd hq
      obtain ⟨nd1, nd2⟩ := List.nodup_cons.mp nd
      have hv : HoldAll G H (lev k vs ds ++ []) (f2 ++ []) := HoldAll.ofAll r .nil
      rw [List.append_nil, List.append_nil] at hv
      refine EnvOk.join h2 h3 ⟨fun a o ha => ?_, fun a ha => ?_, hg.gs, hg.gt, hg.nf⟩ hv hr nd2 fun p hm => ⟨?_, (hq p (List.mem_cons_of_mem _ hm)).2⟩
      · have ha' : upd B.h q (.lst vs) a = some o := ha
        by_cases z : a = q
        · subst z; rw [upd_same] at ha'; rw [← ha']; exact e
        · rw [upd_ne z] at ha'; exact hg.bs a o ha'
      · show G a = if a = q then none else B.g a
        by_cases z : a = q
        · subst z; rw [if_pos rfl]; exact hq0.2
        · rw [if_neg z]
          refine hg.g0 a fun z2 => ha ?_
          show upd B.h q (.lst vs) a = none
          rw [upd_ne z]; exact z2
      · have hp : p ≠ q := fun z => nd1 (z ▸ hm)
        show upd B.h q (.lst vs) p = none
        rw [upd_ne hp]; exact (hq p (List.mem_cons_of_mem _ hm)).1
theorem EnvOk.unlend (h : EnvOk (B.lent q (.lst vs)) H env σ (lev k vs ds ++ tm)) (hb : B q = none) (hl : vs.length = ds.length) : H q = some (.lst vs) ∧ EnvOk B H env σ ((.ref q, k + 1, .lst ds) :: tm) := by
  have h2 := h.len
  have h3 := h.has
  obtain ⟨G, f, g, hg, hf, hr, nd, hq⟩ := h.apart
  have hBq : (B.lent q (.lst vs)) q = some (.lst vs) := upd_same
  have hHq := hg.bs q _ hBq
  refine ⟨hHq, ?_⟩
  have hGq : G q = none := by
    have := hg.g0 q (by rw [hBq]; simp)
    rw [this]
    exact if_pos rfl
  have hf' : HoldAll G H (lev k vs ds ++ []) f := by rw [List.append_nil]; exact hf
  obtain ⟨f1, f2, e, ha, hn⟩ := HoldAll.toAll hl hf'
  cases hn
  rw [List.append_nil] at e
  subst e
  refine EnvOk.join (l := [(.ref q, k + 1, .lst ds)]) (f := (q :: f) ++ []) (g := g) h2 h3 ⟨fun a o ha => ?_, fun a ha => ?_, hg.gs, hg.gt, hg.nf⟩ (.cons (.lst hHq ha) .nil) hr ?_ ?_
  · have z : a ≠ q := fun z => by rw [z, hb] at ha; cases ha
    exact hg.bs a o (show upd B.h q (.lst vs) a = some o by rw [upd_ne z]; exact ha)
  · have z : a ≠ q := fun z => by rw [z] at ha; exact ha hb
    have := hg.g0 a (fun z2 => ha (by have z3 : upd B.h q (.lst vs) a = none := z2; rw [upd_ne z] at z3; exact z3))
    rw [this]
    exact if_neg z
  · rw [List.append_nil, List.cons_append]
    refine List.nodup_cons.mpr ⟨fun m => ?_, nd⟩
    have := (hq q m).1
    rw [hBq] at this; cases this
  · rw [List.append_nil, List.cons_append]
    intro p m
    rcases List.mem_cons.mp m with z | m
    · subst z; exact ⟨hb, hGq⟩
    · have z : p ≠ q := fun z => by rw [z] at m; have := (hq q m).1; rw [hBq] at this; cases this
      have h6 := hq p m
      refine ⟨?_, h6.2⟩
      have h7 : upd B.h q (.lst vs) p = none := h6.1
      rw [upd_ne z] at h7; exact h7
end
section
variable {X : Cx} {e ep o ix o2 : Expr} {mi mp mv : Env → Res D} {k kr : Nat} {pos p pos' pos2 spos apos cpos spos2 : Pos} {mr : Env → Res Ctl} {rest : List Stmt} {x : Str}
end
end Mir

namespace Mir
open PySem PySem.Spec L2
/-! ### sorted, of data that are alike -/
def dLe (a b : PyData) : Bool := !PySem.W.dataLt b a
def isTup1 : PyData → Bool
  | .tuple (_ :: _) => true
  | _ => false
def isOther : PyData → Bool
  | .none => false
  | .tuple _ => false
  | _ => true
def sortB (xs : List PyData) : Bool := xs.all isTup1 || xs.all isOther
theorem sortB_iff {xs : List PyData} (h : sortB xs = true) : PySem.W.Sortable xs := by
  unfold sortB at h
  rw [Bool.or_eq_true, List.all_eq_true, List.all_eq_true] at h
  rcases h with h | h
  · refine .inl fun d hd => ?_
    have := h d hd
    cases d with
    | tuple ys =>
      cases ys with
      | nil => cases this
      | cons y ys => exact ⟨y, ys, rfl⟩
    | _ => cases this
  · refine .inr fun d hd => ?_
    have := h d hd
    cases d with
    | none => cases this
    | tuple ys => cases this
    | _ => exact ⟨(fun z => nomatch z), (fun _ z => nomatch z)⟩
def sortable (ds : List D) : Bool := PyData.canLayAll0 (pyAll ds) && alikeB (pyAll ds) && sortB (pyAll ds) && decide (PyData.depthAll (pyAll ds) ≤ 60)
def srt (ds : List D) : List D := ds.mergeSort fun a b => dLe a.py b.py
abbrev VD := V × D
def srtP (l : List VD) : List VD := l.mergeSort fun a b => dLe a.2.py b.2.py
theorem srtP_snd (l : List VD) : (srtP l).map (·.2) = srt (l.map (·.2)) := List.map_mergeSort (f := fun p : VD => p.2) (r := fun a b : VD => dLe a.2.py b.2.py) (s := fun a b : D => dLe a.py b.py) (l := l) fun a _ b _ => rfl
theorem srtP_perm (l : List VD) : (srtP l).Perm l := List.mergeSort_perm _ _
def rSortDat (K : PySem.W.Frag) : List V → Hp → VK → Prop := fun xs H Q => ∃ (a : Addr) (l : List VD), xs = [.ref a] ∧ SqL K H a (l.map (·.1)) ∧ DpAll K H (l.map (·.1)) (pyAll (l.map (·.2))) ∧ alikeB (pyAll (l.map (·.2))) = true ∧ sortB (pyAll (l.map (·.2))) = true ∧ PyData.depthAll (pyAll (l.map (·.2))) ≤ 60 ∧
  ∀ p, H p = none → Q (.ref p) (upd H p (.lst ((srtP l).map (·.1))))
theorem each_of {l : List VD} : ∀ {us : List Value}, Vals (l.map (·.1)) us → PySem.W.EachIs (fun (v : Value) (p : VD) => RelV p.1 v) us l := by
  induction l with
  | nil => intro us r; cases r; exact .nil
  | cons p l ih => intro us r; cases r with | cons h r => exact .cons h (ih r)
theorem vals_of_each {l : List VD} : ∀ {us : List Value}, PySem.W.EachIs (fun (v : Value) (p : VD) => RelV p.1 v) us l → Vals (l.map (·.1)) us := by
  induction l with
  | nil => intro us r; cases r; exact .nil
  | cons p l ih => intro us r; cases r with | cons h r => exact .cons h (ih r)
theorem depthAll_mem {xs : List PyData} {d : PyData} (h : d ∈ xs) : d.depth ≤ PyData.depthAll xs := by
  induction xs with
  | nil => cases h
  | cons x xs ih =>
    simp only [PyData.depthAll]
    rcases List.mem_cons.mp h with rfl | h
    · exact Nat.le_max_left _ _
    · exact Nat.le_trans (ih h) (Nat.le_max_right _ _)
theorem cr_sortedDat {X : Cx} (hu : X.A.units + 65 < cLine) : CallR X (.builtin "sorted") (rSortDat X.K) := by
  intro pins s σ H xs us Q I r h
  obtain ⟨a, l, rfl, hs, hd, hal, hso, hdep, q⟩ := h
  obtain ⟨its, rv, hl, hz⟩ := I.list hs
  rw [Vals.ref1 r]
  obtain ⟨as, hr⟩ := Dp.readsAll I _ _ its hd rv
  have ep : pyAll (l.map (·.2)) = l.map fun p => p.2.py := by rw [pyAll_map, List.map_map]; rfl
  rw [ep] at hr hal hso hdep
  refine PySem.W.sorted_data (R := fun (v : Value) (p : VD) => RelV p.1 v) (bs := l) (enc := fun p => p.2.py) hl.isList (each_of rv) (PySem.W.readsAll_each (fun p : VD => p.2.py) hr) (fun d h1 d' h2 => (alikeB_iff hal).1 d h1 d' h2) (sortB_iff hso) (by rw [← List.length_map (f := fun p : VD => p.1)]; exact hz) (fun b hb => ?_) fun out ho eo => ?_
  · have := depthAll_mem (List.mem_map_of_mem (f := fun p : VD => p.2.py) hb)
    omega
  · rw [show PySem.W.dataLe false (fun p : VD => p.2.py) = (fun a b => dLe a.2.py b.2.py) from PySem.W.dataLe_eq false _] at eo
    obtain ⟨e, he'⟩ := PyProof.Rows.sortedAll_at s.heap its (List.toArray out)
    have hlen : ((srtP l).map (·.1)).length ≤ sizeLine := by
      rw [List.length_map, (srtP_perm l).length_eq]
      rw [List.length_map] at hz
      exact hz
    exact ⟨.ref _, upd H (s.heap.objs.size + 1) (.lst ((srtP l).map (·.1))), I.laid (t' := s.toks) (fun _ _ => PyProof.Rows.sortedAll_old) (Nat.le_succ _) ⟨hlen, out, e, vals_of_each eo, he'⟩, rfl, q _ (I.hok.fresh (Nat.le_succ _))⟩
theorem zip_fst {vs : List V} {ds : List D} (h : vs.length = ds.length) : (vs.zip ds).map (·.1) = vs := List.map_fst_zip (by omega)
theorem zip_snd {vs : List V} {ds : List D} (h : vs.length = ds.length) : (vs.zip ds).map (·.2) = ds := List.map_snd_zip (by omega)
theorem lev_map {k : Nat} : ∀ l : List VD, lev k (l.map (·.1)) (l.map (·.2)) = l.map fun p => (p.1, k, p.2)
  | [] => rfl
  | p :: l => congrArg (List.cons _) (lev_map l)
def gSort (d : D) : Res D := match d with
  | .lst ds => if sortable ds = true then .ok (.lst (srt ds)) else .bad
  | _ => .bad
section
variable {X : Cx} {e : Expr} {m : Env → Res D} {k : Nat} {cs : List Nat} {pos p : Pos}
/-- sorted(xs), xs a list of things without lists, dicts -/
theorem se_sortB (hu : X.A.units + 65 < cLine) (hg : Gl X "sorted") (hm0 : X.mg "sorted" = none) (h : SB X e m) (he : starEach [e] X.env = (false, eval e X.env) :: starEach [] X.env := by rfl) (hpl : (backTo pos (starEach [] X.env)).any (·.1) = false := by rfl) : SE X (k + 1) [] (.Call (.Name "sorted" p) [e] [] pos) (fun env => m env >>= itemsL >>= immL >>= fun ds => gSort (.lst ds)) := fun B H env σ tm d Q ok hm q => by
  obtain ⟨ds, h1, h2⟩ := bind_ok hm
  obtain ⟨ds', h1, h3⟩ := bind_ok h1
  obtain ⟨x, hx, h4⟩ := bind_ok h1
  unfold immL at h3
  split at h3
  · rename_i him
    cases h3
    unfold itemsL at h4
    split at h4
    · cases h4
      unfold gSort at h2
      dsimp only at h2
      split at h2
      · rename_i hs
        cases h2
        unfold sortable at hs
        simp only [Bool.and_eq_true, decide_eq_true_eq] at hs
        obtain ⟨⟨⟨s1, s2⟩, s3⟩, s4⟩ := hs
        refine wE_of (pe_callB (cr_sortedDat hu) hg hm0 (by decide +kernel) (pa_cons pe_sem pa_nil he) (by decide) (by decide) he hpl) (h B H env σ tm _ _ ok hx fun v H1 x1 ok1 r => ?_)
        cases r with
        | @lst a vs _ hv ra =>
          have hl := ra.length
          have e2 := zip_snd hl
          refine ⟨a, vs.zip ds, rfl, by rw [zip_fst hl]; exact .inl (view_rd hv), by rw [zip_fst hl, e2]; exact ra.dp s1, by rw [e2]; exact s2, by rw [e2]; exact s3, by rw [e2]; exact s4, fun p hp => ?_⟩
          have ok2 := ok1.levs (k := k) ra him
          have ok3 : EnvOk B H1 env σ (lev k ((srtP (vs.zip ds)).map (·.1)) ((srtP (vs.zip ds)).map (·.2)) ++ tm) := by
            refine ok2.perm (List.Perm.append_right _ ?_)
            have := lev_map (k := k) (vs.zip ds)
            rw [zip_fst hl, e2] at this
            rw [this, lev_map]
            exact ((srtP_perm _).map _).symm
          have ok4 := ok3.newLst (by simp) hp
          rw [srtP_snd, e2] at ok4
          exact q _ _ (x1.trans (Ext.upd hp)) ok4
      · cases h2
    · cases h4
  · cases h3
end
/-! what it is, for data with a Lean type -/
section
variable {α : Type} [DecidableEq α] [Dat α]
def sorted (xs : List α) : List α := xs.mergeSort fun a b => !Dat.lt b a
theorem srt_enc (xs : List α) : srt (xs.map Dat.enc) = (sorted xs).map Dat.enc := by
  unfold srt sorted
  refine (List.map_mergeSort (f := Dat.enc) (l := xs) fun a _ b _ => ?_).symm
  unfold dLe
  rw [Dat.dlt]
theorem sorted_perm (xs : List α) : (sorted xs).Perm xs := List.mergeSort_perm _ _
theorem sorted_pw (xs : List α) : (sorted xs).Pairwise fun a b => Dat.lt b a = false := by
  have := List.pairwise_mergeSort (le := fun a b : α => !Dat.lt b a) (fun a b c h1 h2 => ?_) (fun a b => ?_) xs
  · exact this.imp fun h => by simpa using h
  · simp only [Bool.not_eq_true'] at *
    cases h : Dat.lt c a with
    | false => rfl
    | true =>
      cases h3 : Dat.lt b c with
      | true => have := Dat.tr _ _ _ h3 h; rw [this] at h1; cases h1
      | false =>
        have := Dat.tot c b h2 h3
        subst this
        rw [h] at h1; cases h1
  · cases h : Dat.lt b a with
    | false => simp
    | true => simp [Dat.asy _ _ h]
theorem sorted_uniq {xs ys : List α} (h : xs.Perm ys) (h1 : xs.Pairwise fun a b => Dat.lt b a = false) (h2 : ys.Pairwise fun a b => Dat.lt b a = false) : xs = ys := by
  induction xs generalizing ys with
  | nil => exact h.nil_eq
  | cons x xs ih =>
    cases ys with
    | nil => exact h.symm.nil_eq.symm
    | cons y ys =>
      have p1 := List.pairwise_cons.mp h1
      have p2 := List.pairwise_cons.mp h2
      have e : x = y := by
        have m1 := h.mem_iff.mp (List.mem_cons_self (a := x) (l := xs))
        have m2 := h.mem_iff.mpr (List.mem_cons_self (a := y) (l := ys))
        rcases List.mem_cons.mp m1 with e | m1
        · exact e
        · rcases List.mem_cons.mp m2 with e | m2
          · exact e.symm
          · exact Dat.tot x y (p2.1 x m1) (p1.1 y m2)
      subst e
      rw [ih h.cons_inv p1.2 p2.2]
/-- a rising list is the sorted one -/
theorem sorted_eq {xs ys : List α} (h : xs.Perm ys) (h1 : ys.Pairwise fun a b => Dat.lt b a = false) : sorted xs = ys := sorted_uniq ((sorted_perm xs).trans h) (sorted_pw xs) h1
theorem gSort_enc (xs : List α) (h : Dat.dep α ≤ 60) (hs : sortB (pyAll (xs.map (Dat.enc (α := α)))) = true) : gSort (.lst (xs.map Dat.enc)) = .ok (.lst ((sorted xs).map Dat.enc)) := by
  unfold gSort sortable
  dsimp only
  rw [layAll_enc, alikeB_enc, hs, if_pos (by simpa using Nat.le_trans (depthAll_enc xs) h), srt_enc]
end
end Mir

namespace Mir
open PySem PySem.Spec L2
/-! ### sorted(d), list(d): a dict's keys, be they tuples or not -/
section
variable {prog : Program} {w : World} {A : Around} {E : Value → Shared → Prop} {s : Shared}
end
/-- the keys as they stand in the heap -/
structure KeysAt (X : Cx) (H : Hp) (s : Shared) (a : Addr) (l : List VD) : Prop where
  ex : ∃ es ep, s.heap.DictRaw a es ep ∧ es.size = l.length ∧ Vals (l.map (·.1)) (es.toList.map (·.key))
  lo : (a == sysModules) = false
  few : l.length ≤ sizeLine
  rp : RpAll (view H) (l.map (·.1)) (l.map (·.2))
section
variable {X : Cx} {e : Expr} {m : Env → Res D} {k : Nat} {pos p : Pos}
end
end Mir

namespace Mir
open PySem PySem.Spec L2
@[simp] theorem e_tNil (k : Nat) (env : Mir.Env) : Mir.tNil k [] env = .ok env := rfl
@[simp] theorem e_tCons (t : Nat → D → Mir.Env → Res Mir.Env) (u : Nat → List D → Mir.Env → Res Mir.Env) (k : Nat) (d : D) (ds : List D) (env : Mir.Env) : Mir.tCons t u k (d :: ds) env = (t k d env >>= fun e => u k ds e) := rfl
@[simp] theorem e_tTupT (n : Nat) (u : Nat → List D → Mir.Env → Res Mir.Env) (k : Nat) (ds : List D) (env : Mir.Env) : tTupT n u k (.tup ds) env = if ds.length = n then u (k - 1) ds env else .bad := rfl
@[simp] theorem e_tTup2 (u : Nat → List D → Mir.Env → Res Mir.Env) (k : Nat) (x : Int × Int) (env : Mir.Env) : tTupT 2 u k (t2 x) env = u (k - 1) [.int x.1, .int x.2] env := rfl
@[simp] theorem e_tTup3 (u : Nat → List D → Mir.Env → Res Mir.Env) (k : Nat) (x : T3) (env : Mir.Env) : tTupT 3 u k (t3 x) env = u (k - 1) [.int x.a, .int x.b, .int x.c] env := rfl
/-! ### dicts with a Lean type: rows of keys and values -/
section
variable {κ β α : Type} [DecidableEq κ]
def lk (p : List (κ × β)) (k : κ) : Option β := (p.find? fun x => decide (x.1 = k)).map (·.2)
def pt (p : List (κ × β)) (k : κ) (v : β) : List (κ × β) := if k ∈ p.map (·.1) then p.map (fun x => if x.1 = k then (x.1, v) else x) else p ++ [(k, v)]
theorem lk_nil (k : κ) : lk ([] : List (κ × β)) k = none := rfl
theorem lk_cons (x : κ × β) (p : List (κ × β)) (k : κ) : lk (x :: p) k = if x.1 = k then some x.2 else lk p k := by
  unfold lk
  rw [List.find?_cons]
  by_cases e : x.1 = k <;> simp [e]
theorem lk_none {p : List (κ × β)} {k : κ} : lk p k = none ↔ k ∉ p.map (·.1) := by
  induction p with
  | nil => simp [lk]
  | cons x p ih =>
    rw [lk_cons, List.map_cons, List.mem_cons]
    by_cases e : x.1 = k
    · simp [e]
    · have e2 : ¬ k = x.1 := fun z => e z.symm
      simp [e, e2, ih]
theorem lk_app (p q : List (κ × β)) (k : κ) : lk (p ++ q) k = (lk p k).or (lk q k) := by
  induction p with
  | nil => rfl
  | cons x p ih =>
    rw [List.cons_append, lk_cons, lk_cons, ih]
    split <;> rfl
theorem pt_in {p : List (κ × β)} {k : κ} (v : β) (h : k ∈ p.map (·.1)) : pt p k v = p.map fun x => if x.1 = k then (x.1, v) else x := if_pos h
theorem pt_out {p : List (κ × β)} {k : κ} (v : β) (h : k ∉ p.map (·.1)) : pt p k v = p ++ [(k, v)] := if_neg h
theorem lk_pt (p : List (κ × β)) (k : κ) (v : β) (k2 : κ) : lk (pt p k v) k2 = if k2 = k then some v else lk p k2 := by
  by_cases h : k ∈ p.map (·.1)
  · rw [pt_in v h]
    induction p with
    | nil => simp at h
    | cons x p ih =>
      rw [List.map_cons, lk_cons, lk_cons]
      by_cases e : x.1 = k
      · rw [if_pos e]
        by_cases e2 : k2 = k
        · rw [if_pos e2, if_pos (by rw [e2]; exact e)]
        · rw [if_neg e2, if_neg (by rw [e]; exact fun z => e2 z.symm), if_neg (by rw [e]; exact fun z => e2 z.symm)]
          by_cases h4 : k ∈ p.map (·.1)
          · have := ih h4
            rw [if_neg e2] at this
            exact this
          · have h5 : (p.map fun x => if x.1 = k then (x.1, v) else x) = p := by
              conv => rhs; rw [← List.map_id p]
              refine List.map_congr_left fun y hy => ?_
              rw [if_neg fun z : y.1 = k => h4 (z ▸ List.mem_map_of_mem hy)]; rfl
            rw [h5]
      · have hk2 : k ∈ p.map (·.1) := by
          rcases List.mem_cons.mp h with h | h
          · exact absurd h.symm e
          · exact h
        rw [if_neg e]
        by_cases e2 : x.1 = k2
        · rw [if_pos e2, if_pos e2, if_neg fun z => e (e2.trans z)]
        · rw [if_neg e2, if_neg e2]
          exact ih hk2
  · rw [pt_out v h, lk_app, lk_cons, lk_nil]
    by_cases e2 : k2 = k
    · subst e2
      rw [lk_none.mpr h]; simp
    · have e3 : ¬ k = k2 := fun z => e2 z.symm
      simp [e2, e3]
theorem pt_keys (p : List (κ × β)) (k : κ) (v : β) : (pt p k v).map (·.1) = if k ∈ p.map (·.1) then p.map (·.1) else p.map (·.1) ++ [k] := by
  by_cases h : k ∈ p.map (·.1)
  · rw [pt_in v h, if_pos h, List.map_map]
    refine List.map_congr_left fun x _ => ?_
    by_cases e : x.1 = k <;> simp [e]
  · rw [pt_out v h, if_neg h]; simp
theorem pt_len (p : List (κ × β)) (k : κ) (v : β) : (pt p k v).length ≤ p.length + 1 := by
  by_cases h : k ∈ p.map (·.1)
  · rw [pt_in v h]; simp
  · rw [pt_out v h]; simp
theorem pt_nodup {p : List (κ × β)} (h : (p.map (·.1)).Nodup) (k : κ) (v : β) : ((pt p k v).map (·.1)).Nodup := by
  rw [pt_keys]
  split
  · exact h
  · rename_i hk
    refine List.nodup_append.mpr ⟨h, by simp, fun a ha b hb e => ?_⟩
    rw [List.mem_singleton.mp hb] at e
    exact hk (e ▸ ha)
theorem pt_mem (p : List (κ × β)) (k : κ) (v : β) (j : κ) : j ∈ (pt p k v).map (·.1) ↔ j ∈ p.map (·.1) ∨ j = k := by
  rw [pt_keys]
  split
  · rename_i h
    exact ⟨.inl, fun z => z.elim id fun z => z ▸ h⟩
  · simp
/-- many puts -/
def pts (key : α → κ) (val : α → β) (xs : List α) (p : List (κ × β)) : List (κ × β) := xs.foldl (fun p x => pt p (key x) (val x)) p
variable {key : α → κ} {val : α → β}
theorem pts_len (xs : List α) (p : List (κ × β)) : (pts key val xs p).length ≤ p.length + xs.length := by
  unfold pts
  induction xs generalizing p with
  | nil => exact Nat.le_refl _
  | cons x xs ih =>
    have := ih (pt p (key x) (val x))
    have := pt_len p (key x) (val x)
    rw [List.foldl_cons, List.length_cons]; omega
theorem pts_nodup (xs : List α) {p : List (κ × β)} (h : (p.map (·.1)).Nodup) : ((pts key val xs p).map (·.1)).Nodup := by
  unfold pts
  induction xs generalizing p with
  | nil => exact h
  | cons x xs ih => exact ih (pt_nodup h _ _)
theorem pts_mem (xs : List α) (p : List (κ × β)) (j : κ) : j ∈ (pts key val xs p).map (·.1) ↔ j ∈ p.map (·.1) ∨ ∃ x ∈ xs, key x = j := by
  unfold pts
  induction xs generalizing p with
  | nil => simp
  | cons x xs ih =>
    rw [List.foldl_cons, ih, pt_mem]
    constructor
    · rintro ((h | h) | ⟨y, hy, h⟩)
      · exact .inl h
      · exact .inr ⟨x, List.mem_cons_self, h.symm⟩
      · exact .inr ⟨y, List.mem_cons_of_mem _ hy, h⟩
    · rintro (h | ⟨y, hy, h⟩)
      · exact .inl (.inl h)
      · rcases List.mem_cons.mp hy with e | hy
        · exact .inl (.inr (by rw [← h, e]))
        · exact .inr ⟨y, hy, h⟩
theorem pts_in (xs : List α) (p : List (κ × β)) (k : κ) (v : β) (h : ∀ x ∈ xs, key x = k → val x = v) (hx : (∃ x ∈ xs, key x = k) ∨ lk p k = some v) : lk (pts key val xs p) k = some v := by
  unfold pts
  induction xs generalizing p with
  | nil =>
    rcases hx with ⟨x, hx, _⟩ | hx
    · cases hx
    · exact hx
  | cons x xs ih =>
    rw [List.foldl_cons]
    refine ih _ (fun y hy => h y (List.mem_cons_of_mem _ hy)) ?_
    by_cases e : key x = k
    · right
      rw [lk_pt, if_pos e.symm, h x List.mem_cons_self e]
    · rcases hx with ⟨y, hy, e2⟩ | hx
      · left
        rcases List.mem_cons.mp hy with e3 | hy
        · rw [e3] at e2; exact absurd e2 e
        · exact ⟨y, hy, e2⟩
      · right
        rw [lk_pt, if_neg fun z => e z.symm]; exact hx
theorem pts_app (xs ys : List α) (p : List (κ × β)) : pts key val (xs ++ ys) p = pts key val ys (pts key val xs p) := List.foldl_append
end
/-! ### as data -/
section
variable {κ κ' β : Type} [DecidableEq κ] [DecidableEq κ'] {g : κ → κ'} (hg : ∀ a b, g a = g b → a = b) (f : β → D)
include hg
theorem dFind_map (p : List (κ × β)) (k : κ) : dFind (p.map fun x => g x.1) (p.map fun x => f x.2) (g k) = (lk p k).map f := by
  induction p with
  | nil => rfl
  | cons x p ih =>
    rw [lk_cons]
    show (if g x.1 = g k then some (f x.2) else dFind _ _ _) = _
    by_cases e : x.1 = k
    · rw [if_pos (by rw [e]), if_pos e]; rfl
    · rw [if_neg fun z => e (hg _ _ z), if_neg e, ih]
theorem g_mem (p : List (κ × β)) (k : κ) : g k ∈ (p.map fun x => g x.1) ↔ k ∈ p.map (·.1) := by
  simp only [List.mem_map]
  constructor
  · rintro ⟨x, hx, e⟩
    exact ⟨x, hx, hg _ _ e⟩
  · rintro ⟨x, hx, e⟩
    exact ⟨x, hx, by rw [e]⟩
theorem dPutD_map (p : List (κ × β)) (k : κ) (v : β) : dPutD (p.map fun x => g x.1) (p.map fun x => f x.2) (g k) (f v) = (p.map fun x => if x.1 = k then (x.1, v) else x).map fun x => f x.2 := by
  induction p with
  | nil => rfl
  | cons x p ih =>
    show (if g x.1 = g k then f v else f x.2) :: dPutD _ _ _ _ = _
    rw [ih, List.map_cons, List.map_cons]
    by_cases e : x.1 = k
    · rw [if_pos (by rw [e]), if_pos e]
    · rw [if_neg fun z => e (hg _ _ z), if_neg e]
theorem dPut_map (p : List (κ × β)) (k : κ) (v : β) : dPutK (p.map fun x => g x.1) (g k) = (pt p k v).map (fun x => g x.1) ∧ dPutV (p.map fun x => g x.1) (p.map fun x => f x.2) (g k) (f v) = (pt p k v).map fun x => f x.2 := by
  unfold dPutK dPutV
  by_cases h : k ∈ p.map (·.1)
  · rw [if_pos ((g_mem hg p k).mpr h), if_pos ((g_mem hg p k).mpr h), pt_in v h, dPutD_map hg]
    refine ⟨?_, rfl⟩
    rw [List.map_map]
    refine List.map_congr_left fun x _ => ?_
    by_cases e : x.1 = k <;> simp [e]
  · rw [if_neg fun z => h ((g_mem hg p k).mp z), if_neg fun z => h ((g_mem hg p k).mp z), pt_out v h]
    simp
end
section
variable {β : Type} (f : β → D)
def encK (p : List (Int × β)) : D := .dk (p.map fun x => .inl x.1) (p.map fun x => f x.2)
def k2 (k : Int × Int) : List Key := [.inl k.1, .inl k.2]
theorem k2_inj (a b : Int × Int) (h : k2 a = k2 b) : a = b := by
  unfold k2 at h
  injection h with h1 h2
  injection h2 with h2 _
  exact Prod.ext (Sum.inl.inj h1) (Sum.inl.inj h2)
theorem inl_inj (a b : Int) (h : (Sum.inl a : Key) = Sum.inl b) : a = b := Sum.inl.inj h
def encK2 (p : List ((Int × Int) × β)) : D := .dt (p.map fun x => k2 x.1) (p.map fun x => f x.2)
theorem encK2_nil : D.dt [] [] = encK2 f [] := rfl
theorem encP_K (p : Pol) : encP p = encK D.int p := rfl
theorem dGet_K (p : List (Int × β)) (k : Int) : dGet (encK f p) (.int k) = some ((lk p k).map f) := congrArg some (dFind_map (g := fun i : Int => (Sum.inl i : Key)) inl_inj f p k)
theorem dGet_K2 (p : List ((Int × Int) × β)) (k : Int × Int) : dGet (encK2 f p) (t2 k) = some ((lk p k).map f) := congrArg some (dFind_map (g := k2) k2_inj f p k)
theorem dSet_K (p : List (Int × β)) (k : Int) (v : β) (h : p.length < sizeLine) : dSet (encK f p) (.int k) (f v) = .ok (encK f (pt p k v)) := by
  show (if (p.map fun x => f x.2).length < sizeLine ∧ _ then _ else _) = _
  rw [if_pos ⟨by rw [List.length_map]; exact h, by simp⟩]
  obtain ⟨h1, h2⟩ := dPut_map (g := fun i : Int => (Sum.inl i : Key)) inl_inj f p k v
  show Res.ok (D.dk _ _) = _
  rw [h1, h2]; rfl
theorem dSet_K2 (p : List ((Int × Int) × β)) (k : Int × Int) (v : β) (h : p.length < sizeLine) : dSet (encK2 f p) (t2 k) (f v) = .ok (encK2 f (pt p k v)) := by
  show (if (p.map fun x => f x.2).length < sizeLine ∧ _ then _ else _) = _
  rw [if_pos ⟨by rw [List.length_map]; exact h, by simp⟩]
  obtain ⟨h1, h2⟩ := dPut_map (g := k2) k2_inj f p k v
  show Res.ok (D.dt (dPutK _ (k2 k)) (dPutV _ _ (k2 k) (f v))) = _
  rw [h1, h2]; rfl
theorem gDGet_K {p : List (Int × β)} {k : Int} {v : β} (h : lk p k = some v) : gDGet (encK f p) (.int k) = .ok (f v) := by
  unfold gDGet; rw [dGet_K, h]; rfl
theorem gDGet_K2 {p : List ((Int × Int) × β)} {k : Int × Int} {v : β} (h : lk p k = some v) : gDGet (encK2 f p) (t2 k) = .ok (f v) := by
  unfold gDGet; rw [dGet_K2, h]; rfl
theorem gDNotIn_K (p : List (Int × β)) (k : Int) : gDNotIn (.int k) (encK f p) = .ok (.bl (!(lk p k).isSome)) := by
  unfold gDNotIn; rw [dGet_K]; cases lk p k <;> rfl
theorem gDIn_K2 (p : List ((Int × Int) × β)) (k : Int × Int) : gDIn (t2 k) (encK2 f p) = .ok (.bl (lk p k).isSome) := by
  unfold gDIn; rw [dGet_K2]; cases lk p k <;> rfl
theorem immAt_K (h : ∀ b, (f b).imm = true) (p : List (Int × β)) : immAt 1 (encK f p) = true := by
  show immAt 1 (.dk _ _) = true
  unfold immAt
  simp [h]
theorem immAt_K2 (h : ∀ b, (f b).imm = true) (p : List ((Int × Int) × β)) : immAt 1 (encK2 f p) = true := by
  show immAt 1 (.dt _ _) = true
  unfold immAt
  simp [h]
end
theorem mem_intsOf (is : List Int) : intsOf (is.map Sum.inl) = some is := by
  induction is with
  | nil => rfl
  | cons i is ih => show (intsOf (is.map Sum.inl)).map _ = _; rw [ih]; rfl
theorem gSortD_K {β : Type} (f : β → D) (p : List (Int × β)) (h : p.length < 64) : gSortD (encK f p) = .ok (.lst ((sortI (p.map (·.1))).map D.int)) := by
  have e : (p.map fun x => (Sum.inl x.1 : Key)) = (p.map (·.1)).map Sum.inl := by rw [List.map_map]; rfl
  show (match intsOf (p.map fun x => (Sum.inl x.1 : Key)) with | some is => if is.length < 64 then Res.ok (D.lst ((sortI is).map D.int)) else .bad | none => Res.bad) = _
  rw [e, mem_intsOf]
  exact if_pos (by rw [List.length_map]; exact h)
/-- drawings -/
abbrev Drw := List (List T3)
def encR (r : List T3) : D := .lst (r.map t3)
def encD (ds : Drw) : D := .lst (ds.map encR)
theorem gEq_D (a b : Drw) : gEq (encD a) (encD b) = .ok (.bl (decide (a = b))) := gEq_enc a b (by decide)
theorem lift_perm {α β : Type} (f : α → β) : ∀ {ys : List β} {C : List α}, ys.Perm (C.map f) → ∃ L : List α, L.Perm C ∧ L.map f = ys := by
  intro ys C h
  generalize e : C.map f = zs at h
  induction h generalizing C with
  | nil => exact ⟨C, .refl _, e⟩
  | @cons x l1 l2 _ ih =>
    cases C with
    | nil => cases e
    | cons c C =>
      injection e with e1 e2
      obtain ⟨L, h1, h2⟩ := ih e2
      exact ⟨c :: L, h1.cons c, by rw [List.map_cons, e1, h2]⟩
  | swap x y l =>
    cases C with
    | nil => cases e
    | cons c C =>
      cases C with
      | nil => injection e with _ e; cases e
      | cons d C =>
        injection e with e1 e2
        injection e2 with e2 e3
        exact ⟨d :: c :: C, .swap c d C, by rw [List.map_cons, List.map_cons, e1, e2, e3]⟩
  | trans _ _ ih1 ih2 =>
    obtain ⟨L, h1, h2⟩ := ih2 e
    obtain ⟨L2, h3, h4⟩ := ih1 h2
    exact ⟨L2, h3.trans h1, h4⟩
end Mir

namespace Mir
open PySem PySem.Spec L2
/-! ### stores, reckoned -/
def putIm (j k : Nat) (cs : List Nat) (d y : D) (ds : List D) (env : Mir.Env) : Res Ctl := match y with
  | .int n => (match ixN ds.length n with | some jj => .ok (.nx ((clear env cs).set j (some (k + 1, .lst (ds.set jj d))))) | none => .bad)
  | _ => .bad
@[simp] theorem e_mPutI (j k : Nat) (cs : List Nat) (mv mi : Mir.Env → Res D) (env : Mir.Env) : mPutI j k cs mv mi env = (mv env >>= fun d => mi (clear env cs) >>= fun y => atL (clear env cs) j (k + 1) >>= fun ds => putIm j k cs d y ds env) := rfl
theorem ixN_nat {n i : Nat} (h : i < n) : ixN n (i : Int) = some i := by
  unfold ixN
  simp [h]
def putIIm (j k : Nat) (d y z : D) (ds : List D) (env : Mir.Env) : Res Ctl := match y, z with
  | .int n, .int n2 => (match ixN ds.length n with
    | some jj => (match ds[jj]? with
      | some (.lst es) => (match ixN es.length n2 with
        | some j2 => if d.imm = true then .ok (.nx (env.set j (some (k + 2, .lst (ds.set jj (.lst (es.set j2 d))))))) else .bad
        | none => .bad)
      | _ => .bad)
    | none => .bad)
  | _, _ => .bad
@[simp] theorem e_mPutII (j k : Nat) (mv mi mj : Mir.Env → Res D) (env : Mir.Env) : mPutII j k mv mi mj env = (mv env >>= fun d => mi env >>= fun y => mj env >>= fun z => atL env j (k + 2) >>= fun ds => putIIm j k d y z ds env) := rfl
abbrev Mat := List (List Int)
def encM (T : Mat) : D := .lst (T.map fun r => .lst (r.map D.int))
/-! ### a name that is free -/
def itr (k : Nat) (n : Int) : Int := (n - 1 + k) % 999 + 1
theorem nodup_sub_len {α : Type} [DecidableEq α] : ∀ {l m : List α}, l.Nodup → (∀ x ∈ l, x ∈ m) → l.length ≤ m.length
  | [], _, _, _ => Nat.zero_le _
  | x :: l, m, h, hs => by
    have h2 := List.nodup_cons.mp h
    have hx := hs x List.mem_cons_self
    have := nodup_sub_len (l := l) (m := m.erase x) h2.2 fun y hy => (List.mem_erase_of_ne fun e : y = x => h2.1 (by rw [← e]; exact hy)).mpr (hs y (List.mem_cons_of_mem _ hy))
    rw [List.length_erase_of_mem hx] at this
    have hp := List.length_pos_of_mem hx
    rw [List.length_cons]; omega
theorem free_ex (ns : List Int) (h : ns.length < 999) (n : Int) : ∃ k, k ≤ ns.length ∧ itr k n ∉ ns := by
  apply Classical.byContradiction
  intro hc
  have hall : ∀ k, k ≤ ns.length → itr k n ∈ ns := fun k hk => Classical.byContradiction fun hn => hc ⟨k, hk, hn⟩
  have hnd : ((List.range (ns.length + 1)).map fun k => itr k n).Nodup := by
    refine List.pairwise_map.mpr (List.Pairwise.imp_of_mem (fun {a b} ha hb hab e => ?_) List.nodup_range)
    have h1 := List.mem_range.mp ha
    have h2 := List.mem_range.mp hb
    unfold itr at e
    omega
  have := nodup_sub_len hnd fun x hx => by
    obtain ⟨k, hk, rfl⟩ := List.mem_map.mp hx
    exact hall k (by have := List.mem_range.mp hk; omega)
  simp at this
  omega
theorem intsD_map (xs : List Int) : intsD? (xs.map D.int) = some xs := by
  induction xs with
  | nil => rfl
  | cons x xs ih => show (intsD? (xs.map D.int)).map _ = _; rw [ih]; rfl
theorem gSum_int (xs : List Int) : gSum (.lst (xs.map D.int)) = .ok (.int xs.sum) := by
  unfold gSum
  simp only [intsD_map]
theorem wloop_succ (t : Mir.Env → Res Bool) (body : Mir.Env → Res Ctl) (fg : List Nat) (n : Nat) (env : Mir.Env) : wloop t body fg (n + 1) env = (t env >>= fun b => if b then body env >>= fun c => match c with
      | .nx e => wloop t body fg n (clear e fg)
      | .ct e => wloop t body fg n (clear e fg)
      | .bk e => .ok (.nx (clear e fg))
      | .rt d => .ok (.rt d)
    else .ok (.nx env)) := rfl
theorem gIn_int (x : Int) (xs : List Int) : gIn (.int x) (.lst (xs.map D.int)) = .ok (.bl (decide (x ∈ xs))) := gIn_enc x xs (by decide)
theorem gNotIn_int (x : Int) (xs : List Int) : gNotIn (.int x) (.lst (xs.map D.int)) = .ok (.bl (!decide (x ∈ xs))) := gNotIn_enc x xs (by decide)
end Mir

namespace Mir
open PySem PySem.Spec L2
/-! ### drawings, rows, tables: the mirror's operations -/
@[simp] theorem D_items (ds : Drw) : itemsL (encD ds) = .ok (ds.map encR) := rfl
@[simp] theorem D_len (ds : Drw) : gLen (encD ds) = .ok (.int ds.length) := by unfold encD; simp
@[simp] theorem D_isi (ds : Drw) : isi .list (encD ds) = true := rfl
@[simp] theorem D_isOb (ds : Drw) : isOb (encD ds) = false := rfl
@[simp] theorem R_items (r : List T3) : itemsL (encR r) = .ok (r.map t3) := rfl
@[simp] theorem R_len (r : List T3) : gLen (encR r) = .ok (.int r.length) := by unfold encR; simp
@[simp] theorem R_isi (r : List T3) : isi .list (encR r) = true := rfl
@[simp] theorem R_isOb (r : List T3) : isOb (encR r) = false := rfl
@[simp] theorem R_tru (r : List T3) : gTru (encR r) = .ok (!r.isEmpty) := by unfold encR; simp
@[simp] theorem M_items (T : Mat) : itemsL (encM T) = .ok (T.map fun r => .lst (r.map D.int)) := rfl
@[simp] theorem M_len (T : Mat) : gLen (encM T) = .ok (.int T.length) := by unfold encM; simp
@[simp] theorem M_isi (T : Mat) : isi .list (encM T) = true := rfl
@[simp] theorem M_isOb (T : Mat) : isOb (encM T) = false := rfl
theorem gIx_D {ds : Drw} {i : Nat} {r : List T3} (h : ds[i]? = some r) : gIx (encD ds) (.int i) = .ok (encR r) := gIx_map h
@[simp] theorem immAt_2D (ds : Drw) : immAt 2 (encD ds) = true := by
  unfold encD
  rw [show (2 : Nat) = 1 + 1 from rfl, immAt_l]
  induction ds with
  | nil => rfl
  | cons r ds ih =>
    rw [List.map_cons, immAtL, ih]
    show (immAt 1 (.lst (r.map t3)) && true) = true
    simp
@[simp] theorem immAt_2M (T : Mat) : immAt 2 (encM T) = true := by
  unfold encM
  rw [show (2 : Nat) = 1 + 1 from rfl, immAt_l]
  induction T with
  | nil => rfl
  | cons r T ih =>
    rw [List.map_cons, immAtL, ih]
    simp
@[simp] theorem immAt_1R (r : List T3) : immAt 1 (encR r) = true := by unfold encR; simp
@[simp] theorem imm_R (r : List T3) : (encR r).imm = false := by unfold encR; simp [D.imm]
@[simp] theorem atL_M (T : Mat) (env : Mir.Env) (j k : Nat) (h : env[j]? = some (some (k, encM T))) : atL env j k = .ok (T.map fun r => .lst (r.map D.int)) := by
  unfold atL; rw [h]; simp [encM]
@[simp] theorem atL_D (ds : Drw) (env : Mir.Env) (j k : Nat) (h : env[j]? = some (some (k, encD ds))) : atL env j k = .ok (ds.map encR) := by
  unfold atL; rw [h]; simp [encD]
theorem e_mLc (mi : Mir.Env → Res (List D)) (t : Nat → D → Mir.Env → Res Mir.Env) (mt : Mir.Env → Res Bool) (me : Mir.Env → Res D) (own : List Nat) (env : Mir.Env) : mLc mi t mt me own env = (chk (noOwn own env) >>= fun _ => mi env >>= fun ds => lcLoop t mt me env ds >>= fun ys => if ys.length ≤ sizeLine then .ok (.lst ys) else .bad) := rfl
@[simp] theorem noOwn_nil (env : Mir.Env) : noOwn [] env = true := rfl
@[simp] theorem noOwn_cons (i : Nat) (is : List Nat) (env : Mir.Env) : noOwn (i :: is) env = ((match env[i]? with | some none => true | _ => false) && noOwn is env) := rfl
end Mir

namespace Mir
open PySem PySem.Spec L2
section
variable {X : Cx} {e a b tg it o elt : Expr} {m ma mb me mk mx : Env → Res D} {k kr : Nat} {cs : List Nat} {pos p p2 cpos apos cpos2 apos2 lp : Pos}
/-! ### list(range(n)) -/
/-! ### [.. for x in d.values()] -/
end
end Mir

namespace Mir
open PySem PySem.Spec L2
/-! ### d.setdefault(k, []).append(x) -/
section
variable {X : Cx} {kr : Nat} {o e x : Expr} {pos apos cpos apos2 cpos2 lp : Pos} {mk mx : Env → Res D}
end
end Mir

namespace Mir
open PySem PySem.Spec PyProof.Rows L2
section
variable {P : Program} {w : World} {A : Around} {E : Value → Shared → Prop} {s : Shared}
end
end Mir
namespace Mir
open PySem PySem.Spec L2
theorem sortI_strict {xs : List Int} (h : xs.Nodup) : (sortI xs).Pairwise (· < ·) := by
  have h1 := sortI_sorted xs
  have h2 : (sortI xs).Nodup := (sortI_perm xs).nodup_iff.mpr h
  exact (h1.and h2).imp fun ⟨a, b⟩ => by omega
section
variable {X : Cx} {e : Expr} {m : Env → Res D} {k : Nat} {pos p p2 pos2 : Pos}
end
end Mir

namespace Mir
open PySem PySem.Spec L2
/-! ### insert into a drawing's row; groups -/
end Mir

namespace Mir
open PySem PySem.Spec L2
/-! ### for a, b in call().items(): dicts of tuple keys -/
section
variable {P : Program} {w : World} {K : PySem.W.Frag} {tg : Expr} {d : Addr} {o : Obj} {es : Array DictEntry} {ep : Nat}
end
section
variable {X : Cx} {tg e : Expr} {td : TE} {apos cpos : Pos}
end
section
variable {X : Cx} {o : Expr} {m : Env → Res D} {kr : Nat} {pos cpos apos : Pos} {m1 : Env → Res Ctl}
end
end Mir

namespace Mir
open PySem PySem.Spec L2
/-! ### d.setdefault(k, []).append(x): keys that are tuples -/
section
variable {X : Cx} {pins : List (Addr × Obj)} {σ : St} {H : Hp} {s : Shared} {a b : Addr} {r : Value} {d : V} {k : List Key} {A : Around} {E : Value → Shared → Prop}
end
section
variable {X : Cx} {o e f : Expr} {td ty tx : TE} {apos cpos : Pos}
end
section
variable {X : Cx} {kr : Nat} {o e x : Expr} {pos apos cpos apos2 cpos2 lp : Pos} {mk mx : Env → Res D}
end
end Mir

namespace Mir
open PySem PySem.Spec L2
/-! ### [.. for x in d.values()]: dicts of tuple keys -/
section
variable {P : Program} {w : World} {K : PySem.W.Frag} {tg : Expr} {d : Addr} {o : Obj} {es : Array DictEntry} {ep : Nat}
end
section
variable {X : Cx} {tg e : Expr} {td : TE} {apos cpos : Pos}
end
section
variable {X : Cx} {e a b tg it o elt : Expr} {m ma mb me mk mx : Env → Res D} {k kr : Nat} {cs : List Nat} {pos p p2 cpos apos cpos2 apos2 lp : Pos}
/-! ### list(range(n)) -/
end
end Mir

namespace Mir
open PySem PySem.Spec L2
@[simp] theorem e_mExtend (j k : Nat) (m : Mir.Env → Res (List D)) (env : Mir.Env) : mExtend j k m env = (m env >>= fun es => atL env j (k + 1) >>= fun ds => if ds.length + es.length ≤ sizeLine then .ok (.nx (env.set j (some (k + 1, .lst (ds ++ es))))) else .bad) := rfl
/-! ### dicts whose keys are tuples of three whole numbers; groups of any keys -/
def k3 (k : T3) : List Key := [.inl k.a, .inl k.b, .inl k.c]
section
variable {β : Type} (f : β → D)
end
/-! groups -/
section
variable {κ τ : Type} [DecidableEq κ]
end
end Mir

namespace Mir
open PySem PySem.Spec L2
/-! ### t + u, tuples -/
section
variable {X : Cx} {a b : Expr} {ma mb : Env → Res D} {pos : Pos}
end
end Mir

namespace Mir
open PySem PySem.Spec L2
/-! ### == of dicts whose keys are tuples -/
section
variable {prog : Program} {w : World} {K : Type} [DecidableEq K] {knd : HeapKind prog w K} {A : Around} {E : Value → Shared → Prop} {s : Shared}
end
section
variable {X : Cx}
end
end Mir

namespace Mir
open PySem PySem.Spec L2
/-! ### sorted(set(pairs)) -/
def lp (p : Int × Int) : List Int := [p.1, p.2]
def fp (l : List Int) : Int × Int := (l.getD 0 0, l.getD 1 0)
section
variable {X : Cx} {e : Expr} {m : Env → Res D} {k : Nat} {pos p p2 pos2 : Pos}
variable {f : Expr} {m' : Env → Res D}
/-! ### list(d), list(d.values()): dicts of tuple keys -/
end
section
variable {X : Cx} {e : Expr} {te : TE} {apos cpos : Pos}
end
section
variable {X : Cx} {e : Expr} {m : Env → Res D} {k : Nat} {pos p apos cpos : Pos}
end
end Mir

namespace Mir
open PySem PySem.Spec L2
/-! ### [.. for k in d]: dicts of tuple keys -/
section
variable {X : Cx} {e a b tg it o elt : Expr} {m ma mb me mk mx : Env → Res D} {k kr : Nat} {cs : List Nat} {pos p p2 cpos apos cpos2 apos2 lp : Pos}
/-! ### list(range(n)) -/
end
end Mir

namespace Mir
open PySem PySem.Spec L2
open PyProof.Rows (envOfC)

/-! ### exceptions -/
/-- what is known of an exception's own dict: its names, its values -/
def XAt (B : Bs) (H' : Hp) (dd : Option Addr) (ns : List Str) (as : List D) : Prop :=
  (ns = [] ∧ as = [] ∧ dd = none) ∨ ∃ dx kvs, dd = some dx ∧ B.h dx = none ∧ H' dx = some (.xd kvs) ∧ kvs.map (·.1) = ns ∧ RpAll (view H') (kvs.map (·.2)) as ∧ immAll as = true
def Kp (Z : List Nat) (σ σ' : St) : Prop := ∀ z ∈ Z, σ'[z]? = σ[z]?
theorem Kp.refl {Z : List Nat} {σ : St} : Kp Z σ σ := fun _ _ => rfl
theorem Kp.trans {Z : List Nat} {a b c : St} (h : Kp Z a b) (g : Kp Z b c) : Kp Z a c := fun z hz => (g z hz).trans (h z hz)
theorem Kp.set {Z : List Nat} {σ σ' : St} {i : Nat} {x : Option V} (h : Kp Z σ σ') (hi : Z.all (fun z => z != i) = true) : Kp Z σ (σ'.set i x) := fun z hz => by
  have := List.all_eq_true.mp hi z hz
  have ne : i ≠ z := fun e => by subst e; simp at this
  rw [List.getElem?_set_ne ne]; exact h z hz
/-- what a statement's mirror asks of what stands behind it -/
def PostK (κ : Str → Addr) (kr : Nat) (Z : List Nat) (W : WX) (B : Bs) (tm : List Hold) (σ : St) (D : Ends) : Res Ctl → Prop
  | .ok (.nx e) => ∀ σ' H', EnvOk B H' e σ' tm → Kp Z σ σ' → D.nx σ' H'
  | .ok (.bk e) => ∀ σ' H', EnvOk B H' e σ' tm → Kp Z σ σ' → D.bk σ' H'
  | .ok (.ct e) => ∀ σ' H', EnvOk B H' e σ' tm → Kp Z σ σ' → D.ct σ' H'
  | .ok (.rt d) => ∀ v H', EnvOk B H' [] [] ((v, kr, d) :: tm) → D.rt v H'
  | .exc c ns as => ∀ σ' H' dd, XAt B H' dd ns as → EnvOk B H' [] [] tm → Kp Z σ σ' → W (.ref (κ c)) dd σ' H'
  | .bad => False
def S1K (X : Cx) (κ : Str → Addr) (kr : Nat) (Z : List Nat) (W : WX) (st : Stmt) (m : Env → Res Ctl) : Prop := ∀ (B : Bs) (H : Hp) (env : Env) (σ : St) (tm : List Hold) (D : Ends), EnvOk B H env σ tm → PostK κ kr Z W B tm σ D (m env) → wS X st D σ H
def SSK (X : Cx) (κ : Str → Addr) (kr : Nat) (Z : List Nat) (W : WX) (ss : List Stmt) (m : Env → Res Ctl) : Prop := ∀ (B : Bs) (H : Hp) (env : Env) (σ : St) (tm : List Hold) (D : Ends), EnvOk B H env σ tm → PostK κ kr Z W B tm σ D (m env) → wB X ss D σ H
def PostE (κ : Str → Addr) (k : Nat) (cs : List Nat) (W : WX) (B : Bs) (H : Hp) (env : Env) (σ : St) (tm : List Hold) (Q : VK) : Res D → Prop
  | .ok d => ∀ v H', Ext H H' → EnvOk B H' (clear env cs) σ ((v, k, d) :: tm) → Q v H'
  | .exc c ns as => ∀ H' dd, XAt B H' dd ns as → EnvOk B H' [] [] tm → W (.ref (κ c)) dd σ H'
  | .bad => False
/-- an expression that may raise -/
def SEX (X : Cx) (κ : Str → Addr) (k : Nat) (cs : List Nat) (W : WX) (e : Expr) (m : Env → Res D) : Prop := ∀ (B : Bs) (H : Hp) (env : Env) (σ : St) (tm : List Hold) (Q : VK), EnvOk B H env σ tm → PostE κ k cs W B H env σ tm Q (m env) → wE X e σ H Q
/-- no exception -/
def nx {α : Type} : Res α → Res α
  | .exc _ _ _ => .bad
  | r => r
@[simp] theorem nx_ok {α : Type} (a : α) : nx (.ok a) = .ok a := rfl
def mN {α : Type} (m : Env → Res α) : Env → Res α := fun env => nx (m env)
section
variable {X : Cx} {κ : Str → Addr} {kr k : Nat} {Z : List Nat} {W : WX} {st : Stmt} {ss : List Stmt} {m m1 m2 : Env → Res Ctl} {me : Env → Res D} {e : Expr} {cs : List Nat} {pos : Pos}
theorem sx_se (h : SE X k cs e me) : SEX X κ k cs W e (mN me) := fun B H env σ tm Q ok p => by
  unfold mN at p
  cases hm : me env with
  | ok d => rw [hm] at p; exact h B H env σ tm d Q ok hm p
  | exc c ns as => rw [hm] at p; exact p.elim
  | bad => rw [hm] at p; exact p.elim
theorem ss_k (h : SS X kr ss m) : SSK X κ kr [] W ss (mN m) := fun B H env σ tm D ok p => by
  unfold mN at p
  cases hm : m env with
  | ok r =>
    rw [hm] at p
    refine h B H env σ tm D r ok hm ?_
    cases r with
    | nx e => exact fun σ' H' ok' => p σ' H' ok' (fun _ z => nomatch z)
    | bk e => exact fun σ' H' ok' => p σ' H' ok' (fun _ z => nomatch z)
    | ct e => exact fun σ' H' ok' => p σ' H' ok' (fun _ z => nomatch z)
    | rt d => exact p
  | exc c ns as => rw [hm] at p; exact p.elim
  | bad => rw [hm] at p; exact p.elim
theorem PostK.from {B : Bs} {tm : List Hold} {σ σ1 : St} {D : Ends} : ∀ {r : Res Ctl}, Kp Z σ σ1 → PostK κ kr Z W B tm σ D r → PostK κ kr Z W B tm σ1 D r := fun {r} k p => by
  cases r with
  | ok c =>
    cases c with
    | nx e => exact fun σ' H' ok' k' => p σ' H' ok' (k.trans k')
    | bk e => exact fun σ' H' ok' k' => p σ' H' ok' (k.trans k')
    | ct e => exact fun σ' H' ok' k' => p σ' H' ok' (k.trans k')
    | rt d => exact p
  | exc c ns as => exact fun σ' H' dd x ok' k' => p σ' H' dd x ok' (k.trans k')
  | bad => exact p
theorem s_setK {i : Nat} {x : Str} {pos' : Pos} (hN : X.N.Nodup) (hi : X.N[i]? = some x) (hx : Loc X.env.scope x) (hz : Z.all (fun z => z != i) = true) (he : SEX X κ k cs W e me) (hs : swapsWith e (some (.Name x pos')) pos.line X.env = pure false := by rfl)
    (hf : X.fn x = true ∨ X.env.scope.names.lookup x = some .local := by first | exact .inl rfl | exact .inr rfl | assumption) : S1K X κ kr Z W (.Assign [.Name x pos'] e pos) (mSet i k cs me) := fun B H env σ tm D ok p => by
  refine wS_of (ps_set hN hi hx pe_sem hs hf) (he B H env σ tm _ ok ?_)
  unfold mSet at p
  cases hm : me env with
  | ok d =>
    rw [hm] at p
    intro v H' x' ok'
    have p' : PostK κ kr Z W B tm σ D (tName i k d (clear env cs) >>= fun e => .ok (.nx e)) := p
    unfold tName at p'
    split at p'
    · rename_i hl
      exact p' _ _ (ok'.store hl) (Kp.refl.set hz)
    · exact p'.elim
  | exc c ns as => rw [hm] at p; exact fun H' dd x ok' => p σ H' dd x ok' Kp.refl
  | bad => rw [hm] at p; exact p
def mExpr (m : Env → Res D) : Env → Res Ctl := fun env => m env >>= fun _ => .ok (.nx env)
/-- .. that raises nothing -/
theorem s_expr (he : SE X k [] e me) (hs : swapsWith e none pos.line X.env = pure false := by rfl) : S1 X kr (.Expr e pos) (mExpr me) := fun B H env σ tm D r ok hm p => by
  obtain ⟨d, hd, h2⟩ := bind_ok hm
  cases h2
  exact wS_of (ps_expr pe_sem hs) (he B H env σ tm d _ ok hd fun v H' x' ok' => p σ H' ok'.tail)
/-! ### raise -/
def mRaise (c : Str) : Env → Res Ctl := fun _ => .exc c [] []
end
end Mir

namespace Mir
open PySem PySem.Spec L2
open PyProof.Rows (envOfC)
section
variable {X : Cx} {κ : Str → Addr} {kr k : Nat} {Z : List Nat} {W : WX} {st : Stmt} {ss : List Stmt} {m m1 m2 : Env → Res Ctl} {me : Env → Res D} {e tg it : Expr} {cs : List Nat} {pos : Pos}
def nT (t : Nat → D → Env → Res Env) : Nat → D → Env → Res Env := fun k d e => nx (t k d e)
end
/-! ### what a def promises -/
def XRet (G H H' : Hp) (dd : Option Addr) (ns : List Str) (as : List D) : Prop := (∃ G', Good ⟨H, G⟩ G' H') ∧ XAt ⟨H, G⟩ H' dd ns as
def PostF (κ : Str → Addr) (kr : Nat) (G H : Hp) (Q : VK) (E : XK) : Res D → Prop
  | .ok d => ∀ v H', RetOk kr G H H' v d → Q v H'
  | .exc c ns as => ∀ H' dd, XRet G H H' dd ns as → E (.ref (κ c)) dd H'
  | .bad => False
def spX (kr n : Nat) (κ : Str → Addr) (F : List D → Res D) : Sp := fun vs H Q E => vs.length = n ∧ ∃ (G : Hp) (ds : List D), Good ⟨H, G⟩ G H ∧ RpAll G vs ds ∧ PostF κ kr G H Q E (F ds)
section
variable {P : Program} {w : World} {K : PySem.W.Frag} {mg : Str → Option Value} {base : Heap}
end
structure CalX (P : Program) (w : World) (K : PySem.W.Frag) (mg : Str → Option Value) (base : Heap) (x : Str) (j n kr : Nat) (κ : Str → Addr) (F : List D → Res D) : Prop where
  ex : ∃ f fd ps, mg x = some (.ref f) ∧ PySem.W.keepIn K (.ref f) = true ∧ Binds K fd ps [] ∧ FnOk P w K mg base (L2.CX P w) j f fd ps (spX kr n κ F)
section
variable {X : Cx} {κ : Str → Addr} {kr k n j : Nat} {W : WX} {e : Expr} {es : List Expr} {ms : Env → Res (List D)} {F : List D → Res D} {x : Str} {p pos : Pos}
def mCallX (kr : Nat) (F : List D → Res D) (ms : Env → Res (List D)) : Env → Res D := fun env => nx (ms env) >>= fun ds => F ds >>= fun d => if immAt kr d then .ok d else .bad
end
end Mir

namespace L2
open PySem PySem.Spec PyProof.Rows
section
variable {X : Cx} {pins : List (Addr × Obj)} {σ : St} {H : Hp} {s sI s' : Shared} {B : Heap}
end
section
variable {X : Cx} {x n : Str} {c : Value} {i : Nat} {body suite : List Stmt} {b₀ : Stmt} {np pos pos' : Pos} {tb : WX → TS} {ts : Addr → TS} {Wout : WX}
end
end L2

namespace Mir
open PySem PySem.Spec L2
/-! ### what is shared stays in its slots where a body raises -/
def onlyF (Z : List Nat) : Nat → Env → Env
  | _, [] => []
  | j, x :: e => (if Z.contains j = true then (match x with | some (0, d) => some (0, d) | _ => none) else none) :: onlyF Z (j + 1) e
def only (Z : List Nat) (env : Env) : Env := onlyF Z 0 env
section
variable {B : Bs} {H H' : Hp} {env : Env} {σ σ' : St} {tm : List Hold}
end
theorem EnvOk.gone {B : Bs} {H : Hp} {e : Env} {σ : St} {tm : List Hold} (h : EnvOk B H e σ tm) (i : Nat) : EnvOk B H (e.set i none) (σ.set i none) tm := by
  by_cases hi : i < e.length
  · exact (h.forget i).blank (List.getElem?_set_self hi)
  · rw [List.set_eq_of_length_le (by omega), List.set_eq_of_length_le (by rw [← h.len]; omega)]
    exact h
/-! ### try: .. except X as e: .. -/
section
variable {X : Cx} {κ : Str → Addr} {kr : Nat} {Z : List Nat} {x n : Str} {c : Value} {i : Nat} {body suite : List Stmt} {b₀ : Stmt} {np pos pos' : Pos} {Wout : WX} {mb ms : Env → Res Ctl} {tab : Str → Option Bool}
end
end Mir

namespace Mir
open PySem PySem.Spec L2
open PyProof.Rows (envOfC)
/-! ### own exception classes -/
def xisB (K : PySem.W.Frag) (C : Addr) : Bool := (PySem.W.clsIn K C).isSome && (decide (PySem.W.findIn K (.ref C) "__getattribute__" = some (some (.builtin "BaseException.__getattribute__"))) && (decide (PySem.W.findIn K (.ref C) "__getattr__" = some none) && (decide (PySem.W.subIn K (.ref C) (.type "BaseException") = some true)
  && (decide (PySem.W.findIn K (.ref C) "__class__" = some (some (.builtin "object.__class__"))) && (decide (PySem.W.specialIn K (.builtin "object.__class__") "__get__" = some (some (.builtin "getset_descriptor.__get__"))) && (decide (PySem.W.takesIn K (.builtin "object.__class__") = some true)
  && (decide (PySem.W.mroIn K C (.type "object") = some true) && (PySem.W.hasDictIn K C && (decide (PySem.W.typeIn K (.ref C) = some (.type "type")) && PySem.W.keepIn K (.ref C))))))))))
structure XIs (K : PySem.W.Frag) (C : Addr) : Prop where
  hcl : (PySem.W.clsIn K C).isSome = true
  ga : PySem.W.findIn K (.ref C) "__getattribute__" = some (some (.builtin "BaseException.__getattribute__"))
  gg : PySem.W.findIn K (.ref C) "__getattr__" = some none
  sub : PySem.W.subIn K (.ref C) (.type "BaseException") = some true
  ca : PySem.W.findIn K (.ref C) "__class__" = some (some (.builtin "object.__class__"))
  hn : PySem.W.specialIn K (.builtin "object.__class__") "__get__" = some (some (.builtin "getset_descriptor.__get__"))
  ht : PySem.W.takesIn K (.builtin "object.__class__") = some true
  hm : PySem.W.mroIn K C (.type "object") = some true
  hd : PySem.W.hasDictIn K C = true
  ty : PySem.W.typeIn K (.ref C) = some (.type "type")
  kp : PySem.W.keepIn K (.ref C) = true
def xmkB (K : PySem.W.Frag) (C : Addr) : Bool := PySem.W.excIn K C [.type "ValueError", .type "Exception", .type "BaseException", .type "object"] "ValueError.__new__"
/-- the class named c stands at κ c -/
structure XCl (K : PySem.W.Frag) (mg : Str → Option Value) (κ : Str → Addr) (c : Str) : Prop where
  g : mg c = some (.ref (κ c))
  is : xisB K (κ c) = true
structure XMk (K : PySem.W.Frag) (mg : Str → Option Value) (κ : Str → Addr) (c : Str) : Prop where
  cl : XCl K mg κ c
  mkx : xmkB K (κ c) = true
section
variable {X : Cx} {κ : Str → Addr} {kr : Nat} {Z : List Nat} {W : WX} {pos : Pos}
/-- isinstance(e, C): e an exception or None -/
def mIsO (κ : Str → Addr) (tab : Str → Option Bool) (m : Env → Res D) : Env → Res D := fun env => m env >>= fun d => match d with
  | .non => .ok (.bl false)
  | .exn c C _ _ => if C = κ c then (match tab c with | some b => .ok (.bl b) | none => .bad) else .bad
  | _ => .bad
variable {a b : Expr} {m : Env → Res D} {p : Pos}
/-- e.f, e an exception -/
def mXf (κ : Str → Addr) (c f : Str) (m : Env → Res D) : Env → Res D := fun env => m env >>= fun d => match d with
  | .exn s C ns as => if s = c ∧ C = κ c ∧ ns.length = as.length then (match (ns.zip as).lookup f with | some d => .ok d | none => .bad) else .bad
  | _ => .bad
theorem look_all {G : Hp} {f : Str} {d : D} : ∀ {kvs : List (Str × V)} {as : List D}, RpAll G (kvs.map (·.2)) as → ((kvs.map (·.1)).zip as).lookup f = some d → ∃ v, kvs.lookup f = some v ∧ Rp G v d
  | [], _, _, h => by simp at h
  | (g, v) :: kvs, as, r, h => by
    cases r with
    | cons r1 r2 =>
      simp only [List.map_cons, List.zip_cons_cons, List.lookup_cons] at h ⊢
      split at h
      · cases h; exact ⟨v, by simp, r1⟩
      · obtain ⟨v', h1, h2⟩ := look_all r2 h
        exact ⟨v', h1, h2⟩
end
/-! ### the end, with the classes' places -/
def kOf (K : PySem.W.Frag) (c : Str) : Addr := match PySem.W.nsIn K mainGlobals c with
  | some (some (.ref a)) => a
  | _ => 0
theorem kOf_eq {K : PySem.W.Frag} {c : Str} {a : Addr} (h : PySem.W.nsIn K mainGlobals c = some (some (.ref a))) : kOf K c = a := by unfold kOf; rw [h]
theorem walk_mirX {l : PySem.W.OpenLaw} {k : Nat} {q : Program} {loose : List Str} {XP : (Str → Option Value) → Heap → Prop} {YP : World → Heap → Prop} {d : DefRec} {K : Params → PySem.W.Frag} {x : Str} {F : (Str → Addr) → List D → Res D}
    (hn : l.most = some 63) (hdf : d.params.defaults = []) (hr : Room k callerA) (hY : ∀ (w : World) (h : Heap), YP w h → (K w.params).In h) (hK : ∀ w : World, noLists (K w.params) = true) (hF : ∀ (κ : Str → Addr) (ns : List Int), ns.length ≤ 63 → F κ [.lst (ns.map D.int)] = .ok (.bl true))
    (Fo : ∀ (w : World) (mg : Str → Option Value) (fa : Addr) (h : Heap), (K w.params).In h → h.Ns mainGlobals mg → mg d.name = some (.ref fa) →
      ∃ fd : FuncData, (∀ (s : Shared) (u : Value), BindsTo s fd ⟨[u], []⟩ [(x, u)]) ∧ ∀ base : Heap, (K w.params).In base → base.Ns mainGlobals mg → FnOk l.prog w (K w.params) mg base CX0 k fa fd [x] (spF 0 1 (F (kOf (K w.params))))) :
    PySem.W.WalkO q loose XP YP l.row.toRowW d [] (fun f vs => PySem.call f vs) :=
  L2.walk_of (n := 63) (k := k) (x := x) (CX := fun _ => CX0) (sp := fun w => spF 0 1 (F (kOf (K w.params)))) hn (by decide) hdf hr hY Fo (fun w H a ns hl hO hS => law_sp (hK w) hO hS (hF _ ns hl)) fun _ _ _ _ _ z => z
end Mir
namespace Mir
open PySem PySem.Spec L2
/-! ### tables of classes -/
def tb (l : List (Str × Bool)) : Str → Option Bool := fun c => l.lookup c
end Mir

namespace Mir
open PySem PySem.Spec L2
open PyProof.Rows (is_bool isnot_bool)
section
variable {X : Cx} {e a b c : Expr} {m ma mb mc : Env → Res D} {pos p : Pos} {k : Nat}
/-! ### is True, is False -/
def gIsB : D → D → Res D
  | .bl x, .bl y => .ok (.bl (x == y))
  | _, _ => .bad
def gIsnB : D → D → Res D
  | .bl x, .bl y => .ok (.bl (x != y))
  | _, _ => .bad
/-! ### a < b < c -/
def mChain (g g' : D → D → Res D) (ma mb mc : Env → Res D) : Env → Res D := fun env => ma env >>= fun x => mb env >>= fun y => g x y >>= toB >>= fun k => if k then mc env >>= fun z => g' y z else .ok (.bl false)
/-! ### abs, int -/
def gAbs : D → Res D
  | .int i => .ok (.int (if i < 0 then -i else i))
  | _ => .bad
def gInt : D → Res D
  | .int i => .ok (.int i)
  | .bl k => .ok (.int (if k then 1 else 0))
  | _ => .bad
end
/-! ### raising within an expression -/
section
variable {X : Cx} {κ : Str → Addr} {W : WX} {e : Expr} {es : List Expr} {m : Env → Res D} {ms : Env → Res (List D)} {pos p : Pos} {k kr j n : Nat} {x : Str} {F : List D → Res D}
end
end Mir

namespace Mir
open PySem PySem.Spec L2
/-! ### in a tuple of numbers -/
def gInT : D → D → Res D
  | .int i, .tup ds => match intsD? ds with | some is => .ok (.bl (decide (i ∈ is))) | none => .bad
  | _, _ => .bad
def gNotInT : D → D → Res D
  | .int i, .tup ds => match intsD? ds with | some is => .ok (.bl (!decide (i ∈ is))) | none => .bad
  | _, _ => .bad
section
variable {X : Cx}
end
end Mir

namespace Mir
open PySem PySem.Spec L2
/-! ### equations of the mirrors that may raise -/
section
variable {α : Type} {m mb ms : Mir.Env → Res Ctl} {me : Mir.Env → Res D} {msA : Mir.Env → Res (List D)} {env : Mir.Env} {κ : Str → Addr}
@[simp] theorem nx_bad : nx (.bad : Res α) = .bad := rfl
@[simp] theorem nx_exc (c : Str) (ns : List Str) (as : List D) : nx (.exc c ns as : Res α) = .bad := rfl
@[simp] theorem e_mN (f : Mir.Env → Res α) : mN f env = nx (f env) := rfl
@[simp] theorem e_mExpr : mExpr me env = (me env >>= fun _ => .ok (.nx env)) := rfl
@[simp] theorem e_mRaise (c : Str) : mRaise c env = .exc c [] [] := rfl
@[simp] theorem e_mCallX (k : Nat) (F : List D → Res D) : mCallX k F msA env = (nx (msA env) >>= fun ds => F ds >>= fun d => if immAt k d then .ok d else .bad) := rfl
@[simp] theorem e_nT (t : Nat → D → Mir.Env → Res Mir.Env) (k : Nat) (d : D) : nT t k d env = nx (t k d env) := rfl
@[simp] theorem e_only (Z : List Nat) : only Z env = onlyF Z 0 env := rfl
@[simp] theorem e_onlyF_nil (Z : List Nat) (j : Nat) : onlyF Z j [] = [] := rfl
@[simp] theorem e_onlyF_cons (Z : List Nat) (j : Nat) (x : Option (Nat × D)) (e : Mir.Env) : onlyF Z j (x :: e) = (if Z.contains j = true then (match x with | some (0, d) => some (0, d) | _ => none) else none) :: onlyF Z (j + 1) e := rfl
@[simp] theorem e_mIsO (tab : Str → Option Bool) : mIsO κ tab me env = (me env >>= fun d => match d with
  | .non => .ok (.bl false)
  | .exn c C _ _ => if C = κ c then (match tab c with | some b => .ok (.bl b) | none => .bad) else .bad
  | _ => .bad) := rfl
@[simp] theorem e_mChain (g g' : D → D → Res D) (ma mb mc : Mir.Env → Res D) : mChain g g' ma mb mc env = (ma env >>= fun x => mb env >>= fun y => g x y >>= toB >>= fun k => if k then mc env >>= fun z => g' y z else .ok (.bl false)) := rfl
@[simp] theorem e_mXf (c f : Str) : mXf κ c f me env = (me env >>= fun d => match d with
  | .exn s C ns as => if s = c ∧ C = κ c ∧ ns.length = as.length then (match (ns.zip as).lookup f with | some d => .ok d | none => .bad) else .bad
  | _ => .bad) := rfl
@[simp] theorem e_gIsB (a b : Bool) : gIsB (.bl a) (.bl b) = .ok (.bl (a == b)) := rfl
@[simp] theorem e_gIsnB (a b : Bool) : gIsnB (.bl a) (.bl b) = .ok (.bl (a != b)) := rfl
@[simp] theorem e_gAbs (i : Int) : gAbs (.int i) = .ok (.int (if i < 0 then -i else i)) := rfl
@[simp] theorem e_gIntI (i : Int) : gInt (.int i) = .ok (.int i) := rfl
@[simp] theorem e_gIntB (k : Bool) : gInt (.bl k) = .ok (.int (if k then 1 else 0)) := rfl
@[simp] theorem e_intsD_nil : intsD? [] = some [] := rfl
@[simp] theorem e_intsD_cons (i : Int) (ds : List D) : intsD? (.int i :: ds) = (intsD? ds).map fun is => i :: is := rfl
@[simp] theorem e_gInT (i : Int) (ds : List D) : gInT (.int i) (.tup ds) = (match intsD? ds with | some is => .ok (.bl (decide (i ∈ is))) | none => .bad) := rfl
@[simp] theorem e_gNotInT (i : Int) (ds : List D) : gNotInT (.int i) (.tup ds) = (match intsD? ds with | some is => .ok (.bl (!decide (i ∈ is))) | none => .bad) := rfl
@[simp] theorem e_gIsN_exn (c : Str) (C : Addr) (ns : List Str) (ds : List D) : gIsN (.exn c C ns ds) = .ok (.bl false) := rfl
@[simp] theorem e_gNotN_exn (c : Str) (C : Addr) (ns : List Str) (ds : List D) : gNotN (.exn c C ns ds) = .ok (.bl true) := rfl
end
/-! ### a long body, step by step -/
section
variable {β : Type} {m1 m2 : Mir.Env → Res Ctl} {env e : Mir.Env} {k : Ctl → Res β} {Q : β → Prop} {t : Mir.Env → Res Bool} {d : D}
theorem t_seq (h : m1 env = .ok (.nx e)) (h2 : Tells (m2 e >>= k) Q) : Tells (mSeq m1 m2 env >>= k) Q := by
  unfold mSeq
  rw [h]; exact h2
theorem t_seqR (h : m1 env = .ok (.rt d)) (h2 : Tells (k (.rt d)) Q) : Tells (mSeq m1 m2 env >>= k) Q := by
  unfold mSeq
  rw [h]; exact h2
/-- the first statement tells an env of which P holds -/
theorem t_seqP {P : Mir.Env → Prop} (h : Tells (m1 env) fun c => ∃ e, c = .nx e ∧ P e) (h2 : ∀ e, P e → Tells (m2 e >>= k) Q) : Tells (mSeq m1 m2 env >>= k) Q := by
  obtain ⟨_, h1, e, rfl, hp⟩ := h
  exact t_seq h1 (h2 e hp)
theorem t_ifT {α : Type} {x y : Mir.Env → Res α} (h : t env = .ok true) : mIf t x y env = x env := by unfold mIf; rw [h]; rfl
theorem t_ifF {α : Type} {x y : Mir.Env → Res α} (h : t env = .ok false) : mIf t x y env = y env := by unfold mIf; rw [h]; rfl
end
end Mir

namespace Mir
open PySem PySem.Spec L2
section
variable {X : Cx} {e o i2 ep : Expr} {mv mi mp m : Env → Res D} {k kr : Nat} {pos apos cpos pos2 : Pos} {cs : List Nat}
/-! ### xs[i].append(e), e without lists, dicts -/
/-! ### xs.insert(i, e) -/
def mInsert (j k : Nat) (mp mv : Env → Res D) : Env → Res Ctl := fun env => mp env >>= fun z => mv env >>= fun d => atL env j (k + 1) >>= fun ds => match z with
  | .int pz => if 0 ≤ pz ∧ pz < 2 ^ 62 ∧ ds.length < sizeLine ∧ d.imm = true then .ok (.nx (env.set j (some (k + 1, .lst (ds.take pz.toNat ++ [d] ++ ds.drop pz.toNat))))) else .bad
  | _ => .bad
/-! ### xs.clear(), xs.reverse() -/
end
end Mir

namespace Mir
open PySem PySem.Spec L2
open PyProof.Rows (envOfC)
/-! ### x = xs[i]; ..; x.insert(p, v), told with what stays -/
/-- a Post of a bind over a result that raises nothing -/
theorem post_bind {κ : Str → Addr} {kr : Nat} {Z : List Nat} {W : WX} {B : Bs} {tm : List Hold} {σ : St} {D : Ends} {α : Type} {x : Res α} {f : α → Res Ctl} (p : PostK κ kr Z W B tm σ D (nx x >>= f)) : ∃ a, x = .ok a ∧ PostK κ kr Z W B tm σ D (f a) := by
  cases x with
  | ok a => exact ⟨a, rfl, p⟩
  | exc c ns as => exact p.elim
  | bad => exact p.elim
def SIN (X : Cx) (κ : Str → Addr) (kr : Nat) (Z : List Nat) (W : WX) (j i k : Nat) (ss : List Stmt) (m : Nat → List D → Env → Res Ctl) : Prop := ∀ (B : Bs) (H : Hp) (e : Env) (σ : St) (tm : List Hold) (D : Ends) (q a : Addr) (vs : List V) (ds : List Mir.D) (jj : Nat) (l : List Hold),
  B q = none → vs.length = ds.length → vs[jj]? = some (.ref a) → (∀ w d, (lev (k + 1) (vs.set jj w) (ds.set jj d)).Perm ((w, k + 1, d) :: l)) → EnvOk (B.lent q (.lst vs)) H e σ (l ++ tm) → i ≠ j → e[j]? = some none → σ[j]? = some (some (.ref q)) → σ[i]? = some (some (.ref a)) →
    PostK κ kr Z W B tm σ D (m jj ds e) → wB X ss D σ H
section
variable {X : Cx} {κ : Str → Addr} {Z : List Nat} {W : WX} {e ep o ix o2 : Expr} {mi mp mv : Env → Res D} {i j k kr : Nat} {pos p pos' pos2 spos apos cpos spos2 : Pos} {mr m1 : Env → Res Ctl} {m2 : Nat → List D → Env → Res Ctl} {rest ss : List Stmt} {st : Stmt} {x : Str}
def mMid (j : Nat) (m1 : Env → Res Ctl) (m2 : Nat → List D → Env → Res Ctl) : Nat → List D → Env → Res Ctl := fun jj ds e => nx (m1 e) >>= fun c => match c with
  | .nx e' => (match e'[j]? with | some none => m2 jj ds e' | _ => .bad)
  | _ => .bad
theorem sin_mid (h : S1K X κ kr (j :: i :: Z) W st m1) (t : SIN X κ kr Z W j i k ss m2) : SIN X κ kr Z W j i k (st :: ss) (mMid j m1 m2) := fun B H e σ tm D q a vs ds jj l hq hl hv hp ok hij hj hsj hsi pp => by
  obtain ⟨c, hc, p2⟩ := post_bind pp
  refine wB_of (pss_cons ps_sem pss_sem) (h _ H e σ (l ++ tm) { D with nx := wB X ss D } ok ?_)
  rw [hc]
  cases c with
  | nx e' =>
    intro σ' H' ok' kk
    dsimp only at p2
    split at p2
    · rename_i hj'
      exact t B H' e' σ' tm D q a vs ds jj l hq hl hv hp ok' hij hj' ((kk j List.mem_cons_self).trans hsj) ((kk i (List.mem_cons_of_mem _ List.mem_cons_self)).trans hsi) (PostK.from (fun z hz => kk z (List.mem_cons_of_mem _ (List.mem_cons_of_mem _ hz))) p2)
    · exact p2.elim
  | bk e' => exact p2.elim
  | ct e' => exact p2.elim
  | rt d => exact p2.elim
def mAlias (j i k : Nat) (mi : Env → Res D) (m : Nat → List D → Env → Res Ctl) : Env → Res Ctl := fun env => nx (mi env) >>= fun y => nx (atL env j (k + 2)) >>= fun ds => match y with
  | .int n => (match ixN ds.length n with
    | some jj => (match ds[jj]? with
      | some (.lst es) => if i < env.length ∧ i ≠ j then m jj ds ((env.set j none).set i (some (k + 1, .lst es))) else .bad
      | _ => .bad)
    | none => .bad)
  | _ => .bad
theorem ss_aliasK (hN : X.N.Nodup) (hi0 : X.N[i]? = some x) (hxl : Loc X.env.scope x) (hx : PE X o (tVar j)) (hi : SB X ix mi) (hix : PlainIx ix) (hz : Z.all (fun z => z != i) = true) (hr : SIN X κ kr Z W j i k ss m2)
    (hs : swapsWith (.Subscript o ix pos2) (some (.Name x pos')) spos.line X.env = pure false := by rfl) (hf : X.fn x = true ∨ X.env.scope.names.lookup x = some .local := by first | exact .inl rfl | exact .inr rfl | assumption) :
    SSK X κ kr Z W (.Assign [.Name x pos'] (.Subscript o ix pos2) spos :: ss) (mAlias j i k mi m2) := fun B H env σ tm D ok pp => by
  obtain ⟨y, hy, h2⟩ := post_bind pp
  obtain ⟨ds, hds, h3⟩ := post_bind h2
  have he1 := atL_ok hds
  split at h3
  · rename_i n
    split at h3
    · rename_i jj hjj
      split at h3
      · rename_i es hes
        split at h3
        · rename_i hil
          obtain ⟨hil, hij⟩ := hil
          refine wB_of (pss_cons (ps_set hN hi0 hxl (pe_ix ix_seq hx pe_sem hix) hs hf) pss_sem) ?_
          obtain ⟨v, hv', rv⟩ := ok.slot he1
          refine ⟨v, hv', hi B H env σ _ _ _ ok hy fun u H2 x2 ok2 r2 => ?_⟩
          cases r2
          obtain ⟨q, hq, ok3⟩ := ok2.slotMu he1 rfl
          rw [hv'] at hq
          cases hq
          obtain ⟨vs, hL, hvl, hBq, ok4⟩ := ok3.lend
          have hjl := ixN_lt hjj
          have hjv : jj < vs.length := by omega
          refine .inl ⟨q, vs, n, vs[jj], rfl, rfl, .inl (.inl hL), ?_, ?_⟩
          · unfold atI
            rw [hvl, hjj]
            exact List.getElem?_eq_getElem hjv
          obtain ⟨l, l1, l2⟩ := lev_one (k := k + 1) hvl (List.getElem?_eq_getElem hjv) hes
          have ok5 : EnvOk (B.lent q (.lst vs)) H2 (env.set j none) σ ((vs[jj], k + 1, .lst es) :: (l ++ tm)) := ok4.perm (l1.append_right _)
          obtain ⟨a, ha⟩ := ok5.isRef rfl
          rw [ha] at ok5 ⊢
          have ok6 := ok5.store (i := i) (by simpa using hil)
          have hsi : (σ.set i (some (.ref a)))[i]? = some (some (.ref a)) := by
            have := ok2.len
            exact List.getElem?_set_self (by omega)
          have hsj : (σ.set i (some (.ref a)))[j]? = some (some (.ref q)) := by
            rw [List.getElem?_set_ne hij]; exact hv'
          have hej : ((env.set j none).set i (some (k + 1, Mir.D.lst es)))[j]? = some none := by
            rw [List.getElem?_set_ne hij]
            exact List.getElem?_set_self (List.getElem?_eq_some_iff.mp he1).1
          exact hr B H2 _ _ tm D q a vs ds jj l hBq hvl (by rw [List.getElem?_eq_getElem hjv, ha]) l2 ok6 hij hej hsj hsi (PostK.from (Kp.refl.set hz) h3)
        · exact h3.elim
      · exact h3.elim
    · exact h3.elim
  · exact h3.elim
theorem ss_of (h : SSK X κ kr [] W ss m1) : SS X kr ss m1 := fun B H env σ tm D r ok hm p => by
  refine h B H env σ tm D ok ?_
  rw [hm]
  cases r with
  | nx e => exact fun σ' H' ok' _ => p σ' H' ok'
  | bk e => exact fun σ' H' ok' _ => p σ' H' ok'
  | ct e => exact fun σ' H' ok' _ => p σ' H' ok'
  | rt d => exact p
end
end Mir

namespace Mir
open PySem PySem.Spec L2
open PyProof.Rows (envOfC)
/-! ### a def that changes its first argument -/
def wo (H : Hp) (f : List Addr) : Hp := fun a => if a ∈ f then none else H a
def spM (k0 n : Nat) (F : List D → Res D) : Sp := fun vs H Q _ => vs.length = n ∧ ∃ (G : Hp) (v0 : V) (vs' : List V) (d0 : D) (ds' : List D) (f : List Addr) (d1 : D), vs = v0 :: vs' ∧ Good ⟨wo H f, G⟩ G H ∧ Od G H k0 f v0 d0 ∧ f.Nodup ∧ (∀ p ∈ f, G p = none) ∧ RpAll G vs' ds' ∧ F (d0 :: ds') = .ok d1 ∧
  ∀ H', RetOk k0 G (wo H f) H' v0 d1 → Q .non H'
section
variable {P : Program} {w : World} {K : PySem.W.Frag} {mg : Str → Option Value} {base : Heap}
end
structure CalM (P : Program) (w : World) (K : PySem.W.Frag) (mg : Str → Option Value) (base : Heap) (x : Str) (j n k0 : Nat) (F : List D → Res D) : Prop where
  ex : ∃ f fd ps, mg x = some (.ref f) ∧ PySem.W.keepIn K (.ref f) = true ∧ Binds K fd ps [] ∧ FnOk P w K mg base CX0 j f fd ps (spM k0 n F)
section
variable {X : Cx} {e o : Expr} {es : List Expr} {ms : Env → Res (List D)} {F : List D → Res D} {x : Str} {p pos cpos : Pos} {n k0 kr jl : Nat}
end
end Mir
namespace Mir
end Mir

namespace Mir
open PySem PySem.Spec L2
/-! ### calls whose arguments are shared: what they tell may be shared too -/
section
variable {X : Cx} {e a b o i : Expr} {es : List Expr} {m ma mb md mk : Env → Res D} {ms : Env → Res (List D)} {k kr n : Nat} {cs : List Nat} {pos p cpos apos : Pos} {x : Str} {F : List D → Res D} {j : Nat}
def mCall0 (F : List D → Res D) (ms : Env → Res (List D)) : Env → Res D := fun env => ms env >>= fun ds => F ds
theorem se_cal0 (C : Cal X.prog X.w X.K X.mg X.base x j n kr F) (hr : Room j X.A) (hg : Gl X x)
    (ha : SAE X 0 [] (e :: es) ms) (hl : ∀ env ds, ms env = .ok ds → ds.length = n) (hdb : (x == ("__debug__" : Str)) = false := by decide) (he : starEach (e :: es) X.env = (false, eval e X.env) :: starEach es X.env := by rfl) (hpl : (backTo pos (starEach es X.env)).any (·.1) = false := by rfl) :
    SE X kr [] (.Call (.Name x p) (e :: es) [] pos) (mCall0 F ms) := fun B H env σ tm d Q ok hm' q => by
  obtain ⟨f, fd, ps, hm, hk, hb, Fo⟩ := C.ex
  obtain ⟨ds, hds, hF⟩ := bind_ok hm'
  refine wE_of (pe_call Fo hr hg hm hk hb .nil pass0 pa_sem hdb he hpl) (ha B H env σ tm ds _ ok hds fun vs H1 x1 hvl ok1 => ?_)
  rw [List.append_nil]
  obtain ⟨G, g, ra, rt⟩ := EnvOk.ret0 (H' := H1) hvl ok1
  refine ⟨by rw [hvl]; exact hl _ _ hds, G, ds, _, g, ra, hF, fun v H' r => ?_⟩
  obtain ⟨x2, ok2⟩ := rt H' v d r
  exact q v H' (x1.trans x2) ok2
theorem sae_len0 : ∀ env ds, mNilA env = .ok ds → ds.length = 0 := fun env ds h => by cases h; rfl
theorem sae_len {ms : Env → Res (List D)} : ∀ {n : Nat}, (∀ env ds, ms env = .ok ds → ds.length = n) → ∀ {m : Env → Res D} {cs : List Nat}, ∀ env ds, mConsE m cs ms env = .ok ds → ds.length = n + 1 := fun {n} h {m cs} env ds hm => by
  obtain ⟨y, _, h2⟩ := bind_ok hm
  obtain ⟨ys, h3, h4⟩ := bind_ok h2
  cases h4
  simp [h _ ys h3]
end
/-! ### dicts with nested keys -/
mutual
theorem hash_plain (w w' : World) : ∀ k : NestedKey, plainK k = true → k.hash w = k.hash w'
  | .none, _ => rfl
  | .num _, _ => rfl
  | .text _, h => by simp [plainK] at h
  | .tup ks, h => by rw [plainK] at h; rw [NestedKey.hash, NestedKey.hash, hashes_plain w w' ks h]
theorem hashes_plain (w w' : World) : ∀ ks : List NestedKey, plainKs ks = true → NestedKey.hashes w ks = NestedKey.hashes w' ks
  | [], _ => rfl
  | k :: ks, h => by
    rw [plainKs, Bool.and_eq_true] at h
    rw [NestedKey.hashes, NestedKey.hashes, hash_plain w w' k h.1, hashes_plain w w' ks h.2]
end
mutual
theorem kN_is {P : Program} {w : World} {H : Hp} {h : Heap} (ok : HOk P w H h) : ∀ (k : NestedKey) (v : V) (u : Value), Rp (view H) v (kN k) → RelV v u → NestedIs h k u
  | .none, _, _, r, q => by
    rw [kN] at r; cases r
    cases (show _ = Value.none from q); exact .none
  | .num i, _, _, r, q => by
    rw [kN] at r; cases r
    obtain ⟨t, q⟩ := (show ∃ t, _ = Value.int i t from q); cases q; exact .int _ _
  | .text x, _, _, r, q => by
    rw [kN] at r; cases r
    obtain ⟨t, q⟩ := (show ∃ t, _ = Value.str x t from q); cases q; exact .text _ _
  | .tup ks, _, _, r, q => by
    rw [kN] at r
    cases r with
    | @tup a vs _ hv ra =>
      cases (show _ = Value.ref a from q)
      obtain ⟨_, its, rv, o, h1, h2, n, h3⟩ := (show ObjOk P w H h a (.tup vs) from (view_rd hv).ok ok)
      exact .tup h1 h2 h3 (by simpa using kNs_is ok ks vs its ra rv)
theorem kNs_is {P : Program} {w : World} {H : Hp} {h : Heap} (ok : HOk P w H h) : ∀ (ks : List NestedKey) (vs : List V) (us : List Value), RpAll (view H) vs (kNs ks) → Vals vs us → NestedAll h ks us
  | [], _, _, r, q => by rw [kNs] at r; cases r; cases q; exact .nil
  | k :: ks, _, _, r, q => by
    rw [kNs] at r
    cases r with
    | cons r1 r2 =>
      cases q with
      | cons q1 q2 => exact .cons (kN_is ok k _ _ r1 q1) (kNs_is ok ks _ _ r2 q2)
end
/-- the dict's keys, addresses, values -/
def KE3 : List (NestedKey × Addr × V) → List (NestedKey × Addr × Value) → Prop := Paired (fun (p : NestedKey × Addr × V) (q : NestedKey × Addr × Value) => p.1 = q.1 ∧ p.2.1 = q.2.1 ∧ RelV p.2.2 q.2.2)
def valN {β : Type} (es : List (NestedKey × Addr × β)) (k : NestedKey) : Option β := (es.find? fun e => decide (e.1 = k)).map (·.2.2)
def putN {β : Type} (es : List (NestedKey × Addr × β)) (k : NestedKey) (b : Addr) (v : β) : List (NestedKey × Addr × β) := if (valN es k).isSome then es.map (fun e => if e.1 = k then (e.1, e.2.1, v) else e) else es ++ [(k, b, v)]
theorem KE3.val {es : List (NestedKey × Addr × V)} {xs : List (NestedKey × Addr × Value)} (r : KE3 es xs) (k : NestedKey) : RelO (valN es k) (valN xs k) := by
  unfold KE3 at r
  induction r with
  | nil => exact trivial
  | @cons p q ps qs h t ih =>
    unfold valN at ih ⊢
    rw [List.find?_cons, List.find?_cons, h.1]
    by_cases e : q.1 = k
    · rw [decide_eq_true e]; exact h.2.2
    · rw [decide_eq_false e]; exact ih
theorem KE3.keys {es : List (NestedKey × Addr × V)} {xs : List (NestedKey × Addr × Value)} (r : KE3 es xs) : xs.map (·.1) = es.map (·.1) := by
  unfold KE3 at r
  induction r with
  | nil => rfl
  | @cons p q ps qs h t ih => rw [List.map_cons, List.map_cons, ih, h.1]
theorem KE3.put {es : List (NestedKey × Addr × V)} {xs : List (NestedKey × Addr × Value)} (r : KE3 es xs) (k : NestedKey) (b : Addr) {v : V} {u : Value} (rv : RelV v u) : KE3 (putN es k b v) (putN xs k b u) := by
  have e := (r.val k).isSome_eq
  unfold putN
  rw [e]
  unfold KE3 at r
  split
  · rename_i hc
    clear e hc
    induction r with
    | nil => exact .nil
    | @cons p q ps qs h t ih =>
      rw [List.map_cons, List.map_cons]
      refine .cons ?_ ih
      obtain ⟨p1, p2, p3⟩ := p; obtain ⟨q1, q2, q3⟩ := q
      obtain ⟨h1, h2, h3⟩ := h
      dsimp only at h1 h2 h3
      subst h1 h2
      by_cases z : p1 = k
      · dsimp only; rw [if_pos z, if_pos z]; exact ⟨rfl, rfl, rv⟩
      · dsimp only; rw [if_neg z, if_neg z]; exact ⟨rfl, rfl, h3⟩
  · exact Paired.snoc r ⟨rfl, rfl, rv⟩
section
variable {X : Cx} {pins : List (Addr × Obj)} {σ : St} {H : Hp} {s : Shared} {a : Addr} {es : List (NestedKey × Addr × V)} {ks : List NestedKey}
end
/-! a datum as a key -/
mutual
def keyN : Nat → D → Option NestedKey
  | _, .non => some .none
  | _, .int i => some (.num i)
  | f + 1, .tup ds => (keysN f ds).map .tup
  | _, _ => none
def keysN : Nat → List D → Option (List NestedKey)
  | _, [] => some []
  | f, d :: ds => match keyN f d, keysN f ds with
    | some k, some ks => some (k :: ks)
    | _, _ => none
end
mutual
theorem keyN_ok : ∀ (f : Nat) (d : D) (k : NestedKey), keyN f d = some k → kN k = d ∧ k.depth ≤ f ∧ plainK k = true
  | _, .non, _, h => by unfold keyN at h; cases h; exact ⟨rfl, Nat.zero_le _, rfl⟩
  | _, .int i, _, h => by unfold keyN at h; cases h; exact ⟨rfl, Nat.zero_le _, rfl⟩
  | f + 1, .tup ds, _, h => by
    rw [keyN] at h
    obtain ⟨ks, h1, rfl⟩ := Option.map_eq_some_iff.mp h
    obtain ⟨q1, q2, q3⟩ := keysN_ok f ds ks h1
    exact ⟨by rw [kN, q1], by rw [NestedKey.depth]; omega, by rw [plainK]; exact q3⟩
  | 0, .tup _, _, h => by simp [keyN] at h
  | _, .bl _, _, h => by simp [keyN] at h
  | _, .str _, _, h => by simp [keyN] at h
  | _, .lst _, _, h => by simp [keyN] at h
  | _, .dk _ _, _, h => by simp [keyN] at h
  | _, .dt _ _, _, h => by simp [keyN] at h
  | _, .dn _ _, _, h => by simp [keyN] at h
  | _, .ob _ _ _ _, _, h => by simp [keyN] at h
  | _, .exn _ _ _ _, _, h => by simp [keyN] at h
theorem keysN_ok : ∀ (f : Nat) (ds : List D) (ks : List NestedKey), keysN f ds = some ks → kNs ks = ds ∧ NestedKey.depthAll ks ≤ f ∧ plainKs ks = true
  | _, [], _, h => by unfold keysN at h; cases h; exact ⟨rfl, Nat.zero_le _, rfl⟩
  | f, d :: ds, _, h => by
    unfold keysN at h
    split at h
    · rename_i k ks h1 h2
      cases h
      obtain ⟨a1, a2, a3⟩ := keyN_ok f d k h1
      obtain ⟨b1, b2, b3⟩ := keysN_ok f ds ks h2
      exact ⟨by rw [kNs, a1, b1], by rw [NestedKey.depthAll]; omega, by rw [plainKs, a3, b3]; rfl⟩
    · cases h
end
end Mir

namespace Mir
open PySem PySem.Spec L2
/-! ### dicts with nested keys: what is read and written -/
section
variable {X : Cx} {pins : List (Addr × Obj)} {σ : St} {H : Hp} {s : Shared} {a b : Addr} {es : List (NestedKey × Addr × V)} {ks : List NestedKey} {k : NestedKey} {v d : V} {u r : Value} {A : Around} {E : Value → Shared → Prop}
structure NAt (H : Hp) (a : Addr) (es : List (NestedKey × Addr × V)) (k : NestedKey) (b : Addr) : Prop where
  n : NkOk (es.map (·.1)) (es.map (·.1))
  r : RpAll (view H) (es.map fun e => V.ref e.2.1) (kNs (es.map (·.1)))
  key : Rp (view H) (.ref b) (kN k)
  d : k.depth ≤ 8 ∧ plainK k = true
end
section
variable {X : Cx} {o e f i value : Expr} {apos cpos pos pos' : Pos} {td ty tx tv tk : TE}
end
end Mir

namespace Mir
open PySem PySem.Spec L2
/-! ### dicts with nested keys in the mirror -/
section
variable {B : Bs} {H : Hp} {env : Env} {σ : St} {tm : List Hold}
end
section
variable {X : Cx} {e o i a b kx vx : Expr} {m ma mb md mk mv : Env → Res D} {k kr : Nat} {cs : List Nat} {pos cpos apos : Pos}
end
end Mir

namespace Mir
open PySem PySem.Spec L2
/-! ### min(a, b), max(a, b) of alike data -/
section
open Sem (wp)
open PySem.W
variable {prog : Program} {w : World} {A : Around} {E : Value → Shared → Prop} {s : Shared}
end
section
variable {X : Cx} {e f : Expr} {m m' : Env → Res D} {pos p : Pos}
/-! ### tuple(x), list(x): a list, a tuple of what never changes -/
end
end Mir

namespace Mir
open PySem PySem.Spec L2
/-! ### for a, b in d.items(): dicts of nested keys -/
section
variable {P : Program} {w : World} {K : PySem.W.Frag} {tg : Expr} {d : Addr} {o : Obj} {des : Array DictEntry} {ep : Nat}
end
section
variable {X : Cx} {tg e : Expr} {td : TE} {apos cpos : Pos}
end
section
variable {X : Cx} {e a b tg it o : Expr} {m ma mb md : Env → Res D} {k kr : Nat} {cs : List Nat} {pos cpos apos : Pos} {m1 : Env → Res Ctl}
end
end Mir

namespace Mir
open PySem PySem.Spec L2
/-! ### a dict of whole numbers of the module's own: dict(NAME) -/
section
variable {X : Cx} {k : Nat} {pos p p2 : Pos} {x : Str}
end
/-! ### len(d): a dict of nested keys -/
end Mir

namespace Mir
open PySem PySem.Spec L2 PyProof.Rows
/-! ### x in a tuple of data -/
section
variable {X : Cx}
end
end Mir

namespace Mir
open PySem PySem.Spec L2
/-! ### an item of a list whose items are shared -/
/-- a slot's own list, its items shared -/
def mVarL (j : Nat) : Env → Res D := fun env => match env[j]? with
  | some (some (1, .lst ds)) => .ok (.lst ds)
  | _ => .bad
section
variable {X : Cx} {a b : Expr} {mb : Env → Res D} {pos : Pos}
@[simp] theorem e_mVarL {j : Nat} {env : Env} : mVarL j env = (match env[j]? with
  | some (some (1, .lst ds)) => .ok (.lst ds)
  | _ => .bad) := rfl
end
end Mir

namespace Mir
open PySem PySem.Spec L2
/-! ### for v in rows: v.append(e), the rows given away -/
def appAll (d : D) : List D → Res (List D)
  | [] => .ok []
  | .lst rs :: ds => if rs.length < sizeLine then appAll d ds >>= fun es => .ok (.lst (rs ++ [d]) :: es) else .bad
  | _ :: _ => .bad
def mForApp (i : Nat) (cs : List Nat) (m me : Env → Res D) : Env → Res Ctl := fun env => m env >>= fun x => match x with
  | .lst ds => if i < env.length then me ((clear env cs).set i none) >>= fun d => if d.imm then appAll d ds >>= fun _ => .ok (.nx ((clear env cs).set i none)) else .bad else .bad
  | _ => .bad
section
variable {X : Cx} {kr : Nat} {pos p2 p3 pos1 apos cpos : Pos} {e it : Expr} {v : Str} {m me : Env → Res D}
end
end Mir

namespace Mir
open PySem PySem.Spec L2
/-! ### two lists given away, one after the other -/
theorem OdAll.len {G H : Hp} : ∀ {k : Nat} {f : List Addr} {vs : List V} {ds : List D}, OdAll G H k f vs ds → vs.length = ds.length
  | _, _, _, _, .nil => rfl
  | _, _, _, _, .cons _ r => by rw [List.length_cons, List.length_cons, OdAll.len r]
def mCatM (i j k : Nat) : Env → Res D := fun env => match env[i]?, env[j]? with
  | some (some (a, .lst xs)), some (some (b, .lst ys)) => if a = k + 1 ∧ b = k + 1 ∧ i ≠ j ∧ xs.length + ys.length ≤ sizeLine then .ok (.lst (xs ++ ys)) else .bad
  | _, _ => .bad
section
variable {X : Cx} {pos : Pos} {a b : Expr}
@[simp] theorem e_mCatM {i j k : Nat} {env : Env} : mCatM i j k env = (match env[i]?, env[j]? with
  | some (some (a, .lst xs)), some (some (b, .lst ys)) => if a = k + 1 ∧ b = k + 1 ∧ i ≠ j ∧ xs.length + ys.length ≤ sizeLine then .ok (.lst (xs ++ ys)) else .bad
  | _, _ => .bad) := rfl
@[simp] theorem e_mForApp {i : Nat} {cs : List Nat} {m me : Env → Res D} {env : Env} : mForApp i cs m me env = (m env >>= fun x => match x with
  | .lst ds => if i < env.length then me ((clear env cs).set i none) >>= fun d => if d.imm then appAll d ds >>= fun _ => .ok (.nx ((clear env cs).set i none)) else .bad else .bad
  | _ => .bad) := rfl
end
end Mir

namespace Mir
open PySem PySem.Spec L2
/-! ### calls that tell a dict made anew: what is read holds none -/
mutual
def noDk : D → Bool
  | .lst ds => noDkL ds
  | .tup ds => noDkL ds
  | .non => true
  | .bl _ => true
  | .int _ => true
  | .str _ => true
  | _ => false
def noDkL : List D → Bool
  | [] => true
  | d :: ds => noDk d && noDkL ds
end
def noK (H : Hp) : Hp := fun a => match view H a with
  | some (.dK _) => none
  | x => x
theorem noK_some {H : Hp} {a : Addr} {u : HO} (h : view H a = some u) (hu : ∀ kvs, u ≠ .dK kvs) : noK H a = some u := by
  unfold noK
  rw [h]
  cases u <;> first | rfl | exact absurd rfl (hu _)
theorem noK_view {H : Hp} {a : Addr} {u : HO} (h : noK H a = some u) : view H a = some u ∧ ∀ kvs, u ≠ .dK kvs := by
  unfold noK at h
  split at h
  · cases h
  · rename_i hn
    exact ⟨h, fun kvs e => hn kvs (by rw [h, e])⟩
mutual
theorem Rp.noK {H : Hp} : ∀ {v : V} {d : D}, Rp (view H) v d → noDk d = true → Rp (noK H) v d
  | _, _, .non, _ => .non
  | _, _, .bl b, _ => .bl b
  | _, _, .int i, _ => .int i
  | _, _, .str x, _ => .str x
  | _, _, .lst h r, q => .lst (noK_some h fun _ z => nomatch z) (RpAll.noK r (by simpa [noDk] using q))
  | _, _, .tup h r, q => .tup (noK_some h fun _ z => nomatch z) (RpAll.noK r (by simpa [noDk] using q))
  | _, _, .dk _ _ _, q => by simp [noDk] at q
  | _, _, .dt _ _ _, q => by simp [noDk] at q
  | _, _, .ob _ _ _, q => by simp [noDk] at q
  | _, _, .exn0 _, q => by simp [noDk] at q
  | _, _, .exn _ _ _ _, q => by simp [noDk] at q
  | _, _, .dn _ _ _ _, q => by simp [noDk] at q
theorem RpAll.noK {H : Hp} : ∀ {vs : List V} {ds : List D}, RpAll (view H) vs ds → noDkL ds = true → RpAll (noK H) vs ds
  | _, _, .nil, _ => .nil
  | _, _, .cons h r, q => by
    rw [noDkL, Bool.and_eq_true] at q
    exact .cons (Rp.noK h q.1) (RpAll.noK r q.2)
end
theorem OdAll.ofImm {G H : Hp} {k : Nat} : ∀ {vs : List V} {ds : List D}, RpAll G vs ds → immAll ds = true → OdAll G H k [] vs ds
  | _, _, .nil, _ => .nil
  | _, _, .cons h r, q => by
    rw [immAll, Bool.and_eq_true] at q
    exact OdAll.cons (f := []) (g := []) (Od.im h q.1) (OdAll.ofImm r q.2)
section
variable {X : Cx} {e : Expr} {es : List Expr} {ms : Env → Res (List D)} {n : Nat} {pos p : Pos} {x : Str} {F : List D → Res D} {j : Nat}
/-- a dict that is told and is new may be owned -/
theorem RetOk.own {H H' : Hp} {v : V} {ks : List Key} {ds : List D} (r : RetOk 0 (noK H) H H' v (.dk ks ds)) (hi : immAll ds = true) : ∃ p, v = .ref p ∧ H p = none ∧ ((∃ o u, H' p = some (.frz o u) ∧ RetOk 1 (view H) H (upd H' p u) v (.dk ks ds)) ∨ RetOk 1 (view H) H H' v (.dk ks ds)) := by
  obtain ⟨G', fp, g, od, _, _⟩ := r.ex
  obtain ⟨_, rp⟩ := od.zero
  cases rp with
  | @dk p kvs _ _ hp hk ra =>
    have hn : H p = none := by
      refine Classical.byContradiction fun hn => ?_
      have e : G' p = noK H p := g.g0 p hn
      rw [hp] at e
      exact (noK_view e.symm).2 kvs rfl
    have hv := g.gs p _ hp
    have fin : ∀ H'' : Hp, H'' p = some (.dK kvs) → (∀ a, a ≠ p → H'' a = H' a) → RetOk 1 (view H) H H'' (.ref p) (.dk ks ds) := fun H'' h1 h2 => by
      have nep : ∀ {a : Addr} {o : HO}, H a = some o → a ≠ p := fun e z => by rw [z, hn] at e; cases e
      have vw : ∀ a, a ≠ p → view H'' a = view H' a := fun a ha => by unfold view; rw [h2 a ha]
      have bs : ∀ a o, H a = some o → H'' a = some o := fun a o e => by rw [h2 a (nep e)]; exact g.bs a o e
      have gt : ∀ a u, isIm u = true → view H'' a = some u → (if H a = none then (match view H'' a with | some u => if isIm u = true then some u else none | none => none) else view H a) = some u := fun a u im e => by
        split
        · rw [e]; dsimp only; rw [if_pos im]
        · rename_i ha
          cases q : H a with
          | none => exact absurd q ha
          | some o =>
            have := bs a o q
            unfold view at e ⊢
            rw [this] at e
            rw [q]; exact e
      refine ⟨⟨fun a => if H a = none then (match view H'' a with | some u => if isIm u = true then some u else none | none => none) else view H a, [p], ⟨bs, fun a ha => if_neg ha, fun a u e => ?_, gt, fun a u im e => ?_⟩, ?_, by simp, fun q hq => ?_⟩⟩
      · have e' : (if H a = none then (match view H'' a with | some u => if isIm u = true then some u else none | none => none) else view H a) = some u := e
        split at e'
        · split at e'
          · split at e'
            · cases e'; assumption
            · cases e'
          · cases e'
        · exact view_ext bs a u e'
      · by_cases z : a = p
        · subst z
          have : view H'' a = some (.dK kvs) := by unfold view; rw [h1]; rfl
          rw [this] at e
          cases e
          cases im
        · rw [h2 a z]
          exact g.nf a u im (by rw [← vw a z]; exact e)
      · refine Od.dk (f := []) h1 hk (OdAll.ofImm ?_ hi)
        have : ∀ a u, isIm u = true → G' a = some u → (if H a = none then (match view H'' a with | some u => if isIm u = true then some u else none | none => none) else view H a) = some u := fun a u im e => by
          refine gt a u im ?_
          have z : a ≠ p := fun z => by
            subst z
            rw [hp] at e
            cases e
            cases im
          rw [vw a z]
          exact g.gs a u e
        exact ra.immTo this hi
      · rw [List.mem_singleton.mp hq]
        refine ⟨hn, ?_⟩
        show (if H p = none then (match view H'' p with | some u => if isIm u = true then some u else none | none => none) else view H p) = none
        have : view H'' p = some (.dK kvs) := by unfold view; rw [h1]; rfl
        rw [if_pos hn, this]
        rfl
    refine ⟨p, rfl, hn, ?_⟩
    cases q : H' p with
    | none => rw [view_none q] at hv; cases hv
    | some o =>
      have hu : unf o = .dK kvs := by
        unfold view at hv
        rw [q] at hv
        exact Option.some.inj hv
      by_cases hz : ∃ od w, o = .frz od w
      · obtain ⟨od, w, rfl⟩ := hz
        have ew : w = .dK kvs := hu
        subst ew
        exact .inl ⟨od, _, rfl, fin _ upd_same fun a ha => upd_ne ha⟩
      · have eo : o = .dK kvs := by
          cases o with
          | frz od w => exact absurd ⟨od, w, rfl⟩ hz
          | _ => exact hu
        subst eo
        exact .inr (fin _ q fun a _ => rfl)
def gNew (d : D) : Res D := match d with
  | .dk ks es => if immAll es = true then .ok (.dk ks es) else .bad
  | _ => .bad
def mCallN (F : List D → Res D) (ms : Env → Res (List D)) : Env → Res D := fun env => ms env >>= fun ds => if noDkL ds = true then F ds >>= gNew else .bad
@[simp] theorem e_mCallN {F : List D → Res D} {ms : Env → Res (List D)} {env : Env} : mCallN F ms env = (ms env >>= fun ds => if noDkL ds = true then F ds >>= gNew else .bad) := rfl
@[simp] theorem gNew_enc (p : Pol) : gNew (encP p) = .ok (encP p) := by
  unfold encP gNew
  simp
end
end Mir

namespace Mir
open PySem PySem.Spec L2
/-! ### x.extend(e), the items of e owned -/
section
variable {X : Cx} {kr k : Nat} {e o : Expr} {m : Env → Res D} {pos cpos apos : Pos}
end
end Mir

namespace Mir
open PySem PySem.Spec L2
/-! ### len of an owned dict -/
def mLenD (j : Nat) : Env → Res D := fun env => match env[j]? with
  | some (some (1, .dk ks ds)) => .ok (.int ds.length)
  | _ => .bad
@[simp] theorem e_mLenD {j : Nat} {env : Env} : mLenD j env = (match env[j]? with
  | some (some (1, .dk ks ds)) => .ok (.int ds.length)
  | _ => .bad) := rfl
end Mir

namespace Mir
open PySem PySem.Spec L2
/-! ### xs.count(k); a comparison whose left side may raise -/
section
variable {X : Cx} {o e a b : Expr} {mo m ma mb : Env → Res D} {pos cpos apos : Pos} {κ : Str → Addr} {W : WX} {k : Nat}
def mOpX (g : D → D → Res D) (ma mb : Env → Res D) : Env → Res D := fun env => ma env >>= fun x => nx (mb env >>= fun y => g x y)
@[simp] theorem e_mOpX (g : D → D → Res D) (ma mb : Env → Res D) (env : Env) : mOpX g ma mb env = (ma env >>= fun x => nx (mb env >>= fun y => g x y)) := rfl
end
end Mir

namespace Mir
open PySem PySem.Spec L2
/-! ### a name that is bound is forgotten ahead of a comprehension with this name -/
section
variable {X : Cx} {st : Stmt} {ss : List Stmt} {m1 : Env → Res Ctl} {kr : Nat}
def mDr (i : Nat) (m : Env → Res Ctl) : Env → Res Ctl := fun env => m (env.set i none)
@[simp] theorem e_mDr (i : Nat) (m : Env → Res Ctl) (env : Env) : mDr i m env = m (env.set i none) := rfl
end
end Mir

namespace Mir
open PySem PySem.Spec L2
/-! ### a list, taken apart -/
section
variable {X : Cx} {pos : Pos} {k : Nat}
def tTupL (n : Nat) (u : Nat → List D → Env → Res Env) : Nat → D → Env → Res Env := fun _ d env => match d with
  | .lst ds => if ds.length = n then u 0 ds env else .bad
  | _ => .bad
theorem EnvOk.opLst {B : Bs} {H : Hp} {env : Env} {σ : St} {tm : List Hold} {v : V} {ds : List D} (h : EnvOk B H env σ ((v, 0, .lst ds) :: tm)) : ∃ p vs, v = .ref p ∧ view H p = some (.lst vs) ∧ vs.length = ds.length ∧ EnvOk B H env σ (lev 0 vs ds ++ tm) := by
  have h2 := h.len
  have h3 := h.has
  obtain ⟨G, f, g, hg, hf, hr, nd, hq⟩ := EnvOk.apart (l := [(v, 0, D.lst ds)]) h
  cases hf with
  | @cons _ _ _ _ f1 g1 h1 hn =>
    cases hn
    rw [List.append_nil] at nd hq
    cases h1 with
    | sh hz r =>
      cases r with
      | @lst a0 vs0 _ e ra =>
        refine ⟨_, _, rfl, hg.gs _ _ e, ra.length, ?_⟩
        have hv : HoldAll G H (lev 0 vs0 ds) [] := by
          clear hz hq nd e h
          induction ra using RpAll.rec (motive_1 := fun _ _ _ => True) with
          | nil => exact .nil
          | @cons v' vs' d' ds' hr' _ _ ih => exact HoldAll.cons (f := []) (g := []) (.sh (.inl rfl) hr') ih
          | _ => trivial
        exact EnvOk.join h2 h3 hg hv hr nd hq
theorem tg_tupL {es : List Expr} {j : Nat} {n : Nat} {u : Nat → List D → Env → Res Env} {is : List Nat} (hc : X.calm = true) (h : STgs X es is u) (hn : (assignEach es X.env).length = n := by rfl) (hst : (assignEach es X.env).findIdx? (·.1) = none := by rfl) : STg X (.Tuple es j pos) is (tTupL n u) := fun k B H env σ tm d v env' Q ok hm q => by
  unfold tTupL at hm
  split at hm
  · rename_i ds
    split at hm
    · rename_i hl
      obtain ⟨p, vs, rfl, hp, hvl, ok2⟩ := ok.freeze.opLst
      exact wG_of (pg_lst hc pgs_sem hn hst) ⟨p, vs, rfl, .inl (view_rd hp), hvl.trans hl, h 0 B H env σ tm ds vs env' Q hvl ok2 hm q⟩
    · cases hm
  · cases hm
@[simp] theorem e_tTupL (n : Nat) (u : Nat → List D → Env → Res Env) (k : Nat) (ds : List D) (env : Env) : tTupL n u k (.lst ds) env = (if ds.length = n then u 0 ds env else .bad) := rfl
end
end Mir

namespace Mir
open PySem PySem.Spec L2
/-! ### len(set(pairs)) -/
section
variable {X : Cx} {e : Expr} {m : Env → Res D} {k : Nat} {pos p p2 pos2 : Pos}
end
end Mir

namespace Mir
open PySem PySem.Spec L2
/-! ### NAME == d: a dict of the module's own -/
section
variable {X : Cx}
variable {ps : List (Int × Int)} {x : Str} {b : Expr} {mb : Env → Res D} {pos p2 : Pos}
end
end Mir

namespace Mir
open PySem PySem.Spec L2
/-! ### list(d): a dict of numbers or texts -/
def gListK : D → Res D
  | .dk ks _ => .ok (.lst (ks.map kD))
  | _ => .bad
section
variable {X : Cx} {e : Expr} {m : Env → Res D} {k : Nat} {pos p : Pos}
@[simp] theorem gListK_enc (p : Pol) : gListK (encP p) = .ok (.lst ((p.map (·.1)).map D.int)) := by
  unfold encP gListK
  dsimp only
  rw [List.map_map, List.map_map]; rfl
end
end Mir

namespace Mir
open PySem PySem.Spec L2
/-! ### a call that may raise but does not, its arguments shared -/
section
variable {X : Cx} {e : Expr} {es : List Expr} {ms : Env → Res (List D)} {kr n : Nat} {κ : Str → Addr} {pos p : Pos} {x : Str} {F : List D → Res D} {j : Nat}
end
end Mir

namespace Mir
open PySem PySem.Spec L2
/-! ### d == e: dicts of numbers, alike or not -/
section
variable {X : Cx}
end
end Mir

namespace Mir
open PySem PySem.Spec L2
/-! ### d[k] of a dict with nested keys -/
section
variable {X : Cx} {o i : Expr} {md mk : Env → Res D} {pos : Pos}
end
end Mir

namespace Mir
open PySem PySem.Spec L2
/-! ### d != e: dicts of numbers, alike or not -/
section
variable {X : Cx}
end
end Mir

namespace Mir
open PySem PySem.Spec L2
/-! ### what is owned to depth one and holds nothing that could be written is owned to any depth -/
def lowD : D → Bool
  | .lst ds => immAll ds
  | .dk _ ds => immAll ds
  | d => d.imm
def gUp : D → Res D := fun d => if lowD d = true then .ok d else .bad
section
variable {X : Cx} {e a b : Expr} {m ma mb : Env → Res D} {cs : List Nat} {pos : Pos} {k : Nat}
/-! ### an item of an owned tuple, the others let go -/
def gIxT : D → D → Res D
  | .tup ds, .int i => match atI ds i with
    | some d => .ok d
    | none => .bad
  | _, _ => .bad
/-! ### list(range(a, b)) -/
def gLRg : D → D → Res D
  | .int i, .int j => if 0 ≤ i ∧ j ≤ 4096 ∧ i ≤ 4096 ∧ 0 ≤ j then .ok (.lst (intsD i (j - i).toNat)) else .bad
  | _, _ => .bad
end
@[simp] theorem e_gLRg {i j : Int} : gLRg (.int i) (.int j) = if 0 ≤ i ∧ j ≤ 4096 ∧ i ≤ 4096 ∧ 0 ≤ j then .ok (.lst (intsD i (j - i).toNat)) else .bad := rfl
@[simp] theorem e_gUp {d : D} : gUp d = if lowD d = true then .ok d else .bad := rfl
@[simp] theorem e_gIxT {ds : List D} {i : Int} : gIxT (.tup ds) (.int i) = (match atI ds i with
    | some d => .ok d
    | none => .bad) := rfl
end Mir

namespace Mir
open PySem PySem.Spec L2
/-! ### d[k] = v, the names kept -/
section
variable {X : Cx} {κ : Str → Addr} {Z : List Nat} {W : WX} {e o i : Expr} {m mk : Env → Res D} {cs : List Nat} {kr : Nat} {pos : Pos}
end
end Mir

namespace Mir
open PySem PySem.Spec L2
/-! ### len of an owned dict with tuple keys -/
def mLenDT (j : Nat) : Env → Res D := fun env => match env[j]? with
  | some (some (1, .dt ks ds)) => .ok (.int ds.length)
  | _ => .bad
@[simp] theorem e_mLenDT {j : Nat} {env : Env} : mLenDT j env = (match env[j]? with
  | some (some (1, .dt ks ds)) => .ok (.int ds.length)
  | _ => .bad) := rfl
end Mir

namespace Mir
open PySem PySem.Spec L2
/-! ### x = y op len(rows), a row of rows being lent -/
def mMidL (j i0 : Nat) (g : D → D → Res D) (ma : Env → Res D) (m2 : Nat → List D → Env → Res Ctl) : Nat → List D → Env → Res Ctl := fun jj ds e => nx (ma e) >>= fun y => nx (g y (.int ds.length)) >>= fun d => nx (tName i0 0 d e) >>= fun e' => match e'[j]? with
  | some none => m2 jj ds e'
  | _ => .bad
section
variable {X : Cx} {κ : Str → Addr} {Z : List Nat} {W : WX} {o a : Expr} {ma : Env → Res D} {i j k kr : Nat} {pos pos' pos2 p p2 spos : Pos} {m2 : Nat → List D → Env → Res Ctl} {ss : List Stmt} {x : Str}
theorem sin_midL {i0 : Nat} {op : Operator} {g : D → D → Res D} (hN : X.N.Nodup) (hi0 : X.N[i0]? = some x) (hxl : Loc X.env.scope x) (hji : j ≠ i0) (hii : i ≠ i0) (hz : Z.all (fun z => z != i0) = true) (ho : OpC X (binaryOp op) g) (ha : SB X a ma) (hg : Gl X "len") (hm0 : X.mg "len" = none) (hx : PE X o (tVar j))
    (t : SIN X κ kr Z W j i k ss m2)
    (he : starEach [o] X.env = (false, eval o X.env) :: starEach [] X.env := by rfl) (hpl : (backTo pos2 (starEach [] X.env)).any (·.1) = false := by rfl)
    (hs : swapsWith (.BinOp a op (.Call (.Name "len" p) [o] [] pos2) p2) (some (.Name x pos')) spos.line X.env = pure false := by rfl) (hf : X.fn x = true ∨ X.env.scope.names.lookup x = some .local := by first | exact .inl rfl | exact .inr rfl | assumption) :
    SIN X κ kr Z W j i k (.Assign [.Name x pos'] (.BinOp a op (.Call (.Name "len" p) [o] [] pos2) p2) spos :: ss) (mMidL j i0 g ma m2) := fun B H e σ tm D q aa vs ds jj l hq hl hv hp ok hij hj hsj hsi pp => by
  obtain ⟨y, hy, p2⟩ := post_bind pp
  obtain ⟨d, hd, p3⟩ := post_bind p2
  obtain ⟨e', he', p4⟩ := post_bind p3
  obtain ⟨r, hr, hqq⟩ := ho
  refine wB_of (pss_cons (ps_set hN hi0 hxl (pe_op hr pe_sem (pe_callB call_len hg hm0 PySem.boot_len (pa_cons hx pa_nil he) (by decide) (by decide) he hpl)) hs hf) pss_sem) ?_
  refine ha _ H e σ (l ++ tm) _ _ ok hy fun u H2 x2 ok2 r2 => ?_
  have hHq : H2 q = some (.lst vs) := by
    obtain ⟨⟨G, fp, gd, _⟩, _⟩ := ok2
    exact gd.bs q _ upd_same
  refine ⟨.ref q, hsj, _, _, rfl, .inl ⟨vs, .inl (.inl hHq), rfl⟩, ?_⟩
  refine hqq u (.int vs.length) _ _ _ H2 _ r2 (.int _) (by rw [hl]; exact hd) fun z rz iz => ?_
  unfold tName at he'
  split at he'
  · rename_i hlt
    cases he'
    have ok3 := (ok2.imm (k := 0) rz iz).store hlt
    split at p4
    · rename_i hj'
      refine t B H2 _ _ tm D q aa vs ds jj l hq hl hv hp ok3 hij hj' ?_ ?_ (PostK.from (Kp.refl.set hz) p4)
      · rw [List.getElem?_set_ne (Ne.symm hji)]; exact hsj
      · rw [List.getElem?_set_ne (Ne.symm hii)]; exact hsi
    · exact p4.elim
  · cases he'
end
end Mir

namespace Mir
open PySem PySem.Spec L2
/-! ### x = xs[i]; ..; x.insert(p, v); .. with x still read behind it -/
section
variable {X : Cx} {κ : Str → Addr} {Z : List Nat} {W : WX} {e o ep : Expr} {mp mv : Env → Res D} {k kr : Nat} {pos apos cpos : Pos}
theorem s_insertK {j : Nat} (hx : PE X o (tVar j)) (hp : SB X ep mp) (hv : SB X e mv)
    (hbase : attributeBase o "insert" X.env (eval o X.env) = eval o X.env := by rfl)
    (hfew : ((backTo cpos (starEach [ep, e] X.env)).all (fun x => !x.1) && (backToKw cpos (keywordEach [] X.env)).all (fun x => x.1.isSome)
      && decide ([ep, e].length + ([] : List Keyword).length + (if ([] : List Keyword).isEmpty then 0 else 1) < 30)) = true := by rfl)
    (hline : (apos.endLine == cpos.line) = true := by rfl) (hst : starEach [ep, e] X.env = (false, eval ep X.env) :: starEach [e] X.env := by rfl) (hst2 : starEach [e] X.env = (false, eval e X.env) :: starEach [] X.env := by rfl) (hplain : (backTo cpos (starEach [e] X.env)).any (·.1) = false := by rfl)
    (hsw : swapsWith (.Call (.Attribute o "insert" apos) [ep, e] [] cpos) none pos.line X.env = pure false := by rfl) : S1K X κ kr Z W (.Expr (.Call (.Attribute o "insert" apos) [ep, e] [] cpos) pos) (mN (mInsert j k mp mv)) := fun B H env σ tm D ok p => by
  unfold mN at p
  cases hm : mInsert j k mp mv env with
  | exc c ns as => rw [hm] at p; exact p.elim
  | bad => rw [hm] at p; exact p.elim
  | ok r =>
  rw [hm] at p
  obtain ⟨z, hz, h2⟩ := bind_ok hm
  obtain ⟨d, hd, h3⟩ := bind_ok h2
  obtain ⟨ds, hds, h4⟩ := bind_ok h3
  have he1 := atL_ok hds
  split at h4
  · rename_i pz
    split at h4
    · rename_i hh
      obtain ⟨hp0, hp1, hel, hdi⟩ := hh
      cases h4
      obtain ⟨v, hv', rv⟩ := ok.slot he1
      refine wS_of (ps_expr (pe_bm F.plainAttrs_list F.slot_list_insert F.type_list_insert mt_insert hx (pa_cons pe_sem (pa_cons pe_sem pa_nil hst2) hst) hbase hfew hline hst hplain) hsw) ?_
      refine ⟨v, hv', ?_⟩
      cases rv with
      | @lst q vs0 _ hq ra0 =>
        refine ⟨.inl ⟨rfl, _, .inl (view_rd hq)⟩, hp B H env σ tm _ _ ok hz fun u3 H3 x3 ok7 r7 => hv B H3 env σ tm _ _ ok7 hd fun w H4 x4 ok8 r8 => ?_⟩
        cases r7
        obtain ⟨a2, ha2, ok9⟩ := ok8.slotMu he1 rfl
        rw [hv'] at ha2
        cases ha2
        obtain ⟨ws, hA, hwl, ok10⟩ := ok9.takeLst
        refine ⟨q, ws, pz, w, rfl, rfl, hA, by omega, hp0, by omega, ?_⟩
        have rw2 : Rp (view (del H4 q)) w d := r8.immTo (fun b u im hb => by
          unfold view at hb ⊢
          have b1 : b ≠ q := fun z => by rw [z, hA] at hb; cases hb; cases im
          rw [del_ne b1]; exact hb) hdi
        have ok11 := ok10.imm (k := k) rw2 hdi
        have pm : (lev k (ws.take pz.toNat ++ [w] ++ ws.drop pz.toNat) (ds.take pz.toNat ++ [d] ++ ds.drop pz.toNat)).Perm ((w, k, d) :: lev k ws ds) := by
          have ht : (ws.take pz.toNat).length = (ds.take pz.toNat).length := by simp [hwl]
          rw [lev_append _ _ (by simp [hwl]), lev_append _ _ ht]
          show (lev k (ws.take pz.toNat) (ds.take pz.toNat) ++ [(w, k, d)] ++ lev k (ws.drop pz.toNat) (ds.drop pz.toNat)).Perm _
          have e0 : lev k ws ds = lev k (ws.take pz.toNat) (ds.take pz.toNat) ++ lev k (ws.drop pz.toNat) (ds.drop pz.toNat) := by
            rw [← lev_append _ _ ht, List.take_append_drop, List.take_append_drop]
          rw [e0, List.append_assoc]
          exact List.perm_middle
        have ok12 := (ok11.perm (pm.symm.append_right _)).newLst (p := q) (by simp [hwl]) del_self
        rw [upd_del] at ok12
        exact p σ _ (ok12.putBack he1 hv') Kp.refl
    · cases h4
  · cases h4
end
def mEnd (j i k : Nat) (mr : Env → Res Ctl) : Nat → List D → Env → Res Ctl := fun jj ds e => match e[i]? with
  | some (some (k', .lst es)) => if k' = k + 1 then mr ((e.set i none).set j (some (k + 2, .lst (ds.set jj (.lst es))))) else .bad
  | _ => .bad
theorem sin_end {X : Cx} {κ : Str → Addr} {Z : List Nat} {W : WX} {i j k kr : Nat} {ss : List Stmt} {mr : Env → Res Ctl} (hr : SSK X κ kr Z W ss mr) : SIN X κ kr Z W j i k ss (mEnd j i k mr) := fun B H env σ tm D q a vs ds jj l hBq hvl hvj l2 ok6 hij hej hsj hsi pp => by
  unfold mEnd at pp
  split at pp
  · rename_i k' es hei
    split at pp
    · rename_i ek
      subst ek
      have ok7 := ok6.move hei hsi
      have ok13 := ok7.perm ((l2 (.ref a) (.lst es)).symm.append_right tm)
      have evs : vs.set jj (.ref a) = vs := set_self hvj
      rw [evs] at ok13
      obtain ⟨_, ok14⟩ := ok13.unlend hBq (by simp [hvl])
      have hjl : j < (env.set i none).length := by
        rw [List.length_set]; exact (List.getElem?_eq_some_iff.mp hej).1
      have ok15 := ok14.store (i := j) hjl
      rw [set_self hsj] at ok15
      exact hr B _ _ _ tm D ok15 pp
    · exact pp.elim
  · exact pp.elim
end Mir

namespace Mir
open PySem PySem.Spec L2
/-! ### try: x = f(..): where it raises, x is as it was -/
section
variable {X : Cx} {κ : Str → Addr} {kr k : Nat} {Z : List Nat} {W : WX} {me : Env → Res D} {e : Expr} {cs : List Nat} {pos : Pos}
end
section
variable {X : Cx} {κ : Str → Addr} {kr : Nat} {Z : List Nat} {x n : Str} {c : Value} {i : Nat} {body suite : List Stmt} {b₀ : Stmt} {np pos pos' : Pos} {Wout : WX} {mb ms : Env → Res Ctl} {tab : Str → Option Bool}
end
end Mir

namespace Mir
open PySem PySem.Spec L2
/-! ### a list that is gone through is lent, not given away -/
section
variable {X : Cx} {e a b tg it elt : Expr} {m ma mb me : Env → Res D} {k : Nat} {cs : List Nat} {pos : Pos}
end
section
variable {X : Cx} {κ : Str → Addr} {kr k : Nat} {Z : List Nat} {W : WX} {m1 : Env → Res Ctl} {tg it : Expr} {pos : Pos}
theorem Kp.sub {j : Nat} {Z : List Nat} {σ σ' : St} (h : Kp (j :: Z) σ σ') : Kp Z σ σ' := fun z hz => h z (List.mem_cons_of_mem _ hz)
end
/-! ### d.clear(): a dict of tuple keys -/
end Mir

namespace Mir
open PySem PySem.Spec L2
/-! ### d == e, d != e of two dicts of tuple keys that are alike, as a test -/
end Mir

namespace Mir
open PySem PySem.Spec L2
/-! ### int(text), text.split(sep), text.index(sign) -/
section
variable {X : Cx} {e o : Expr} {m mo : Env → Res D} {k : Nat} {pos p apos : Pos}
end
end Mir

namespace Mir
open PySem PySem.Spec L2
/-! ### the signs of a text; a sign in a text -/
section
variable {X : Cx} {tg it : Expr} {m : Env → Res D}
end
end Mir

namespace Mir
open PySem PySem.Spec L2
open PyProof.Rows (envOfC)
/-! ### objects of own classes, not written once they are made -/
def oclB (K : PySem.W.Frag) (C : Addr) : Bool := PySem.W.plainGet K C Str.empty && (PySem.W.hasDictIn K C && (PySem.W.plainOver K C && (decide (PySem.W.findIn K (.ref C) "__setattr__" = some (some (.builtin "object.__setattr__")))
  && (decide (PySem.W.findIn K (.ref C) "__class__" = some (some (.builtin "object.__class__"))) && (decide (PySem.W.specialIn K (.builtin "object.__class__") "__get__" = some (some (.builtin "getset_descriptor.__get__"))) && (decide (PySem.W.takesIn K (.builtin "object.__class__") = some true)
  && decide (PySem.W.mroIn K C (.type "object") = some true)))))))
structure OIs (K : PySem.W.Frag) (C : Addr) : Prop where
  cl : Cls K C
  ha : PySem.W.findIn K (.ref C) "__class__" = some (some (.builtin "object.__class__"))
  hn : PySem.W.specialIn K (.builtin "object.__class__") "__get__" = some (some (.builtin "getset_descriptor.__get__"))
  ht : PySem.W.takesIn K (.builtin "object.__class__") = some true
  hm : PySem.W.mroIn K C (.type "object") = some true
theorem oclB_ok {K : PySem.W.Frag} {C : Addr} (h : oclB K C = true) : OIs K C := by
  unfold oclB at h
  simp only [Bool.and_eq_true, decide_eq_true_eq] at h
  obtain ⟨h1, h2, h3, h4, h5, h6, h7, h8⟩ := h
  exact ⟨⟨h1, h2, h3, h4⟩, h5, h6, h7, h8⟩
/-- the class named c stands at κ c -/
structure OCl (K : PySem.W.Frag) (mg : Str → Option Value) (κ : Str → Addr) (c : Str) : Prop where
  g : mg c = some (.ref (κ c))
  is : OIs K (κ c)
theorem ocl_of {K : PySem.W.Frag} {mg : Str → Option Value} {h : Heap} {c : Str} {a : Addr} (X : K.In h) (G : h.Ns mainGlobals mg) (z : PySem.W.nsIn K mainGlobals c = some (some (.ref a))) (i : oclB K a = true) : OCl K mg (kOf K) c :=
  ⟨by rw [kOf_eq z]; exact PySem.W.mg_of X G z, by rw [kOf_eq z]; exact oclB_ok i⟩
section
variable {X : Cx} {κ : Str → Addr} {a b o e : Expr} {es : List Expr} {m mo : Env → Res D} {ms : Env → Res (List D)} {pos p apos : Pos} {B : Bs} {H : Hp} {env : Env} {σ : St} {tm : List Hold}
theorem ob_at {c : Str} {v : V} {C : Addr} {ns : List Str} {ds : List D} (ok : EnvOk B H env σ tm) (r : Rp (view H) v (.ob c C ns ds)) : ∃ a dx kvs, v = .ref a ∧ H a = some (.ins C dx kvs) ∧ kvs.map (·.1) = ns ∧ RpAll (view H) (kvs.map (·.2)) ds := by
  cases r with
  | ob h e r => exact ⟨_, _, _, rfl, ok.imAt rfl h, e, r⟩
/-! #### e.f -/
def OTab (K : PySem.W.Frag) (κ : Str → Addr) (f : Str) : List Str → Prop
  | [] => True
  | c :: cs => (OIs K (κ c) ∧ NoAttr K (κ c) f) ∧ OTab K κ f cs
theorem OTab.get {K : PySem.W.Frag} {f c : Str} : ∀ {cs : List Str}, OTab K κ f cs → c ∈ cs → OIs K (κ c) ∧ NoAttr K (κ c) f
  | _ :: _, h, hc => by
    rcases List.mem_cons.mp hc with rfl | hc
    · exact h.1
    · exact h.2.get hc
def gFld (κ : Str → Addr) (cs : List Str) (f : Str) : D → Res D
  | .ob c C ns as => if (c ∈ cs ∧ C = κ c) ∧ ns.length = as.length then (match (ns.zip as).lookup f with | some d => .ok d | none => .bad) else .bad
  | _ => .bad
theorem sb_fld {cs : List Str} {f : Str} (T : OTab X.K κ f cs) (h : SB X a m) (hb : attributeBase a f X.env (eval a X.env) = eval a X.env := by rfl) : SB X (.Attribute a f pos) (mUn (gFld κ cs f) m) := fun B H env σ tm d Q ok hm q => by
  obtain ⟨x, hx, h2⟩ := bind_ok hm
  unfold gFld at h2
  split at h2
  · rename_i c C ns as
    split at h2
    · rename_i hh
      obtain ⟨⟨hc, rfl⟩, hl⟩ := hh
      obtain ⟨I, N⟩ := T.get hc
      split at h2
      · rename_i d' hd
        cases h2
        refine wE_of (pe_fld pe_sem hb) (h B H env σ tm _ _ ok hx fun v H1 x1 ok1 r => ?_)
        obtain ⟨a, dx, kvs, rfl, ha, hns, ra⟩ := ob_at ok1 r
        subst hns
        obtain ⟨y, hy, ry⟩ := look_all ra hd
        exact ⟨a, _, dx, kvs, y, rfl, ha, I.cl, N, hy, q y H1 x1 ok1 ry⟩
      · cases h2
    · cases h2
  · cases h2
/-! #### C(..) -/
def spI (C : Addr) (ns : List Str) : Sp := fun vs H Q _ => vs.length = ns.length + 1 ∧ ∃ x dx as, vs = .ref x :: as ∧ H x = some (.ins C dx []) ∧ Q .non (upd H x (.ins C dx (ns.zip as)))
def gMake (κ : Str → Addr) (c : Str) (ns : List Str) (ds : List D) : Res D := if immAll ds = true ∧ ds.length = ns.length then .ok (.ob c (κ c) ns ds) else .bad
theorem EnvOk.newAny {o : HO} {p : Addr} (h : EnvOk B H env σ tm) (hp : H p = none) (hu : unf o = o) : EnvOk B (upd H p o) env σ tm := by
  have h2 := h.len
  have h3 := h.has
  obtain ⟨G, f, hg, hr, nd, hq⟩ := h.ex
  have hrm := hr.mu
  have hH : ∀ a u, H a = some u → upd H p o a = some u := up_keep hp
  have hgp := hg.gnone hp
  have hG : ∀ a u, G a = some u → upd G p o a = some u := up_keep hgp
  refine ⟨⟨upd G p o, f, hg.newSh hp hu, hr.frame hG fun a u e _ => hH a u e, nd, fun q m => ⟨(hq q m).1, ?_⟩⟩, h2, h3⟩
  have qp : q ≠ p := fun z => by
    subst z
    obtain ⟨u, e, _⟩ := hrm q m; rw [hp] at e; cases e
  rw [upd_ne qp]
  exact (hq q m).2
theorem zip_both : ∀ {ns : List Str} {as : List V}, as.length = ns.length → (ns.zip as).map (·.1) = ns ∧ (ns.zip as).map (·.2) = as
  | [], [], _ => ⟨rfl, rfl⟩
  | [], _ :: _, h => by simp at h
  | _ :: _, [], h => by simp at h
  | n :: ns, a :: as, h => by
    obtain ⟨h1, h2⟩ := zip_both (ns := ns) (as := as) (by simpa using h)
    exact ⟨by simp [h1], by simp [h2]⟩
structure MkC (P : Program) (w : World) (K : PySem.W.Frag) (mg : Str → Option Value) (base : Heap) (C : Addr) (j : Nat) (ns : List Str) : Prop where
  ex : ∃ f fd ps, Mk K C f ∧ Binds K fd ps [] ∧ FnOk P w K mg base CX0 j f fd ps (spI C ns)
theorem sc_make {c : Str} {ns : List Str} {j : Nat} (C : MkC X.prog X.w X.K X.mg X.base (κ c) j ns) (O : OCl X.K X.mg κ c) (hr : Room (j + 1) X.A) (hg : Gl X c)
    (ha : SAB X (e :: es) ms) (hdb : (c == ("__debug__" : Str)) = false := by decide) (he : starEach (e :: es) X.env = (false, eval e X.env) :: starEach es X.env := by rfl) (hpl : (backTo pos (starEach es X.env)).any (·.1) = false := by rfl) :
    SC X (.Call (.Name c p) (e :: es) [] pos) (fun env => ms env >>= gMake κ c ns) := fun B H env σ tm d Q ok hm q => by
  obtain ⟨f, fd, ps, M, hb, Fo⟩ := C.ex
  obtain ⟨ds, hds, h2⟩ := bind_ok hm
  unfold gMake at h2
  split at h2
  · rename_i hi
    obtain ⟨him, hl⟩ := hi
    cases h2
    refine wE_of (pe_make M Fo hr hg O.g hb .nil pass0 pa_sem hdb he hpl) (ha B H env σ tm ds _ ok hds fun vs H1 x1 ok1 ra => ?_)
    intro x dx hx hdx hne
    rw [List.append_nil]
    have hvl : vs.length = ns.length := by rw [ra.length]; exact hl
    obtain ⟨z1, z2⟩ := zip_both hvl
    have hx' : upd H1 dx (.own x) x = none := by rw [upd_ne (Ne.symm hne)]; exact hx
    have ok2 := (ok1.newAny (o := .own x) hdx rfl).newAny (o := .ins (κ c) dx (ns.zip vs)) hx' rfl
    have e1 : upd (upd (upd H1 dx (.own x)) x (.ins (κ c) dx [])) x (.ins (κ c) dx (ns.zip vs)) = upd (upd H1 dx (.own x)) x (.ins (κ c) dx (ns.zip vs)) := by
      funext y
      unfold upd
      split <;> rfl
    refine ⟨by simp [hvl], x, dx, vs, rfl, by rw [upd_same], rfl, ?_⟩
    rw [e1]
    have x2 : Ext H1 (upd (upd H1 dx (.own x)) x (.ins (κ c) dx (ns.zip vs))) := (Ext.upd hdx).trans (Ext.upd hx')
    refine q _ _ (x1.trans x2) ok2 (.ob (dx := dx) (kvs := ns.zip vs) ?_ z1 ?_) (by simpa [D.imm] using him)
    · unfold view
      rw [upd_same]; rfl
    · rw [z2]
      exact x2.rpAll ra
  · cases h2
/-! #### the def __init__ that only stores what it is given -/
theorem putF_new {f : Str} {v : V} : ∀ {fs : List (Str × V)}, f ∉ fs.map (·.1) → putF f v fs = fs ++ [(f, v)]
  | [], _ => rfl
  | (g, x) :: r, h => by
    have h1 : g ≠ f := fun e => h (by simp [e])
    have h2 : f ∉ r.map (·.1) := fun e => h (by simp at e ⊢; exact .inr e)
    show (if g = f then (g, v) :: r else (g, x) :: putF f v r) = _
    rw [if_neg h1, putF_new h2]; rfl
theorem wb_fld {ss : List Stmt} {f : Str} {value : Expr} {pos' : Pos} {x C dx : Addr} {i : Nat} {v : V} {fs : List (Str × V)} {D : Ends} (ho : PE X o (tVar 0)) (hv : PE X value (tVar i)) (hs : swapsWith value (some (.Attribute o f pos')) pos.line X.env = pure false)
    (h0 : σ[0]? = some (some (.ref x))) (hi : σ[i]? = some (some v)) (hx : H x = some (.ins C dx fs)) (I : Cls X.K C) (N : NoAttr X.K C f) (hl : fs.length < 1000) (hn : f ∉ fs.map (·.1))
    (h : wB X ss D σ (upd H x (.ins C dx (fs ++ [(f, v)])))) : wB X (.Assign [.Attribute o f pos'] value pos :: ss) D σ H := by
  refine wB_of (pss_cons (ps_fld ho hv hs) pss_sem) ?_
  refine ⟨v, hi, .ref x, h0, x, C, dx, fs, rfl, hx, I, N, hl, ?_⟩
  rw [putF_new hn]
  exact h
theorem wb_end {D : Ends} (h : D.nx σ H) : wB X [] D σ H := wB_of pss_nil h
theorem upd2 {x : Addr} {u v : HO} : upd (upd H x u) x v = upd H x v := by
  funext y
  unfold upd
  split <;> rfl
/-! #### o.m(..) -/
structure MetC (P : Program) (w : World) (K : PySem.W.Frag) (mg : Str → Option Value) (base : Heap) (C : Addr) (m : Str) (j n kr : Nat) (F : List D → Res D) : Prop where
  ex : ∃ f fd ps, Meth K C m f ∧ Binds K fd ps [] ∧ FnOk P w K mg base CX0 j f fd ps (spF kr n F)
def MTab (X : Cx) (κ : Str → Addr) (m : Str) (n kr : Nat) : List (Str × (List D → Res D)) → Prop
  | [] => True
  | (c, F) :: r => (OIs X.K (κ c) ∧ ∃ j, Room j X.A ∧ MetC X.prog X.w X.K X.mg X.base (κ c) m j n kr F) ∧ MTab X κ m n kr r
theorem MTab.get {m : Str} {n kr : Nat} {c : Str} {F : List D → Res D} : ∀ {t : List (Str × (List D → Res D))}, MTab X κ m n kr t → t.lookup c = some F → OIs X.K (κ c) ∧ ∃ j, Room j X.A ∧ MetC X.prog X.w X.K X.mg X.base (κ c) m j n kr F
  | [], _, h => by cases h
  | (c', F') :: r, h, e => by
    rw [List.lookup_cons] at e
    split at e
    · rename_i hc
      cases e
      rw [show c = c' from by simpa using hc]
      exact h.1
    · exact h.2.get e
def gMeth (κ : Str → Addr) (t : List (Str × (List D → Res D))) (m : Str) (kr : Nat) (o : D) (ds : List D) : Res D := match o with
  | .ob c C ns as => (match t.lookup c with
    | some F => if C = κ c ∧ m ∉ ns then F (.ob c C ns as :: ds) >>= fun d => if immAt kr d then .ok d else .bad else .bad
    | none => .bad)
  | _ => .bad
def mMeth (κ : Str → Addr) (t : List (Str × (List D → Res D))) (m : Str) (kr : Nat) (mo : Env → Res D) (ms : Env → Res (List D)) : Env → Res D := fun env => mo env >>= fun o => ms env >>= fun ds => gMeth κ t m kr o ds
@[simp] theorem e_mMeth {t : List (Str × (List D → Res D))} {m : Str} {kr : Nat} : mMeth κ t m kr mo ms env = (mo env >>= fun o => ms env >>= fun ds => gMeth κ t m kr o ds) := rfl
theorem lookup_none {m : Str} : ∀ {kvs : List (Str × V)}, m ∉ kvs.map (·.1) → kvs.lookup m = none
  | [], _ => rfl
  | (g, x) :: r, h => by
    have h1 : (m == g) = false := by
      rw [beq_eq_false_iff_ne]
      exact fun e => h (by simp [e])
    have h2 : m ∉ r.map (·.1) := fun e => h (by simp at e ⊢; exact .inr e)
    rw [List.lookup_cons, h1]
    exact lookup_none h2
theorem se_meth {m : Str} {n kr : Nat} {t : List (Str × (List D → Res D))} {pl : Sem Bool} (T : MTab X κ m (n + 1) kr t) (ho : SB X o mo) (ha : SAB X (e :: es) ms) (hl : ∀ env ds, ms env = .ok ds → ds.length = n)
    (hst : starEach (e :: es) X.env = (false, eval e X.env) :: starEach es X.env := by rfl) (hpl : (backTo pos (starEach es X.env)).any (·.1) = false := by rfl)
    (ht : eval (.Call (.Attribute o m apos) (e :: es) [] pos) X.env = (do
      let ov ← eval o X.env
      standAt apos.atName
      let (f, first) ← holding [ov] (getMethod ov m pl)
      callWith pos f first (backTo pos (starEach (e :: es) X.env)) (backToKw pos (keywordEach [] X.env))) := by rfl) :
    SE X kr [] (.Call (.Attribute o m apos) (e :: es) [] pos) (mMeth κ t m kr mo ms) := fun B H env σ tm d Q ok hm q => by
  obtain ⟨x, hx, h1⟩ := bind_ok hm
  obtain ⟨ds, hds, h2⟩ := bind_ok h1
  unfold gMeth at h2
  split at h2
  · rename_i c C ns as
    split at h2
    · rename_i F hF
      split at h2
      · rename_i hh
        obtain ⟨rfl, hmn⟩ := hh
        obtain ⟨I, j, hr, M⟩ := T.get hF
        obtain ⟨f, fd, ps, hme, hb, Fo⟩ := M.ex
        have h3 := h2
        obtain ⟨d', hF', h4⟩ := bind_ok h3
        split at h4
        · rename_i hi
          cases h4
          refine wE_of (pe_meth pe_sem I.cl hme Fo hr hb .nil pass0 pa_sem hst hpl ht) (ho B H env σ tm _ _ ok hx fun v H1 x1 ok1 r => ?_)
          obtain ⟨a, dx, kvs, rfl, ha', hns, ra⟩ := ob_at ok1 r
          refine ⟨a, dx, kvs, rfl, ha', lookup_none (by rw [hns]; exact hmn), ?_⟩
          refine ha B H1 env σ tm ds _ ok1 hds fun vs H2 x2 ok2 rs => ?_
          rw [List.append_nil]
          refine ⟨by rw [List.length_cons, rs.length, hl _ _ hds], view H2, _ :: ds, _, ⟨fun _ _ e => e, fun _ _ => rfl, fun _ _ e => e, fun _ _ _ e => e, fun a xs im e => ok2.imAt im e⟩, .cons (x2.rp r) rs, hF', fun v H' r' => ?_⟩
          obtain ⟨x3, ok3⟩ := ok2.retB r' hi
          exact q v H' ((x1.trans x2).trans x3) ok3
        · cases h4
      · cases h2
    · cases h2
  · cases h2
/-! #### isinstance(o, C) -/
def ITab (K : PySem.W.Frag) (κ : Str → Addr) (x : Str) : List (Str × Bool) → Prop
  | [] => True
  | (c, b) :: r => (OIs K (κ c) ∧ PySem.W.kitOne K (.ref (κ c)) (.ref (κ x)) = some b) ∧ ITab K κ x r
theorem ITab.get {K : PySem.W.Frag} {x c : Str} {b : Bool} : ∀ {t : List (Str × Bool)}, ITab K κ x t → t.lookup c = some b → OIs K (κ c) ∧ PySem.W.kitOne K (.ref (κ c)) (.ref (κ x)) = some b
  | [], _, h => by cases h
  | (c', F') :: r, h, e => by
    rw [List.lookup_cons] at e
    split at e
    · rename_i hc
      cases e
      rw [show c = c' from by simpa using hc]
      exact h.1
    · exact h.2.get e
end
end Mir

namespace Mir
open PySem PySem.Spec L2
open PyProof.Rows (envOfC)
/-! ### methods as they stand; __init__; d.clear() of a dict with int or text keys -/
/-- the j-th statement of a class -/
def inCls (s : Stmt) (j : Nat) : Stmt := match s with
  | .ClassDef _ _ _ b _ _ _ _ _ _ _ => b.getD j (.Pass ⟨0, 0, 0, 0⟩)
  | _ => .Pass ⟨0, 0, 0, 0⟩
structure AtM (K : PySem.W.Frag) (C : Addr) (m qual : Str) (st : Stmt) : Prop where
  ex : ∃ f fd, Fun K m qual st f fd ∧ Meth K C m f
theorem AtM.mk' {K : PySem.W.Frag} {C : Addr} {m qual : Str} {st : Stmt} {f : Addr} {oc : Value} {od an : Option Addr} {osl : Array (Option Value)} {kV doc pm cdv ct : Value} (a : PySem.W.findIn K (.ref C) m = some (some (.ref f)))
    (l : K.lookup f = some ⟨oc, od, .func (PySem.W.fnOf m qual (defArgs st) (defBody st) (defScope st) .none kV doc pm an cdv ct), osl⟩) (c : PySem.W.codeIn K cdv qual = true) (k : PySem.W.keepIn K (.ref f) = true) (n : PySem.W.isFn K (.ref f) = true) : AtM K C m qual st :=
  ⟨f, _, fun_mk l c k, ⟨a, n, k⟩⟩
section
variable {X : Cx} {o : Expr} {pos : Pos} {H : Hp} {σ : St}
theorem upd_same_id {x : Addr} {u : HO} (h : H x = some u) : upd H x u = H := by
  funext y
  unfold upd
  split
  · rename_i e; rw [e]; exact h.symm
  · rfl
theorem wb_fldU {ss : List Stmt} {f : Str} {value : Expr} {pos' : Pos} {x C dx : Addr} {i : Nat} {v : V} {fs : List (Str × V)} {D : Ends} (ho : PE X o (tVar 0)) (hv : PE X value (tVar i)) (hs : swapsWith value (some (.Attribute o f pos')) pos.line X.env = pure false)
    (ks : List Str) (h0 : σ[0]? = some (some (.ref x))) (hi : σ[i]? = some (some v)) (I : Cls X.K C) (N : NoAttr X.K C f) (hk : fs.map (·.1) = ks) (hl : ks.length < 1000) (hn : f ∉ ks)
    (h : wB X ss D σ (upd H x (.ins C dx (fs ++ [(f, v)])))) : wB X (.Assign [.Attribute o f pos'] value pos :: ss) D σ (upd H x (.ins C dx fs)) :=
  wb_fld (C := C) (dx := dx) ho hv hs h0 hi upd_same I N (by rw [← List.length_map (f := fun x : Str × V => x.1), hk]; exact hl) (by rw [hk]; exact hn) (by rw [upd2]; exact h)
end
end Mir

namespace Mir
open PySem PySem.Spec L2 RT
/-! ### for x in reversed(list) -/
section
variable {X : Cx} {tg it : Expr} {m : Env → Res D} {p pos : Pos}
end
end Mir

namespace L2
open PySem PySem.Spec PyProof.Rows
section
variable {X : Cx} {CX : CXT} {k : Nat} {f C : Addr} {fd : FuncData} {ps : List Str} {sp : Sp} {E : St → XK} {x m : Str} {p pos apos : Pos} {e o : Expr} {es : List Expr} {ta : TE} {t : TA}
end
end L2
namespace Mir
open PySem PySem.Spec L2
open PyProof.Rows (envOfC)
/-! ### methods that may raise; [.. for x in a call that may raise]; try .. except X: without a name -/
section
variable {X : Cx} {κ : Str → Addr} {W : WX} {a b o e : Expr} {es : List Expr} {m mo : Env → Res D} {ms : Env → Res (List D)} {pos p apos : Pos} {B : Bs} {H : Hp} {env : Env} {σ : St} {tm : List Hold}
structure MetX (P : Program) (w : World) (K : PySem.W.Frag) (mg : Str → Option Value) (base : Heap) (C : Addr) (m : Str) (j n kr : Nat) (κ : Str → Addr) (F : List D → Res D) : Prop where
  ex : ∃ f fd ps, Meth K C m f ∧ Binds K fd ps [] ∧ FnOk P w K mg base (L2.CX P w) j f fd ps (spX kr n κ F)
def MTabX (X : Cx) (κ : Str → Addr) (m : Str) (n kr : Nat) : List (Str × (List D → Res D)) → Prop
  | [] => True
  | (c, F) :: r => (OIs X.K (κ c) ∧ ∃ j, Room j X.A ∧ MetX X.prog X.w X.K X.mg X.base (κ c) m j n kr κ F) ∧ MTabX X κ m n kr r
theorem MTabX.get {m : Str} {n kr : Nat} {c : Str} {F : List D → Res D} : ∀ {t : List (Str × (List D → Res D))}, MTabX X κ m n kr t → t.lookup c = some F → OIs X.K (κ c) ∧ ∃ j, Room j X.A ∧ MetX X.prog X.w X.K X.mg X.base (κ c) m j n kr κ F
  | [], _, h => by cases h
  | (c', F') :: r, h, e => by
    rw [List.lookup_cons] at e
    split at e
    · rename_i hc
      cases e
      rw [show c = c' from by simpa using hc]
      exact h.1
    · exact h.2.get e
def mMethX (κ : Str → Addr) (t : List (Str × (List D → Res D))) (m : Str) (kr : Nat) (mo : Env → Res D) (ms : Env → Res (List D)) : Env → Res D := fun env => nx (mo env) >>= fun o => nx (ms env) >>= fun ds => gMeth κ t m kr o ds
/-- [elt for tg in it ..], it may raise -/
def mLcX (mx : Env → Res D) (t : Nat → D → Env → Res Env) (mt : Env → Res Bool) (me : Env → Res D) (own : List Nat) : Env → Res D := fun env =>
  mx env >>= fun d => nx (mLc (fun _ => itemsL d) t mt me own env)
end
/-! #### try: .. except X: .. -/
section
variable {X : Cx} {κ : Str → Addr} {kr : Nat} {Z : List Nat} {x : Str} {c : Value} {body suite : List Stmt} {b₀ : Stmt} {np pos pos' : Pos} {Wout : WX} {mb ms : Env → Res Ctl} {tab : Str → Option Bool}
end
end Mir

namespace Mir
open PySem PySem.Spec L2
/-! ### equations of methods that may raise -/
section
variable {κ : Str → Addr} {mo : Mir.Env → Res D} {ms : Mir.Env → Res (List D)} {env : Mir.Env}
@[simp] theorem e_mMethX {t : List (Str × (List D → Res D))} {m : Str} {kr : Nat} : mMethX κ t m kr mo ms env = (nx (mo env) >>= fun o => nx (ms env) >>= fun ds => gMeth κ t m kr o ds) := rfl
@[simp] theorem e_mLcX (mx : Mir.Env → Res D) (t : Nat → D → Mir.Env → Res Mir.Env) (mt : Mir.Env → Res Bool) (me : Mir.Env → Res D) (own : List Nat) : mLcX mx t mt me own env = (mx env >>= fun d => nx (mLc (fun _ => itemsL d) t mt me own env)) := rfl
end
end Mir

namespace Mir
open PySem PySem.Spec L2
/-! ### a shared thing put into an inner list -/
/-- what is put in may be shared -/
def mBinsE (j i : Nat) (mi : Env → Res D) (mp : Nat → Env → Res D) (mv : Env → Res D) (mr : Env → Res Ctl) : Env → Res Ctl := fun env => mi env >>= fun y => atL env j 2 >>= fun ds => match y with
  | .int n => (match ixN ds.length n with
    | some jj => (match ds[jj]? with
      | some (.lst es) => if i < env.length ∧ i ≠ j then
          mp ds.length ((env.set j none).set i (some (1, .lst es))) >>= fun z => mv ((env.set j none).set i (some (1, .lst es))) >>= fun d => (match z with
          | .int pz => if 0 ≤ pz ∧ pz < 2 ^ 62 ∧ es.length < sizeLine then mr ((env.set i none).set j (some (2, .lst (ds.set jj (.lst (es.take pz.toNat ++ [d] ++ es.drop pz.toNat)))))) else .bad
          | _ => .bad) else .bad
      | _ => .bad)
    | none => .bad)
  | _ => .bad
/-- an expression read while the list at slot j is lent: its length may be asked -/
def SBq (X : Cx) (j : Nat) (e : Expr) (m : Nat → Env → Res D) : Prop := ∀ (B : Bs) (q : Addr) (vs : List V) (H : Hp) (env : Env) (σ : St) (tm : List Hold) (d : D) (Q : VK), EnvOk (B.lent q (.lst vs)) H env σ tm → σ[j]? = some (some (.ref q)) → m vs.length env = .ok d → (∀ v H', Ext H H' → EnvOk (B.lent q (.lst vs)) H' env σ tm → Rp (view H') v d → Q v H') → wE X e σ H Q
section
variable {X : Cx} {a b e o : Expr} {m : Env → Res D} {ma mb : Nat → Env → Res D} {j : Nat} {pos p pos2 : Pos}
theorem sbq_of (h : SB X e m) : SBq X j e (fun _ => m) := fun B q vs H env σ tm d Q ok _ hm k => h _ H env σ tm d Q ok hm k
theorem sbq_op {op : Operator} {g : D → D → Res D} (ho : OpC X (binaryOp op) g) (ha : SBq X j a ma) (hb : SBq X j b mb) : SBq X j (.BinOp a op b pos) (fun n => mOp g (ma n) (mb n)) := fun B q vs H env σ tm d Q ok hj hm k => by
  obtain ⟨x, y, hx, hy, hg⟩ := two hm
  obtain ⟨r, hr, hq⟩ := ho
  refine wE_of (pe_op hr pe_sem pe_sem) (ha B q vs H env σ tm x _ ok hj hx fun v H1 x1 ok1 r1 => hb B q vs H1 env σ tm y _ ok1 hj hy fun u H2 x2 ok2 r2 => ?_)
  exact hq v u _ _ _ H2 Q (r1.mono (view_ext x2)) r2 hg fun z rz iz => k z H2 (x1.trans x2) ok2 rz
theorem sbq_len (hg : Gl X "len") (hm0 : X.mg "len" = none) (hx : PE X o (tVar j))
    (he : starEach [o] X.env = (false, eval o X.env) :: starEach [] X.env := by rfl) (hpl : (backTo pos2 (starEach [] X.env)).any (·.1) = false := by rfl) : SBq X j (.Call (.Name "len" p) [o] [] pos2) (fun n _ => .ok (.int n)) := fun B q vs H env σ tm d Q ok hj hm k => by
  cases hm
  have hHq : H q = some (.lst vs) := by
    obtain ⟨⟨G, fp, gd, _⟩, _⟩ := ok
    exact gd.bs q _ upd_same
  refine wE_of (pe_callB call_len hg hm0 PySem.boot_len (pa_cons hx pa_nil he) (by decide) (by decide) he hpl) ?_
  exact ⟨.ref q, hj, _, _, rfl, .inl ⟨vs, .inl (.inl hHq), rfl⟩, k _ H (Ext.refl _) ok (.int _)⟩
end
section
variable {X : Cx} {e ep o ix o2 : Expr} {mi mv : Env → Res D} {mp : Nat → Env → Res D} {kr : Nat} {pos p pos' pos2 spos apos cpos spos2 : Pos} {mr : Env → Res Ctl} {rest : List Stmt} {x : Str}
theorem ss_binsE {j i : Nat} (hN : X.N.Nodup) (hi0 : X.N[i]? = some x) (hxl : Loc X.env.scope x) (hx : PE X o (tVar j)) (hx2 : PE X o2 (tVar i)) (hi : SB X ix mi) (hix : PlainIx ix) (hp : SBq X j ep mp) (hv : SE X 0 [] e mv) (hr : SS X kr rest mr)
    (hs : swapsWith (.Subscript o ix pos2) (some (.Name x pos')) spos.line X.env = pure false := by rfl) (hf : X.fn x = true ∨ X.env.scope.names.lookup x = some .local := by first | exact .inl rfl | exact .inr rfl | assumption)
    (hbase : attributeBase o2 "insert" X.env (eval o2 X.env) = eval o2 X.env := by rfl)
    (hfew : ((backTo cpos (starEach [ep, e] X.env)).all (fun x => !x.1) && (backToKw cpos (keywordEach [] X.env)).all (fun x => x.1.isSome)
      && decide ([ep, e].length + ([] : List Keyword).length + (if ([] : List Keyword).isEmpty then 0 else 1) < 30)) = true := by rfl)
    (hline : (apos.endLine == cpos.line) = true := by rfl) (hst : starEach [ep, e] X.env = (false, eval ep X.env) :: starEach [e] X.env := by rfl) (hst2 : starEach [e] X.env = (false, eval e X.env) :: starEach [] X.env := by rfl) (hplain : (backTo cpos (starEach [e] X.env)).any (·.1) = false := by rfl)
    (hsw : swapsWith (.Call (.Attribute o2 "insert" apos) [ep, e] [] cpos) none spos2.line X.env = pure false := by rfl) :
    SS X kr (.Assign [.Name x pos'] (.Subscript o ix pos2) spos :: .Expr (.Call (.Attribute o2 "insert" apos) [ep, e] [] cpos) spos2 :: rest) (mBinsE j i mi mp mv mr) := fun B H env σ tm D r ok hm pp => by
  obtain ⟨y, hy, h2⟩ := bind_ok hm
  obtain ⟨ds, hds, h3⟩ := bind_ok h2
  have he1 := atL_ok hds
  split at h3
  · rename_i n
    split at h3
    · rename_i jj hjj
      split at h3
      · rename_i es hes
        split at h3
        · rename_i hil
          obtain ⟨hil, hij⟩ := hil
          obtain ⟨z, hz, h4⟩ := bind_ok h3
          obtain ⟨d, hd, h5⟩ := bind_ok h4
          split at h5
          · rename_i pz
            split at h5
            · rename_i hh
              obtain ⟨hp0, hp1, hel⟩ := hh
              refine wB_of (pss_cons (ps_set hN hi0 hxl (pe_ix ix_seq hx pe_sem hix) hs hf) (pss_cons (ps_expr (pe_bm F.plainAttrs_list F.slot_list_insert F.type_list_insert mt_insert hx2 (pa_cons pe_sem (pa_cons pe_sem pa_nil hst2) hst) hbase hfew hline hst hplain) hsw) pss_sem)) ?_
              obtain ⟨v, hv', rv⟩ := ok.slot he1
              refine ⟨v, hv', hi B H env σ _ _ _ ok hy fun u H2 x2 ok2 r2 => ?_⟩
              cases r2
              obtain ⟨q, hq, ok3⟩ := ok2.slotMu he1 rfl
              rw [hv'] at hq
              cases hq
              obtain ⟨vs, hL, hvl, hBq, ok4⟩ := ok3.lend
              have hjl := ixN_lt hjj
              have hjv : jj < vs.length := by omega
              refine .inl ⟨q, vs, n, vs[jj], rfl, rfl, .inl (.inl hL), ?_, ?_⟩
              · unfold atI
                rw [hvl, hjj]
                exact List.getElem?_eq_getElem hjv
              obtain ⟨l, l1, l2⟩ := lev_one (k := 0 + 1) hvl (List.getElem?_eq_getElem hjv) hes
              have ok5 : EnvOk (B.lent q (.lst vs)) H2 (env.set j none) σ ((vs[jj], 0 + 1, .lst es) :: (l ++ tm)) := ok4.perm (l1.append_right _)
              obtain ⟨a, ha⟩ := ok5.isRef rfl
              rw [ha] at ok5 ⊢
              have ok6 := ok5.store (i := i) (by simpa using hil)
              have hsi : (σ.set i (some (.ref a)))[i]? = some (some (.ref a)) := by
                have := ok2.len
                exact List.getElem?_set_self (by omega)
              have hsj : (σ.set i (some (.ref a)))[j]? = some (some (.ref q)) := by
                rw [List.getElem?_set_ne hij]; exact hv'
              have hei : ((env.set j none).set i (some (0 + 1, Mir.D.lst es)))[i]? = some (some (0 + 1, Mir.D.lst es)) := List.getElem?_set_self (by simpa using hil)
              obtain ⟨w0, hw0, rw0⟩ := ok6.slot hei
              rw [hsi] at hw0
              cases hw0
              refine ⟨.ref a, hsi, ?_⟩
              cases rw0 with
              | @lst _ ws0 _ hq0 ra0 =>
                refine ⟨.inl ⟨rfl, _, .inl (view_rd hq0)⟩, hp B q vs H2 _ _ (l ++ tm) _ _ ok6 hsj (by rw [hvl]; exact hz) fun u3 H3 x3 ok7 r7 => hv _ H3 _ _ (l ++ tm) _ _ ok7 hd fun w H4 x4 ok8 => ?_⟩
                cases r7
                obtain ⟨a2, ha2, ok9⟩ := ok8.slotMu hei rfl
                rw [hsi] at ha2
                cases ha2
                obtain ⟨ws, hA, hwl, ok10⟩ := ok9.takeLst
                refine ⟨a, ws, pz, w, rfl, rfl, hA, by omega, hp0, by omega, ?_⟩
                have pm : (lev 0 (ws.take pz.toNat ++ [w] ++ ws.drop pz.toNat) (es.take pz.toNat ++ [d] ++ es.drop pz.toNat)).Perm ((w, 0, d) :: lev 0 ws es) := by
                  have ht : (ws.take pz.toNat).length = (es.take pz.toNat).length := by simp [hwl]
                  rw [lev_append _ _ (by simp [hwl]), lev_append _ _ ht]
                  show (lev 0 (ws.take pz.toNat) (es.take pz.toNat) ++ [(w, 0, d)] ++ lev 0 (ws.drop pz.toNat) (es.drop pz.toNat)).Perm _
                  have e0 : lev 0 ws es = lev 0 (ws.take pz.toNat) (es.take pz.toNat) ++ lev 0 (ws.drop pz.toNat) (es.drop pz.toNat) := by
                    rw [← lev_append _ _ ht, List.take_append_drop, List.take_append_drop]
                  rw [e0, List.append_assoc]
                  exact List.perm_middle
                have ok12 := (ok10.perm (List.perm_middle.trans (pm.symm.append_right _))).newLst (p := a) (by simp [hwl]) del_self
                rw [upd_del] at ok12
                have ok13 := ok12.perm ((l2 (.ref a) (.lst (es.take pz.toNat ++ [d] ++ es.drop pz.toNat))).symm.append_right tm)
                have evs : vs.set jj (.ref a) = vs := by rw [← ha]; exact List.set_getElem_self hjv
                rw [evs] at ok13
                obtain ⟨_, ok14⟩ := ok13.unlend hBq (by simp [hvl])
                have e3 : ((env.set j none).set i (some (0 + 1, Mir.D.lst es))).set i none = (env.set i none).set j none := by
                  rw [List.set_set, List.set_comm _ _ hij]
                have ok14' := ok14
                change EnvOk B _ (((env.set j none).set i (some (0 + 1, Mir.D.lst es))).set i none) _ _ at ok14'
                rw [e3] at ok14'
                have hj3 : (env.set i none)[j]? = some (some (0 + 2, .lst ds)) := by rw [List.getElem?_set_ne hij]; exact he1
                exact hr B _ _ _ tm D r (ok14'.putBack hj3 hsj) h5 pp
            · cases h5
          · cases h5
        · cases h3
      · cases h3
    · cases h3
  · cases h3
end
end Mir
namespace L_k27
open PySem PySem.Spec L2 Mir
/-- _law_drawing:0, _law_behind:1, _law_row:2, _law_k:3, _law_other:4 -/
def m__law_next : Mir.Env → Res Ctl :=
  (mSeq (mSet 1 1 [] (mC (.dt [] []))) (mSeq (mFor (fun env => (mVarK 0 0) env >>= itemsL) (tName 2) (mFor (fun env => (mUn gLen (mVar 2)) env >>= gRng1) (tName 3) (mSeq (mSet 4 0 [] (mImm (mOp gIx (mVar 2) (mOp gMod (mOp gAdd (mVar 3) (mC (.int 1))) (mUn gLen (mVar 2)))))) (mDput 1 [] (mImm (mTup (mConsE (mImm (mOp gIx (mVar 4) (mC (.int 0)))) [] (mConsE (mImm (mOp gIx (mVar 4) (mC (.int 1)))) [] mNilA)))) (mImm (mTup (mConsE (mImm (mOp gIx (mOp gIx (mVar 2) (mVar 3)) (mC (.int 0)))) [] (mConsE (mImm (mOp gIx (mOp gIx (mVar 2) (mVar 3)) (mC (.int 1)))) [] mNilA)))))) [3, 4]) [2, 3, 4]) (mRet (mVarK 1 1))))
def F__law_next : List D → Res D := runD 5 m__law_next
/-- _law_drawing:0, _law_hands_here:1, _law_row:2, _law_passing:3 -/
def m__law_hands : Mir.Env → Res Ctl :=
  (mSeq (mSet 1 1 [] (mC (.dk [] []))) (mSeq (mFor (fun env => (mVarK 0 0) env >>= itemsL) (tName 2) (mFor (fun env => (mVarK 2 0) env >>= itemsL) (tName 3) (mDput 1 [] (mImm (mOp gIx (mVar 3) (mC (.int 2)))) (mOp gIx (mVar 3) (mC (.int 0)))) [3]) [2, 3]) (mRet (mVarK 1 1))))
def F__law_hands : List D → Res D := runD 4 m__law_hands
/-- _law_behind:0, _law_one:1, _law_other:2 -/
def m__law_beside : Mir.Env → Res Ctl :=
  (mRet (mOrV (mOp gEq (mOp gDGet (mVar 0) (mVar 1)) (mVar 2)) (mOp gEq (mOp gDGet (mVar 0) (mVar 2)) (mVar 1))))
def F__law_beside : List D → Res D := runD 3 m__law_beside
/-- _law_behind:0, _law_hands_here:1, _law_told:2, _law_a:3, _law_b:4 -/
def m__law_parts : Mir.Env → Res Ctl :=
  (mSeq (mAsg (tTupT 2 (tCons (tName 3) (tCons (tName 4) tNil))) 0 [] (fun env => (mVar 2) env >>= itemsT >>= fun ds => (fun env => (mC (.int 1)) env >>= toI >>= fun i => .ok (some i)) env >>= fun lo => (fun _ => .ok none) env >>= fun hi => gCutT ds lo hi)) (mSeq (mIf (mOrB (mTb (mOp gEq (mVar 3) (mVar 4))) (mOrB (mTb (mOp gEq (mOp gDGet (mVar 1) (mVar 3)) (mOp gDGet (mVar 1) (mVar 4)))) (mNotB (mTb (mCall 0 F__law_beside (mConsA (mVar 0) (mConsA (mImm (mTup (mConsE (mImm (mVar 3)) [] (mConsE (mC (.int 0)) [] mNilA)))) (mConsA (mImm (mTup (mConsE (mImm (mVar 4)) [] (mConsE (mC (.int 0)) [] mNilA)))) mNilA)))))))) (mRet (mC (.bl false))) mSkip) (mRet (mCall 0 F__law_beside (mConsA (mVar 0) (mConsA (mImm (mTup (mConsE (mImm (mVar 3)) [] (mConsE (mC (.int 1)) [] mNilA)))) (mConsA (mImm (mTup (mConsE (mImm (mVar 4)) [] (mConsE (mC (.int 1)) [] mNilA)))) mNilA)))))))
def F__law_parts : List D → Res D := runD 5 m__law_parts
/-- _law_behind:0, _law_hands_here:1, _law_found:2, _law_a:3, _law_b:4 -/
def m__law_pairs_of : Mir.Env → Res Ctl :=
  (mSeq (mSet 2 1 [] (mLst mNilA)) (mSeq (mFor (fun env => (fun env => (mVar 1) env >>= gSortD) env >>= itemsL) (tName 3) (mFor (fun env => (fun env => (mVar 1) env >>= gSortD) env >>= itemsL) (tName 4) (mIf (mAndB (mTb (mOp gLt (mVar 3) (mVar 4))) (mTb (mCall 0 F__law_parts (mConsA (mVar 0) (mConsA (mVar 1) (mConsA (mImm (mTup (mConsE (mC (.str "part")) [] (mConsE (mImm (mVar 3)) [] (mConsE (mImm (mVar 4)) [] mNilA))))) mNilA)))))) (mAppend 2 0 [] (mImm (mTup (mConsE (mC (.str "part")) [] (mConsE (mImm (mVar 3)) [] (mConsE (mImm (mVar 4)) [] mNilA)))))) mSkip) [4]) [3, 4]) (mRet (mVarK 2 1))))
def F__law_pairs_of : List D → Res D := runD 5 m__law_pairs_of
/-- _law_a:0, _law_b:1, _law_c:2 -/
def m__law_pairs : Mir.Env → Res Ctl :=
  (mRet (mLst (mConsE (mImm (mTup (mConsE (mImm (mTup (mConsE (mImm (mVar 0)) [] (mConsE (mC (.int 0)) [] mNilA)))) [] (mConsE (mImm (mTup (mConsE (mImm (mVar 1)) [] (mConsE (mC (.int 0)) [] mNilA)))) [] mNilA)))) [] (mConsE (mImm (mTup (mConsE (mImm (mTup (mConsE (mImm (mVar 0)) [] (mConsE (mC (.int 1)) [] mNilA)))) [] (mConsE (mImm (mTup (mConsE (mImm (mVar 2)) [] (mConsE (mC (.int 0)) [] mNilA)))) [] mNilA)))) [] (mConsE (mImm (mTup (mConsE (mImm (mTup (mConsE (mImm (mVar 1)) [] (mConsE (mC (.int 1)) [] mNilA)))) [] (mConsE (mImm (mTup (mConsE (mImm (mVar 2)) [] (mConsE (mC (.int 1)) [] mNilA)))) [] mNilA)))) [] mNilA)))))
def F__law_pairs : List D → Res D := runD 3 m__law_pairs
/-- _law_behind:0, _law_hands_here:1, _law_told:2, _law_a:3, _law_b:4, _law_c:5, _law_t:6, _law_pairs_here:7, _law_turns:8, _law_k:9, _law_one:10, _law_other:11 -/
def m__law_slides : Mir.Env → Res Ctl :=
  (mSeq (mAsg (tTupT 4 (tCons (tName 3) (tCons (tName 4) (tCons (tName 5) (tCons (tName 6) tNil))))) 0 [] (fun env => (mVar 2) env >>= itemsT >>= fun ds => (fun env => (mC (.int 1)) env >>= toI >>= fun i => .ok (some i)) env >>= fun lo => (fun _ => .ok none) env >>= fun hi => gCutT ds lo hi)) (mSeq (mIf (mOrB (mTb (mOp gEq (mVar 3) (mVar 4))) (mOrB (mTb (mOp gEq (mVar 3) (mVar 5))) (mTb (mOp gEq (mVar 4) (mVar 5))))) (mRet (mC (.bl false))) mSkip) (mSeq (mSet 7 1 [] (mCall 1 F__law_pairs (mConsA (mVar 3) (mConsA (mVar 4) (mConsA (mVar 5) mNilA))))) (mSeq (mSet 8 1 [] (mLst (mConsE (mImm (mVar 6)) [] (mConsE (mOp gMul (mOp gMul (mVar 6) (mOp gDGet (mVar 1) (mVar 4))) (mOp gDGet (mVar 1) (mVar 5))) [] (mConsE (mOp gMul (mOp gMul (mVar 6) (mOp gDGet (mVar 1) (mVar 3))) (mOp gDGet (mVar 1) (mVar 5))) [] mNilA))))) (mSeq (mFor (fun env => (mC (.int 3)) env >>= gRng1) (tName 9) (mSeq (mAsg (tTupT 2 (tCons (tName 10) (tCons (tName 11) tNil))) 0 [] (mImm (mOp gIx (mVar 7) (mVar 9)))) (mIf (mOrB (mAndB (mTb (mOp gEq (mOp gIx (mVar 8) (mVar 9)) (mC (.int 1)))) (mTb (mOp gNe (mOp gDGet (mVar 0) (mVar 10)) (mVar 11)))) (mAndB (mTb (mOp gEq (mOp gIx (mVar 8) (mVar 9)) (mUn gNeg (mC (.int 1))))) (mTb (mOp gNe (mOp gDGet (mVar 0) (mVar 11)) (mVar 10))))) (mRet (mC (.bl false))) mSkip)) [9, 10, 11]) (mRet (mC (.bl true))))))))
def F__law_slides : List D → Res D := runD 12 m__law_slides
/-- _law_behind:0, _law_hands_here:1, _law_found:2, _law_a:3, _law_b:4, _law_c:5, _law_t:6 -/
def m__law_slides_of : Mir.Env → Res Ctl :=
  (mSeq (mSet 2 1 [] (mLst mNilA)) (mSeq (mFor (fun env => (fun env => (mVar 1) env >>= gSortD) env >>= itemsL) (tName 3) (mFor (fun env => (fun env => (mVar 1) env >>= gSortD) env >>= itemsL) (tName 4) (mIf (mTb (mCall 0 F__law_beside (mConsA (mVar 0) (mConsA (mImm (mTup (mConsE (mImm (mVar 3)) [] (mConsE (mC (.int 0)) [] mNilA)))) (mConsA (mImm (mTup (mConsE (mImm (mVar 4)) [] (mConsE (mC (.int 0)) [] mNilA)))) mNilA))))) (mFor (fun env => (fun env => (mVar 1) env >>= gSortD) env >>= itemsL) (tName 5) (mFor (fun env => (mLst (mConsE (mUn gNeg (mC (.int 1))) [] (mConsE (mC (.int 1)) [] mNilA))) env >>= itemsL) (tName 6) (mIf (mTb (mCall 0 F__law_slides (mConsA (mVar 0) (mConsA (mVar 1) (mConsA (mImm (mTup (mConsE (mC (.str "slide")) [] (mConsE (mImm (mVar 3)) [] (mConsE (mImm (mVar 4)) [] (mConsE (mImm (mVar 5)) [] (mConsE (mImm (mVar 6)) [] mNilA))))))) mNilA))))) (mAppend 2 0 [] (mImm (mTup (mConsE (mC (.str "slide")) [] (mConsE (mImm (mVar 3)) [] (mConsE (mImm (mVar 4)) [] (mConsE (mImm (mVar 5)) [] (mConsE (mImm (mVar 6)) [] mNilA)))))))) mSkip) [6]) [5, 6]) mSkip) [4, 5, 6]) [3, 4, 5, 6]) (mRet (mVarK 2 1))))
def F__law_slides_of : List D → Res D := runD 7 m__law_slides_of
/-- _law_drawing:0, _law_behind:1, _law_hands_here:2, _law_found:3, _law_name:4 -/
def m__law_lessening : Mir.Env → Res Ctl :=
  (mSeq (mSet 1 1 [] (mCall 1 F__law_next (mConsA (mVar 0) mNilA))) (mSeq (mSet 2 1 [] (mCall 1 F__law_hands (mConsA (mVar 0) mNilA))) (mSeq (mSet 3 1 [] (mCat (fun env => (mCall 1 F__law_pairs_of (mConsA (mVar 1) (mConsA (mVar 2) mNilA))) env >>= fun d => itemsL d >>= immL) (fun env => (mCall 1 F__law_slides_of (mConsA (mVar 1) (mConsA (mVar 2) mNilA))) env >>= fun d => itemsL d >>= immL))) (mSeq (mFor (fun env => (fun env => (mVar 2) env >>= gSortD) env >>= itemsL) (tName 4) (mIf (mTb (mCall 0 F__law_beside (mConsA (mVar 1) (mConsA (mImm (mTup (mConsE (mImm (mVar 4)) [] (mConsE (mC (.int 0)) [] mNilA)))) (mConsA (mImm (mTup (mConsE (mImm (mVar 4)) [] (mConsE (mC (.int 1)) [] mNilA)))) mNilA))))) (mAppend 3 0 [] (mImm (mTup (mConsE (mC (.str "uncurl")) [] (mConsE (mImm (mVar 4)) [] mNilA))))) mSkip) [4]) (mRet (mVarK 3 1))))))
def F__law_lessening : List D → Res D := runD 5 m__law_lessening
/-- _law_names_here:0, _law_number:1, _law_name:2 -/
def m__law_free : Mir.Env → Res Ctl :=
  (mSeq (mSet 2 0 [] (mOp gAdd (mC (.int 1)) (mOp gMod (mVar 1) (mC (.int 999))))) (mSeq (fun env => wloop (mTb (mOp gIn (mVar 2) (mVar 0))) (mSet 2 0 [] (mOp gAdd (mC (.int 1)) (mOp gMod (mVar 2) (mC (.int 999))))) [] 4096 env) (mRet (mImm (mVar 2)))))
def F__law_free : List D → Res D := runD 3 m__law_free
/-- _law_cell:0 -/
def m__law_mixed : Mir.Env → Res Ctl :=
  (mRet (mOp gMod (mOp gMul (mOp gMod (mVar 0) (mC (.int 1000003))) (mC (.int 48271))) (mC (.int 1000003))))
def F__law_mixed : List D → Res D := runD 1 m__law_mixed
/-- _law_drawing:0, _law_names_here:1, _law_row:2, _law_passing:3 -/
def m__law_names : Mir.Env → Res Ctl :=
  (mSeq (mSet 1 1 [] (mLst mNilA)) (mSeq (mFor (fun env => (mVarK 0 0) env >>= itemsL) (tName 2) (mFor (fun env => (mVarK 2 0) env >>= itemsL) (tName 3) (mIf (mTb (mOp gEq (mOp gIx (mVar 3) (mC (.int 1))) (mC (.int 0)))) (mAppend 1 0 [] (mImm (mOp gIx (mVar 3) (mC (.int 0))))) mSkip) [3]) [2, 3]) (mRet (mVarK 1 1))))
def F__law_names : List D → Res D := runD 4 m__law_names
/-- _law_drawing:0, _law_cell:1, _law_name:2, _law_rest:3, _law_hand:4, _law_made:5, _law_way:6, _law_row:7 -/
def m__law_crossed : Mir.Env → Res Ctl :=
  (mSeq (mSet 2 0 [] (mCall 0 F__law_free (mConsA (mCall 1 F__law_names (mConsA (mVar 0) mNilA)) (mConsA (mVar 1) mNilA)))) (mSeq (mSet 3 0 [] (mCall 0 F__law_mixed (mConsA (mVar 1) mNilA))) (mSeq (mSet 4 0 [] (mOp gSub (mC (.int 1)) (mOp gMul (mC (.int 2)) (mOp gMod (mVar 3) (mC (.int 2)))))) (mSeq (mSet 3 0 [] (mOp gFdv (mVar 3) (mC (.int 2)))) (mSeq (mSet 5 2 [] (mLc (fun env => (mVarK 0 0) env >>= itemsL) (tName 7) (fun _ => .ok true) (fun env => (fun env => (mVar 7) env >>= fun d => itemsL d >>= immL) env >>= fun ds => .ok (.lst ds)) [7])) (mSeq (mFor (fun env => (mC (.int 2)) env >>= gRng1) (tName 6) (mAlias 5 7 0 (mOp gMod (mVar 3) (mUn gLen (mVar 5))) (mMidL 5 3 gFdv (mVar 3) (mMid 5 (mN (mInsert 7 0 (mOp gMod (mVar 3) (mOp gAdd (mUn gLen (mVar 7)) (mC (.int 1)))) (mImm (mTup (mConsE (mImm (mVar 2)) [] (mConsE (mImm (mVar 6)) [] (mConsE (mImm (mVar 4)) [] mNilA))))))) (mMid 5 (mSet 3 0 [] (mN (mOp gFdv (mVar 3) (mUn gLen (mVar 7))))) (mEnd 5 7 0 (mN mSkip)))))) [6, 7]) (mRet (mVarK 5 2))))))))
def F__law_crossed : List D → Res D := runD 8 m__law_crossed
/-- _law_script:0, _law_k:1 -/
def m__law_cell_at : Mir.Env → Res Ctl :=
  (mSeq (mIf (mTb (mOp gLt (mVar 1) (mUn gLen (mVar 0)))) (mRet (mImm (mOp gIx (mVar 0) (mVar 1)))) mSkip) (mRet (mC (.int 0))))
def F__law_cell_at : List D → Res D := runD 2 m__law_cell_at
/-- _law_rows:0, _law_cell:1, _law_block_here:2, _law_rest:3, _law_made:4, _law_row:5 -/
def m__law_block : Mir.Env → Res Ctl :=
  (mSeq (mSet 3 0 [] (mCall 0 F__law_mixed (mConsA (mVar 1) mNilA))) (mSeq (mSet 4 2 [] (mLc (fun env => (mVarK 0 0) env >>= itemsL) (tName 5) (fun _ => .ok true) (fun env => (fun env => (mVarK 5 0) env >>= itemsL) env >>= fun ds => .ok (.lst ds)) [5])) (mBinsE 4 5 (mOp gMod (mVar 3) (mUn gLen (mVar 4))) (fun n => mOp gMod ((fun n => mOp gFdv ((fun _ => (mVar 3)) n) ((fun n _ => .ok (.int n)) n)) n) ((fun _ => (mOp gAdd (mUn gLen (mVar 5)) (mC (.int 1)))) n)) (mVarK 2 0) (mFz 4 (mRet (mVarK 4 0))))))
def F__law_block : List D → Res D := runD 6 m__law_block
/-- _law_drawing:0, _law_names_here:1, _law_bits:2, _law_cells:3, _law_a:4, _law_b:5, _law_c:6, _law_t:7, _law_hands_here:8, _law_blocks:9, _law_turns:10, _law_rows:11, _law_row:12, _law_k:13, _law_block_here:14, _law_made:15, _law_passings:16, _law_passing:17 -/
def m__law_three : Mir.Env → Res Ctl :=
  (mSeq (mAsg (tTupL 3 (tCons (tName 4) (tCons (tName 5) (tCons (tName 6) tNil)))) 0 [] (mVarK 1 0)) (mSeq (mSet 7 0 [] (mOp gSub (mC (.int 1)) (mOp gMul (mC (.int 2)) (mOp gMod (mVar 2) (mC (.int 2)))))) (mSeq (mSet 8 1 [] (mLst (mConsE (mOp gSub (mC (.int 1)) (mOp gMul (mC (.int 2)) (mOp gMod (mOp gFdv (mVar 2) (mC (.int 2))) (mC (.int 2))))) [] (mConsE (mOp gSub (mC (.int 1)) (mOp gMul (mC (.int 2)) (mOp gMod (mOp gFdv (mVar 2) (mC (.int 4))) (mC (.int 2))))) [] (mConsE (mOp gSub (mC (.int 1)) (mOp gMul (mC (.int 2)) (mOp gMod (mOp gFdv (mVar 2) (mC (.int 8))) (mC (.int 2))))) [] mNilA))))) (mSeq (mSet 9 2 [] (mLst (mConsE (mLst (mConsE (mImm (mTup (mConsE (mImm (mVar 4)) [] (mConsE (mC (.int 0)) [] (mConsE (mImm (mOp gIx (mVar 8) (mC (.int 0)))) [] mNilA))))) [] (mConsE (mImm (mTup (mConsE (mImm (mVar 5)) [] (mConsE (mC (.int 0)) [] (mConsE (mImm (mOp gIx (mVar 8) (mC (.int 1)))) [] mNilA))))) [] mNilA))) [] (mConsE (mLst (mConsE (mImm (mTup (mConsE (mImm (mVar 4)) [] (mConsE (mC (.int 1)) [] (mConsE (mImm (mOp gIx (mVar 8) (mC (.int 0)))) [] mNilA))))) [] (mConsE (mImm (mTup (mConsE (mImm (mVar 6)) [] (mConsE (mC (.int 0)) [] (mConsE (mImm (mOp gIx (mVar 8) (mC (.int 2)))) [] mNilA))))) [] mNilA))) [] mNilA)))) (mSeq (mAppend 9 1 [] (mLst (mConsE (mImm (mTup (mConsE (mImm (mVar 5)) [] (mConsE (mC (.int 1)) [] (mConsE (mImm (mOp gIx (mVar 8) (mC (.int 1)))) [] mNilA))))) [] (mConsE (mImm (mTup (mConsE (mImm (mVar 6)) [] (mConsE (mC (.int 1)) [] (mConsE (mImm (mOp gIx (mVar 8) (mC (.int 2)))) [] mNilA))))) [] mNilA)))) (mSeq (mSet 10 1 [] (mLst (mConsE (mImm (mVar 7)) [] (mConsE (mOp gMul (mOp gMul (mVar 7) (mOp gIx (mVar 8) (mC (.int 1)))) (mOp gIx (mVar 8) (mC (.int 2)))) [] (mConsE (mOp gMul (mOp gMul (mVar 7) (mOp gIx (mVar 8) (mC (.int 0)))) (mOp gIx (mVar 8) (mC (.int 2)))) [] mNilA))))) (mSeq (mSet 11 3 [] (mLst mNilA)) (mSeq (mFor (fun env => (mVarK 0 0) env >>= itemsL) (tName 12) (mAppend 11 2 [] (mLc (fun env => (mVarK 12 0) env >>= itemsL) (tName 17) (fun _ => .ok true) (mLst (mConsE (mImm (mVar 17)) [] mNilA)) [17])) [12, 17]) (mSeq (mFz 9 (mFz 11 (mFor (fun env => (mC (.int 3)) env >>= gRng1) (tName 13) (mSeq (mSet 14 0 [] (mOp gIx (mVarK 9 0) (mVar 13))) (mSeq (mIf (mTb (mOp gEq (mOp gIx (mVar 10) (mVar 13)) (mUn gNeg (mC (.int 1))))) (mSeq (mSet 14 1 [] (mLst (mConsE (mImm (mOp gIx (mVar 14) (mC (.int 1)))) [] (mConsE (mImm (mOp gIx (mVar 14) (mC (.int 0)))) [] mNilA)))) (mFz 14 mSkip)) mSkip) (mSeq (mIf (mTb (mOp gEq (mOp gAdd (mVar 13) (mC (.int 1))) (mOp gMod (mOp gFdv (mVar 2) (mC (.int 16))) (mC (.int 6))))) (mSeq (mSet 14 1 [] (mLst (mConsE (mImm (mOp gIx (mVar 14) (mC (.int 1)))) [] (mConsE (mImm (mOp gIx (mVar 14) (mC (.int 0)))) [] mNilA)))) (mFz 14 mSkip)) mSkip) (mSet 11 0 [] (mCall0 F__law_block (mConsE (mVarK 11 0) [] (mConsE (mImm (mOp gIx (mVar 3) (mVar 13))) [] (mConsE (mVarK 14 0) [] mNilA)))))))) [13, 14]))) (mSeq (mSet 15 2 [] (mLst mNilA)) (mSeq (mFor (fun env => (mVarK 11 0) env >>= itemsL) (tName 12) (mSeq (mSet 16 1 [] (mLst mNilA)) (mSeq (mFor (fun env => (mVarK 12 0) env >>= itemsL) (tName 14) (mSet 16 1 [] (mCat (fun env => (mVar 16) env >>= fun d => itemsL d >>= immL) (fun env => (mVar 14) env >>= fun d => itemsL d >>= immL))) [14]) (mAppend 15 1 [16] (mVarK 16 1)))) [12, 14, 16]) (mRet (mVarK 15 2)))))))))))))
def F__law_three : List D → Res D := runD 18 m__law_three
/-- _law_drawing:0, _law_spots_here:1, _law_k:2, _law_passing:3 -/
def m__law_spots : Mir.Env → Res Ctl :=
  (mSeq (mSet 1 1 [] (mLst mNilA)) (mSeq (mFor (fun env => (mUn gLen (mVar 0)) env >>= gRng1) (tName 2) (mSeq (mIf (mNotB (fun env => (mOp gIx (mVar 0) (mVar 2)) env >>= gTru)) (mAppend 1 0 [] (mImm (mTup (mConsE (mImm (mVar 2)) [] (mConsE (mC (.int 2)) [] mNilA))))) mSkip) (mFor (fun env => (mOp gIx (mVarK 0 0) (mVar 2)) env >>= itemsL) (tName 3) (mAppend 1 0 [] (mImm (mTup (mConsE (mImm (mOp gIx (mVar 3) (mC (.int 0)))) [] (mConsE (mImm (mOp gIx (mVar 3) (mC (.int 1)))) [] mNilA))))) [3])) [2, 3]) (mRet (mVarK 1 1))))
def F__law_spots : List D → Res D := runD 4 m__law_spots
/-- _law_drawing:0, _law_spot:1, _law_passings:2, _law_made:3, _law_k:4, _law_row:5, _law_passing:6 -/
def m__law_put : Mir.Env → Res Ctl :=
  (mSeq (mSet 3 2 [] (mLst mNilA)) (mSeq (mFor (fun env => (mUn gLen (mVar 0)) env >>= gRng1) (tName 4) (mSeq (mSet 5 1 [] (mLst mNilA)) (mSeq (mIf (mTb (mOp gEq (mVar 1) (mImm (mTup (mConsE (mImm (mVar 4)) [] (mConsE (mC (.int 2)) [] mNilA)))))) (mSet 5 1 [] (fun env => (fun env => (mVar 2) env >>= fun d => itemsL d >>= immL) env >>= fun ds => .ok (.lst ds))) mSkip) (mSeq (mFor (fun env => (mOp gIx (mVarK 0 0) (mVar 4)) env >>= itemsL) (tName 6) (mSeq (mAppend 5 0 [] (mImm (mVar 6))) (mIf (mTb (mOp gEq (mVar 1) (mImm (mTup (mConsE (mImm (mOp gIx (mVar 6) (mC (.int 0)))) [] (mConsE (mImm (mOp gIx (mVar 6) (mC (.int 1)))) [] mNilA)))))) (mSet 5 1 [] (mCat (fun env => (mVar 5) env >>= fun d => itemsL d >>= immL) (fun env => (mVar 2) env >>= fun d => itemsL d >>= immL))) mSkip)) [6]) (mAppend 3 1 [5] (mVarK 5 1))))) [4, 5, 6]) (mRet (mVarK 3 2))))
def F__law_put : List D → Res D := runD 7 m__law_put
/-- _law_drawing:0, _law_cell:1, _law_names_here:2, _law_one:3, _law_two:4, _law_rest:5, _law_hand:6, _law_spots_here:7, _law_made:8, _law_unders:9, _law_spot:10 -/
def m__law_with_lay : Mir.Env → Res Ctl :=
  (mSeq (mSet 2 1 [] (mCall 1 F__law_names (mConsA (mVar 0) mNilA))) (mSeq (mSet 3 0 [] (mCall 0 F__law_free (mConsA (mVar 2) (mConsA (mVar 1) mNilA)))) (mSeq (mSet 4 0 [] (mCall 0 F__law_free (mConsA (mCat (fun env => (mVar 2) env >>= fun d => itemsL d >>= immL) (fun env => (mLst (mConsA (mVar 3) mNilA)) env >>= fun d => itemsL d >>= immL)) (mConsA (mOp gFdv (mVar 1) (mC (.int 999))) mNilA)))) (mSeq (mSet 5 0 [] (mCall 0 F__law_mixed (mConsA (mVar 1) mNilA))) (mSeq (mSet 6 0 [] (mOp gSub (mC (.int 1)) (mOp gMul (mC (.int 2)) (mOp gMod (mVar 5) (mC (.int 2)))))) (mSeq (mSet 7 1 [] (mCall 1 F__law_spots (mConsA (mVar 0) mNilA))) (mSeq (mSet 8 2 [] (mCall 2 F__law_put (mConsA (mVar 0) (mConsA (mOp gIx (mVar 7) (mOp gMod (mOp gFdv (mVar 5) (mC (.int 4))) (mUn gLen (mVar 7)))) (mConsA (mLst (mConsA (mImm (mTup (mConsE (mImm (mVar 3)) [] (mConsE (mC (.int 0)) [] (mConsE (mImm (mVar 6)) [] mNilA))))) (mConsA (mImm (mTup (mConsE (mImm (mVar 4)) [] (mConsE (mC (.int 0)) [] (mConsE (mUn gNeg (mVar 6)) [] mNilA))))) mNilA))) mNilA))))) (mSeq (mSet 9 1 [] (mLst (mConsE (mImm (mTup (mConsE (mImm (mVar 3)) [] (mConsE (mC (.int 1)) [] (mConsE (mImm (mVar 6)) [] mNilA))))) [] (mConsE (mImm (mTup (mConsE (mImm (mVar 4)) [] (mConsE (mC (.int 1)) [] (mConsE (mUn gNeg (mVar 6)) [] mNilA))))) [] mNilA)))) (mSeq (mIf (mTb (mOp gEq (mOp gMod (mOp gFdv (mVar 5) (mC (.int 2))) (mC (.int 2))) (mC (.int 1)))) (mSet 9 1 [] (mLst (mConsE (mImm (mOp gIx (mVar 9) (mC (.int 1)))) [] (mConsE (mImm (mOp gIx (mVar 9) (mC (.int 0)))) [] mNilA)))) mSkip) (mSeq (mSet 7 1 [] (mLc (fun env => (mCall 1 F__law_spots (mConsA (mVar 8) mNilA)) env >>= itemsL) (tName 10) (mTb (mOp gNe (mVar 10) (mImm (mTup (mConsE (mImm (mVar 3)) [] (mConsE (mC (.int 0)) [] mNilA)))))) (mImm (mVar 10)) [10])) (mRet (mCall 2 F__law_put (mConsA (mVar 8) (mConsA (mOp gIx (mVar 7) (mOp gMod (mOp gFdv (mOp gFdv (mVar 5) (mC (.int 4))) (mC (.int 11))) (mUn gLen (mVar 7)))) (mConsA (mVar 9) mNilA)))))))))))))))
def F__law_with_lay : List D → Res D := runD 11 m__law_with_lay
/-- _law_found:0 -/
def m__law_whole : Mir.Env → Res Ctl :=
  (mRet (mAndV (mIsi .int (mVar 0)) (mNotV (mIsi .bool (mVar 0)))))
def F__law_whole : List D → Res D := runD 1 m__law_whole
/-- _law_found:0, _law_due:1, _law_part:2 -/
def m__law_wholes : Mir.Env → Res Ctl :=
  (mSeq (mIf (mOrB (mNotB (mTb (mIsi .tuple (mVar 0)))) (mTb (mOp gNe (mUn gLen (mVar 0)) (mUn gLen (mVar 1))))) (mRet (mC (.bl false))) mSkip) (mSeq (mFor (fun env => (mImm (mVar 0)) env >>= itemsT) (tName 2) (mIf (mNotB (mTb (mCall 0 F__law_whole (mConsA (mVar 2) mNilA)))) (mRet (mC (.bl false))) mSkip) [2]) (mRet (mOp gEq (mVar 0) (mVar 1)))))
def F__law_wholes : List D → Res D := runD 3 m__law_wholes
/-- _law_found:0, _law_due:1, _law_k:2 -/
def m__law_tells : Mir.Env → Res Ctl :=
  (mSeq (mIf (mOrB (mNotB (mTb (mIsi .tuple (mVar 0)))) (mTb (mOp gNe (mUn gLen (mVar 0)) (mUn gLen (mVar 1))))) (mRet (mC (.bl false))) mSkip) (mSeq (mIf (mOrB (mNotB (mTb (mIsi .str (mOp gIx (mVar 0) (mC (.int 0)))))) (mTb (mOp gNe (mOp gIx (mVar 0) (mC (.int 0))) (mOp gIx (mVar 1) (mC (.int 0)))))) (mRet (mC (.bl false))) mSkip) (mSeq (mFor (fun env => (mC (.int 1)) env >>= fun x => (mUn gLen (mVar 1)) env >>= fun y => gRng2 x y) (tName 2) (mIf (mTb (mIsi .tuple (mOp gIx (mVar 1) (mVar 2)))) (mIf (mNotB (mTb (mCall 0 F__law_wholes (mConsA (mOp gIx (mVar 0) (mVar 2)) (mConsA (mOp gIx (mVar 1) (mVar 2)) mNilA))))) (mRet (mC (.bl false))) mSkip) (mIf (mOrB (mNotB (mTb (mCall 0 F__law_whole (mConsA (mOp gIx (mVar 0) (mVar 2)) mNilA)))) (mTb (mOp gNe (mOp gIx (mVar 0) (mVar 2)) (mOp gIx (mVar 1) (mVar 2))))) (mRet (mC (.bl false))) mSkip)) [2]) (mRet (mC (.bl true))))))
def F__law_tells : List D → Res D := runD 3 m__law_tells
/-- _law_found:0, _law_due:1, _law_k:2 -/
def m__law_listed : Mir.Env → Res Ctl :=
  (mSeq (mIf (mOrB (mNotB (mTb (mIsi .list (mVar 0)))) (mTb (mOp gNe (mUn gLen (mVar 0)) (mUn gLen (mVar 1))))) (mRet (mC (.bl false))) mSkip) (mSeq (mFor (fun env => (mUn gLen (mVar 1)) env >>= gRng1) (tName 2) (mIf (mNotB (mTb (mCall 0 F__law_tells (mConsA (mOp gIx (mVar 0) (mVar 2)) (mConsA (mOp gIx (mVar 1) (mVar 2)) mNilA))))) (mRet (mC (.bl false))) mSkip) [2]) (mRet (mC (.bl true)))))
def F__law_listed : List D → Res D := runD 3 m__law_listed
/-- row:0, at:1 -/
def m_seated : Mir.Env → Res Ctl :=
  (mSeq (mIf (mNotB (fun env => (mVar 0) env >>= gTru)) (mRet (mLst mNilA)) mSkip) (mSeq (mSet 1 0 [] (mOp gIndex (mVar 0) (mUn gMin (mVar 0)))) (mRet (mCat (fun env => (fun env => (fun env => (mSlice (fun env => (mVar 0) env >>= fun d => itemsL d >>= immL) (fun env => (mVar 1) env >>= toI >>= fun i => .ok (some i)) (fun _ => .ok none)) env >>= fun d => itemsL d >>= immL) env >>= fun ds => .ok (.lst ds)) env >>= fun d => itemsL d >>= immL) (fun env => (fun env => (fun env => (mSlice (fun env => (mVar 0) env >>= fun d => itemsL d >>= immL) (fun _ => .ok none) (fun env => (mVar 1) env >>= toI >>= fun i => .ok (some i))) env >>= fun d => itemsL d >>= immL) env >>= fun ds => .ok (.lst ds)) env >>= fun d => itemsL d >>= immL)))))
def F_seated : List D → Res D := runD 2 m_seated
/-- drawing:0, hands:1, row:2, passing:3 -/
def m_hands_of : Mir.Env → Res Ctl :=
  (mSeq (mSet 1 1 [] (mC (.dk [] []))) (mSeq (mFor (fun env => (mVarK 0 0) env >>= itemsL) (tName 2) (mFor (fun env => (mVarK 2 0) env >>= itemsL) (tName 3) (mDput 1 [] (mImm (mOp gIx (mVar 3) (mC (.int 2)))) (mOp gIx (mVar 3) (mC (.int 0)))) [3]) [2, 3]) (mRet (mVarK 1 1))))
def F_hands_of : List D → Res D := runD 4 m_hands_of
/-- drawing:0 -/
def m_names_of : Mir.Env → Res Ctl :=
  (mRet (fun env => (mCall 1 F_hands_of (mConsA (mVar 0) mNilA)) env >>= gSortD))
def F_names_of : List D → Res D := runD 1 m_names_of
/-- drawing:0, fresh:1, names:2, at:3, name:4 -/
def m_look_at_new : Mir.Env → Res Ctl :=
  (mSeq (mSet 2 1 [] (mCall 1 F_names_of (mConsA (mVar 0) mNilA))) (mSeq (mIf (mTb (mOp gGt (mOp gAdd (mUn gLen (mVar 2)) (mUn gLen (mVar 1))) (mC (.int 12)))) mNo mSkip) (mFor (fun env => (mVarK 1 0) env >>= itemsL >>= fun ds => .ok (enumD 0 ds)) (tTupT 2 (tCons (tName 3) (tCons (tName 4) tNil))) (mIf (mOrB (mTb (mOp gIn (mVar 4) (mVar 2))) (mTb (mOp gIn (mVar 4) (mSlice (fun env => (mVar 1) env >>= fun d => itemsL d >>= immL) (fun _ => .ok none) (fun env => (mVar 3) env >>= toI >>= fun i => .ok (some i)))))) mNo mSkip) [3, 4])))
def F_look_at_new : List D → Res D := runD 5 m_look_at_new
/-- drawing:0, spot:1, passings:2, made:3, found:4, at:5, row:6, longer:7, passing:8 -/
def m_put_behind : Mir.Env → Res Ctl :=
  (mSeq (mSet 3 2 [] (mLst mNilA)) (mSeq (mSet 4 0 [] (mC (.bl false))) (mSeq (mFor (fun env => (mVarK 0 0) env >>= itemsL >>= fun ds => .ok (enumD 0 ds)) (tTupT 2 (tCons (tName 5) (tCons (tName 6) tNil))) (mSeq (mSet 7 1 [] (mLst mNilA)) (mSeq (mIf (mAndB (mNotB (fun env => (mVar 6) env >>= gTru)) (mTb (mOp gEq (mVar 1) (mImm (mTup (mConsE (mImm (mVar 5)) [] (mConsE (mC (.int 2)) [] mNilA))))))) (mSeq (mExtend 7 0 (fun env => (mVar 2) env >>= fun d => itemsL d >>= immL)) (mSet 4 0 [] (mC (.bl true)))) mSkip) (mSeq (mFor (fun env => (mVarK 6 0) env >>= itemsL) (tName 8) (mSeq (mAppend 7 0 [] (mImm (mVar 8))) (mIf (mTb (mOp gEq (mImm (mTup (mConsE (mImm (mOp gIx (mVar 8) (mC (.int 0)))) [] (mConsE (mImm (mOp gIx (mVar 8) (mC (.int 1)))) [] mNilA)))) (mVar 1))) (mSeq (mExtend 7 0 (fun env => (mVar 2) env >>= fun d => itemsL d >>= immL)) (mSet 4 0 [] (mC (.bl true)))) mSkip)) [8]) (mAppend 3 1 [7] (mVarK 7 1))))) [5, 6, 7, 8]) (mSeq (mIf (mNotB (mTb (mVar 4))) mNo mSkip) (mRet (mVarK 3 2))))))
def F_put_behind : List D → Res D := runD 9 m_put_behind
/-- self:0, drawing:1, fresh:2 -/
def m_Curl_made (κ : Str → Addr) : Mir.Env → Res Ctl :=
  (mSeq (mExpr (mCall 0 F_look_at_new (mConsA (mVar 1) (mConsA (mLst (mConsA (mUn (gFld κ ["Curl"] "name") (mVar 0)) mNilA)) mNilA)))) (mSeq (mSet 2 1 [] (mLst (mConsE (mImm (mTup (mConsE (mImm (mUn (gFld κ ["Curl"] "name") (mVar 0))) [] (mConsE (mImm (mUn (gFld κ ["Curl"] "first") (mVar 0))) [] (mConsE (mImm (mUn (gFld κ ["Curl"] "hand") (mVar 0))) [] mNilA))))) [] (mConsE (mImm (mTup (mConsE (mImm (mUn (gFld κ ["Curl"] "name") (mVar 0))) [] (mConsE (mOp gSub (mC (.int 1)) (mUn (gFld κ ["Curl"] "first") (mVar 0))) [] (mConsE (mImm (mUn (gFld κ ["Curl"] "hand") (mVar 0))) [] mNilA))))) [] mNilA)))) (mRet (mCall 2 F_put_behind (mConsA (mVar 1) (mConsA (mUn (gFld κ ["Curl"] "spot") (mVar 0)) (mConsA (mVar 2) mNilA)))))))
def F_Curl_made (κ : Str → Addr) : List D → Res D := runD 3 (m_Curl_made κ)
/-- self:0, drawing:1, overs:2, unders:3, laid:4 -/
def m_Lay_made (κ : Str → Addr) : Mir.Env → Res Ctl :=
  (mSeq (mExpr (mCall 0 F_look_at_new (mConsA (mVar 1) (mConsA (mLst (mConsA (mUn (gFld κ ["Lay"] "name") (mVar 0)) (mConsA (mUn (gFld κ ["Lay"] "second") (mVar 0)) mNilA))) mNilA)))) (mSeq (mSet 2 1 [] (mLst (mConsE (mImm (mTup (mConsE (mImm (mUn (gFld κ ["Lay"] "name") (mVar 0))) [] (mConsE (mC (.int 0)) [] (mConsE (mImm (mUn (gFld κ ["Lay"] "hand") (mVar 0))) [] mNilA))))) [] (mConsE (mImm (mTup (mConsE (mImm (mUn (gFld κ ["Lay"] "second") (mVar 0))) [] (mConsE (mC (.int 0)) [] (mConsE (mUn gNeg (mUn (gFld κ ["Lay"] "hand") (mVar 0))) [] mNilA))))) [] mNilA)))) (mSeq (mSet 3 1 [] (mLst (mConsE (mImm (mTup (mConsE (mImm (mUn (gFld κ ["Lay"] "name") (mVar 0))) [] (mConsE (mC (.int 1)) [] (mConsE (mImm (mUn (gFld κ ["Lay"] "hand") (mVar 0))) [] mNilA))))) [] (mConsE (mImm (mTup (mConsE (mImm (mUn (gFld κ ["Lay"] "second") (mVar 0))) [] (mConsE (mC (.int 1)) [] (mConsE (mUn gNeg (mUn (gFld κ ["Lay"] "hand") (mVar 0))) [] mNilA))))) [] mNilA)))) (mSeq (mIf (mTb (mOp gEq (mUn (gFld κ ["Lay"] "turned") (mVar 0)) (mC (.int 1)))) (mSet 3 1 [] (mLst (mConsE (mImm (mOp gIx (mVar 3) (mC (.int 1)))) [] (mConsE (mImm (mOp gIx (mVar 3) (mC (.int 0)))) [] mNilA)))) mSkip) (mSeq (mSet 4 2 [] (mCall 2 F_put_behind (mConsA (mVar 1) (mConsA (mUn (gFld κ ["Lay"] "over") (mVar 0)) (mConsA (mVar 2) mNilA))))) (mSeq (mIf (mTb (mOp gEq (mUn (gFld κ ["Lay"] "under") (mVar 0)) (mImm (mTup (mConsE (mImm (mUn (gFld κ ["Lay"] "name") (mVar 0))) [] (mConsE (mC (.int 0)) [] mNilA)))))) mNo mSkip) (mRet (mCall 2 F_put_behind (mConsA (mVar 4) (mConsA (mUn (gFld κ ["Lay"] "under") (mVar 0)) (mConsA (mVar 3) mNilA)))))))))))
def F_Lay_made (κ : Str → Addr) : List D → Res D := runD 5 (m_Lay_made κ)
/-- drawing:0, name:1, hands:2 -/
def m_hand_of : Mir.Env → Res Ctl :=
  (mSeq (mSet 2 1 [] (mCall 1 F_hands_of (mConsA (mVar 0) mNilA))) (mSeq (mIf (mTb (mOp gDNotIn (mVar 1) (mVar 2))) mNo mSkip) (mRet (mImm (mOp gDGet (mVar 2) (mVar 1))))))
def F_hand_of : List D → Res D := runD 3 m_hand_of
/-- drawing:0, names:1, name:2 -/
def m_look_at_old : Mir.Env → Res Ctl :=
  (mFor (fun env => (mVarK 1 0) env >>= itemsL) (tName 2) (mExpr (mCall 0 F_hand_of (mConsA (mVar 0) (mConsA (mVar 2) mNilA)))) [2])
def F_look_at_old : List D → Res D := runD 3 m_look_at_old
/-- behind:0, one:1, other:2 -/
def m_side_by_side : Mir.Env → Res Ctl :=
  (mRet (mOrV (mOp gEq (mOp gDGet (mVar 0) (mVar 1)) (mVar 2)) (mOp gEq (mOp gDGet (mVar 0) (mVar 2)) (mVar 1))))
def F_side_by_side : List D → Res D := runD 3 m_side_by_side
/-- behind:0, hands:1, name:2, second:3 -/
def m_parts : Mir.Env → Res Ctl :=
  (mSeq (mIf (mOrB (mTb (mOp gEq (mVar 2) (mVar 3))) (mTb (mOp gEq (mOp gDGet (mVar 1) (mVar 2)) (mOp gDGet (mVar 1) (mVar 3))))) (mRet (mC (.bl false))) mSkip) (mSeq (mIf (mNotB (mTb (mCall 0 F_side_by_side (mConsA (mVar 0) (mConsA (mImm (mTup (mConsE (mImm (mVar 2)) [] (mConsE (mC (.int 0)) [] mNilA)))) (mConsA (mImm (mTup (mConsE (mImm (mVar 3)) [] (mConsE (mC (.int 0)) [] mNilA)))) mNilA)))))) (mRet (mC (.bl false))) mSkip) (mRet (mCall 0 F_side_by_side (mConsA (mVar 0) (mConsA (mImm (mTup (mConsE (mImm (mVar 2)) [] (mConsE (mC (.int 1)) [] mNilA)))) (mConsA (mImm (mTup (mConsE (mImm (mVar 3)) [] (mConsE (mC (.int 1)) [] mNilA)))) mNilA)))))))
def F_parts : List D → Res D := runD 4 m_parts
/-- drawing:0, behind:1, row:2, at:3, passing:4, follower:5 -/
def m_next_of : Mir.Env → Res Ctl :=
  (mSeq (mSet 1 1 [] (mC (.dt [] []))) (mSeq (mFor (fun env => (mVarK 0 0) env >>= itemsL) (tName 2) (mFor (fun env => (mVarK 2 0) env >>= itemsL >>= fun ds => .ok (enumD 0 ds)) (tTupT 2 (tCons (tName 3) (tCons (tName 4) tNil))) (mSeq (mSet 5 0 [] (mImm (mOp gIx (mVar 2) (mOp gMod (mOp gAdd (mVar 3) (mC (.int 1))) (mUn gLen (mVar 2)))))) (mDput 1 [] (mImm (mTup (mConsE (mImm (mOp gIx (mVar 5) (mC (.int 0)))) [] (mConsE (mImm (mOp gIx (mVar 5) (mC (.int 1)))) [] mNilA)))) (mImm (mTup (mConsE (mImm (mOp gIx (mVar 4) (mC (.int 0)))) [] (mConsE (mImm (mOp gIx (mVar 4) (mC (.int 1)))) [] mNilA)))))) [3, 4, 5]) [2, 3, 4, 5]) (mRet (mVarK 1 1))))
def F_next_of : List D → Res D := runD 6 m_next_of
/-- self:0, drawing:1 -/
def m_Part_look (κ : Str → Addr) : Mir.Env → Res Ctl :=
  (mSeq (mExpr (mCall 0 F_look_at_old (mConsA (mVar 1) (mConsA (mLst (mConsA (mUn (gFld κ ["Part"] "name") (mVar 0)) (mConsA (mUn (gFld κ ["Part"] "second") (mVar 0)) mNilA))) mNilA)))) (mIf (mNotB (mTb (mCall 0 F_parts (mConsA (mCall 1 F_next_of (mConsA (mVar 1) mNilA)) (mConsA (mCall 1 F_hands_of (mConsA (mVar 1) mNilA)) (mConsA (mUn (gFld κ ["Part"] "name") (mVar 0)) (mConsA (mUn (gFld κ ["Part"] "second") (mVar 0)) mNilA))))))) mNo mSkip))
def F_Part_look (κ : Str → Addr) : List D → Res D := runD 2 (m_Part_look κ)
/-- drawing:0, names:1, made:2, row:3, passing:4 -/
def m_without : Mir.Env → Res Ctl :=
  (mSeq (mSet 2 2 [] (mLst mNilA)) (mSeq (mFor (fun env => (mVarK 0 0) env >>= itemsL) (tName 3) (mAppend 2 1 [] (mLc (fun env => (mVarK 3 0) env >>= itemsL) (tName 4) (mTb (mOp gNotIn (mOp gIx (mVar 4) (mC (.int 0))) (mVar 1))) (mImm (mVar 4)) [4])) [3, 4]) (mRet (mVarK 2 2))))
def F_without : List D → Res D := runD 5 m_without
/-- self:0, drawing:1 -/
def m_Part_made (κ : Str → Addr) : Mir.Env → Res Ctl :=
  (mSeq (mExpr (mMeth κ [("Part", F_Part_look κ)] "look" 0 (mVar 0) (mConsA (mVar 1) mNilA))) (mRet (mCall 2 F_without (mConsA (mVar 1) (mConsA (mLst (mConsA (mUn (gFld κ ["Part"] "name") (mVar 0)) (mConsA (mUn (gFld κ ["Part"] "second") (mVar 0)) mNilA))) mNilA)))))
def F_Part_made (κ : Str → Addr) : List D → Res D := runD 2 (m_Part_made κ)
/-- drawing:0, pairs:1, hands:2, partner:3, one:4, other:5, made:6, row:7, changed:8, passing:9, spot:10 -/
def m_exchanged : Mir.Env → Res Ctl :=
  (mSeq (mSet 2 1 [] (mCall 1 F_hands_of (mConsA (mVar 0) mNilA))) (mSeq (mSet 3 1 [] (mC (.dt [] []))) (mSeq (mFor (fun env => (mVarK 1 0) env >>= itemsL) (tTupT 2 (tCons (tName 4) (tCons (tName 5) tNil))) (mSeq (mDput 3 [] (mImm (mVar 5)) (mVar 4)) (mDput 3 [] (mImm (mVar 4)) (mVar 5))) [4, 5]) (mSeq (mSet 6 2 [] (mLst mNilA)) (mSeq (mFor (fun env => (mVarK 0 0) env >>= itemsL) (tName 7) (mSeq (mSet 8 1 [] (mLst mNilA)) (mSeq (mFor (fun env => (mVarK 7 0) env >>= itemsL) (tName 9) (mSeq (mSet 10 0 [] (mImm (mTup (mConsE (mImm (mOp gIx (mVar 9) (mC (.int 0)))) [] (mConsE (mImm (mOp gIx (mVar 9) (mC (.int 1)))) [] mNilA))))) (mSeq (mIf (mTb (mOp gDIn (mVar 10) (mVar 3))) (mSet 10 0 [] (mImm (mOp gDGet (mVar 3) (mVar 10)))) mSkip) (mAppend 8 0 [] (mImm (mTup (mConsE (mImm (mOp gIx (mVar 10) (mC (.int 0)))) [] (mConsE (mImm (mOp gIx (mVar 10) (mC (.int 1)))) [] (mConsE (mImm (mOp gDGet (mVar 2) (mOp gIx (mVar 10) (mC (.int 0))))) [] mNilA)))))))) [9, 10]) (mAppend 6 1 [8] (mVarK 8 1)))) [7, 8, 9, 10]) (mRet (mVarK 6 2)))))))
def F_exchanged : List D → Res D := runD 11 m_exchanged
/-- behind:0, one:1, other:2, way:3 -/
def m_right_behind : Mir.Env → Res Ctl :=
  (mSeq (mIf (mTb (mOp gEq (mVar 3) (mC (.int 1)))) (mRet (mOp gEq (mOp gDGet (mVar 0) (mVar 1)) (mVar 2))) mSkip) (mRet (mOp gEq (mOp gDGet (mVar 0) (mVar 2)) (mVar 1))))
def F_right_behind : List D → Res D := runD 4 m_right_behind
/-- behind:0, hands:1, names:2, turn:3, name:4, second:5, third:6 -/
def m_slides : Mir.Env → Res Ctl :=
  (mSeq (mAsg (tTupL 3 (tCons (tName 4) (tCons (tName 5) (tCons (tName 6) tNil)))) 0 [] (mVarK 2 0)) (mSeq (mIf (mOrB (mTb (mOp gEq (mVar 4) (mVar 5))) (mOrB (mTb (mOp gEq (mVar 4) (mVar 6))) (mTb (mOp gEq (mVar 5) (mVar 6))))) (mRet (mC (.bl false))) mSkip) (mSeq (mIf (mNotB (mTb (mCall 0 F_right_behind (mConsA (mVar 0) (mConsA (mImm (mTup (mConsE (mImm (mVar 4)) [] (mConsE (mC (.int 0)) [] mNilA)))) (mConsA (mImm (mTup (mConsE (mImm (mVar 5)) [] (mConsE (mC (.int 0)) [] mNilA)))) (mConsA (mVar 3) mNilA))))))) (mRet (mC (.bl false))) mSkip) (mSeq (mIf (mNotB (mTb (mCall 0 F_right_behind (mConsA (mVar 0) (mConsA (mImm (mTup (mConsE (mImm (mVar 4)) [] (mConsE (mC (.int 1)) [] mNilA)))) (mConsA (mImm (mTup (mConsE (mImm (mVar 6)) [] (mConsE (mC (.int 0)) [] mNilA)))) (mConsA (mOp gMul (mOp gMul (mVar 3) (mOp gDGet (mVar 1) (mVar 5))) (mOp gDGet (mVar 1) (mVar 6))) mNilA))))))) (mRet (mC (.bl false))) mSkip) (mRet (mCall 0 F_right_behind (mConsA (mVar 0) (mConsA (mImm (mTup (mConsE (mImm (mVar 5)) [] (mConsE (mC (.int 1)) [] mNilA)))) (mConsA (mImm (mTup (mConsE (mImm (mVar 6)) [] (mConsE (mC (.int 1)) [] mNilA)))) (mConsA (mOp gMul (mOp gMul (mVar 3) (mOp gDGet (mVar 1) (mVar 4))) (mOp gDGet (mVar 1) (mVar 6))) mNilA))))))))))
def F_slides : List D → Res D := runD 7 m_slides
/-- self:0, drawing:1, names:2, top:3, middle:4, bottom:5 -/
def m_Slide_made (κ : Str → Addr) : Mir.Env → Res Ctl :=
  (mSeq (mSet 2 1 [] (mLst (mConsE (mImm (mUn (gFld κ ["Slide"] "name") (mVar 0))) [] (mConsE (mImm (mUn (gFld κ ["Slide"] "second") (mVar 0))) [] (mConsE (mImm (mUn (gFld κ ["Slide"] "third") (mVar 0))) [] mNilA))))) (mSeq (mExpr (mCall 0 F_look_at_old (mConsA (mVar 1) (mConsA (mVar 2) mNilA)))) (mSeq (mIf (mNotB (mTb (mCall 0 F_slides (mConsA (mCall 1 F_next_of (mConsA (mVar 1) mNilA)) (mConsA (mCall 1 F_hands_of (mConsA (mVar 1) mNilA)) (mConsA (mVar 2) (mConsA (mUn (gFld κ ["Slide"] "turn") (mVar 0)) mNilA))))))) mNo mSkip) (mSeq (mSet 3 0 [] (mImm (mTup (mConsE (mImm (mTup (mConsE (mImm (mUn (gFld κ ["Slide"] "name") (mVar 0))) [] (mConsE (mC (.int 0)) [] mNilA)))) [] (mConsE (mImm (mTup (mConsE (mImm (mUn (gFld κ ["Slide"] "second") (mVar 0))) [] (mConsE (mC (.int 0)) [] mNilA)))) [] mNilA))))) (mSeq (mSet 4 0 [] (mImm (mTup (mConsE (mImm (mTup (mConsE (mImm (mUn (gFld κ ["Slide"] "name") (mVar 0))) [] (mConsE (mC (.int 1)) [] mNilA)))) [] (mConsE (mImm (mTup (mConsE (mImm (mUn (gFld κ ["Slide"] "third") (mVar 0))) [] (mConsE (mC (.int 0)) [] mNilA)))) [] mNilA))))) (mSeq (mSet 5 0 [] (mImm (mTup (mConsE (mImm (mTup (mConsE (mImm (mUn (gFld κ ["Slide"] "second") (mVar 0))) [] (mConsE (mC (.int 1)) [] mNilA)))) [] (mConsE (mImm (mTup (mConsE (mImm (mUn (gFld κ ["Slide"] "third") (mVar 0))) [] (mConsE (mC (.int 1)) [] mNilA)))) [] mNilA))))) (mRet (mCall 2 F_exchanged (mConsA (mVar 1) (mConsA (mLst (mConsA (mVar 3) (mConsA (mVar 4) (mConsA (mVar 5) mNilA)))) mNilA))))))))))
def F_Slide_made (κ : Str → Addr) : List D → Res D := runD 6 (m_Slide_made κ)
/-- behind:0, name:1 -/
def m_uncurls : Mir.Env → Res Ctl :=
  (mRet (mCall 0 F_side_by_side (mConsA (mVar 0) (mConsA (mImm (mTup (mConsE (mImm (mVar 1)) [] (mConsE (mC (.int 0)) [] mNilA)))) (mConsA (mImm (mTup (mConsE (mImm (mVar 1)) [] (mConsE (mC (.int 1)) [] mNilA)))) mNilA)))))
def F_uncurls : List D → Res D := runD 2 m_uncurls
/-- self:0, drawing:1 -/
def m_Uncurl_look (κ : Str → Addr) : Mir.Env → Res Ctl :=
  (mSeq (mExpr (mCall 0 F_look_at_old (mConsA (mVar 1) (mConsA (mLst (mConsA (mUn (gFld κ ["Uncurl"] "name") (mVar 0)) mNilA)) mNilA)))) (mIf (mNotB (mTb (mCall 0 F_uncurls (mConsA (mCall 1 F_next_of (mConsA (mVar 1) mNilA)) (mConsA (mUn (gFld κ ["Uncurl"] "name") (mVar 0)) mNilA))))) mNo mSkip))
def F_Uncurl_look (κ : Str → Addr) : List D → Res D := runD 2 (m_Uncurl_look κ)
/-- self:0, drawing:1 -/
def m_Uncurl_made (κ : Str → Addr) : Mir.Env → Res Ctl :=
  (mSeq (mExpr (mMeth κ [("Uncurl", F_Uncurl_look κ)] "look" 0 (mVar 0) (mConsA (mVar 1) mNilA))) (mRet (mCall 2 F_without (mConsA (mVar 1) (mConsA (mLst (mConsA (mUn (gFld κ ["Uncurl"] "name") (mVar 0)) mNilA)) mNilA)))))
def F_Uncurl_made (κ : Str → Addr) : List D → Res D := runD 2 (m_Uncurl_made κ)
/-- self:0, drawing:1, row:2 -/
def m_Move_done (κ : Str → Addr) : Mir.Env → Res Ctl :=
  (mRet (mLc (fun env => (mMeth κ [("Curl", F_Curl_made κ), ("Lay", F_Lay_made κ), ("Part", F_Part_made κ), ("Slide", F_Slide_made κ), ("Uncurl", F_Uncurl_made κ)] "made" 2 (mVar 0) (mConsA (mVar 1) mNilA)) env >>= itemsL) (tName 2) (fun _ => .ok true) (mCall 1 F_seated (mConsA (mVar 2) mNilA)) [2]))
def F_Move_done (κ : Str → Addr) : List D → Res D := runD 3 (m_Move_done κ)
/-- behind:0, names:1, name:2 -/
def m_uncurls_of : Mir.Env → Res Ctl :=
  (mRet (mLc (fun env => (mVarK 1 0) env >>= itemsL) (tName 2) (mTb (mCall 0 F_uncurls (mConsA (mVar 0) (mConsA (mVar 2) mNilA)))) (mImm (mTup (mConsE (mC (.str "uncurl")) [] (mConsE (mImm (mVar 2)) [] mNilA)))) [2]))
def F_uncurls_of : List D → Res D := runD 3 m_uncurls_of
/-- behind:0, hands:1, names:2, found:3, at:4, name:5, second:6 -/
def m_parts_of : Mir.Env → Res Ctl :=
  (mSeq (mSet 3 1 [] (mLst mNilA)) (mSeq (mFor (fun env => (mVarK 2 0) env >>= itemsL >>= fun ds => .ok (enumD 0 ds)) (tTupT 2 (tCons (tName 4) (tCons (tName 5) tNil))) (mFor (fun env => (mSlice (fun env => (mVar 2) env >>= fun d => itemsL d >>= immL) (fun env => (mOp gAdd (mVar 4) (mC (.int 1))) env >>= toI >>= fun i => .ok (some i)) (fun _ => .ok none)) env >>= itemsL) (tName 6) (mIf (mTb (mCall 0 F_parts (mConsA (mVar 0) (mConsA (mVar 1) (mConsA (mVar 5) (mConsA (mVar 6) mNilA)))))) (mAppend 3 0 [] (mImm (mTup (mConsE (mC (.str "part")) [] (mConsE (mImm (mVar 5)) [] (mConsE (mImm (mVar 6)) [] mNilA)))))) mSkip) [6]) [4, 5, 6]) (mRet (mVarK 3 1))))
def F_parts_of : List D → Res D := runD 7 m_parts_of
/-- behind:0, hands:1, pair:2, turn:3, found:4, third:5 -/
def m_slides_on : Mir.Env → Res Ctl :=
  (mSeq (mSet 4 1 [] (mLst mNilA)) (mSeq (mFor (fun env => (fun env => (mVar 1) env >>= gSortD) env >>= itemsL) (tName 5) (mIf (mTb (mCall 0 F_slides (mConsA (mVar 0) (mConsA (mVar 1) (mConsA (mLst (mConsA (mOp gIx (mVar 2) (mC (.int 0))) (mConsA (mOp gIx (mVar 2) (mC (.int 1))) (mConsA (mVar 5) mNilA)))) (mConsA (mVar 3) mNilA)))))) (mAppend 4 0 [] (mImm (mTup (mConsE (mC (.str "slide")) [] (mConsE (mImm (mOp gIx (mVar 2) (mC (.int 0)))) [] (mConsE (mImm (mOp gIx (mVar 2) (mC (.int 1)))) [] (mConsE (mImm (mVar 5)) [] (mConsE (mImm (mVar 3)) [] mNilA)))))))) mSkip) [5]) (mRet (mVarK 4 1))))
def F_slides_on : List D → Res D := runD 6 m_slides_on
/-- behind:0, hands:1, names:2, found:3, name:4, way_on:5 -/
def m_slides_of : Mir.Env → Res Ctl :=
  (mSeq (mSet 3 1 [] (mLst mNilA)) (mSeq (mFor (fun env => (mVarK 2 0) env >>= itemsL) (tName 4) (mSeq (mSet 5 0 [] (mImm (mOp gDGet (mVar 0) (mImm (mTup (mConsE (mImm (mVar 4)) [] (mConsE (mC (.int 0)) [] mNilA))))))) (mIf (mTb (mOp gEq (mOp gIx (mVar 5) (mC (.int 1))) (mC (.int 0)))) (mSeq (mExtend 3 0 (fun env => (mCall 1 F_slides_on (mConsA (mVar 0) (mConsA (mVar 1) (mConsA (mImm (mTup (mConsE (mImm (mVar 4)) [] (mConsE (mImm (mOp gIx (mVar 5) (mC (.int 0)))) [] mNilA)))) (mConsA (mC (.int 1)) mNilA))))) env >>= fun d => itemsL d >>= immL)) (mExtend 3 0 (fun env => (mCall 1 F_slides_on (mConsA (mVar 0) (mConsA (mVar 1) (mConsA (mImm (mTup (mConsE (mImm (mOp gIx (mVar 5) (mC (.int 0)))) [] (mConsE (mImm (mVar 4)) [] mNilA)))) (mConsA (mUn gNeg (mC (.int 1))) mNilA))))) env >>= fun d => itemsL d >>= immL))) mSkip)) [4, 5]) (mRet (mVarK 3 1))))
def F_slides_of : List D → Res D := runD 6 m_slides_of
/-- drawing:0, behind:1, hands:2, names:3, found:4 -/
def m_lessening : Mir.Env → Res Ctl :=
  (mSeq (mSet 1 1 [] (mCall 1 F_next_of (mConsA (mVar 0) mNilA))) (mSeq (mSet 2 1 [] (mCall 1 F_hands_of (mConsA (mVar 0) mNilA))) (mSeq (mSet 3 1 [] (mCall 1 F_names_of (mConsA (mVar 0) mNilA))) (mSeq (mSet 4 1 [] (mCat (fun env => (mCall 1 F_uncurls_of (mConsA (mVar 1) (mConsA (mVar 3) mNilA))) env >>= fun d => itemsL d >>= immL) (fun env => (mCall 1 F_parts_of (mConsA (mVar 1) (mConsA (mVar 2) (mConsA (mVar 3) mNilA)))) env >>= fun d => itemsL d >>= immL))) (mRet (fun env => (mCat (fun env => (mVar 4) env >>= fun d => itemsL d >>= immL) (fun env => (mCall 1 F_slides_of (mConsA (mVar 1) (mConsA (mVar 2) (mConsA (mVar 3) mNilA)))) env >>= fun d => itemsL d >>= immL)) env >>= itemsL >>= immL >>= fun ds => gSort (.lst ds)))))))
def F_lessening : List D → Res D := runD 5 m_lessening
/-- told:0, word:1 -/
def m_move_of (κ : Str → Addr) : Mir.Env → Res Ctl :=
  (mSeq (mSet 1 0 [] (mImm (mOp gIx (mVar 0) (mC (.int 0))))) (mSeq (mIf (mTb (mOp gEq (mVar 1) (mC (.str "uncurl")))) (mRet (fun env => (mConsA (mOp gIx (mVar 0) (mC (.int 1))) mNilA) env >>= gMake κ "Uncurl" ["name"])) mSkip) (mSeq (mIf (mTb (mOp gEq (mVar 1) (mC (.str "curl")))) (mRet (fun env => (mConsA (mOp gIx (mVar 0) (mC (.int 1))) (mConsA (mOp gIx (mVar 0) (mC (.int 2))) (mConsA (mOp gIx (mVar 0) (mC (.int 3))) (mConsA (mOp gIx (mVar 0) (mC (.int 4))) mNilA)))) env >>= gMake κ "Curl" ["name", "spot", "first", "hand"])) mSkip) (mSeq (mIf (mTb (mOp gEq (mVar 1) (mC (.str "part")))) (mRet (fun env => (mConsA (mOp gIx (mVar 0) (mC (.int 1))) (mConsA (mOp gIx (mVar 0) (mC (.int 2))) mNilA)) env >>= gMake κ "Part" ["name", "second"])) mSkip) (mSeq (mIf (mTb (mOp gEq (mVar 1) (mC (.str "lay")))) (mRet (fun env => (mConsA (mOp gIx (mVar 0) (mC (.int 1))) (mConsA (mOp gIx (mVar 0) (mC (.int 2))) (mConsA (mOp gIx (mVar 0) (mC (.int 3))) (mConsA (mOp gIx (mVar 0) (mC (.int 4))) (mConsA (mOp gIx (mVar 0) (mC (.int 5))) (mConsA (mOp gIx (mVar 0) (mC (.int 6))) mNilA)))))) env >>= gMake κ "Lay" ["name", "second", "over", "under", "turned", "hand"])) mSkip) (mSeq (mIf (mTb (mOp gEq (mVar 1) (mC (.str "slide")))) (mRet (fun env => (mConsA (mOp gIx (mVar 0) (mC (.int 1))) (mConsA (mOp gIx (mVar 0) (mC (.int 2))) (mConsA (mOp gIx (mVar 0) (mC (.int 3))) (mConsA (mOp gIx (mVar 0) (mC (.int 4))) mNilA)))) env >>= gMake κ "Slide" ["name", "second", "third", "turn"])) mSkip) mNo))))))
def F_move_of (κ : Str → Addr) : List D → Res D := runD 2 (m_move_of κ)
/-- _law_script:0, _law_drawing:1, _law_k:2, _law_way:3, _law_names_here:4, _law_cells:5, _law_due:6, _law_handed:7, _law_told:8, _law_made:9, _law_row:10 -/
def m_law (κ : Str → Addr) : Mir.Env → Res Ctl :=
  (mSeq (mSet 1 2 [] (mLc (fun env => (mOp gAdd (mC (.int 1)) (mOp gMod (mCall 0 F__law_cell_at (mConsA (mVar 0) (mConsA (mC (.int 0)) mNilA))) (mC (.int 3)))) env >>= gRng1) (tName 2) (fun _ => .ok true) (mLst mNilA) [2])) (mSeq (mFor (fun env => (mOp gMod (mCall 0 F__law_cell_at (mConsA (mVar 0) (mConsA (mC (.int 1)) mNilA))) (mC (.int 6))) env >>= gRng1) (tName 2) (mSet 1 2 [] (mCall 2 F__law_crossed (mConsA (mVar 1) (mConsA (mCall 0 F__law_cell_at (mConsA (mVar 0) (mConsA (mOp gAdd (mC (.int 11)) (mVar 2)) mNilA))) mNilA)))) [2]) (mSeq (mSet 3 0 [] (mOp gMod (mCall 0 F__law_cell_at (mConsA (mVar 0) (mConsA (mC (.int 2)) mNilA))) (mC (.int 4)))) (mSeq (mIf (mTb (mOp gEq (mOp gMod (mVar 3) (mC (.int 2))) (mC (.int 1)))) (mSeq (mSet 4 1 [] (mCall 1 F__law_names (mConsA (mVar 1) mNilA))) (mSeq (mFor (fun env => (mC (.int 3)) env >>= gRng1) (tName 2) (mAppend 4 0 [] (mCall 0 F__law_free (mConsA (mVar 4) (mConsA (mCall 0 F__law_cell_at (mConsA (mVar 0) (mConsA (mOp gAdd (mC (.int 3)) (mVar 2)) mNilA))) mNilA)))) [2]) (mSeq (mSet 5 1 [] (mLc (fun env => (mC (.int 3)) env >>= gRng1) (tName 2) (fun _ => .ok true) (mCall 0 F__law_cell_at (mConsA (mVar 0) (mConsA (mOp gAdd (mC (.int 7)) (mVar 2)) mNilA))) [2])) (mSet 1 2 [] (mCall 2 F__law_three (mConsA (mVar 1) (mConsA (mSlice (fun env => (mVar 4) env >>= fun d => itemsL d >>= immL) (fun env => (mUn gNeg (mC (.int 3))) env >>= toI >>= fun i => .ok (some i)) (fun _ => .ok none)) (mConsA (mOp gMod (mCall 0 F__law_cell_at (mConsA (mVar 0) (mConsA (mC (.int 6)) mNilA))) (mC (.int 96))) (mConsA (mVar 5) mNilA))))))))) mSkip) (mSeq (mIf (mAndB (mTb (mOp gGt (mVar 3) (mC (.int 1)))) (mTb (mOp gEq (mOp gMod (mOp gFdv (mCall 0 F__law_cell_at (mConsA (mVar 0) (mConsA (mC (.int 2)) mNilA))) (mC (.int 4))) (mC (.int 2))) (mC (.int 0))))) (mSet 1 2 [] (mCall 2 F__law_with_lay (mConsA (mVar 1) (mConsA (mOp gMod (mCall 0 F__law_cell_at (mConsA (mVar 0) (mConsA (mC (.int 10)) mNilA))) (mOp gPow (mC (.int 10)) (mC (.int 12)))) mNilA)))) mSkip) (mSeq (mSet 6 1 [] (mCall 1 F__law_lessening (mConsA (mVar 1) mNilA))) (mSeq (mFz 1 (mSet 7 2 [] (mLc (fun env => (mVarK 1 0) env >>= itemsL) (tName 10) (fun _ => .ok true) (fun env => (fun env => (mVar 10) env >>= fun d => itemsL d >>= immL) env >>= fun ds => .ok (.lst ds)) [10]))) (mSeq (mIf (mNotB (mTb (mCall 0 F__law_listed (mConsA (mCall 1 F_lessening (mConsA (mVar 7) mNilA)) (mConsA (mVar 6) mNilA))))) (mRet (mC (.bl false))) mSkip) (mSeq (mFz 6 (mFor (fun env => (mVarK 6 0) env >>= itemsL) (tName 8) (mSeq (mSet 9 2 [] (mMeth κ [("Curl", F_Move_done κ), ("Lay", F_Move_done κ), ("Part", F_Move_done κ), ("Slide", F_Move_done κ), ("Uncurl", F_Move_done κ)] "done" 2 (mCall 0 (F_move_of κ) (mConsA (mVar 8) mNilA)) (mConsA (mVar 7) mNilA))) (mFz 9 (mIf (mTb (mOp gGt (mUn gSum (mLc (fun env => (mVarK 9 0) env >>= itemsL) (tName 10) (fun _ => .ok true) (mUn gLen (mVar 10)) [10])) (mUn gSum (mLc (fun env => (mVarK 1 0) env >>= itemsL) (tName 10) (fun _ => .ok true) (mUn gLen (mVar 10)) [10])))) (mRet (mC (.bl false))) mSkip))) [8, 9, 10])) (mRet (mAndV (mCall 0 F__law_listed (mConsA (mCall 1 F_lessening (mConsA (mVar 7) mNilA)) (mConsA (mVar 6) mNilA))) (mOp gEq (mVar 7) (mVar 1)))))))))))))
def F_law (κ : Str → Addr) : List D → Res D := runD 11 (m_law κ)
theorem cell_at (ns : List Int) (k : Nat) (hk : k < 64) : F__law_cell_at [.lst (ns.map D.int), .int k] = .ok (.int (ns.getD k 0)) := by
  simp [F__law_cell_at, m__law_cell_at, runD, gIx]
  by_cases h : k < ns.length
  · simp [h, atI, ixN]
  · simp [h]
/-! drawings: what the program's own defs tell of them -/
def hnds (ds : Drw) : Pol := pts T3.a T3.c ds.flatten []
theorem pts_flat {κ β : Type} [DecidableEq κ] (key : T3 → κ) (val : T3 → β) (ds : Drw) (p : List (κ × β)) : pts key val ds.flatten p = ds.foldl (fun p r => pts key val r p) p := by
  induction ds generalizing p with
  | nil => rfl
  | cons r ds ih => rw [List.flatten_cons, pts_app, ih]; rfl
theorem hands_is (ds : Drw) (h : ds.flatten.length ≤ 1000) : F_hands_of [encD ds] = .ok (encP (hnds ds)) := by
  refine Tells.eq ?_
  simp only [F_hands_of, m_hands_of, runD]
  simp -implicitDefEqProofs [encD]
  refine loop_thenF (fun p : Pol => [some (0, .lst (ds.map encR)), some (1, encP p), none, none]) encR (fun p r => pts T3.a T3.c r p) (fun i p => p.length ≤ (ds.take i).flatten.length) ds [] rfl rfl (Nat.le_refl _) ?_ ?_
  · intro i p r hr hp
    have hl : (ds.take (i + 1)).flatten.length = (ds.take i).flatten.length + r.length := by
      rw [List.take_succ, hr]; simp
    have hle : (ds.take (i + 1)).flatten.length ≤ 1000 := by
      have e : ds.flatten = (ds.take (i + 1)).flatten ++ (ds.drop (i + 1)).flatten := by rw [← List.flatten_append, List.take_append_drop]
      have := congrArg List.length e
      rw [List.length_append] at this
      omega
    refine ⟨by have := pts_len (key := T3.a) (val := T3.c) r p; omega, ?_⟩
    refine Tells.eq ?_
    simp -implicitDefEqProofs [encR]
    refine loop_thenF (fun p : Pol => [some (0, .lst (ds.map encR)), some (1, encP p), some (0, .lst (r.map t3)), none]) t3 (fun p x => pt p x.a x.c) (fun j q => q.length ≤ p.length + j) r p rfl rfl (by omega) ?_ ?_
    · intro j q x hx hq
      have hj := (List.getElem?_eq_some_iff.mp hx).1
      refine ⟨by have := pt_len q x.a x.c; omega, ?_⟩
      have e := dSet_K D.int q x.a x.c (sizeLine_lt (by omega))
      rw [← encP_K, ← encP_K] at e
      simp -implicitDefEqProofs [e]
    · intro _
      exact Tells.eqI (by simp -implicitDefEqProofs [pts])
  · intro _
    refine Tells.eqI ?_
    unfold hnds
    rw [pts_flat]
    simp
theorem names_is (ds : Drw) (h : ds.flatten.length ≤ 1000) (h2 : (hnds ds).length < 64) : F_names_of [encD ds] = .ok (.lst ((sortI ((hnds ds).map (·.1))).map D.int)) := by
  have h1 := hands_is ds h
  have h3 := gSortD_K D.int (hnds ds) h2
  have h4 := immAt_K D.int (fun _ => rfl) (hnds ds)
  rw [← encP_K] at h3 h4
  simp only [F_names_of, m_names_of, runD]
  simp -implicitDefEqProofs [h1, h3, h4]
theorem enumD_map {α : Type} (f : α → D) : ∀ (xs : List α) (n : Nat), enumD n (xs.map f) = (xs.zipIdx n).map fun x => D.tup [.int (x.2 : Nat), f x.1]
  | [], _ => rfl
  | x :: xs, n => by
    rw [List.map_cons, List.zipIdx_cons, List.map_cons]
    show _ :: enumD (n + 1) _ = _
    rw [enumD_map f xs (n + 1)]
theorem hnds_at (ds : Drw) (n c : Int) (h1 : ∃ x ∈ ds.flatten, x.a = n) (h2 : ∀ x ∈ ds.flatten, x.a = n → x.c = c) : lk (hnds ds) n = some c := pts_in _ _ _ _ h2 (.inl h1)

theorem hand_is (ds : Drw) (h : ds.flatten.length ≤ 1000) {n c : Int} (h2 : lk (hnds ds) n = some c) : F_hand_of [encD ds, .int n] = .ok (.int c) := by
  have h1 := hands_is ds h
  have h3 := gDGet_K D.int h2
  have h4 := gDNotIn_K D.int (hnds ds) n
  have h5 := immAt_K D.int (fun _ => rfl) (hnds ds)
  rw [← encP_K] at h3 h4 h5
  rw [h2] at h4
  simp only [F_hand_of, m_hand_of, runD]
  simp -implicitDefEqProofs [h1, h3, h4, h5]

/-- a crossing: its name, the strings of its passings, its hand -/
structure Crs where
  n : Int
  i : Nat
  j : Nat
  c : Int
structure DI (S : Nat) (ds : Drw) (C : List Crs) : Prop where
  len : ds.length = S
  nd : (C.map (·.n)).Nodup
  bd : ∀ c ∈ C, c.i < S ∧ c.j < S
  mem : ∀ k r, ds[k]? = some r → ∀ x, x ∈ r ↔ ∃ c ∈ C, (x = ⟨c.n, 0, c.c⟩ ∧ k = c.i) ∨ (x = ⟨c.n, 1, c.c⟩ ∧ k = c.j)
  cnt : ∀ r ∈ ds, r.length ≤ 2 * C.length
theorem uniq {C : List Crs} (h : (C.map (·.n)).Nodup) {c d : Crs} (hc : c ∈ C) (hd : d ∈ C) (e : c.n = d.n) : c = d := by
  induction C with
  | nil => cases hc
  | cons x C ih =>
    have h2 := List.nodup_cons.mp h
    rcases List.mem_cons.mp hc with e1 | hc1
    · rcases List.mem_cons.mp hd with e2 | hd1
      · rw [e1, e2]
      · exact absurd (List.mem_map.mpr ⟨d, hd1, by rw [← e, e1]⟩) h2.1
    · rcases List.mem_cons.mp hd with e2 | hd1
      · exact absurd (List.mem_map.mpr ⟨c, hc1, by rw [e, e2]⟩) h2.1
      · exact ih h2.2 hc1 hd1
section
variable {S : Nat} {ds : Drw} {C : List Crs}
theorem DI.all (h : DI S ds C) {x : T3} (hx : x ∈ ds.flatten) : ∃ c ∈ C, x = ⟨c.n, 0, c.c⟩ ∨ x = ⟨c.n, 1, c.c⟩ := by
  obtain ⟨r, hr, hx⟩ := List.mem_flatten.mp hx
  obtain ⟨k, hk⟩ := List.mem_iff_getElem?.mp hr
  obtain ⟨c, hc, e⟩ := (h.mem k r hk x).mp hx
  exact ⟨c, hc, e.imp (·.1) (·.1)⟩
theorem DI.over (h : DI S ds C) {c : Crs} (hc : c ∈ C) : ∃ r, ds[c.i]? = some r ∧ (⟨c.n, 0, c.c⟩ : T3) ∈ r := by
  have := (h.bd c hc).1
  have hl : c.i < ds.length := by rw [h.len]; exact this
  refine ⟨ds[c.i], List.getElem?_eq_getElem hl, ?_⟩
  exact (h.mem _ _ (List.getElem?_eq_getElem hl) _).mpr ⟨c, hc, .inl ⟨rfl, rfl⟩⟩
theorem DI.under (h : DI S ds C) {c : Crs} (hc : c ∈ C) : ∃ r, ds[c.j]? = some r ∧ (⟨c.n, 1, c.c⟩ : T3) ∈ r := by
  have := (h.bd c hc).2
  have hl : c.j < ds.length := by rw [h.len]; exact this
  refine ⟨ds[c.j], List.getElem?_eq_getElem hl, ?_⟩
  exact (h.mem _ _ (List.getElem?_eq_getElem hl) _).mpr ⟨c, hc, .inr ⟨rfl, rfl⟩⟩
theorem DI.hand (h : DI S ds C) {c : Crs} (hc : c ∈ C) : lk (hnds ds) c.n = some c.c := by
  refine hnds_at ds c.n c.c ?_ fun x hx e => ?_
  · obtain ⟨r, hr, hm⟩ := h.over hc
    exact ⟨_, List.mem_flatten.mpr ⟨r, List.mem_of_getElem? hr, hm⟩, rfl⟩
  · obtain ⟨d, hd, e2⟩ := h.all hx
    have : d.n = c.n := by rcases e2 with e2 | e2 <;> rw [e2] at e <;> exact e
    have := uniq h.nd hd hc this
    subst this
    rcases e2 with e2 | e2 <;> rw [e2]
theorem DI.keys (h : DI S ds C) : ((hnds ds).map (·.1)).Perm (C.map (·.n)) := by
  have hn : ((hnds ds).map (·.1)).Nodup := by
    unfold hnds
    exact pts_nodup _ (by simp)
  refine (List.perm_ext_iff_of_nodup hn h.nd).mpr fun n => ?_
  unfold hnds
  rw [pts_mem]
  constructor
  · rintro (hx | ⟨x, hx, e⟩)
    · cases hx
    · obtain ⟨c, hc, e2⟩ := h.all hx
      rw [← e]
      rcases e2 with e2 | e2 <;> rw [e2] <;> exact List.mem_map_of_mem (f := (·.n)) hc
  · intro hn
    obtain ⟨c, hc, e⟩ := List.mem_map.mp hn
    obtain ⟨r, hr, hm⟩ := h.over hc
    exact .inr ⟨_, List.mem_flatten.mpr ⟨r, List.mem_of_getElem? hr, hm⟩, e⟩
/-- the crossings by rising names -/
theorem DI.sorted (h : DI S ds C) : ∃ L : List Crs, L.Perm C ∧ sortI ((hnds ds).map (·.1)) = L.map (·.n) := by
  obtain ⟨L, h1, h2⟩ := lift_perm (fun c : Crs => c.n) ((sortI_perm _).trans h.keys)
  exact ⟨L, h1, h2.symm⟩
theorem DI.flat (h : DI S ds C) (hS : S ≤ 3) (hC : C.length ≤ 40) : ds.flatten.length ≤ 1000 := by
  have key : ∀ ds : Drw, (∀ r ∈ ds, r.length ≤ 80) → ds.flatten.length ≤ 80 * ds.length := by
    intro ds
    induction ds with
    | nil => intro _; simp
    | cons r ds ih =>
      intro hr
      have h1 := ih fun r hr' => hr r (List.mem_cons_of_mem _ hr')
      have h2 := hr r List.mem_cons_self
      rw [List.flatten_cons, List.length_append, List.length_cons]; omega
  have := key ds fun r hr => by have := h.cnt r hr; omega
  rw [h.len] at this
  omega
/-- one passing more -/
def ins (ds : Drw) (k p : Nat) (x : T3) : Drw := ds.set k ((ds.getD k []).take p ++ [x] ++ (ds.getD k []).drop p)
theorem ins_len (ds : Drw) (k p : Nat) (x : T3) : (ins ds k p x).length = ds.length := by unfold ins; simp
theorem ins_get (ds : Drw) {k p : Nat} {x : T3} (hk : k < ds.length) {m : Nat} {r : List T3} (hr : (ins ds k p x)[m]? = some r) : ∃ r0, ds[m]? = some r0 ∧ (∀ y, y ∈ r ↔ y ∈ r0 ∨ (m = k ∧ y = x)) ∧ r.length ≤ r0.length + 1 := by
  unfold ins at hr
  by_cases e : m = k
  · subst e
    rw [List.getElem?_set_self hk] at hr
    cases hr
    have e0 : ds.getD m [] = ds[m] := by rw [List.getD_eq_getElem?_getD, List.getElem?_eq_getElem hk]; rfl
    refine ⟨ds[m], List.getElem?_eq_getElem hk, fun y => ?_, ?_⟩
    · rw [e0]
      have : y ∈ ds[m] ↔ y ∈ ds[m].take p ∨ y ∈ ds[m].drop p := by
        rw [← List.mem_append, List.take_append_drop]
      rw [this]
      simp only [List.mem_append, List.mem_singleton, true_and]
      constructor
      · rintro ((h | h) | h)
        · exact .inl (.inl h)
        · exact .inr h
        · exact .inl (.inr h)
      · rintro ((h | h) | h)
        · exact .inl (.inl h)
        · exact .inr h
        · exact .inl (.inr h)
    · rw [e0]; simp; omega
  · rw [List.getElem?_set_ne (Ne.symm e)] at hr
    exact ⟨r, hr, fun y => ⟨.inl, fun h => h.elim id fun h => absurd h.1 e⟩, by omega⟩
theorem DI.more (h : DI S ds C) (c : Crs) (hn : c.n ∉ C.map (·.n)) (hi : c.i < S) (hj : c.j < S) (p q : Nat) : DI S (ins (ins ds c.i p ⟨c.n, 0, c.c⟩) c.j q ⟨c.n, 1, c.c⟩) (C ++ [c]) where
  len := by rw [ins_len, ins_len]; exact h.len
  nd := by
    rw [List.map_append]
    refine List.nodup_append.mpr ⟨h.nd, by simp, fun a ha b hb e => ?_⟩
    rw [e, List.mem_singleton.mp hb] at ha
    exact hn ha
  bd := fun d hd => by
    rcases List.mem_append.mp hd with hd | hd
    · exact h.bd d hd
    · rw [List.mem_singleton.mp hd]; exact ⟨hi, hj⟩
  mem := fun k r hr x => by
    obtain ⟨r1, h1, e1, _⟩ := ins_get _ (by rw [ins_len, h.len]; exact hj) hr
    obtain ⟨r0, h0, e0, _⟩ := ins_get _ (by rw [h.len]; exact hi) h1
    rw [e1, e0, h.mem k r0 h0]
    constructor
    · rintro ((⟨d, hd, e⟩ | ⟨hk, e⟩) | ⟨hk, e⟩)
      · exact ⟨d, List.mem_append_left _ hd, e⟩
      · exact ⟨c, List.mem_append_right _ List.mem_cons_self, .inl ⟨e, hk⟩⟩
      · exact ⟨c, List.mem_append_right _ List.mem_cons_self, .inr ⟨e, hk⟩⟩
    · rintro ⟨d, hd, e⟩
      rcases List.mem_append.mp hd with hd | hd
      · exact .inl (.inl ⟨d, hd, e⟩)
      · rw [List.mem_singleton.mp hd] at e
        rcases e with ⟨e, hk⟩ | ⟨e, hk⟩
        · exact .inl (.inr ⟨hk, e⟩)
        · exact .inr ⟨hk, e⟩
  cnt := fun r hr => by
    obtain ⟨k, hk⟩ := List.mem_iff_getElem?.mp hr
    obtain ⟨r1, h1, _, l1⟩ := ins_get _ (by rw [ins_len, h.len]; exact hj) hk
    obtain ⟨r0, h0, _, l0⟩ := ins_get _ (by rw [h.len]; exact hi) h1
    have := h.cnt r0 (List.mem_of_getElem? h0)
    rw [List.length_append, List.length_singleton]; omega
end

theorem fresh (st u v : Int) (h1 : u < v) (h2 : v < u + 999) : (st + v) % 999 ≠ (st + u) % 999 := by omega
def psg (C : List Crs) : List T3 := C.flatMap fun c => [⟨c.n, 0, c.c⟩, ⟨c.n, 1, c.c⟩]
theorem flat_set {α : Type} {ds : List (List α)} {k : Nat} {r r2 : List α} {x : α} (h : ds[k]? = some r) (hp : r2.Perm (x :: r)) : (ds.set k r2).flatten.Perm (x :: ds.flatten) := by
  induction ds generalizing k with
  | nil => cases h
  | cons d ds ih =>
    cases k with
    | zero =>
      cases h
      rw [List.set_cons_zero, List.flatten_cons, List.flatten_cons]
      exact hp.append_right _
    | succ k =>
      rw [List.set_cons_succ, List.flatten_cons, List.flatten_cons]
      exact ((ih (by simpa using h)).append_left d).trans List.perm_middle
theorem ins_flat {ds : Drw} {k : Nat} (hk : k < ds.length) (p : Nat) (x : T3) : (ins ds k p x).flatten.Perm (x :: ds.flatten) := by
  unfold ins
  have e0 : ds.getD k [] = ds[k] := by rw [List.getD_eq_getElem?_getD, List.getElem?_eq_getElem hk]; rfl
  rw [e0]
  refine flat_set (List.getElem?_eq_getElem hk) ?_
  rw [List.append_assoc]
  refine List.perm_middle.trans ?_
  show (x :: (ds[k].take p ++ ds[k].drop p)).Perm _
  rw [List.take_append_drop]
theorem psg_snoc (C : List Crs) (c : Crs) : psg (C ++ [c]) = psg C ++ [⟨c.n, 0, c.c⟩, ⟨c.n, 1, c.c⟩] := by
  unfold psg; rw [List.flatMap_append]; rfl
structure MI (S : Nat) (st : Int) (i : Nat) (s : Drw × List Crs × Int × Int) : Prop where
  di : DI S s.1 s.2.1
  len : s.2.1.length = i
  nm : s.2.2.1 = (st + s.2.2.2) % 999
  up : 0 ≤ s.2.2.2 ∧ s.2.2.2 ≤ 83 * i
  pm : s.1.flatten.Perm (psg s.2.1)
  hd : ∀ c ∈ s.2.1, c.c = 1 ∨ c.c = -1
  nms : ∀ c ∈ s.2.1, ∃ u, c.n = (st + u) % 999 + 1 ∧ 1 ≤ u ∧ u ≤ s.2.2.2
/-! who comes behind whom -/
def ky (x : T3) : Int × Int := (x.a, x.b)
theorem flat_pos {α : Type} : ∀ {ds : List (List α)}, ds.flatten.Nodup → ∀ {i j k l : Nat} {r r' : List α} {x : α}, ds[i]? = some r → r[k]? = some x → ds[j]? = some r' → r'[l]? = some x → i = j ∧ k = l
  | [], _, i, j, k, l, r, r', x, h1, _, _, _ => by cases h1
  | d :: ds, hn, i, j, k, l, r, r', x, h1, h2, h3, h4 => by
    rw [List.flatten_cons, List.nodup_append] at hn
    obtain ⟨n1, n2, n3⟩ := hn
    cases i with
    | zero =>
      cases h1
      cases j with
      | zero =>
        cases h3
        refine ⟨rfl, ?_⟩
        obtain ⟨hk, ek⟩ := List.getElem?_eq_some_iff.mp h2
        obtain ⟨hl, el⟩ := List.getElem?_eq_some_iff.mp h4
        rcases Nat.lt_trichotomy k l with h | h | h
        · exact absurd (ek.trans el.symm) (List.pairwise_iff_getElem.mp n1 k l hk hl h)
        · exact h
        · exact absurd (el.trans ek.symm) (List.pairwise_iff_getElem.mp n1 l k hl hk h)
      | succ j =>
        have m1 := List.mem_of_getElem? h2
        have m2 : x ∈ ds.flatten := List.mem_flatten.mpr ⟨r', List.mem_of_getElem? (by simpa using h3), List.mem_of_getElem? h4⟩
        exact absurd rfl (n3 x m1 x m2)
    | succ i =>
      cases j with
      | zero =>
        cases h3
        have m1 := List.mem_of_getElem? h4
        have m2 : x ∈ ds.flatten := List.mem_flatten.mpr ⟨r, List.mem_of_getElem? (by simpa using h1), List.mem_of_getElem? h2⟩
        exact absurd rfl (n3 x m1 x m2)
      | succ j =>
        obtain ⟨e1, e2⟩ := flat_pos n2 (by simpa using h1) h2 (by simpa using h3) h4
        exact ⟨by omega, e2⟩
/-- x is right ahead of y -/
def Rl (ds : Drw) (x y : T3) : Prop := ∃ (i : Nat) (r : List T3) (k : Nat), ds[i]? = some r ∧ r[k]? = some x ∧ r[(k + 1) % r.length]? = some y
abbrev UK (ds : Drw) : Prop := (ds.flatten.map ky).Nodup
theorem uk_pos {ds : Drw} (h : UK ds) {i j k l : Nat} {r r' : List T3} {x y : T3} (h1 : ds[i]? = some r) (h2 : r[k]? = some x) (h3 : ds[j]? = some r') (h4 : r'[l]? = some y) (e : ky x = ky y) : i = j ∧ k = l := by
  have hn : (ds.map (·.map ky)).flatten.Nodup := by rw [← List.map_flatten]; exact h
  exact flat_pos hn (i := i) (j := j) (k := k) (l := l) (r := r.map ky) (r' := r'.map ky) (x := ky x) (by rw [List.getElem?_map, h1]; rfl) (by rw [List.getElem?_map, h2]; rfl) (by rw [List.getElem?_map, h3]; rfl) (by rw [List.getElem?_map, h4, e]; rfl)
theorem uk_eq {ds : Drw} (h : UK ds) {x y : T3} (hx : x ∈ ds.flatten) (hy : y ∈ ds.flatten) (e : ky x = ky y) : x = y := by
  obtain ⟨r, hr, hx⟩ := List.mem_flatten.mp hx
  obtain ⟨r', hr', hy⟩ := List.mem_flatten.mp hy
  obtain ⟨i, hi⟩ := List.mem_iff_getElem?.mp hr
  obtain ⟨j, hj⟩ := List.mem_iff_getElem?.mp hr'
  obtain ⟨k, hk⟩ := List.mem_iff_getElem?.mp hx
  obtain ⟨l, hl⟩ := List.mem_iff_getElem?.mp hy
  obtain ⟨rfl, rfl⟩ := uk_pos h hi hk hj hl e
  rw [hi] at hj; cases hj
  rw [hk] at hl; cases hl; rfl
theorem succ_inj {n k l : Nat} (hk : k < n) (hl : l < n) (e : (k + 1) % n = (l + 1) % n) : k = l := by
  by_cases h1 : k + 1 = n <;> by_cases h2 : l + 1 = n
  · omega
  · rw [h1, Nat.mod_self, Nat.mod_eq_of_lt (by omega)] at e; omega
  · rw [h2, Nat.mod_self, Nat.mod_eq_of_lt (by omega)] at e; omega
  · rw [Nat.mod_eq_of_lt (by omega), Nat.mod_eq_of_lt (by omega)] at e; omega
section
variable {ds : Drw}
theorem Rl.left {x y : T3} (h : Rl ds x y) : x ∈ ds.flatten := by
  obtain ⟨i, r, k, h1, h2, _⟩ := h
  exact List.mem_flatten.mpr ⟨r, List.mem_of_getElem? h1, List.mem_of_getElem? h2⟩
theorem Rl.right {x y : T3} (h : Rl ds x y) : y ∈ ds.flatten := by
  obtain ⟨i, r, k, h1, _, h3⟩ := h
  exact List.mem_flatten.mpr ⟨r, List.mem_of_getElem? h1, List.mem_of_getElem? h3⟩
theorem Rl.fn (hu : UK ds) {x y x' y' : T3} (h : Rl ds x y) (h' : Rl ds x' y') (e : ky x = ky x') : y = y' := by
  obtain ⟨i, r, k, h1, h2, h3⟩ := h
  obtain ⟨j, r', l, g1, g2, g3⟩ := h'
  obtain ⟨rfl, rfl⟩ := uk_pos hu h1 h2 g1 g2 e
  rw [h1] at g1; cases g1
  rw [h3] at g3; cases g3; rfl
theorem Rl.inj (hu : UK ds) {x y x' y' : T3} (h : Rl ds x y) (h' : Rl ds x' y') (e : ky y = ky y') : x = x' := by
  obtain ⟨i, r, k, h1, h2, h3⟩ := h
  obtain ⟨j, r', l, g1, g2, g3⟩ := h'
  obtain ⟨rfl, e2⟩ := uk_pos hu h1 h3 g1 g3 e
  rw [h1] at g1; cases g1
  have hk := (List.getElem?_eq_some_iff.mp h2).1
  have hl := (List.getElem?_eq_some_iff.mp g2).1
  have := succ_inj hk hl e2
  subst this
  rw [h2] at g2; cases g2; rfl
theorem Rl.next {x : T3} (h : x ∈ ds.flatten) : ∃ y, Rl ds x y := by
  obtain ⟨r, hr, hx⟩ := List.mem_flatten.mp h
  obtain ⟨i, hi⟩ := List.mem_iff_getElem?.mp hr
  obtain ⟨k, hk⟩ := List.mem_iff_getElem?.mp hx
  have hl := (List.getElem?_eq_some_iff.mp hk).1
  have h2 : (k + 1) % r.length < r.length := Nat.mod_lt _ (by omega)
  exact ⟨_, i, r, k, hi, hk, List.getElem?_eq_getElem h2⟩
end
theorem zip_mem {α : Type} {r : List α} {x : α × Nat} (h : x ∈ r.zipIdx) : r[x.2]? = some x.1 := by
  obtain ⟨a, n⟩ := x
  have hm := List.mem_zipIdx h
  simp at hm
  rw [hm.2]; exact List.getElem?_eq_getElem _
def T0 : T3 := ⟨0, 0, 0⟩
/-- pairs: a passing and the next -/
def nxR (r : List T3) : List (T3 × T3) := r.zipIdx.map fun x => (x.1, r.getD ((x.2 + 1) % r.length) T0)
def nxA (ds : Drw) : List (T3 × T3) := ds.flatMap nxR
theorem nxA_mem {ds : Drw} {e : T3 × T3} : e ∈ nxA ds ↔ Rl ds e.1 e.2 := by
  unfold nxA nxR
  simp only [List.mem_flatMap, List.mem_map]
  constructor
  · rintro ⟨r, hr, x, hx, rfl⟩
    obtain ⟨i, hi⟩ := List.mem_iff_getElem?.mp hr
    have h1 := zip_mem hx
    have hl := (List.getElem?_eq_some_iff.mp h1).1
    have h2 : (x.2 + 1) % r.length < r.length := Nat.mod_lt _ (by omega)
    refine ⟨i, r, x.2, hi, h1, ?_⟩
    show r[(x.2 + 1) % r.length]? = some (r.getD ((x.2 + 1) % r.length) T0)
    rw [List.getD_eq_getElem?_getD, List.getElem?_eq_getElem h2]; rfl
  · rintro ⟨i, r, k, h1, h2, h3⟩
    refine ⟨r, List.mem_of_getElem? h1, (e.1, k), ?_, ?_⟩
    · rw [List.mem_iff_getElem?]
      exact ⟨k, by rw [List.getElem?_zipIdx, h2]; simp⟩
    · show (e.1, r.getD ((k + 1) % r.length) T0) = e
      rw [List.getD_eq_getElem?_getD, h3]; rfl
def nxP (ds : Drw) : List ((Int × Int) × (Int × Int)) := pts (fun e : T3 × T3 => ky e.1) (fun e => ky e.2) (nxA ds) []
theorem nxP_lk {ds : Drw} (hu : UK ds) {x y : T3} (h : Rl ds x y) : lk (nxP ds) (ky x) = some (ky y) := by
  refine pts_in _ _ _ _ (fun e he e2 => ?_) (.inl ⟨(x, y), nxA_mem.mpr h, rfl⟩)
  have := Rl.fn hu (nxA_mem.mp he) h e2
  rw [this]
theorem nxA_len (ds : Drw) : (nxA ds).length = ds.flatten.length := by
  unfold nxA nxR
  rw [List.length_flatMap, List.length_flatten]
  congr 1
  refine List.map_congr_left fun r _ => ?_
  simp
theorem foldl_flat {α β γ : Type} (f : γ → β → γ) (g : α → List β) : ∀ (xs : List α) (s : γ), (xs.flatMap g).foldl f s = xs.foldl (fun s x => (g x).foldl f s) s
  | [], s => rfl
  | x :: xs, s => by rw [List.flatMap_cons, List.foldl_append, foldl_flat f g xs]; rfl
theorem next_is (ds : Drw) (h : ds.flatten.length ≤ 1000) : F_next_of [encD ds] = .ok (encK2 t2 (nxP ds)) := by
  refine Tells.eq ?_
  simp only [F_next_of, m_next_of, runD]
  simp -implicitDefEqProofs [encD, encK2_nil t2]
  refine loop_thenF (fun p : List ((Int × Int) × (Int × Int)) => [some (0, .lst (ds.map encR)), some (1, encK2 t2 p), none, none, none, none]) encR (fun p r => pts (fun e : T3 × T3 => ky e.1) (fun e => ky e.2) (nxR r) p) (fun i p => p.length ≤ (ds.take i).flatten.length) ds [] rfl rfl (Nat.le_refl _) ?_ ?_
  · intro i p r hr hp
    have hl : (ds.take (i + 1)).flatten.length = (ds.take i).flatten.length + r.length := by
      rw [List.take_succ, hr]; simp
    have hle : (ds.take (i + 1)).flatten.length ≤ 1000 := by
      have e : ds.flatten = (ds.take (i + 1)).flatten ++ (ds.drop (i + 1)).flatten := by rw [← List.flatten_append, List.take_append_drop]
      have := congrArg List.length e
      rw [List.length_append] at this
      omega
    have hnl : (nxR r).length = r.length := by unfold nxR; simp
    refine ⟨by have := pts_len (key := fun e : T3 × T3 => ky e.1) (val := fun e => ky e.2) (nxR r) p; omega, ?_⟩
    refine Tells.eq ?_
    simp -implicitDefEqProofs [encR, enumD_map]
    refine loop_thenF (fun p : List ((Int × Int) × (Int × Int)) => [some (0, .lst (ds.map encR)), some (1, encK2 t2 p), some (0, .lst (r.map t3)), none, none, none]) (fun x : T3 × Nat => D.tup [.int (x.2 : Nat), t3 x.1]) (fun p x => pt p (ky x.1) (ky (r.getD ((x.2 + 1) % r.length) T0))) (fun j q => q.length ≤ p.length + j) r.zipIdx p rfl rfl (by omega) ?_ ?_
    · intro j q x hx hq
      have hj := (List.getElem?_eq_some_iff.mp hx).1
      rw [List.length_zipIdx] at hj
      refine ⟨by have := pt_len q (ky x.1) (ky (r.getD ((x.2 + 1) % r.length) T0)); omega, ?_⟩
      have h2 : (x.2 + 1) % r.length < r.length := Nat.mod_lt _ (by omega)
      have gm : Mir.gMod (.int ((x.2 : Int) + 1)) (.int (r.length : Int)) = .ok (.int (((x.2 + 1) % r.length : Nat) : Int)) := by
        rw [e_gMod _ _ (by omega)]; congr 2
      have gi : gIx (.lst (r.map t3)) (.int (((x.2 + 1) % r.length : Nat) : Int)) = .ok (t3 (r.getD ((x.2 + 1) % r.length) T0)) := gIx_map (by rw [List.getD_eq_getElem?_getD, List.getElem?_eq_getElem h2]; rfl)
      have e := dSet_K2 t2 q (ky x.1) (ky (r.getD ((x.2 + 1) % r.length) T0)) (sizeLine_lt (by omega))
      obtain ⟨y, hy⟩ : ∃ y, y = r.getD ((x.2 + 1) % r.length) T0 := ⟨_, rfl⟩
      rw [← hy] at gi e ⊢
      rw [show (((x.2 + 1) % r.length : Nat) : Int) = ((x.2 : Int) + 1) % (r.length : Int) by simp] at gi gm
      have e' : dSet (encK2 t2 q) (.tup [.int x.1.a, .int x.1.b]) (.tup [.int y.a, .int y.b]) = .ok (encK2 t2 (pt q (ky x.1) (ky y))) := e
      simp -implicitDefEqProofs [gm, gi, e']
    · intro _
      have e : r.zipIdx.foldl (fun p x => pt p (ky x.1) (ky (r.getD ((x.2 + 1) % r.length) T0))) p = pts (fun e : T3 × T3 => ky e.1) (fun e => ky e.2) (nxR r) p := by
        unfold pts nxR; rw [List.foldl_map]
      rw [e]
      exact Tells.eqI (by simp -implicitDefEqProofs)
  · intro _
    have e : ds.foldl (fun p r => pts (fun e : T3 × T3 => ky e.1) (fun e => ky e.2) (nxR r) p) [] = nxP ds := by
      unfold nxP nxA pts
      rw [foldl_flat]
    rw [e]
    exact Tells.eqI (by simp -implicitDefEqProofs [immAt_K2])
theorem nxP_len (ds : Drw) : (nxP ds).length ≤ ds.flatten.length := by
  have : (nxP ds).length ≤ ([] : List ((Int × Int) × (Int × Int))).length + (nxA ds).length := pts_len (key := fun e : T3 × T3 => ky e.1) (val := fun e => ky e.2) (nxA ds) []
  rw [nxA_len] at this
  rwa [List.length_nil, Nat.zero_add] at this
/-! drawings whose passings are all unlike -/
structure WD (S : Nat) (ds : Drw) (C : List Crs) : Prop where
  di : DI S ds C
  pm : ds.flatten.Perm (psg C)
  hd : ∀ c ∈ C, c.c = 1 ∨ c.c = -1
section
variable {S : Nat} {ds : Drw} {C : List Crs}
theorem psg_ky (C : List Crs) (h : (C.map (·.n)).Nodup) : ((psg C).map ky).Nodup := by
  induction C with
  | nil => exact List.nodup_nil
  | cons c C ih =>
    obtain ⟨h1, h2⟩ := List.nodup_cons.mp h
    show ((c.n, (0 : Int)) :: (c.n, (1 : Int)) :: (psg C).map ky).Nodup
    have hm : ∀ w : Int, (c.n, w) ∉ (psg C).map ky := fun w hm => by
      obtain ⟨x, hx, e⟩ := List.mem_map.mp hm
      unfold psg at hx
      obtain ⟨d, hd, hx⟩ := List.mem_flatMap.mp hx
      have hn : d.n = c.n := by
        rcases List.mem_cons.mp hx with hx | hx
        · rw [hx] at e; exact congrArg Prod.fst e
        · rw [List.mem_singleton.mp hx] at e; exact congrArg Prod.fst e
      exact h1 (by show c.n ∈ _; rw [← hn]; exact List.mem_map_of_mem (f := (·.n)) hd)
    refine List.nodup_cons.mpr ⟨fun hz => ?_, List.nodup_cons.mpr ⟨hm 1, ih h2⟩⟩
    rcases List.mem_cons.mp hz with e | hz
    · have e := congrArg Prod.snd e
      have e : (0 : Int) = 1 := e
      omega
    · exact hm 0 hz
theorem WD.uk (h : WD S ds C) : UK ds := (h.pm.map ky).nodup_iff.mpr (psg_ky C h.di.nd)
theorem WD.mem (h : WD S ds C) {x : T3} : x ∈ ds.flatten ↔ ∃ c ∈ C, x = ⟨c.n, 0, c.c⟩ ∨ x = ⟨c.n, 1, c.c⟩ := by
  rw [h.pm.mem_iff]
  unfold psg
  simp only [List.mem_flatMap, List.mem_cons, List.not_mem_nil, or_false]
theorem psg_len (C : List Crs) : (psg C).length = 2 * C.length := by
  induction C with
  | nil => rfl
  | cons c C ih =>
    show (_ :: _ :: psg C).length = _
    rw [List.length_cons, List.length_cons, ih, List.length_cons]; omega
theorem WD.len (h : WD S ds C) : ds.flatten.length = 2 * C.length := by rw [h.pm.length_eq, psg_len]
theorem WD.way (h : WD S ds C) {x : T3} (hx : x ∈ ds.flatten) : x.b = 0 ∨ x.b = 1 := by
  obtain ⟨c, _, e⟩ := h.mem.mp hx
  rcases e with e | e <;> rw [e]
  · exact .inl rfl
  · exact .inr rfl
/-! the spots -/
def rowK (x : List T3 × Nat) : List (Int × Int) := (if x.1 = [] then [((x.2 : Int), (2 : Int))] else []) ++ x.1.map ky
def spk (ds : Drw) : List (Int × Int) := ds.zipIdx.flatMap rowK
theorem flatMap_perm {α β : Type} (f g : α → List β) : ∀ l : List α, (l.flatMap fun x => f x ++ g x).Perm (l.flatMap f ++ l.flatMap g)
  | [] => .refl _
  | x :: l => by
    rw [List.flatMap_cons, List.flatMap_cons, List.flatMap_cons, List.append_assoc, List.append_assoc]
    refine List.Perm.append_left _ ?_
    refine ((flatMap_perm f g l).append_left (g x)).trans ?_
    rw [← List.append_assoc, ← List.append_assoc]
    exact List.perm_append_comm.append_right _
theorem spk_mem {k : Int × Int} : k ∈ spk ds ↔ (∃ x ∈ ds.flatten, ky x = k) ∨ ∃ i : Nat, ds[i]? = some [] ∧ k = ((i : Int), 2) := by
  unfold spk rowK
  rw [List.mem_flatMap]
  constructor
  · rintro ⟨x, hx, hk⟩
    rcases List.mem_append.mp hk with hk | hk
    · split at hk
      · rename_i e
        have := zip_mem hx
        rw [e] at this
        exact .inr ⟨x.2, this, List.mem_singleton.mp hk⟩
      · cases hk
    · obtain ⟨y, hy, e⟩ := List.mem_map.mp hk
      exact .inl ⟨y, List.mem_flatten.mpr ⟨x.1, List.mem_of_getElem? (zip_mem hx), hy⟩, e⟩
  · rintro (⟨x, hx, e⟩ | ⟨i, hi, e⟩)
    · obtain ⟨r, hr, hx⟩ := List.mem_flatten.mp hx
      obtain ⟨i, hi⟩ := List.mem_iff_getElem?.mp hr
      exact ⟨(r, i), List.mem_iff_getElem?.mpr ⟨i, by rw [List.getElem?_zipIdx, hi]; simp⟩, List.mem_append_right _ (e ▸ List.mem_map_of_mem hx)⟩
    · refine ⟨([], i), List.mem_iff_getElem?.mpr ⟨i, by rw [List.getElem?_zipIdx, hi]; simp⟩, ?_⟩
      rw [e]; simp
theorem spk_len : ∀ (xs : List (List T3 × Nat)), (xs.flatMap rowK).length ≤ xs.length + (xs.map fun x => x.1.length).sum
  | [] => Nat.le_refl _
  | x :: xs => by
    have h := spk_len xs
    rw [List.flatMap_cons, List.length_append, List.length_cons, List.map_cons, List.sum_cons]
    have : (rowK x).length ≤ 1 + x.1.length := by
      unfold rowK
      rw [List.length_append, List.length_map]
      split <;> simp
    omega
theorem WD.spk_le (h : WD S ds C) : (spk ds).length ≤ S + 2 * C.length := by
  have h1 := spk_len ds.zipIdx
  have e : (ds.zipIdx.map fun x => x.1.length).sum = ds.flatten.length := by
    rw [List.length_flatten]
    congr 1
    have : ∀ (ds : Drw) (n : Nat), ((ds.zipIdx n).map fun x => x.1.length) = ds.map List.length := by
      intro ds
      induction ds with
      | nil => intro n; rfl
      | cons r ds ih => intro n; rw [List.zipIdx_cons, List.map_cons, ih, List.map_cons]
    exact this ds 0
  rw [e, h.len, List.length_zipIdx, h.di.len] at h1
  exact h1
end

section
def seat : List T3 → List T3
  | [] => []
  | r :: rs => (r :: rs).drop ((r :: rs).idxOf (minOf r rs)) ++ (r :: rs).take ((r :: rs).idxOf (minOf r rs))
theorem seated_is (R : List T3) (h : R.length ≤ 1000000) : F_seated [encR R] = .ok (encR (seat R)) := by
  cases R with
  | nil =>
    simp only [F_seated, m_seated, runD, encR]
    simp -implicitDefEqProofs
    rfl
  | cons r rs =>
    have h1 : gMin (.lst ((r :: rs).map t3)) = .ok (t3 (minOf r rs)) := gMin_enc r rs (by decide) fun _ => rfl
    have h2 : gIndex (.lst ((r :: rs).map t3)) (t3 (minOf r rs)) = _ := gIndex_enc (minOf r rs) (r :: rs) (by decide) (minOf_mem r rs)
    have h3 : (r :: rs).idxOf (minOf r rs) < (r :: rs).length := List.idxOf_lt_length_iff.mpr (minOf_mem r rs)
    have h0 : gTru (.lst ((r :: rs).map t3)) = .ok true := rfl
    simp only [F_seated, m_seated, runD, seat, encR]
    generalize r :: rs = R at *
    generalize R.idxOf (minOf r rs) = j at *
    have h4 := cutD_from t3 R j (by omega)
    have h5 := cutD_to t3 R j (by omega)
    have h6 : ((R.map t3).drop j).length + ((R.map t3).take j).length ≤ sizeLine := sizeLine_big (by simp; omega)
    simp -implicitDefEqProofs [h0, h1, h2, mCat, h4, h5, -List.length_drop, -List.length_take, h6]
end

/-! ### the law's own seating; rows turned -/
theorem split_uni {α : Type} {m : α} : ∀ {u v u' v' : List α}, u ++ m :: v = u' ++ m :: v' → m ∉ u → m ∉ u' → u = u' ∧ v = v'
  | [], v, [], v', h, _, _ => by
    simp at h
    exact ⟨rfl, h⟩
  | [], v, y :: u', v', h, _, h2 => by
    simp at h
    exact absurd (by rw [h.1]; exact List.mem_cons_self) h2
  | x :: u, v, [], v', h, h1, _ => by
    simp at h
    exact absurd (by rw [h.1]; exact List.mem_cons_self) h1
  | x :: u, v, y :: u', v', h, h1, h2 => by
    rw [List.cons_append, List.cons_append, List.cons.injEq] at h
    obtain ⟨a, b⟩ := split_uni h.2 (fun z => h1 (List.mem_cons_of_mem _ z)) (fun z => h2 (List.mem_cons_of_mem _ z))
    rw [h.1, a, b]
    exact ⟨rfl, rfl⟩
def Rot {α : Type} (a b : List α) : Prop := ∃ u v, a = u ++ v ∧ b = v ++ u
/-- turned to begin with m -/
theorem rot_at {α : Type} {a b : List α} (h : Rot a b) (nd : a.Nodup) {m : α} {u v u' v' : List α} (ha : a = u ++ m :: v) (hb : b = u' ++ m :: v') : v' ++ u' = v ++ u := by
  obtain ⟨p, q, e1, e2⟩ := h
  have ndu : m ∉ u := fun z => by
    rw [ha] at nd
    exact (List.nodup_append.mp nd).2.2 m z m List.mem_cons_self rfl
  have nb : b.Nodup := by
    rw [e2]
    rw [e1] at nd
    exact List.perm_append_comm.nodup_iff.mp nd
  have ndu' : m ∉ u' := fun z => by
    rw [hb] at nb
    exact (List.nodup_append.mp nb).2.2 m z m List.mem_cons_self rfl
  have hm : m ∈ p ++ q := by rw [← e1, ha]; simp
  have mp_q : m ∈ p → m ∉ q := fun h1 h2 => by
    rw [e1] at nd
    exact (List.nodup_append.mp nd).2.2 m h1 m h2 rfl
  rcases List.mem_append.mp hm with hp | hq
  · obtain ⟨p1, p2, ep⟩ := List.append_of_mem hp
    have hp1 : m ∉ p1 := fun z => by
      rw [e1, ep, List.append_assoc] at nd
      exact (List.nodup_append.mp nd).2.2 m z m (by simp) rfl
    have s1 : u ++ m :: v = p1 ++ m :: (p2 ++ q) := by rw [← ha, e1, ep]; simp
    have s2 : u' ++ m :: v' = (q ++ p1) ++ m :: p2 := by rw [← hb, e2, ep]; simp
    obtain ⟨a1, a2⟩ := split_uni s1 ndu hp1
    obtain ⟨b1, b2⟩ := split_uni s2 ndu' (fun z => (List.mem_append.mp z).elim (mp_q hp) hp1)
    rw [a1, a2, b1, b2]; simp
  · obtain ⟨q1, q2, eq⟩ := List.append_of_mem hq
    have hq1 : m ∉ q1 := fun z => by
      rw [e1, eq] at nd
      have := (List.nodup_append.mp nd).2.1
      exact (List.nodup_append.mp this).2.2 m z m (by simp) rfl
    have s1 : u ++ m :: v = (p ++ q1) ++ m :: q2 := by rw [← ha, e1, eq]; simp
    have s2 : u' ++ m :: v' = q1 ++ m :: (q2 ++ p) := by rw [← hb, e2, eq]; simp
    obtain ⟨a1, a2⟩ := split_uni s1 ndu (fun z => (List.mem_append.mp z).elim (fun y => mp_q y hq) hq1)
    obtain ⟨b1, b2⟩ := split_uni s2 ndu' hq1
    rw [a1, a2, b1, b2]; simp
theorem Rot.map {α β : Type} (g : α → β) {a b : List α} (h : Rot a b) : Rot (a.map g) (b.map g) := by
  obtain ⟨u, v, rfl, rfl⟩ := h
  exact ⟨u.map g, v.map g, by simp, by simp⟩
theorem seat_rot (R : List T3) : Rot R (seat R) := by
  cases R with
  | nil => exact ⟨[], [], rfl, rfl⟩
  | cons r rs => exact ⟨_, _, (List.take_append_drop _ _).symm, rfl⟩
/-- the passing that a row begins with -/
theorem seat_first {R : List T3} (hR : R ≠ []) : ∃ m u v, R = u ++ m :: v ∧ seat R = m :: v ++ u ∧ ∀ y ∈ R, Dat.lt y m = false := by
  cases R with
  | nil => exact absurd rfl hR
  | cons r rs =>
    have hm := minOf_mem r rs
    have hj := List.idxOf_lt_length_iff.mpr hm
    refine ⟨minOf r rs, (r :: rs).take ((r :: rs).idxOf (minOf r rs)), (r :: rs).drop ((r :: rs).idxOf (minOf r rs) + 1), ?_, ?_, fun y hy => minOf_le r rs y hy⟩
    · have := List.drop_eq_getElem_cons hj
      rw [List.getElem_idxOf hj] at this
      conv => lhs; rw [← List.take_append_drop ((r :: rs).idxOf (minOf r rs)) (r :: rs), this]
    · have := List.drop_eq_getElem_cons hj
      rw [List.getElem_idxOf hj] at this
      show (r :: rs).drop _ ++ (r :: rs).take _ = _
      rw [this]
theorem ky_lt {x y : T3} (h : x.a < y.a ∨ (x.a = y.a ∧ x.b < y.b)) : Dat.lt x y = true := by
  show T3.lt x y = true
  unfold T3.lt
  refine decide_eq_true ?_
  rcases h with h | ⟨h1, h2⟩
  · exact .inl h
  · exact .inr ⟨h1, .inl h2⟩
def kl (x y : T3) : Prop := x.a < y.a ∨ (x.a = y.a ∧ x.b < y.b)
instance (x y : T3) : Decidable (kl x y) := by unfold kl; infer_instance
/-- a row turned is seated alike -/
theorem seat_turn {R R' : List T3} (h : Rot R R') (nd : (R.map ky).Nodup) : seat R' = seat R := by
  have pm : R.Perm R' := by
    obtain ⟨a, b, rfl, rfl⟩ := h
    exact List.perm_append_comm
  by_cases hR : R = []
  · subst hR
    have := pm.length_eq
    have : R' = [] := List.length_eq_zero_iff.mp this.symm
    rw [this]
  have hR' : R' ≠ [] := fun e => by
    rw [e] at pm
    exact hR (List.length_eq_zero_iff.mp pm.length_eq)
  obtain ⟨m, u, v, e1, e2, e3⟩ := seat_first hR
  obtain ⟨m', u', v', f1, f2, f3⟩ := seat_first hR'
  have hmm : m' = m := by
    have a1 := e3 m' (pm.mem_iff.mpr (by rw [f1]; simp))
    have a2 := f3 m (pm.mem_iff.mp (by rw [e1]; simp))
    have k1 : ¬ kl m' m := fun h => by rw [ky_lt h] at a1; cases a1
    have k2 : ¬ kl m m' := fun h => by rw [ky_lt h] at a2; cases a2
    have hk : ky m' = ky m := by
      unfold kl at k1 k2
      exact Prod.ext (show m'.a = m.a by omega) (show m'.b = m.b by omega)
    have h1 : m' ∈ R := pm.mem_iff.mpr (by rw [f1]; simp)
    have h2 : m ∈ R := by rw [e1]; simp
    obtain ⟨i, hi⟩ := List.mem_iff_getElem?.mp h1
    obtain ⟨j, hj⟩ := List.mem_iff_getElem?.mp h2
    have b1 : (R.map ky)[i]? = some (ky m) := by rw [List.getElem?_map, hi, ← hk]; rfl
    have b2 : (R.map ky)[j]? = some (ky m) := by rw [List.getElem?_map, hj]; rfl
    have := (List.getElem?_inj (by rw [List.length_map]; exact (List.getElem?_eq_some_iff.mp hi).1) nd).mp (b1.trans b2.symm)
    rw [this, hj] at hi
    exact (Option.some.inj hi).symm
  subst hmm
  have ndR : R.Nodup := (List.pairwise_map.mp nd).imp fun h e => h (by rw [e])
  have := rot_at h ndR e1 f1
  rw [e2, f2, List.cons_append, List.cons_append, this]

/-! ### drawings alike but for beginnings and names settle alike -/
theorem Rot.refl' {α : Type} (a : List α) : Rot a a := ⟨[], a, rfl, by simp⟩
def RotL : Drw → Drw → Prop
  | [], [] => True
  | r :: ds, t :: T => Rot r t ∧ RotL ds T
  | [], _ :: _ => False
  | _ :: _, [] => False
theorem RotL.refl' : ∀ ds : Drw, RotL ds ds
  | [] => trivial
  | r :: ds => ⟨Rot.refl' r, RotL.refl' ds⟩
theorem RotL.len : ∀ {a b : Drw}, RotL a b → b.length = a.length
  | [], [], _ => rfl
  | r :: ds, t :: T, h => by rw [List.length_cons, List.length_cons, RotL.len h.2]
  | [], _ :: _, h => h.elim
  | _ :: _, [], h => h.elim
theorem RotL.flat : ∀ {a b : Drw}, RotL a b → b.flatten.Perm a.flatten
  | [], [], _ => List.Perm.refl _
  | r :: ds, t :: T, h => by
    obtain ⟨u, v, h1, h2⟩ := h.1
    rw [List.flatten_cons, List.flatten_cons]
    refine List.Perm.append ?_ (RotL.flat h.2)
    rw [h1, h2]; exact List.perm_append_comm
  | [], _ :: _, h => h.elim
  | _ :: _, [], h => h.elim
theorem RotL.map (f : T3 → T3) : ∀ {a b : Drw}, RotL a b → RotL (a.map fun r => r.map f) (b.map fun r => r.map f)
  | [], [], _ => trivial
  | r :: ds, t :: T, h => ⟨Rot.map f h.1, RotL.map f h.2⟩
  | [], _ :: _, h => h.elim
  | _ :: _, [], h => h.elim
/-! ### near: the law's side -/
theorem app_loop {α β : Type} {t : Nat → D → Mir.Env → Res Mir.Env} {body : Mir.Env → Res Ctl} {fg : List Nat} (mk : List β → Mir.Env) (enc : α → D) (g : α → List β) (c B : Nat) : ∀ (xs : List α), (∀ a ∈ xs, (g a).length ≤ c) → (∀ a ∈ xs, ∀ acc, acc.length + c ≤ B → (t 0 (enc a) (mk acc) >>= fun e => body e >>= stepc fg) = .ok (mk (acc ++ g a))) → ∀ acc, acc.length + xs.length * c ≤ B → loop t body fg (xs.map enc) (mk acc) = .ok (.nx (mk (acc ++ xs.flatMap g)))
  | [], _, _, acc, _ => by rw [List.flatMap_nil, List.append_nil]; rfl
  | x :: xs, hc, hs, acc, h => by
    rw [List.length_cons, Nat.add_mul, Nat.one_mul] at h
    have h1 := hc x List.mem_cons_self
    have ih := app_loop (t := t) (body := body) (fg := fg) mk enc g c B xs (fun a ha => hc a (List.mem_cons_of_mem _ ha)) (fun a ha => hs a (List.mem_cons_of_mem _ ha)) (acc ++ g x) (by rw [List.length_append]; omega)
    rw [List.map_cons, loop_step (hs x List.mem_cons_self acc (by omega)), ih, List.flatMap_cons, List.append_assoc]
theorem flat_one {α β : Type} (f : α → β) : ∀ l : List α, (l.flatMap fun a => [f a]) = l.map f
  | [] => rfl
  | x :: l => by rw [List.flatMap_cons, flat_one f l]; rfl
theorem zip_snoc {ds : Drw} {k : Nat} {r : List T3} (h : ds[k]? = some r) : ds.zipIdx.take (k + 1) = ds.zipIdx.take k ++ [(r, k)] := by
  have : ds.zipIdx[k]? = some (r, k) := by rw [List.getElem?_zipIdx, h]; simp
  rw [List.take_succ, this]; rfl
theorem rng_at {n i k : Nat} (hk : (List.range n)[i]? = some k) : k = i ∧ i < n := by
  have h1 := (List.getElem?_eq_some_iff.mp hk).1
  rw [List.length_range] at h1
  rw [List.getElem?_range h1] at hk
  cases hk; exact ⟨rfl, h1⟩
theorem gTru_R (r : List T3) : gTru (encR r) = .ok (!decide (r = [])) := by
  cases r <;> rfl
theorem lspots_is (ds : Drw) (hd : ds.length ≤ 10) (hr : ∀ r ∈ ds, r.length ≤ 100) : F__law_spots [encD ds] = .ok (.lst ((spk ds).map t2)) := by
  have hg := gRng1_d (n := ds.length) (by omega)
  have gl : gLen (encD ds) = .ok (.int (ds.length : Nat)) := by
    show Res.ok (D.int (((ds.map encR).length : Nat) : Int)) = _
    rw [List.length_map]
  have hix : ∀ (k : Nat) (r : List T3), ds[k]? = some r → gIx (encD ds) (.int k) = .ok (encR r) := fun k r h => gIx_map (f := encR) h
  refine Tells.eq ?_
  simp only [F__law_spots, m__law_spots, runD]
  obtain ⟨A, hA⟩ : ∃ A, A = encD ds := ⟨_, rfl⟩
  rw [← hA] at gl hix ⊢
  simp -implicitDefEqProofs [gl, hg]
  refine loop_then (fun q : List (Int × Int) => [some (0, A), some (1, .lst (q.map t2)), none, none]) (fun k : Nat => D.int k) (fun i q => q = (ds.zipIdx.take i).flatMap rowK ∧ q.length ≤ 101 * i) (List.range ds.length) [] rfl rfl ⟨by simp, by simp⟩ ?_ ?_
  · rintro i q k hk ⟨rfl, hq⟩
    obtain ⟨rfl, hkl⟩ := rng_at hk
    obtain ⟨r, hr0⟩ : ∃ r, ds[k]? = some r := ⟨_, List.getElem?_eq_getElem hkl⟩
    have hrl := hr r (List.mem_of_getElem? hr0)
    have hx := hix k r hr0
    have ht := gTru_R r
    have hR : itemsL (encR r) = .ok (r.map t3) := rfl
    refine ⟨(ds.zipIdx.take k).flatMap rowK ++ rowK (r, k), ⟨by rw [zip_snoc hr0, List.flatMap_append]; simp, ?_⟩, ?_⟩
    · have : (rowK (r, k)).length ≤ 1 + r.length := by
        unfold rowK
        rw [List.length_append, List.length_map]
        have : (if r = [] then [((k : Int), (2 : Int))] else []).length ≤ 1 := by split <;> simp
        show (if r = [] then [((k : Int), (2 : Int))] else []).length + r.length ≤ _
        omega
      rw [List.length_append]; omega
    generalize (ds.zipIdx.take k).flatMap rowK = q at *
    have hin := fun (q0 : List (Int × Int)) (hq0 : q0.length ≤ q.length + 1) => app_loop (t := tName 3) (body := mAppend 1 0 [] (mImm (mTup (mConsE (mImm (mOp gIx (mVar 3) (mC (.int 0)))) [] (mConsE (mImm (mOp gIx (mVar 3) (mC (.int 1)))) [] mNilA))))) (fg := [3]) (fun acc : List (Int × Int) => [some (0, A), some (1, .lst (acc.map t2)), some (0, .int k), none]) t3 (fun x => [ky x]) 1 3000 r (fun _ _ => Nat.le_refl _) (fun x hx acc hacc => by
      have z : (acc.map t2).length < sizeLine := sizeLine_lt (by rw [List.length_map]; omega)
      have g0 : gIx (t3 x) (.int 0) = .ok (.int x.a) := rfl
      have g1 : gIx (t3 x) (.int 1) = .ok (.int x.b) := rfl
      have e : t2 (ky x) = .tup [.int x.a, .int x.b] := rfl
      rw [List.map_append, List.map_cons, List.map_nil, e]
      generalize acc.map t2 = AC at *
      generalize t3 x = X at *
      simp -implicitDefEqProofs [z, g0, g1]) q0 (by omega)
    rw [show r.flatMap (fun x => [ky x]) = r.map ky from flat_one ky r] at hin
    by_cases e : r = []
    · have hi := hin (q ++ [((k : Int), 2)]) (by simp)
      rw [decide_eq_true e] at ht
      have ek : rowK (r, k) = [((k : Int), 2)] ++ r.map ky := by unfold rowK; rw [if_pos e]
      have z : (q.map t2).length < sizeLine := sizeLine_lt (by rw [List.length_map]; omega)
      have e3 : (q ++ [((k : Int), 2)]).map t2 = q.map t2 ++ [.tup [.int (k : Int), .int 2]] := by rw [List.map_append]; rfl
      rw [ek, ← List.append_assoc]
      rw [e3] at hi
      generalize (q ++ [((k : Int), 2)] ++ r.map ky).map t2 = Q2 at *
      generalize q.map t2 = Q1 at *
      generalize encR r = RR at *
      simp -implicitDefEqProofs [hx, ht, z, hR, hi]
    · have hi := hin q (by omega)
      rw [decide_eq_false e] at ht
      have ek : rowK (r, k) = r.map ky := by unfold rowK; rw [if_neg e]; rfl
      rw [ek]
      generalize (q ++ r.map ky).map t2 = Q2 at *
      generalize q.map t2 = Q1 at *
      generalize encR r = RR at *
      simp -implicitDefEqProofs [hx, ht, hR, hi]
  · rintro q ⟨rfl, _⟩
    rw [List.length_range, show ds.zipIdx.take ds.length = ds.zipIdx from List.take_of_length_le (by simp)]
    refine Tells.eqI ?_
    show _ = Res.ok (D.lst (((ds.zipIdx.flatMap rowK)).map t2))
    generalize (ds.zipIdx.flatMap rowK).map t2 = Q at *
    simp -implicitDefEqProofs

theorem lnames0 {ds : Drw} (hl : ds.flatten.length ≤ 1000) : F__law_names [encD ds] = .ok (.lst (((ds.flatten.filter fun x => decide (x.b = 0)).map (·.a)).map D.int)) := by
  suffices Hs : Tells (F__law_names [encD ds]) fun d => d = .lst (((ds.flatten.filter fun x => decide (x.b = 0)).map (·.a)).map D.int) from Hs.eq
  have fo : ∀ (r : List T3) (q : List Int), r.foldl (fun q x => if x.b = 0 then q ++ [x.a] else q) q = q ++ (r.filter fun x => decide (x.b = 0)).map (·.a) := fun r => by
    induction r with
    | nil => intro q; simp
    | cons x r ih =>
      intro q
      rw [List.foldl_cons, ih]
      by_cases e : x.b = 0 <;> simp [e]
  have fo2 : ∀ (ds : Drw) (q : List Int), ds.foldl (fun q r => r.foldl (fun q x => if x.b = 0 then q ++ [x.a] else q) q) q = q ++ (ds.flatten.filter fun x => decide (x.b = 0)).map (·.a) := fun ds => by
    induction ds with
    | nil => intro q; simp
    | cons r ds ih =>
      intro q
      rw [List.foldl_cons, ih, fo]
      simp
  simp only [F__law_names, m__law_names, runD]
  simp -implicitDefEqProofs [encD]
  refine loop_thenF (fun q : List Int => [some (0, .lst (ds.map encR)), some (1, .lst (q.map D.int)), none, none]) encR (fun q r => r.foldl (fun q x => if x.b = 0 then q ++ [x.a] else q) q) (fun i q => q.length ≤ (ds.take i).flatten.length) ds [] rfl rfl (Nat.le_refl _) ?_ ?_
  · intro i q r hr hq
    have hlr : (ds.take (i + 1)).flatten.length = (ds.take i).flatten.length + r.length := by
      rw [List.take_succ, hr]; simp
    have hle : (ds.take (i + 1)).flatten.length ≤ 1000 := by
      have e : ds.flatten = (ds.take (i + 1)).flatten ++ (ds.drop (i + 1)).flatten := by rw [← List.flatten_append, List.take_append_drop]
      have := congrArg List.length e
      rw [List.length_append] at this
      omega
    refine ⟨?_, ?_⟩
    · rw [fo, List.length_append, List.length_map, hlr]
      have := List.length_filter_le (fun x : T3 => decide (x.b = 0)) r
      omega
    refine Tells.eq ?_
    simp -implicitDefEqProofs [encR]
    refine loop_thenF (fun q : List Int => [some (0, .lst (ds.map encR)), some (1, .lst (q.map D.int)), some (0, .lst (r.map t3)), none]) t3 (fun q x => if x.b = 0 then q ++ [x.a] else q) (fun j p => p.length ≤ q.length + j) r q rfl rfl (by omega) ?_ ?_
    · intro j p x hx hp
      have hj := (List.getElem?_eq_some_iff.mp hx).1
      have hz : p.length < sizeLine := sizeLine_lt (by omega)
      by_cases e : x.b = 0
      · simp -implicitDefEqProofs [e, hz]; omega
      · simp -implicitDefEqProofs [e]; omega
    · intro _
      exact Tells.eqI (by simp -implicitDefEqProofs)
  · intro _
    rw [fo2]
    exact Tells.eqI (by simp -implicitDefEqProofs)
def ovs (ds : Drw) : List T3 := ds.flatten.filter fun x => decide (x.b = 0)
theorem ovs_mem {S : Nat} {ds : Drw} {C : List Crs} (h : WD S ds C) {x : T3} : x ∈ ovs ds ↔ ∃ c ∈ C, x = ⟨c.n, 0, c.c⟩ := by
  unfold ovs
  rw [List.mem_filter, h.mem]
  constructor
  · rintro ⟨⟨c, hc, e⟩, hb⟩
    have hb := of_decide_eq_true hb
    rcases e with rfl | rfl
    · exact ⟨c, hc, rfl⟩
    · exact absurd hb (show ¬ ((1 : Int) = 0) by decide)
  · rintro ⟨c, hc, rfl⟩
    exact ⟨⟨c, hc, .inl rfl⟩, by simp⟩
theorem free_ex (N : List Int) (hN : N.length ≤ 900) (a : Int) : ∃ m : Nat, m ≤ N.length ∧ ((a - 1 + m) % 999 + 1) ∉ N := Classical.byContradiction fun hno => by
  have all : ∀ m : Nat, m ≤ N.length → ((a - 1 + m) % 999 + 1) ∈ N := fun m hm => Classical.byContradiction fun h => hno ⟨m, hm, h⟩
  have hnd : ((List.range (N.length + 1)).map fun m : Nat => (a - 1 + m) % 999 + 1).Nodup := by
    refine List.pairwise_map.mpr (List.Pairwise.imp_of_mem (fun {x y} hx hy hne => ?_) List.nodup_range)
    have hx := List.mem_range.mp hx
    have hy := List.mem_range.mp hy
    intro e
    exact hne (by omega)
  have := nodup_sub_len hnd (m := N) fun x hx => by
    obtain ⟨m, hm, rfl⟩ := List.mem_map.mp hx
    exact all m (by have := List.mem_range.mp hm; omega)
  simp at this
  omega
theorem frun2 (N : List Int) (x1 : Option (Nat × D)) : ∀ (m : Nat) (a : Int) (F : Nat), 1 ≤ a → a ≤ 999 → m < F → ((a - 1 + m) % 999 + 1) ∉ N →
    ∃ z : Int, z ∉ N ∧ 1 ≤ z ∧ z ≤ 999 ∧ wloop (mTb (mOp gIn (mVar 2) (mVar 0))) (mSet 2 0 [] (mOp gAdd (mC (.int 1)) (mOp gMod (mVar 2) (mC (.int 999))))) [] F [some (0, .lst (N.map D.int)), x1, some (0, .int a)] = .ok (.nx [some (0, .lst (N.map D.int)), x1, some (0, .int z)])
  | m, a, 0, _, _, h, _ => by omega
  | m, a, F + 1, h1, h2, hF, hn => by
    have hin : gIn (.int a) (.lst (N.map D.int)) = .ok (.bl (decide (a ∈ N))) := gIn_int a N
    rw [wloop_succ]
    by_cases ha : a ∈ N
    · rw [decide_eq_true ha] at hin
      have gm : Mir.gMod (.int a) (.int 999) = .ok (.int (a % 999)) := e_gMod a 999 (by decide)
      cases m with
      | zero => exact absurd (by rw [show (a - 1 + ((0 : Nat) : Int)) % 999 + 1 = a by omega]; exact ha) hn
      | succ m =>
        obtain ⟨z, z1, z2, z3, z4⟩ := frun2 N x1 m (1 + a % 999) F (by omega) (by omega) (by omega) (by
          rw [show ((1 + a % 999 - 1 + (m : Int)) % 999 + 1) = (a - 1 + ((m + 1 : Nat) : Int)) % 999 + 1 by omega]
          exact hn)
        refine ⟨z, z1, z2, z3, ?_⟩
        rw [← z4]
        generalize D.lst (N.map D.int) = ND at *
        simp -implicitDefEqProofs [hin, gm]
    · rw [decide_eq_false ha] at hin
      refine ⟨a, ha, h1, h2, ?_⟩
      generalize D.lst (N.map D.int) = ND at *
      simp -implicitDefEqProofs [hin]
theorem free29 (N : List Int) (hN : N.length ≤ 900) (v : Int) : ∃ z : Int, F__law_free [.lst (N.map D.int), .int v] = .ok (.int z) ∧ z ∉ N ∧ 1 ≤ z ∧ z ≤ 999 := by
  have m1 := e_gMod v 999 (by decide)
  obtain ⟨a, ha, h1, h2⟩ : ∃ a : Int, 1 + v % 999 = a ∧ 1 ≤ a ∧ a ≤ 999 := ⟨_, rfl, by omega, by omega⟩
  obtain ⟨m, hm, hn⟩ := free_ex N hN a
  obtain ⟨z, z1, z2, z3, z4⟩ := frun2 N (some (0, .int v)) m a 4096 h1 h2 (by omega) hn
  refine ⟨z, ?_, z1, z2, z3⟩
  simp only [F__law_free, m__law_free, runD]
  generalize D.lst (N.map D.int) = ND at *
  simp -implicitDefEqProofs [m1, ha]
  rw [z4]
  simp -implicitDefEqProofs
theorem mixed_is (v : Int) : F__law_mixed [.int v] = .ok (.int (v % 1000003 * 48271 % 1000003)) := by
  have m1 := e_gMod v 1000003 (by decide)
  have u1 := e_gMul (v % 1000003) 48271 (.inr (by decide))
  have m2 := e_gMod (v % 1000003 * 48271) 1000003 (by decide)
  simp only [F__law_mixed, m__law_mixed, runD]
  simp -implicitDefEqProofs [m1, u1, m2]
theorem insE {ds : Drw} {a p : Nat} {r : List T3} (hra : ds[a]? = some r) (x : T3) : (ds.map encR).set a (.lst ((r.map t3).take p ++ [t3 x] ++ (r.map t3).drop p)) = (ins ds a p x).map encR := by
  unfold ins
  rw [show ds.getD a [] = r by rw [List.getD_eq_getElem?_getD, hra]; rfl, List.map_set]
  congr 1
  unfold encR
  rw [List.map_append, List.map_append, List.map_take, List.map_drop]; rfl
theorem flat_ge {ds : Drw} {r : List T3} (h : r ∈ ds) : r.length ≤ ds.flatten.length := by
  obtain ⟨X, Y, e⟩ := List.append_of_mem h
  rw [e, List.flatten_append, List.flatten_cons, List.length_append, List.length_append]
  omega
theorem way29 (A Cc : D) (nm hand w : Int) {ds : Drw} (h1 : 1 ≤ ds.length) (h3 : ds.length ≤ 3) (hf : ds.flatten.length ≤ 80) (rest : Int) : ∃ (a p : Nat) (rest' : Int), a < ds.length ∧
    (tName 6 0 (.int w) [some (0, A), some (0, Cc), some (0, .int nm), some (0, .int rest), some (0, .int hand), some (2, encD ds), none, none] >>= fun e => (mAlias 5 7 0 (mOp gMod (mVar 3) (mUn gLen (mVar 5))) (mMidL 5 3 gFdv (mVar 3) (mMid 5 (mN (mInsert 7 0 (mOp gMod (mVar 3) (mOp gAdd (mUn gLen (mVar 7)) (mC (.int 1)))) (mImm (mTup (mConsE (mImm (mVar 2)) [] (mConsE (mImm (mVar 6)) [] (mConsE (mImm (mVar 4)) [] mNilA))))))) (mMid 5 (mSet 3 0 [] (mN (mOp gFdv (mVar 3) (mUn gLen (mVar 7))))) (mEnd 5 7 0 (mN mSkip)))))) e >>= stepc [6, 7])
      = .ok [some (0, A), some (0, Cc), some (0, .int nm), some (0, .int rest'), some (0, .int hand), some (2, encD (ins ds a p ⟨nm, w, hand⟩)), none, none] := by
  have x0 := Int.emod_nonneg rest (b := (ds.length : Int)) (by omega)
  have x1 := Int.emod_lt_of_pos rest (b := (ds.length : Int)) (by omega)
  obtain ⟨a, ha⟩ : ∃ a : Nat, rest % (ds.length : Int) = a := ⟨(rest % (ds.length : Int)).toNat, by omega⟩
  have haS : a < ds.length := by omega
  obtain ⟨r, hra⟩ : ∃ r, ds[a]? = some r := ⟨_, List.getElem?_eq_getElem haS⟩
  have hrl := flat_ge (List.mem_of_getElem? hra)
  have g1 := e_gMod rest (ds.length : Int) (by omega)
  rw [ha] at g1
  have f1 := e_gFdv rest (ds.length : Int) (by omega) (by omega)
  obtain ⟨r1, hr1⟩ : ∃ r1, r1 = rest / (ds.length : Int) := ⟨_, rfl⟩
  rw [← hr1] at f1
  have y0 := Int.emod_nonneg r1 (b := (r.length : Int) + 1) (by omega)
  have y1 := Int.emod_lt_of_pos r1 (b := (r.length : Int) + 1) (by omega)
  obtain ⟨p, hp⟩ : ∃ p : Nat, r1 % ((r.length : Int) + 1) = p := ⟨(r1 % ((r.length : Int) + 1)).toNat, by omega⟩
  have g2 := e_gMod r1 ((r.length : Int) + 1) (by omega)
  rw [hp] at g2
  have hpl : p ≤ r.length := by omega
  obtain ⟨rr, hrr⟩ : ∃ rr : List T3, rr = r.take p ++ [⟨nm, w, hand⟩] ++ r.drop p := ⟨_, rfl⟩
  have hrrl : rr.length = r.length + 1 := by rw [hrr]; simp; omega
  have f2 := e_gFdv r1 ((r.length : Int) + 1) (by omega) (by omega)
  refine ⟨a, p, r1 / ((r.length : Int) + 1), haS, ?_⟩
  have gl1 : gLen (.lst (ds.map encR)) = .ok (.int (ds.length : Nat)) := by
    show Res.ok (D.int (((ds.map encR).length : Nat) : Int)) = _
    rw [List.length_map]
  have gr1 : gLen (.lst (r.map t3)) = .ok (.int (r.length : Nat)) := by
    show Res.ok (D.int (((r.map t3).length : Nat) : Int)) = _
    rw [List.length_map]
  have hda : (ds.map encR)[a]? = some (.lst (r.map t3)) := by rw [List.getElem?_map, hra]; rfl
  have hix : ixN (ds.map encR).length (a : Int) = some a := by rw [List.length_map]; exact ixN_nat (by omega)
  have i1 := insE (p := p) hra ⟨nm, w, hand⟩
  have p1 : (p : Int) < 4611686018427387904 := by omega
  have z1 : (r.map t3).length < sizeLine := sizeLine_lt (by rw [List.length_map]; omega)
  have t1 : t3 ⟨nm, w, hand⟩ = .tup [.int nm, .int w, .int hand] := rfl
  rw [t1] at i1
  have gr2 : gLen (.lst ((r.map t3).take p ++ [.tup [.int nm, .int w, .int hand]] ++ (r.map t3).drop p)) = .ok (.int ((r.length : Int) + 1)) := by
    show Res.ok (D.int (((((r.map t3).take p ++ [D.tup [.int nm, .int w, .int hand]] ++ (r.map t3).drop p)).length : Nat) : Int)) = _
    rw [List.length_append, List.length_append, List.length_take, List.length_drop, List.length_map, List.length_singleton]
    congr 2
    omega
  have hdl : ((ds.map encR).length : Int) = (ds.length : Int) := by rw [List.length_map]
  unfold encD
  rw [← i1]
  rw [← hdl] at f1 gl1 g1
  generalize hX0 : ds.map encR = X0 at *
  obtain ⟨RI, hRI⟩ : ∃ RI, RI = (r.map t3).take p ++ [.tup [.int nm, .int w, .int hand]] ++ (r.map t3).drop p := ⟨_, rfl⟩
  rw [← hRI] at gr2 ⊢
  have hRI' : RI = (r.map t3).take p ++ .tup [.int nm, .int w, .int hand] :: (r.map t3).drop p := by rw [hRI]; simp
  have hrl1 : (r.length : Int) = ((r.map t3).length : Int) := by rw [List.length_map]
  rw [hrl1] at g2 f2 gr2 ⊢
  generalize r.map t3 = R1 at *
  generalize r1 / ((R1.length : Int) + 1) = r2 at *
  simp -implicitDefEqProofs [mAlias, g1, hix, hda, mMidL, f1, mMid, mInsert, gr1, g2]
  rw [if_pos ⟨p1, z1⟩]
  simp -implicitDefEqProofs [← hRI', gr2, f2, mEnd]

theorem WD.more {S : Nat} {ds : Drw} {C : List Crs} (h : WD S ds C) (c : Crs) (hn : c.n ∉ C.map (·.n)) (hi : c.i < S) (hj : c.j < S) (hc : c.c = 1 ∨ c.c = -1) (p q : Nat) : WD S (ins (ins ds c.i p ⟨c.n, 0, c.c⟩) c.j q ⟨c.n, 1, c.c⟩) (C ++ [c]) := by
  refine ⟨h.di.more c hn hi hj p q, ?_, fun d hd => ?_⟩
  · have p1 := ins_flat (ds := ds) (k := c.i) (by rw [h.di.len]; exact hi) p ⟨c.n, 0, c.c⟩
    have p2 := ins_flat (ds := ins ds c.i p ⟨c.n, 0, c.c⟩) (k := c.j) (by rw [ins_len, h.di.len]; exact hj) q ⟨c.n, 1, c.c⟩
    rw [psg_snoc]
    refine (p2.trans ((p1.trans (h.pm.cons _)).cons _)).trans ?_
    refine (List.Perm.swap _ _ _).trans ?_
    exact (List.perm_append_comm (l₁ := [⟨c.n, 0, c.c⟩, ⟨c.n, 1, c.c⟩]) (l₂ := psg C))
  · rcases List.mem_append.mp hd with hd | hd
    · exact h.hd d hd
    · rw [List.mem_singleton.mp hd]; exact hc
theorem cpy15 {x : Drw} (hx : x.length ≤ sizeLine) (v : Nat) (src : Mir.Env → Res D) (env : Mir.Env) (h9 : env[v]? = some none) (hs : src env = .ok (encD x)) : mLc (fun env => src env >>= itemsL) (tName v) (fun _ => .ok true) (fun env => (fun env => (mVar v) env >>= fun d => itemsL d >>= immL) env >>= fun ds => .ok (.lst ds)) [v] env = .ok (encD x) := by
  have h9l : v < env.length := (List.getElem?_eq_some_iff.mp h9).1
  have hcp := lc_all (t := tName v) (env := env) (me := fun env => (fun env => (mVar v) env >>= fun d => itemsL d >>= immL) env >>= fun ds => .ok (.lst ds)) encR encR x (fun r hr => by
    have hR : itemsL (encR r) = .ok (r.map t3) := rfl
    have i1 : immAll (r.map t3) = true := by simp
    have e : encR r = .lst (r.map t3) := rfl
    rw [e] at hR ⊢
    generalize r.map t3 = RR at *
    simp -implicitDefEqProofs [h9l, immL, hR, i1])
  have hno : noOwn [v] env = true := by
    simp only [noOwn_cons, h9, noOwn_nil]; rfl
  have hi : itemsL (encD x) = .ok (x.map encR) := rfl
  rw [e_mLc, hno]
  simp -implicitDefEqProofs [hs, hi]
  simp -implicitDefEqProofs at hcp
  rw [hcp]
  simp -implicitDefEqProofs [hx]
  rfl
theorem set_of {i k : Nat} {cs : List Nat} {m : Mir.Env → Res D} {env e : Mir.Env} {d : D} (h : m env = .ok d) (h2 : tName i k d (clear env cs) = .ok e) : mSet i k cs m env = .ok (.nx e) := by
  unfold mSet
  rw [h]
  show (tName i k d (clear env cs) >>= fun e => Res.ok (Ctl.nx e)) = _
  rw [h2]; rfl
theorem crossed_is {S : Nat} {ds : Drw} {C : List Crs} (h : WD S ds C) (hS1 : 1 ≤ S) (hS : S ≤ 3) (hC : C.length ≤ 10) (v : Int) : ∃ (ds' : Drw) (c : Crs), F__law_crossed [encD ds, .int v] = .ok (encD ds') ∧ WD S ds' (C ++ [c]) := by
  have hl := h.len
  have dl := h.di.len
  have hnm := lnames0 (ds := ds) (by omega)
  obtain ⟨N, hN⟩ : ∃ N, N = ((ds.flatten.filter fun x => decide (x.b = 0)).map (·.a)) := ⟨_, rfl⟩
  rw [← hN] at hnm
  have hNl : N.length ≤ 900 := by
    rw [hN, List.length_map]
    exact Nat.le_trans (List.length_filter_le _ _) (by omega)
  obtain ⟨z, hz, hzN, _, _⟩ := free29 N hNl v
  have hzC : z ∉ C.map (·.n) := fun hm => by
    obtain ⟨c, hc, e⟩ := List.mem_map.mp hm
    apply hzN
    rw [hN]
    exact List.mem_map.mpr ⟨⟨c.n, 0, c.c⟩, (ovs_mem h).mpr ⟨c, hc, rfl⟩, e⟩
  have hmx := mixed_is v
  generalize v % 1000003 * 48271 % 1000003 = mv at hmx
  have m2 := e_gMod mv 2 (by decide)
  have u1 := e_gMul 2 (mv % 2) (.inl (by decide))
  have fd := e_gFdv mv 2 (by decide) (by decide)
  obtain ⟨hand, hh⟩ : ∃ hand, hand = 1 - 2 * (mv % 2) := ⟨_, rfl⟩
  have hh1 : hand = 1 ∨ hand = -1 := by omega
  obtain ⟨a, p, r1, haS, hw1⟩ := way29 (encD ds) (.int v) z hand 0 (ds := ds) (by omega) (by omega) (by omega) (mv / 2)
  obtain ⟨ds1, hds1⟩ : ∃ ds1, ds1 = ins ds a p ⟨z, 0, hand⟩ := ⟨_, rfl⟩
  have hl1 : ds1.length = ds.length := by rw [hds1, ins_len]
  have hf1 : ds1.flatten.length = ds.flatten.length + 1 := by
    rw [hds1, (ins_flat haS p ⟨z, 0, hand⟩).length_eq, List.length_cons]
  rw [← hds1] at hw1
  obtain ⟨b, q, r2, hbS, hw2⟩ := way29 (encD ds) (.int v) z hand 1 (ds := ds1) (by omega) (by omega) (by omega) r1
  refine ⟨ins ds1 b q ⟨z, 1, hand⟩, ⟨z, a, b, hand⟩, ?_, by rw [hds1]; exact h.more ⟨z, a, b, hand⟩ hzC (by rw [← dl]; exact haS) (by rw [← dl, ← hl1]; exact hbS) hh1 p q⟩
  have cp := cpy15 (x := ds) (sizeLine_big (by omega)) 7 (mVarK 0 0) [some (0, encD ds), some (0, .int v), some (0, .int z), some (0, .int (mv / 2)), some (0, .int hand), none, none, none] rfl rfl
  have hg : gRng1 (.int 2) = .ok [.int 0, .int 1] := rfl
  have iN : immAt 1 (.lst (N.map D.int)) = true := by simp
  refine Tells.eq ?_
  simp only [F__law_crossed, m__law_crossed, runD]
  obtain ⟨DD, hDD⟩ : ∃ DD, DD = encD ds := ⟨_, rfl⟩
  have hcp := cp
  rw [← hDD] at hnm
  refine t_seq (e := [some (0, encD ds), some (0, .int v), some (0, .int z), none, none, none, none, none]) (by
    rw [← hDD]
    generalize D.lst (N.map D.int) = ND at *
    simp -implicitDefEqProofs [hnm, iN, hz]) ?_
  refine t_seq (e := [some (0, encD ds), some (0, .int v), some (0, .int z), some (0, .int mv), none, none, none, none]) (by
    rw [← hDD]
    simp -implicitDefEqProofs [hmx]) ?_
  refine t_seq (e := [some (0, encD ds), some (0, .int v), some (0, .int z), some (0, .int mv), some (0, .int hand), none, none, none]) (by
    rw [← hDD, hh]
    simp -implicitDefEqProofs [m2, u1]) ?_
  refine t_seq (e := [some (0, encD ds), some (0, .int v), some (0, .int z), some (0, .int (mv / 2)), some (0, .int hand), none, none, none]) (by
    rw [← hDD]
    simp -implicitDefEqProofs [fd]) ?_
  refine t_seq (e := [some (0, encD ds), some (0, .int v), some (0, .int z), some (0, .int (mv / 2)), some (0, .int hand), some (2, encD ds), none, none]) (set_of hcp rfl) ?_
  refine t_seq (e := [some (0, encD ds), some (0, .int v), some (0, .int z), some (0, .int r2), some (0, .int hand), some (2, encD (ins ds1 b q ⟨z, 1, hand⟩)), none, none]) ?_ ?_
  · have L := loop_step (xs := [.int 1]) hw1
    have L2 := loop_step (xs := []) hw2
    rw [L2] at L
    refine Eq.trans (show _ = loop _ _ _ [.int 0, .int 1] _ from ?_) L
    rfl
  · refine Tells.eqI ?_
    generalize encD (ins ds1 b q ⟨z, 1, hand⟩) = Q at *
    generalize encD ds = Q0 at *
    simp -implicitDefEqProofs
/-! spots and their strings -/
theorem pt_val {β κ : Type} [DecidableEq κ] {p : List (κ × β)} {k : κ} {v : β} {y : κ × β} (h : y ∈ pt p k v) : y.2 = v ∨ y ∈ p := by
  unfold pt at h
  split at h
  · obtain ⟨x, hx, rfl⟩ := List.mem_map.mp h
    by_cases e : x.1 = k
    · rw [if_pos e]; exact .inl rfl
    · rw [if_neg e]; exact .inr hx
  · rcases List.mem_append.mp h with h | h
    · exact .inr h
    · rw [List.mem_singleton.mp h]; exact .inl rfl
theorem look_ok {α : Type} {t : Nat → D → Mir.Env → Res Mir.Env} {body : Mir.Env → Res Ctl} {fg : List Nat} {env : Mir.Env} (enc : α → D) : ∀ (xs : List α), (∀ a ∈ xs, (t 0 (enc a) env >>= fun e => body e >>= stepc fg) = .ok env) → loop t body fg (xs.map enc) env = .ok (.nx env)
  | [], _ => rfl
  | x :: xs, h => by
    rw [List.map_cons, loop_step (h x List.mem_cons_self)]
    exact look_ok enc xs fun a ha => h a (List.mem_cons_of_mem _ ha)
theorem s_seq2 {m1 m2 : Mir.Env → Res Ctl} {env e : Mir.Env} {r : Res Ctl} (h : m1 env = .ok (.nx e)) (h2 : m2 e = r) : mSeq m1 m2 env = r := by
  unfold mSeq
  rw [h]; exact h2
theorem for_of {it : Mir.Env → Res (List D)} {t : Nat → D → Mir.Env → Res Mir.Env} {b : Mir.Env → Res Ctl} {fg : List Nat} {env : Mir.Env} {ds : List D} {r : Res Ctl} (h : it env = .ok ds) (hl : loop t b fg ds env = r) : mFor it t b fg env = r := by
  unfold mFor
  rw [h]; exact hl

/-! ### moves as data -/
def okB (r : Res D) (i : Bool) : Bool := match r with
  | .ok (.bl j) => decide (j = i)
  | _ => false
theorem okB_eq {r : Res D} {i : Bool} (h : okB r i = true) : r = .ok (.bl i) := by
  unfold okB at h
  split at h
  · rw [of_decide_eq_true h]
  · cases h
section
variable {κ : Str → Addr} {c f m : Str} {cs ns : List Str} {as ds : List D} {d : D} {kr : Nat}
theorem fld_is (hc : c ∈ cs) (hl : ns.length = as.length) (hk : (ns.zip as).lookup f = some d) : gFld κ cs f (.ob c (κ c) ns as) = .ok d := by
  show (if (c ∈ cs ∧ κ c = κ c) ∧ ns.length = as.length then (match (ns.zip as).lookup f with | some d => Res.ok d | none => .bad) else .bad) = _
  rw [if_pos ⟨⟨hc, rfl⟩, hl⟩, hk]
theorem make_is (hi : immAll ds = true) (hl : ds.length = ns.length) : gMake κ c ns ds = .ok (.ob c (κ c) ns ds) := if_pos ⟨hi, hl⟩
theorem meth_is {t : List (Str × (List D → Res D))} {F : List D → Res D} (ht : t.lookup c = some F) (hm : m ∉ ns) (h : F (.ob c (κ c) ns as :: ds) = .ok d) (hi : immAt kr d = true) : gMeth κ t m kr (.ob c (κ c) ns as) ds = .ok d := by
  show (match t.lookup c with
    | some F => if κ c = κ c ∧ m ∉ ns then F (.ob c (κ c) ns as :: ds) >>= fun d => if immAt kr d then .ok d else .bad else .bad
    | none => .bad) = _
  rw [ht]
  show (if κ c = κ c ∧ m ∉ ns then F (.ob c (κ c) ns as :: ds) >>= fun d => if immAt kr d then .ok d else .bad else .bad) = _
  rw [if_pos ⟨rfl, hm⟩, h]
  show (if immAt kr d = true then Res.ok d else .bad) = _
  rw [if_pos hi]
end
inductive Mv where
  | lay (n s : Int) (o u : Int × Int) (t h : Int)
  | slide (n s t d : Int)
  | curl (n : Int) (p : Int × Int) (f h : Int)
  | prt (n s : Int)
  | uncurl (n : Int)
inductive Pt where
  | i (x : Int)
  | s (p : Int × Int)
def encPt : Pt → D
  | .i x => .int x
  | .s p => t2 p
def Mv.word : Mv → Str
  | .lay .. => Str.ofString "lay"
  | .slide .. => Str.ofString "slide"
  | .curl .. => Str.ofString "curl"
  | .prt .. => Str.ofString "part"
  | .uncurl .. => Str.ofString "uncurl"
def Mv.pts : Mv → List Pt
  | .lay n s o u t h => [.i n, .i s, .s o, .s u, .i t, .i h]
  | .slide n s t d => [.i n, .i s, .i t, .i d]
  | .curl n p f h => [.i n, .s p, .i f, .i h]
  | .prt n s => [.i n, .i s]
  | .uncurl n => [.i n]
def Mv.told (m : Mv) : D := .tup (.str m.word :: m.pts.map encPt)

def ob_lay (κ : Str → Addr) (x0 x1 x2 x3 x4 x5 : D) : D := .ob "Lay" (κ "Lay") ["name", "second", "over", "under", "turned", "hand"] [x0, x1, x2, x3, x4, x5]
def ob_slide (κ : Str → Addr) (x0 x1 x2 x3 : D) : D := .ob "Slide" (κ "Slide") ["name", "second", "third", "turn"] [x0, x1, x2, x3]
def ob_curl (κ : Str → Addr) (x0 x1 x2 x3 : D) : D := .ob "Curl" (κ "Curl") ["name", "spot", "first", "hand"] [x0, x1, x2, x3]
def ob_part (κ : Str → Addr) (x0 x1 : D) : D := .ob "Part" (κ "Part") ["name", "second"] [x0, x1]
def ob_uncurl (κ : Str → Addr) (x0 : D) : D := .ob "Uncurl" (κ "Uncurl") ["name"] [x0]
def Mv.ob (κ : Str → Addr) : Mv → D
  | .lay n s o u t h => ob_lay κ (.int n) (.int s) (t2 o) (t2 u) (.int t) (.int h)
  | .slide n s t d => ob_slide κ (.int n) (.int s) (.int t) (.int d)
  | .curl n p f h => ob_curl κ (.int n) (t2 p) (.int f) (.int h)
  | .prt n s => ob_part κ (.int n) (.int s)
  | .uncurl n => ob_uncurl κ (.int n)
theorem mk_lay (κ : Str → Addr) (x0 x1 x2 x3 x4 x5 : D) (h : immAll [x0, x1, x2, x3, x4, x5] = true) : gMake κ "Lay" ["name", "second", "over", "under", "turned", "hand"] [x0, x1, x2, x3, x4, x5] = .ok (ob_lay κ x0 x1 x2 x3 x4 x5) := make_is h rfl
theorem fld_slide_name (κ : Str → Addr) (x0 x1 x2 x3 : D) : gFld κ ["Slide"] "name" (ob_slide κ x0 x1 x2 x3) = .ok x0 := fld_is (by decide) rfl rfl
theorem fld_slide_second (κ : Str → Addr) (x0 x1 x2 x3 : D) : gFld κ ["Slide"] "second" (ob_slide κ x0 x1 x2 x3) = .ok x1 := fld_is (by decide) rfl rfl
theorem fld_slide_third (κ : Str → Addr) (x0 x1 x2 x3 : D) : gFld κ ["Slide"] "third" (ob_slide κ x0 x1 x2 x3) = .ok x2 := fld_is (by decide) rfl rfl
theorem fld_slide_turn (κ : Str → Addr) (x0 x1 x2 x3 : D) : gFld κ ["Slide"] "turn" (ob_slide κ x0 x1 x2 x3) = .ok x3 := fld_is (by decide) rfl rfl
theorem mk_slide (κ : Str → Addr) (x0 x1 x2 x3 : D) (h : immAll [x0, x1, x2, x3] = true) : gMake κ "Slide" ["name", "second", "third", "turn"] [x0, x1, x2, x3] = .ok (ob_slide κ x0 x1 x2 x3) := make_is h rfl
theorem mk_curl (κ : Str → Addr) (x0 x1 x2 x3 : D) (h : immAll [x0, x1, x2, x3] = true) : gMake κ "Curl" ["name", "spot", "first", "hand"] [x0, x1, x2, x3] = .ok (ob_curl κ x0 x1 x2 x3) := make_is h rfl
theorem fld_part_name (κ : Str → Addr) (x0 x1 : D) : gFld κ ["Part"] "name" (ob_part κ x0 x1) = .ok x0 := fld_is (by decide) rfl rfl
theorem fld_part_second (κ : Str → Addr) (x0 x1 : D) : gFld κ ["Part"] "second" (ob_part κ x0 x1) = .ok x1 := fld_is (by decide) rfl rfl
theorem mk_part (κ : Str → Addr) (x0 x1 : D) (h : immAll [x0, x1] = true) : gMake κ "Part" ["name", "second"] [x0, x1] = .ok (ob_part κ x0 x1) := make_is h rfl
theorem fld_uncurl_name (κ : Str → Addr) (x0 : D) : gFld κ ["Uncurl"] "name" (ob_uncurl κ x0) = .ok x0 := fld_is (by decide) rfl rfl
theorem mk_uncurl (κ : Str → Addr) (x0 : D) (h : immAll [x0] = true) : gMake κ "Uncurl" ["name"] [x0] = .ok (ob_uncurl κ x0) := make_is h rfl
theorem w_lay_lay : gEq (.str (Str.ofString "lay")) (.str (Str.ofString "lay")) = .ok (.bl true) := okB_eq (by decide +kernel)
theorem w_lay_slide : gEq (.str (Str.ofString "lay")) (.str (Str.ofString "slide")) = .ok (.bl false) := okB_eq (by decide +kernel)
theorem w_lay_curl : gEq (.str (Str.ofString "lay")) (.str (Str.ofString "curl")) = .ok (.bl false) := okB_eq (by decide +kernel)
theorem w_lay_part : gEq (.str (Str.ofString "lay")) (.str (Str.ofString "part")) = .ok (.bl false) := okB_eq (by decide +kernel)
theorem w_lay_uncurl : gEq (.str (Str.ofString "lay")) (.str (Str.ofString "uncurl")) = .ok (.bl false) := okB_eq (by decide +kernel)
theorem w_slide_lay : gEq (.str (Str.ofString "slide")) (.str (Str.ofString "lay")) = .ok (.bl false) := okB_eq (by decide +kernel)
theorem w_slide_slide : gEq (.str (Str.ofString "slide")) (.str (Str.ofString "slide")) = .ok (.bl true) := okB_eq (by decide +kernel)
theorem w_slide_curl : gEq (.str (Str.ofString "slide")) (.str (Str.ofString "curl")) = .ok (.bl false) := okB_eq (by decide +kernel)
theorem w_slide_part : gEq (.str (Str.ofString "slide")) (.str (Str.ofString "part")) = .ok (.bl false) := okB_eq (by decide +kernel)
theorem w_slide_uncurl : gEq (.str (Str.ofString "slide")) (.str (Str.ofString "uncurl")) = .ok (.bl false) := okB_eq (by decide +kernel)
theorem w_curl_lay : gEq (.str (Str.ofString "curl")) (.str (Str.ofString "lay")) = .ok (.bl false) := okB_eq (by decide +kernel)
theorem w_curl_slide : gEq (.str (Str.ofString "curl")) (.str (Str.ofString "slide")) = .ok (.bl false) := okB_eq (by decide +kernel)
theorem w_curl_curl : gEq (.str (Str.ofString "curl")) (.str (Str.ofString "curl")) = .ok (.bl true) := okB_eq (by decide +kernel)
theorem w_curl_part : gEq (.str (Str.ofString "curl")) (.str (Str.ofString "part")) = .ok (.bl false) := okB_eq (by decide +kernel)
theorem w_curl_uncurl : gEq (.str (Str.ofString "curl")) (.str (Str.ofString "uncurl")) = .ok (.bl false) := okB_eq (by decide +kernel)
theorem w_part_lay : gEq (.str (Str.ofString "part")) (.str (Str.ofString "lay")) = .ok (.bl false) := okB_eq (by decide +kernel)
theorem w_part_slide : gEq (.str (Str.ofString "part")) (.str (Str.ofString "slide")) = .ok (.bl false) := okB_eq (by decide +kernel)
theorem w_part_curl : gEq (.str (Str.ofString "part")) (.str (Str.ofString "curl")) = .ok (.bl false) := okB_eq (by decide +kernel)
theorem w_part_part : gEq (.str (Str.ofString "part")) (.str (Str.ofString "part")) = .ok (.bl true) := okB_eq (by decide +kernel)
theorem w_part_uncurl : gEq (.str (Str.ofString "part")) (.str (Str.ofString "uncurl")) = .ok (.bl false) := okB_eq (by decide +kernel)
theorem w_uncurl_lay : gEq (.str (Str.ofString "uncurl")) (.str (Str.ofString "lay")) = .ok (.bl false) := okB_eq (by decide +kernel)
theorem w_uncurl_slide : gEq (.str (Str.ofString "uncurl")) (.str (Str.ofString "slide")) = .ok (.bl false) := okB_eq (by decide +kernel)
theorem w_uncurl_curl : gEq (.str (Str.ofString "uncurl")) (.str (Str.ofString "curl")) = .ok (.bl false) := okB_eq (by decide +kernel)
theorem w_uncurl_part : gEq (.str (Str.ofString "uncurl")) (.str (Str.ofString "part")) = .ok (.bl false) := okB_eq (by decide +kernel)
theorem w_uncurl_uncurl : gEq (.str (Str.ofString "uncurl")) (.str (Str.ofString "uncurl")) = .ok (.bl true) := okB_eq (by decide +kernel)

/-! ### what moves tell -/
theorem gIx_tup {xs : List D} {i : Nat} {d : D} (h : xs[i]? = some d) : gIx (.tup xs) (.int (i : Int)) = .ok d := by
  have hl := (List.getElem?_eq_some_iff.mp h).1
  have h2 : xs[i] = d := (List.getElem?_eq_some_iff.mp h).2
  simp [gIx, atI, ixN, hl, h2]
theorem gIx_told (m : Mv) {i : Nat} {x : Pt} (h : m.pts[i]? = some x) : gIx m.told (.int ((i + 1 : Nat) : Int)) = .ok (encPt x) := gIx_tup (i := i + 1) (by rw [List.getElem?_cons_succ, List.getElem?_map, h]; rfl)
theorem moveof_is (κ : Str → Addr) (m : Mv) : F_move_of κ [m.told] = .ok (m.ob κ) := by
  cases m with
  | lay n s o u t h =>
    have g1 : gIx (Mv.lay n s o u t h).told (.int 1) = .ok (.int n) := rfl
    have g2 : gIx (Mv.lay n s o u t h).told (.int 2) = .ok (.int s) := rfl
    have g3 : gIx (Mv.lay n s o u t h).told (.int 3) = .ok (t2 o) := rfl
    have g4 : gIx (Mv.lay n s o u t h).told (.int 4) = .ok (t2 u) := rfl
    have g5 : gIx (Mv.lay n s o u t h).told (.int 5) = .ok (.int t) := rfl
    have g6 : gIx (Mv.lay n s o u t h).told (.int 6) = .ok (.int h) := rfl
    have hm := mk_lay κ (.int n) (.int s) (t2 o) (t2 u) (.int t) (.int h) rfl
    have g0 : gIx (Mv.lay n s o u t h).told (.int 0) = .ok (.str (Str.ofString "lay")) := rfl
    have ho : (Mv.lay n s o u t h).ob κ = ob_lay κ (.int n) (.int s) (t2 o) (t2 u) (.int t) (.int h) := rfl
    rw [ho]
    generalize (Mv.lay n s o u t h).told = TT at *
    generalize ob_lay κ (.int n) (.int s) (t2 o) (t2 u) (.int t) (.int h) = O at *
    generalize t2 o = T_o at *
    generalize t2 u = T_u at *
    simp only [F_move_of, m_move_of, runD]
    simp -implicitDefEqProofs [g0, g1, g2, g3, g4, g5, g6, w_lay_lay, w_lay_slide, w_lay_curl, w_lay_part, w_lay_uncurl, hm]
  | slide n s t d =>
    have g1 : gIx (Mv.slide n s t d).told (.int 1) = .ok (.int n) := rfl
    have g2 : gIx (Mv.slide n s t d).told (.int 2) = .ok (.int s) := rfl
    have g3 : gIx (Mv.slide n s t d).told (.int 3) = .ok (.int t) := rfl
    have g4 : gIx (Mv.slide n s t d).told (.int 4) = .ok (.int d) := rfl
    have hm := mk_slide κ (.int n) (.int s) (.int t) (.int d) rfl
    have g0 : gIx (Mv.slide n s t d).told (.int 0) = .ok (.str (Str.ofString "slide")) := rfl
    have ho : (Mv.slide n s t d).ob κ = ob_slide κ (.int n) (.int s) (.int t) (.int d) := rfl
    rw [ho]
    generalize (Mv.slide n s t d).told = TT at *
    generalize ob_slide κ (.int n) (.int s) (.int t) (.int d) = O at *
    simp only [F_move_of, m_move_of, runD]
    simp -implicitDefEqProofs [g0, g1, g2, g3, g4, w_slide_lay, w_slide_slide, w_slide_curl, w_slide_part, w_slide_uncurl, hm]
  | curl n p f h =>
    have g1 : gIx (Mv.curl n p f h).told (.int 1) = .ok (.int n) := rfl
    have g2 : gIx (Mv.curl n p f h).told (.int 2) = .ok (t2 p) := rfl
    have g3 : gIx (Mv.curl n p f h).told (.int 3) = .ok (.int f) := rfl
    have g4 : gIx (Mv.curl n p f h).told (.int 4) = .ok (.int h) := rfl
    have hm := mk_curl κ (.int n) (t2 p) (.int f) (.int h) rfl
    have g0 : gIx (Mv.curl n p f h).told (.int 0) = .ok (.str (Str.ofString "curl")) := rfl
    have ho : (Mv.curl n p f h).ob κ = ob_curl κ (.int n) (t2 p) (.int f) (.int h) := rfl
    rw [ho]
    generalize (Mv.curl n p f h).told = TT at *
    generalize ob_curl κ (.int n) (t2 p) (.int f) (.int h) = O at *
    generalize t2 p = T_p at *
    simp only [F_move_of, m_move_of, runD]
    simp -implicitDefEqProofs [g0, g1, g2, g3, g4, w_curl_lay, w_curl_slide, w_curl_curl, w_curl_part, w_curl_uncurl, hm]
  | prt n s =>
    have g1 : gIx (Mv.prt n s).told (.int 1) = .ok (.int n) := rfl
    have g2 : gIx (Mv.prt n s).told (.int 2) = .ok (.int s) := rfl
    have hm := mk_part κ (.int n) (.int s) rfl
    have g0 : gIx (Mv.prt n s).told (.int 0) = .ok (.str (Str.ofString "part")) := rfl
    have ho : (Mv.prt n s).ob κ = ob_part κ (.int n) (.int s) := rfl
    rw [ho]
    generalize (Mv.prt n s).told = TT at *
    generalize ob_part κ (.int n) (.int s) = O at *
    simp only [F_move_of, m_move_of, runD]
    simp -implicitDefEqProofs [g0, g1, g2, w_part_lay, w_part_slide, w_part_curl, w_part_part, w_part_uncurl, hm]
  | uncurl n =>
    have g1 : gIx (Mv.uncurl n).told (.int 1) = .ok (.int n) := rfl
    have hm := mk_uncurl κ (.int n) rfl
    have g0 : gIx (Mv.uncurl n).told (.int 0) = .ok (.str (Str.ofString "uncurl")) := rfl
    have ho : (Mv.uncurl n).ob κ = ob_uncurl κ (.int n) := rfl
    rw [ho]
    generalize (Mv.uncurl n).told = TT at *
    generalize ob_uncurl κ (.int n) = O at *
    simp only [F_move_of, m_move_of, runD]
    simp -implicitDefEqProofs [g0, g1, w_uncurl_lay, w_uncurl_slide, w_uncurl_curl, w_uncurl_part, w_uncurl_uncurl, hm]
/-! ### passings put behind a spot -/
def putR (k : Int × Int) (ps : List T3) (r : List T3) : List T3 := r.flatMap fun x => x :: (if ky x = k then ps else [])
def putK (k : Int × Int) (ps : List T3) (p : List T3 × Nat) : List T3 := (if p.1 = [] ∧ k = ((p.2 : Int), 2) then ps else []) ++ putR k ps p.1
def putL (ds : Drw) (k : Int × Int) (ps : List T3) : Drw := ds.zipIdx.map (putK k ps)
theorem Rot.flatMap {α β : Type} (g : α → List β) {a b : List α} (h : Rot a b) : Rot (a.flatMap g) (b.flatMap g) := by
  obtain ⟨u, v, rfl, rfl⟩ := h
  exact ⟨u.flatMap g, v.flatMap g, by rw [List.flatMap_append], by rw [List.flatMap_append]⟩
theorem Rot.nil_iff {α : Type} {a b : List α} (h : Rot a b) : a = [] ↔ b = [] := by
  obtain ⟨u, v, rfl, rfl⟩ := h
  simp [and_comm]
theorem Rot.putKr {k : Int × Int} {ps r t : List T3} {n : Nat} (h : Rot r t) : Rot (putK k ps (r, n)) (putK k ps (t, n)) := by
  by_cases hr : r = []
  · have ht := h.nil_iff.mp hr
    rw [hr, ht]; exact Rot.refl' _
  · have ht : t ≠ [] := fun e => hr (h.nil_iff.mpr e)
    unfold putK
    rw [if_neg (fun z => hr z.1), if_neg (fun z => ht z.1)]
    exact Rot.flatMap _ h
theorem RotL.putF {k : Int × Int} {ps : List T3} : ∀ {a b : Drw} (n : Nat), RotL a b → RotL ((a.zipIdx n).map (putK k ps)) ((b.zipIdx n).map (putK k ps))
  | [], [], _, _ => trivial
  | r :: ds, t :: T, n, h => ⟨h.1.putKr, RotL.putF (n + 1) h.2⟩
  | [], _ :: _, _, h => h.elim
  | _ :: _, [], _, h => h.elim
theorem RotL.put {k : Int × Int} {ps : List T3} {a b : Drw} (h : RotL a b) : RotL (putL a k ps) (putL b k ps) := RotL.putF 0 h
theorem RotL.seatL : ∀ ds : Drw, RotL ds (ds.map seat)
  | [] => trivial
  | r :: ds => ⟨seat_rot r, RotL.seatL ds⟩
theorem RotL.seatedL : ∀ {a b : Drw}, RotL a b → (∀ r ∈ a, (r.map ky).Nodup) → b.map seat = a.map seat
  | [], [], _, _ => rfl
  | r :: ds, t :: T, h, hn => by
    rw [List.map_cons, List.map_cons, seat_turn h.1 (hn r List.mem_cons_self), RotL.seatedL h.2 fun q hq => hn q (List.mem_cons_of_mem _ hq)]
  | [], _ :: _, h, _ => h.elim
  | _ :: _, [], h, _ => h.elim
theorem RotL.get : ∀ {a b : Drw} {i : Nat} {r : List T3}, RotL a b → a[i]? = some r → ∃ t, b[i]? = some t ∧ Rot r t
  | r :: ds, t :: T, 0, q, h, e => by
    cases e
    exact ⟨t, rfl, h.1⟩
  | r :: ds, t :: T, i + 1, q, h, e => RotL.get (i := i) h.2 (by simpa using e)
  | [], [], _, _, _, e => by simp at e
  | [], _ :: _, _, _, h, _ => h.elim
  | _ :: _, [], _, _, h, _ => h.elim
theorem uk_rows {ds : Drw} (hu : UK ds) : ∀ r ∈ ds, (r.map ky).Nodup := fun r hr => by
  obtain ⟨X, Y, e⟩ := List.append_of_mem hr
  unfold UK at hu
  rw [e, List.flatten_append, List.flatten_cons, List.map_append, List.map_append] at hu
  exact (List.nodup_append.mp (List.nodup_append.mp hu).2.1).1
theorem RotL.uk {a b : Drw} (h : RotL a b) (hu : UK a) : UK b := (h.flat.map ky).nodup_iff.mpr hu
/-! how often -/
theorem putR_perm (k : Int × Int) (ps : List T3) : ∀ r : List T3, (putR k ps r).Perm (r ++ (List.replicate ((r.map ky).count k) ps).flatten)
  | [] => by simp [putR]
  | x :: r => by
    have ih := putR_perm k ps r
    have e : putR k ps (x :: r) = x :: ((if ky x = k then ps else []) ++ putR k ps r) := rfl
    rw [e, List.map_cons, List.count_cons, List.cons_append]
    refine List.Perm.cons x ?_
    by_cases h : ky x = k
    · rw [if_pos h, if_pos (by simp [h]), List.replicate_succ, List.flatten_cons]
      refine (List.Perm.append_left ps ih).trans ?_
      rw [← List.append_assoc, ← List.append_assoc]
      exact List.Perm.append_right _ List.perm_append_comm
    · rw [if_neg h, if_neg (by simpa using h), List.nil_append, Nat.add_zero]
      exact ih
theorem putK_perm (k : Int × Int) (ps : List T3) (p : List T3 × Nat) : (putK k ps p).Perm (p.1 ++ (List.replicate ((rowK p).count k) ps).flatten) := by
  unfold putK rowK
  rw [List.count_append]
  by_cases h1 : p.1 = []
  · by_cases h2 : k = ((p.2 : Int), 2)
    · rw [if_pos ⟨h1, h2⟩, if_pos h1, h1, h2]
      simp [putR]
    · rw [if_neg (fun z => h2 z.2), if_pos h1, h1]
      have : List.count k [((p.2 : Int), (2 : Int))] = 0 := by
        rw [List.count_eq_zero]
        intro hm
        exact h2 (List.mem_singleton.mp hm)
      rw [this]
      simp [putR]
  · rw [if_neg (fun z => h1 z.1), if_neg h1, List.nil_append, List.count_nil, Nat.zero_add]
    exact putR_perm k ps p.1
theorem putL_perm' (k : Int × Int) (ps : List T3) : ∀ xs : List (List T3 × Nat), ((xs.map (putK k ps)).flatten).Perm ((xs.map (·.1)).flatten ++ (List.replicate ((xs.flatMap rowK).count k) ps).flatten)
  | [] => by simp
  | p :: xs => by
    have ih := putL_perm' k ps xs
    rw [List.map_cons, List.flatten_cons, List.map_cons, List.flatten_cons, List.flatMap_cons, List.count_append, ← List.replicate_append_replicate, List.flatten_append]
    refine ((putK_perm k ps p).append ih).trans ?_
    rw [List.append_assoc, List.append_assoc]
    refine List.Perm.append_left _ ?_
    rw [← List.append_assoc, ← List.append_assoc]
    exact List.Perm.append_right _ List.perm_append_comm
theorem putL_perm {ds : Drw} {k : Int × Int} (ps : List T3) (hn : (spk ds).Nodup) (hk : k ∈ spk ds) : (putL ds k ps).flatten.Perm (ds.flatten ++ ps) := by
  have h := putL_perm' k ps ds.zipIdx
  have hc : (ds.zipIdx.flatMap rowK).count k = 1 := by
    show (spk ds).count k = 1
    rw [hn.count, if_pos hk]
  rw [hc] at h
  have e : ds.zipIdx.map (·.1) = ds := List.zipIdx_map_fst 0 ds
  rw [e] at h
  unfold putL
  simpa using h
/-! what is put, taken out -/
theorem RotL.filter (f : T3 → Bool) : ∀ {a b : Drw}, RotL a b → RotL (a.map (·.filter f)) (b.map (·.filter f))
  | [], [], _ => trivial
  | r :: ds, t :: T, h => ⟨by
      obtain ⟨u, v, rfl, rfl⟩ := h.1
      exact ⟨u.filter f, v.filter f, by simp, by simp⟩, RotL.filter f h.2⟩
  | [], _ :: _, h => h.elim
  | _ :: _, [], h => h.elim
/-! where what is put stands -/
/-! neighbours in rows that are begun elsewhere -/
theorem adj_rot {α : Type} {r t : List α} (h : Rot r t) {k : Nat} {x y : α} (h1 : r[k]? = some x) (h2 : r[(k + 1) % r.length]? = some y) : ∃ j, t[j]? = some x ∧ t[(j + 1) % t.length]? = some y := by
  obtain ⟨u, v, rfl, rfl⟩ := h
  have hk := (List.getElem?_eq_some_iff.mp h1).1
  rw [List.length_append] at hk h2 ⊢
  have hm : (k + 1) % (u.length + v.length) = if k + 1 = u.length + v.length then 0 else k + 1 := by
    split
    · rename_i e; rw [e, Nat.mod_self]
    · exact Nat.mod_eq_of_lt (by omega)
  rw [hm] at h2
  by_cases c : k < u.length
  · rw [List.getElem?_append_left c] at h1
    refine ⟨v.length + k, by rw [List.getElem?_append_right (by omega)]; rw [show v.length + k - v.length = k by omega]; exact h1, ?_⟩
    by_cases c2 : k + 1 = u.length
    · rw [show v.length + k + 1 = v.length + u.length by omega, Nat.mod_self]
      by_cases c3 : v.length = 0
      · have : v = [] := List.length_eq_zero_iff.mp c3
        subst this
        rw [if_pos (by simp; omega)] at h2
        simpa using h2
      · rw [if_neg (by omega), List.getElem?_append_right (by omega)] at h2
        rw [List.getElem?_append_left (by omega), show 0 = k + 1 - u.length by omega]
        exact h2
    · rw [Nat.mod_eq_of_lt (by omega), List.getElem?_append_right (by omega), show v.length + k + 1 - v.length = k + 1 by omega]
      rw [if_neg (by omega), List.getElem?_append_left (by omega)] at h2
      exact h2
  · rw [List.getElem?_append_right (by omega)] at h1
    refine ⟨k - u.length, by rw [List.getElem?_append_left (by omega)]; exact h1, ?_⟩
    by_cases c2 : k + 1 = u.length + v.length
    · rw [if_pos c2] at h2
      by_cases c3 : u.length = 0
      · have : u = [] := List.length_eq_zero_iff.mp c3
        subst this
        rw [show k - ([] : List α).length + 1 = v.length by simp at c2 ⊢; omega, show v.length + ([] : List α).length = v.length by simp, Nat.mod_self]
        simpa using h2
      · rw [List.getElem?_append_left (by omega)] at h2
        rw [show k - u.length + 1 = v.length by omega, Nat.mod_eq_of_lt (by omega), List.getElem?_append_right (by omega), Nat.sub_self]
        exact h2
    · rw [if_neg c2, List.getElem?_append_right (by omega)] at h2
      rw [Nat.mod_eq_of_lt (by omega), List.getElem?_append_left (by omega), show k - u.length + 1 = k + 1 - u.length by omega]
      exact h2
theorem RotL.rl {a b : Drw} (h : RotL a b) {x y : T3} (r : Rl a x y) : Rl b x y := by
  obtain ⟨i, q, k, h1, h2, h3⟩ := r
  obtain ⟨t, ht, hr⟩ := h.get h1
  obtain ⟨j, e1, e2⟩ := adj_rot hr h2 h3
  exact ⟨i, t, j, ht, e1, e2⟩
/-! ### the defs that put -/
theorem gEq_pp (a b : Int × Int) : gEq (t2 a) (t2 b) = .ok (.bl (decide (a = b))) := gEq_enc (α := Int × Int) a b (by decide)
theorem immT3 (r : List T3) : immAll (r.map t3) = true := by simp
theorem lput_in (A : D) (k : Int × Int) (ps : List T3) (q i : Option (Nat × D)) (hps : ps.length ≤ 4) : ∀ (r acc : List T3), acc.length + r.length * 5 ≤ 1000 →
    loop (tName 6) (mSeq (mAppend 5 0 [] (mImm (mVar 6))) (mIf (mTb (mOp gEq (mVar 1) (mImm (mTup (mConsE (mImm (mOp gIx (mVar 6) (mC (.int 0)))) [] (mConsE (mImm (mOp gIx (mVar 6) (mC (.int 1)))) [] mNilA)))))) (mSet 5 1 [] (mCat (fun env => (mVar 5) env >>= fun d => itemsL d >>= immL) (fun env => (mVar 2) env >>= fun d => itemsL d >>= immL))) mSkip)) [6] (r.map t3) [some (0, A), some (0, t2 k), some (0, encR ps), q, i, some (1, encR acc), none] = .ok (.nx [some (0, A), some (0, t2 k), some (0, encR ps), q, i, some (1, encR (acc ++ putR k ps r)), none])
  | [], acc, _ => by rw [show acc ++ putR k ps [] = acc by simp [putR]]; rfl
  | x :: r, acc, h => by
    rw [List.length_cons, Nat.add_mul] at h
    have e : putR k ps (x :: r) = x :: ((if ky x = k then ps else []) ++ putR k ps r) := rfl
    have hz : (acc.map t3).length < sizeLine := sizeLine_lt (by rw [List.length_map]; omega)
    have g0 : gIx (t3 x) (.int 0) = .ok (.int x.a) := rfl
    have g1 : gIx (t3 x) (.int 1) = .ok (.int x.b) := rfl
    have hi : (t3 x).imm = true := rfl
    have hq : gEq (t2 k) (t2 (x.a, x.b)) = .ok (.bl (decide (ky x = k))) := by
      rw [gEq_pp]
      exact congrArg (fun b => Res.ok (D.bl b)) (decide_eq_decide.mpr ⟨fun z => z.symm, fun z => z.symm⟩)
    have e2 : t2 (x.a, x.b) = .tup [.int x.a, .int x.b] := rfl
    rw [e2] at hq
    have hPi : itemsL (encR ps) = .ok (ps.map t3) := rfl
    have hpi : immAll (ps.map t3) = true := by simp
    have ha1 : immAll (acc.map t3 ++ [t3 x]) = true := by
      have := immT3 (acc ++ [x])
      rw [List.map_append] at this
      exact this
    by_cases hk : ky x = k
    · have ih := lput_in A k ps q i hps r (acc ++ [x] ++ ps) (by rw [List.length_append, List.length_append, List.length_singleton]; omega)
      have e' : putR k ps (x :: r) = x :: (ps ++ putR k ps r) := by rw [e, if_pos hk]
      rw [e', List.map_cons]
      have hz2 : (acc.map t3 ++ [t3 x]).length + (ps.map t3).length ≤ sizeLine := sizeLine_big (by rw [List.length_append, List.length_map, List.length_map, List.length_singleton]; omega)
      rw [decide_eq_true hk] at hq
      have hs : (tName 6 0 (t3 x) [some (0, A), some (0, t2 k), some (0, encR ps), q, i, some (1, encR acc), none] >>= fun e => (mSeq (mAppend 5 0 [] (mImm (mVar 6))) (mIf (mTb (mOp gEq (mVar 1) (mImm (mTup (mConsE (mImm (mOp gIx (mVar 6) (mC (.int 0)))) [] (mConsE (mImm (mOp gIx (mVar 6) (mC (.int 1)))) [] mNilA)))))) (mSet 5 1 [] (mCat (fun env => (mVar 5) env >>= fun d => itemsL d >>= immL) (fun env => (mVar 2) env >>= fun d => itemsL d >>= immL))) mSkip)) e >>= stepc [6]) = .ok [some (0, A), some (0, t2 k), some (0, encR ps), q, i, some (1, encR (acc ++ [x] ++ ps)), none] := by
        have e1 : encR (acc ++ [x] ++ ps) = .lst (acc.map t3 ++ [t3 x] ++ ps.map t3) := by unfold encR; simp
        have e3 : encR acc = .lst (acc.map t3) := rfl
        rw [e1, e3]
        generalize acc.map t3 = AC at *
        generalize t3 x = XX at *
        generalize encR ps = PP at *
        generalize ps.map t3 = PL at *
        generalize t2 k = KK at *
        have hz2' : AC.length + 1 + PL.length ≤ sizeLine := by simpa using hz2
        simp -implicitDefEqProofs [g0, g1, hi, hq, hz, hPi, immL, hpi, ha1, mCat, hz2']
      rw [loop_step hs, ih]
      simp
    · have ih := lput_in A k ps q i hps r (acc ++ [x]) (by rw [List.length_append, List.length_singleton]; omega)
      have e' : putR k ps (x :: r) = x :: putR k ps r := by rw [e, if_neg hk]; rfl
      rw [e', List.map_cons]
      rw [decide_eq_false hk] at hq
      have hs : (tName 6 0 (t3 x) [some (0, A), some (0, t2 k), some (0, encR ps), q, i, some (1, encR acc), none] >>= fun e => (mSeq (mAppend 5 0 [] (mImm (mVar 6))) (mIf (mTb (mOp gEq (mVar 1) (mImm (mTup (mConsE (mImm (mOp gIx (mVar 6) (mC (.int 0)))) [] (mConsE (mImm (mOp gIx (mVar 6) (mC (.int 1)))) [] mNilA)))))) (mSet 5 1 [] (mCat (fun env => (mVar 5) env >>= fun d => itemsL d >>= immL) (fun env => (mVar 2) env >>= fun d => itemsL d >>= immL))) mSkip)) e >>= stepc [6]) = .ok [some (0, A), some (0, t2 k), some (0, encR ps), q, i, some (1, encR (acc ++ [x])), none] := by
        have e1 : encR (acc ++ [x]) = .lst (acc.map t3 ++ [t3 x]) := by unfold encR; simp
        have e3 : encR acc = .lst (acc.map t3) := rfl
        rw [e1, e3]
        generalize acc.map t3 = AC at *
        generalize t3 x = XX at *
        generalize encR ps = PP at *
        generalize t2 k = KK at *
        simp -implicitDefEqProofs [g0, g1, hi, hq, hz]
      rw [loop_step hs, ih]
      simp
/-- no string with passings has the spot of a bare one -/
def Bare (ds : Drw) (k : Int × Int) : Prop := ∀ (i : Nat) (r : List T3), ds[i]? = some r → r ≠ [] → k ≠ ((i : Int), 2)
theorem lput_is {ds : Drw} {k : Int × Int} {ps : List T3} (hd : ds.length ≤ 10) (hr : ∀ r ∈ ds, r.length ≤ 100) (hps : ps.length ≤ 4) (hb : Bare ds k) : F__law_put [encD ds, t2 k, encR ps] = .ok (encD (putL ds k ps)) := by
  have hg := gRng1_d (n := ds.length) (by omega)
  have gl : gLen (encD ds) = .ok (.int (ds.length : Nat)) := by
    show Res.ok (D.int (((ds.map encR).length : Nat) : Int)) = _
    rw [List.length_map]
  have hstep : ∀ (i : Nat), i < ds.length → ∀ acc : Drw, acc.length ≤ 10 → ∃ r, ds[i]? = some r ∧ (tName 4 0 (.int (i : Int)) [some (0, encD ds), some (0, t2 k), some (0, encR ps), some (2, encD acc), none, none, none] >>= fun e => (mSeq (mSet 5 1 [] (mLst mNilA)) (mSeq (mIf (mTb (mOp gEq (mVar 1) (mImm (mTup (mConsE (mImm (mVar 4)) [] (mConsE (mC (.int 2)) [] mNilA)))))) (mSet 5 1 [] (fun env => (fun env => (mVar 2) env >>= fun d => itemsL d >>= immL) env >>= fun ds => .ok (.lst ds))) mSkip) (mSeq (mFor (fun env => (mOp gIx (mVarK 0 0) (mVar 4)) env >>= itemsL) (tName 6) (mSeq (mAppend 5 0 [] (mImm (mVar 6))) (mIf (mTb (mOp gEq (mVar 1) (mImm (mTup (mConsE (mImm (mOp gIx (mVar 6) (mC (.int 0)))) [] (mConsE (mImm (mOp gIx (mVar 6) (mC (.int 1)))) [] mNilA)))))) (mSet 5 1 [] (mCat (fun env => (mVar 5) env >>= fun d => itemsL d >>= immL) (fun env => (mVar 2) env >>= fun d => itemsL d >>= immL))) mSkip)) [6]) (mAppend 3 1 [5] (mVarK 5 1))))) e >>= stepc [4, 5, 6]) = .ok [some (0, encD ds), some (0, t2 k), some (0, encR ps), some (2, encD (acc ++ [putK k ps (r, i)])), none, none, none] := fun i hi acc ha => by
    obtain ⟨r, hri⟩ : ∃ r, ds[i]? = some r := ⟨_, List.getElem?_eq_getElem hi⟩
    have hrl := hr r (List.mem_of_getElem? hri)
    refine ⟨r, hri, ?_⟩
    obtain ⟨b0, hb0⟩ : ∃ b0, b0 = (if r = [] ∧ k = ((i : Int), 2) then ps else []) := ⟨_, rfl⟩
    have hpk : putK k ps (r, i) = b0 ++ putR k ps r := by rw [hb0]; rfl
    have hbl : b0.length ≤ 4 := by
      rw [hb0]; split
      · exact hps
      · exact Nat.zero_le _
    have L := lput_in (encD ds) k ps (some (2, encD acc)) (some (0, .int (i : Int))) hps r b0 (by omega)
    rw [← hpk] at L
    have gx := gIx_D hri
    have hR : itemsL (encR r) = .ok (r.map t3) := rfl
    have hq := gEq_pp k ((i : Int), 2)
    have e2 : t2 ((i : Int), 2) = .tup [.int (i : Int), .int 2] := rfl
    rw [e2] at hq
    have hz : (acc.map encR).length < sizeLine := sizeLine_lt (by rw [List.length_map]; omega)
    have e4 : encD (acc ++ [putK k ps (r, i)]) = .lst (acc.map encR ++ [encR (putK k ps (r, i))]) := by unfold encD; simp
    have hPi : itemsL (encR ps) = .ok (ps.map t3) := rfl
    have hpi : immAll (ps.map t3) = true := by simp
    refine (congrArg (fun r => r >>= stepc [4, 5, 6]) (s_seq2 (e := [some (0, encD ds), some (0, t2 k), some (0, encR ps), some (2, encD acc), some (0, .int (i : Int)), some (1, encR []), none]) ?_ (s_seq2 (e := [some (0, encD ds), some (0, t2 k), some (0, encR ps), some (2, encD acc), some (0, .int (i : Int)), some (1, encR b0), none]) ?_ (s_seq2 (e := [some (0, encD ds), some (0, t2 k), some (0, encR ps), some (2, encD acc), some (0, .int (i : Int)), some (1, encR (putK k ps (r, i))), none]) ?_ (r := .ok (.nx [some (0, encD ds), some (0, t2 k), some (0, encR ps), some (2, encD (acc ++ [putK k ps (r, i)])), some (0, .int (i : Int)), none, none])) ?_)))).trans ?_
    · generalize encD acc = AA at *
      generalize encD ds = DD at *
      generalize t2 k = KK at *
      generalize encR ps = PP at *
      simp -implicitDefEqProofs [encR]
    · by_cases hk : k = ((i : Int), 2)
      · have hrn : r = [] := Classical.byContradiction fun z => hb i r hri z hk
        rw [decide_eq_true hk] at hq
        have e5 : b0 = ps := by rw [hb0, if_pos ⟨hrn, hk⟩]
        rw [e5]
        have e6 : encR ps = .lst (ps.map t3) := rfl
        generalize encD acc = AA at *
        generalize encD ds = DD at *
        generalize t2 k = KK at *
        rw [e6] at hPi ⊢
        generalize ps.map t3 = PL at *
        generalize encR [] = R0 at *
        simp -implicitDefEqProofs [hq, hPi, immL, hpi]
      · rw [decide_eq_false hk] at hq
        have e5 : b0 = [] := by rw [hb0, if_neg (fun z => hk z.2)]
        rw [e5]
        generalize encD acc = AA at *
        generalize encD ds = DD at *
        generalize t2 k = KK at *
        generalize encR ps = PP at *
        generalize encR [] = R0 at *
        simp -implicitDefEqProofs [hq]
    · refine Eq.trans ?_ L
      generalize encD acc = AA at *
      generalize encD ds = DD at *
      generalize t2 k = KK at *
      generalize encR ps = PP at *
      generalize encR r = RR at *
      generalize encR b0 = B0 at *
      simp -implicitDefEqProofs [gx, hR]
    · rw [e4]
      have e7 : encD acc = .lst (acc.map encR) := rfl
      rw [e7]
      generalize acc.map encR = AA at *
      generalize encD ds = DD at *
      generalize t2 k = KK at *
      generalize encR ps = PP at *
      generalize encR (putK k ps (r, i)) = Q at *
      simp -implicitDefEqProofs [hz]
    · generalize encD ds = DD at *
      generalize t2 k = KK at *
      generalize encR ps = PP at *
      generalize encD (acc ++ [putK k ps (r, i)]) = Q at *
      simp -implicitDefEqProofs
  have L : ∀ (n j : Nat), j + n = ds.length → ∀ acc : Drw, acc = (ds.zipIdx.take j).map (putK k ps) → loop (tName 4) (mSeq (mSet 5 1 [] (mLst mNilA)) (mSeq (mIf (mTb (mOp gEq (mVar 1) (mImm (mTup (mConsE (mImm (mVar 4)) [] (mConsE (mC (.int 2)) [] mNilA)))))) (mSet 5 1 [] (fun env => (fun env => (mVar 2) env >>= fun d => itemsL d >>= immL) env >>= fun ds => .ok (.lst ds))) mSkip) (mSeq (mFor (fun env => (mOp gIx (mVarK 0 0) (mVar 4)) env >>= itemsL) (tName 6) (mSeq (mAppend 5 0 [] (mImm (mVar 6))) (mIf (mTb (mOp gEq (mVar 1) (mImm (mTup (mConsE (mImm (mOp gIx (mVar 6) (mC (.int 0)))) [] (mConsE (mImm (mOp gIx (mVar 6) (mC (.int 1)))) [] mNilA)))))) (mSet 5 1 [] (mCat (fun env => (mVar 5) env >>= fun d => itemsL d >>= immL) (fun env => (mVar 2) env >>= fun d => itemsL d >>= immL))) mSkip)) [6]) (mAppend 3 1 [5] (mVarK 5 1))))) [4, 5, 6] ((List.range' j n).map fun i : Nat => D.int i) [some (0, encD ds), some (0, t2 k), some (0, encR ps), some (2, encD acc), none, none, none] = .ok (.nx [some (0, encD ds), some (0, t2 k), some (0, encR ps), some (2, encD (putL ds k ps)), none, none, none]) := fun n => by
    induction n with
    | zero =>
      intro j hj acc he
      have : acc = putL ds k ps := by rw [he, List.take_of_length_le (by simp; omega)]; rfl
      rw [this]; rfl
    | succ n ih =>
      intro j hj acc he
      obtain ⟨r, hr', hs⟩ := hstep j (by omega) acc (by rw [he]; simp; omega)
      rw [List.range'_succ, List.map_cons, loop_step hs]
      refine ih (j + 1) (by omega) _ ?_
      rw [he, zip_snoc hr', List.map_append]; rfl
  have L0 := L ds.length 0 (by omega) [] (by simp)
  rw [← List.range_eq_range'] at L0
  refine Tells.eq ?_
  simp only [F__law_put, m__law_put, runD]
  refine t_seq (e := [some (0, encD ds), some (0, t2 k), some (0, encR ps), some (2, encD []), none, none, none]) (by
    generalize encD ds = DD at *
    generalize t2 k = KK at *
    generalize encR ps = PP at *
    simp -implicitDefEqProofs [encD]) ?_
  refine t_seq (e := [some (0, encD ds), some (0, t2 k), some (0, encR ps), some (2, encD (putL ds k ps)), none, none, none]) (by
    refine Eq.trans ?_ L0
    generalize encD ds = DD at *
    generalize t2 k = KK at *
    generalize encR ps = PP at *
    generalize encD [] = D0 at *
    simp -implicitDefEqProofs [gl, hg]) ?_
  refine Tells.eqI ?_
  generalize encD ds = DD at *
  generalize t2 k = KK at *
  generalize encR ps = PP at *
  generalize encD (putL ds k ps) = Q at *
  simp -implicitDefEqProofs

/-! ### put_behind -/
/-! ### rows begun, names looked at, passings taken out -/
/-- names that are crossings' -/
theorem old_is {ds : Drw} (hf : ds.flatten.length ≤ 100) {ns : List Int} (hn : ∀ n ∈ ns, ∃ c, lk (hnds ds) n = some c) : F_look_at_old [encD ds, .lst (ns.map D.int)] = .ok .non := by
  have hni : itemsL (.lst (ns.map D.int)) = .ok (ns.map D.int) := rfl
  refine Tells.eq ?_
  simp only [F_look_at_old, m_look_at_old, runD]
  refine Tells.eqI ?_
  show (mFor _ _ _ _ [some (0, encD ds), some (0, .lst (ns.map D.int)), none] >>= _) = _
  rw [for_of (by
    generalize encD ds = DD at *
    generalize ns.map D.int = MM at *
    simp -implicitDefEqProofs [hni]) (look_ok D.int ns fun n hn' => by
    obtain ⟨c, hc⟩ := hn n hn'
    have := hand_is ds (by omega) hc
    generalize encD ds = DD at *
    generalize D.lst (ns.map D.int) = MM at *
    simp -implicitDefEqProofs [mExpr, this])]
  rfl
theorem without_is {ds : Drw} {ns : List Int} (hd : ds.length ≤ 1000) (hr : ∀ r ∈ ds, r.length ≤ 1000) : F_without [encD ds, .lst (ns.map D.int)] = .ok (encD (ds.map (·.filter fun x => decide (x.a ∉ ns)))) := by
  have hDi : itemsL (encD ds) = .ok (ds.map encR) := rfl
  have L := app_loop (t := tName 3) (fg := [3, 4]) (body := mAppend 2 1 [] (mLc (fun env => (mVarK 3 0) env >>= itemsL) (tName 4) (mTb (mOp gNotIn (mOp gIx (mVar 4) (mC (.int 0))) (mVar 1))) (mImm (mVar 4)) [4])) (fun q : Drw => [some (0, encD ds), some (0, .lst (ns.map D.int)), some (2, encD q), none, none]) encR (fun r => [r.filter fun x => decide (x.a ∉ ns)]) 1 1000 ds (fun _ _ => Nat.le_refl _) (fun r hr' acc hacc => by
    have hz : (acc.map encR).length < sizeLine := sizeLine_lt (by rw [List.length_map]; omega)
    have e1 : encD (acc ++ [r.filter fun x => decide (x.a ∉ ns)]) = .lst (acc.map encR ++ [.lst ((r.filter fun x => decide (x.a ∉ ns)).map t3)]) := by unfold encD encR; simp
    have e3 : encD acc = .lst (acc.map encR) := rfl
    have hR : itemsL (encR r) = .ok (r.map t3) := rfl
    have hlc := lc_run (t := tName 4) (mt := mTb (mOp gNotIn (mOp gIx (mVar 4) (mC (.int 0))) (mVar 1))) (me := mImm (mVar 4)) (env := [some (0, encD ds), some (0, .lst (ns.map D.int)), some (2, encD acc), some (0, encR r), none]) t3 (fun x => decide (x.a ∉ ns)) t3 r (fun x _ => by
      have g0 : gIx (t3 x) (.int 0) = .ok (.int x.a) := rfl
      have gn := gNotIn_int x.a ns
      have hi : (t3 x).imm = true := rfl
      generalize encD ds = DD at *
      generalize encD acc = AA at *
      generalize D.lst (ns.map D.int) = MM at *
      generalize encR r = RR at *
      generalize t3 x = XX at *
      refine ⟨[some (0, DD), some (0, MM), some (2, AA), some (0, RR), some (0, XX)], by simp -implicitDefEqProofs, ?_, ?_⟩
      · simp -implicitDefEqProofs [g0, gn]
      · simp -implicitDefEqProofs [hi])
    have hzl : ((r.filter fun x => decide (x.a ∉ ns)).map t3).length ≤ sizeLine := sizeLine_big (by
      rw [List.length_map]
      have := List.length_filter_le (fun x : T3 => decide (x.a ∉ ns)) r
      have := hr r hr'
      omega)
    show (tName 3 0 (encR r) [some (0, encD ds), some (0, .lst (ns.map D.int)), some (2, encD acc), none, none] >>= fun e => _) = .ok [some (0, encD ds), some (0, .lst (ns.map D.int)), some (2, encD (acc ++ [r.filter fun x => decide (x.a ∉ ns)])), none, none]
    rw [e1]
    rw [e3] at hlc ⊢
    generalize acc.map encR = AC at *
    generalize encD ds = DD at *
    generalize D.lst (ns.map D.int) = MM at *
    generalize encR r = RR at *
    generalize (r.filter fun x => decide (x.a ∉ ns)).map t3 = FF at *
    simp -implicitDefEqProofs [e_mLc, hR, hlc, hzl, hz]) [] (by simp; omega)
  rw [List.nil_append, flat_one] at L
  refine Tells.eq ?_
  simp only [F_without, m_without, runD]
  refine t_seq (e := [some (0, encD ds), some (0, .lst (ns.map D.int)), some (2, encD []), none, none]) (by
    generalize encD ds = DD at *
    generalize D.lst (ns.map D.int) = MM at *
    simp -implicitDefEqProofs [encD]) ?_
  refine t_seq (e := [some (0, encD ds), some (0, .lst (ns.map D.int)), some (2, encD (ds.map (·.filter fun x => decide (x.a ∉ ns)))), none, none]) (for_of (by
    generalize encD ds = DD at *
    generalize D.lst (ns.map D.int) = MM at *
    generalize encD [] = D0 at *
    simp -implicitDefEqProofs [hDi]) L) ?_
  refine Tells.eqI ?_
  generalize encD (ds.map (·.filter fun x => decide (x.a ∉ ns))) = Q at *
  simp -implicitDefEqProofs

/-! ### the nearest spot ahead -/
/-! ### curls and uncurls -/
abbrev madeT (κ : Str → Addr) : List (Str × (List D → Res D)) := [("Curl", F_Curl_made κ), ("Lay", F_Lay_made κ), ("Part", F_Part_made κ), ("Slide", F_Slide_made κ), ("Uncurl", F_Uncurl_made κ)]
abbrev doneT (κ : Str → Addr) : List (Str × (List D → Res D)) := [("Curl", F_Move_done κ), ("Lay", F_Move_done κ), ("Part", F_Move_done κ), ("Slide", F_Move_done κ), ("Uncurl", F_Move_done κ)]
/-- a drawing of which defs may be asked -/
structure Siz (ds : Drw) : Prop where
  len : ds.length ≤ 10
  row : ∀ r ∈ ds, r.length ≤ 100
  fl : ds.flatten.length ≤ 100
theorem siz_of {ds : Drw} (h1 : ds.length ≤ 10) (h2 : ds.flatten.length ≤ 100) : Siz ds := ⟨h1, fun r hr => by
  obtain ⟨X, Y, e⟩ := List.append_of_mem hr
  rw [e, List.flatten_append, List.flatten_cons, List.length_append, List.length_append] at h2
  omega, h2⟩
theorem done_of (κ : Str → Addr) {m : Mv} {D0 : D} {E : Drw} (hE : Siz E) (h : gMeth κ (madeT κ) "made" 2 (m.ob κ) [D0] = .ok (encD E)) : gMeth κ (doneT κ) "done" 2 (m.ob κ) [D0] = .ok (encD (E.map seat)) := by
  have i2 : immAt 2 (encD (E.map seat)) = true := by simp
  have hDi : itemsL (encD E) = .ok (E.map encR) := rfl
  have key : F_Move_done κ [m.ob κ, D0] = .ok (encD (E.map seat)) := by
    have hlc := lc_all (t := tName 2) (me := mCall 1 F_seated (mConsA (mVar 2) mNilA)) encR (fun r => encR (seat r)) E (env := [some (0, m.ob κ), some (0, D0), none]) (fun r hr => by
      have hp := seated_is r (Nat.le_trans (hE.row r hr) (by decide))
      have i1 : immAt 1 (encR (seat r)) = true := by simp
      generalize encR r = X at *
      generalize encR (seat r) = Y at *
      generalize m.ob κ = O at *
      simp -implicitDefEqProofs [hp, i1])
    have hz : (E.map fun r => encR (seat r)).length ≤ sizeLine := sizeLine_big (by rw [List.length_map]; have := hE.len; omega)
    have eD : encD (E.map seat) = .lst (E.map fun r => encR (seat r)) := by unfold encD; rw [List.map_map]; rfl
    rw [eD]
    generalize m.ob κ = O at *
    generalize encD E = EE at *
    generalize (E.map fun r => encR (seat r)) = RR at *
    simp only [F_Move_done, m_Move_done, runD]
    simp -implicitDefEqProofs [e_mLc, h, hDi, hlc, hz]
  cases m with
  | lay => exact meth_is (F := F_Move_done κ) rfl (by decide) key i2
  | slide => exact meth_is (F := F_Move_done κ) rfl (by decide) key i2
  | curl => exact meth_is (F := F_Move_done κ) rfl (by decide) key i2
  | prt => exact meth_is (F := F_Move_done κ) rfl (by decide) key i2
  | uncurl => exact meth_is (F := F_Move_done κ) rfl (by decide) key i2
/-- the passings of n are neighbours in E -/
structure Cu (E : Drw) (n h : Int) : Prop where
  sz : Siz E
  uk : UK E
  hd : lk (hnds E) n = some h
  nb : ∃ a b : Int × Int, lk (nxP E) (n, 0) = some a ∧ lk (nxP E) (n, 1) = some b ∧ (a = (n, 1) ∨ b = (n, 0))
theorem uncurl_look (κ : Str → Addr) {E : Drw} {n h : Int} (c : Cu E n h) : gMeth κ [("Uncurl", F_Uncurl_look κ)] "look" 0 ((Mv.uncurl n).ob κ) [encD E] = .ok .non := by
  refine meth_is (F := F_Uncurl_look κ) rfl (by decide) ?_ rfl
  show F_Uncurl_look κ [(Mv.uncurl n).ob κ, encD E] = .ok .non
  obtain ⟨a, b, h1, h2, h3⟩ := c.nb
  have ho2 : (Mv.uncurl n).ob κ = ob_uncurl κ (.int n) := rfl
  rw [ho2]
  have f0 := fld_uncurl_name κ (.int n)
  have hold := old_is (ds := E) c.sz.fl (ns := [n]) (fun m hm => by rw [List.mem_singleton.mp hm]; exact ⟨h, c.hd⟩)
  have e1 : [n].map D.int = [.int n] := rfl
  rw [e1] at hold
  have hnx := next_is E (by have := c.sz.fl; omega)
  have d0 := gDGet_K2 t2 h1
  have d1 := gDGet_K2 t2 h2
  have q1 := gEq_pp a (n, 1)
  have q2 := gEq_pp b (n, 0)
  have e0 : t2 (n, 0) = .tup [.int n, .int 0] := rfl
  have e11 : t2 (n, 1) = .tup [.int n, .int 1] := rfl
  have i1 : immAt 1 (encK2 t2 (nxP E)) = true := immAt_K2 t2 (fun _ => rfl) _
  have hside : F_side_by_side [encK2 t2 (nxP E), .tup [.int n, .int 0], .tup [.int n, .int 1]] = .ok (.bl true) := by
    rw [e0] at d0 q2
    rw [e11] at d1 q1
    generalize encK2 t2 (nxP E) = K at *
    generalize D.tup [.int n, .int 0] = T0 at *
    generalize D.tup [.int n, .int 1] = T1 at *
    generalize t2 a = TA at *
    generalize t2 b = TB at *
    simp only [F_side_by_side, m_side_by_side, runD]
    by_cases ha : a = (n, 1)
    · rw [decide_eq_true ha] at q1
      simp -implicitDefEqProofs [d0, q1]
    · rw [decide_eq_false ha] at q1
      rw [decide_eq_true (h3.resolve_left ha)] at q2
      simp -implicitDefEqProofs [d0, q1, d1, q2]
  have hun : F_uncurls [encK2 t2 (nxP E), .int n] = .ok (.bl true) := by
    generalize encK2 t2 (nxP E) = K at *
    simp only [F_uncurls, m_uncurls, runD]
    simp -implicitDefEqProofs [hside]
  have hz1 : (1 : Nat) ≤ sizeLine := by decide
  generalize ob_uncurl κ (.int n) = O at *
  generalize encK2 t2 (nxP E) = K at *
  generalize encD E = EE at *
  simp only [F_Uncurl_look, m_Uncurl_look, runD]
  simp -implicitDefEqProofs [mExpr, f0, hold, hnx, i1, hun, hz1]
theorem uncurl_made (κ : Str → Addr) {E : Drw} {n h : Int} (c : Cu E n h) : gMeth κ (madeT κ) "made" 2 ((Mv.uncurl n).ob κ) [encD E] = .ok (encD (E.map (·.filter fun x => decide (x.a ∉ [n])))) := by
  refine meth_is (F := F_Uncurl_made κ) rfl (by decide) ?_ (by simp)
  show F_Uncurl_made κ [(Mv.uncurl n).ob κ, encD E] = _
  have hl := uncurl_look κ c
  have hw := without_is (ds := E) (ns := [n]) (by have := c.sz.len; omega) (fun r hr => by have := c.sz.row r hr; omega)
  have e1 : [n].map D.int = [.int n] := rfl
  rw [e1] at hw
  have ho2 : (Mv.uncurl n).ob κ = ob_uncurl κ (.int n) := rfl
  rw [ho2] at hl ⊢
  have f0 := fld_uncurl_name κ (.int n)
  have i2 : immAt 2 (encD (E.map (·.filter fun x => decide (x.a ∉ [n])))) = true := by simp
  have hz1 : (1 : Nat) ≤ sizeLine := by decide
  generalize encD (E.map (·.filter fun x => decide (x.a ∉ [n]))) = Q at *
  generalize ob_uncurl κ (.int n) = O at *
  generalize encD E = EE at *
  simp only [F_Uncurl_made, m_Uncurl_made, runD]
  simp -implicitDefEqProofs [mExpr, hl, f0, hw, i2, hz1]
/-! ### what a curl leads to, and back -/
structure Vd (ds : Drw) : Prop where
  sz : Siz ds
  uk : UK ds
  wy : ∀ x ∈ ds.flatten, x.b = 0 ∨ x.b = 1
theorem Vd.spkn {ds : Drw} (h : Vd ds) : (spk ds).Nodup := by
  have hp := flatMap_perm (fun x : List T3 × Nat => if x.1 = [] then [((x.2 : Int), (2 : Int))] else []) (fun x => x.1.map ky) ds.zipIdx
  have e2 : ds.zipIdx.flatMap (fun x => x.1.map ky) = ds.flatten.map ky := by
    have : ∀ (ds : Drw) (n : Nat), (ds.zipIdx n).flatMap (fun x => x.1.map ky) = ds.flatten.map ky := by
      intro ds
      induction ds with
      | nil => intro n; rfl
      | cons r ds ih => intro n; rw [List.zipIdx_cons, List.flatMap_cons, ih, List.flatten_cons, List.map_append]
    exact this ds 0
  have hp2 : (spk ds).Perm _ := hp
  rw [e2] at hp2
  refine hp2.nodup_iff.mpr (List.nodup_append.mpr ⟨?_, h.uk, ?_⟩)
  · have : ∀ (ds : Drw) (n : Nat), ((ds.zipIdx n).flatMap fun x : List T3 × Nat => if x.1 = [] then [((x.2 : Int), (2 : Int))] else []).Nodup ∧ ∀ k ∈ ((ds.zipIdx n).flatMap fun x : List T3 × Nat => if x.1 = [] then [((x.2 : Int), (2 : Int))] else []), (n : Int) ≤ k.1 := by
      intro ds
      induction ds with
      | nil => intro n; exact ⟨List.nodup_nil, fun k hk => by cases hk⟩
      | cons r ds ih =>
        intro n
        rw [List.zipIdx_cons, List.flatMap_cons]
        obtain ⟨i1, i2⟩ := ih (n + 1)
        by_cases e : r = []
        · rw [if_pos e]
          refine ⟨List.nodup_cons.mpr ⟨fun hm => ?_, i1⟩, fun k hk => ?_⟩
          · have := i2 _ hm; dsimp only at this; omega
          · rcases List.mem_cons.mp hk with e | hk
            · rw [e]; exact Int.le_refl _
            · have := i2 _ hk; omega
        · rw [if_neg e]
          exact ⟨i1, fun k hk => by have := i2 k hk; omega⟩
    exact (this ds 0).1
  · intro a ha b hb e
    obtain ⟨x, _, hx⟩ := List.mem_flatMap.mp ha
    split at hx
    · obtain ⟨y, hy, e2⟩ := List.mem_map.mp hb
      have hw := h.wy y hy
      rw [List.mem_singleton.mp hx] at e
      rw [← e2] at e
      have e3 : (2 : Int) = y.b := congrArg Prod.snd e
      omega
    · cases hx
theorem Vd.bare {ds : Drw} (h : Vd ds) {k : Int × Int} (hk : k ∈ spk ds) : Bare ds k := fun i r hi hr e => by
  rcases spk_mem.mp hk with ⟨x, hx, e2⟩ | ⟨j, hj, e2⟩
  · rw [e] at e2
    have : x.b = 2 := congrArg Prod.snd e2
    have := h.wy x hx
    omega
  · rw [e] at e2
    have : (i : Int) = j := congrArg Prod.fst e2
    have : i = j := by omega
    subst this
    rw [hi] at hj
    exact hr (Option.some.inj hj)
theorem RotL.siz {a b : Drw} (h : RotL a b) (hs : Siz a) : Siz b := siz_of (by rw [h.len]; exact hs.len) (by rw [h.flat.length_eq]; exact hs.fl)
theorem RotL.vd {a b : Drw} (h : RotL a b) (hv : Vd a) : Vd b := ⟨h.siz hv.sz, h.uk hv.uk, fun x hx => hv.wy x (h.flat.mem_iff.mp hx)⟩
theorem RotL.spk {a b : Drw} (h : RotL a b) {k : Int × Int} (hk : k ∈ spk a) : k ∈ spk b := by
  rcases spk_mem.mp hk with ⟨x, hx, e⟩ | ⟨i, hi, e⟩
  · exact spk_mem.mpr (.inl ⟨x, h.flat.mem_iff.mpr hx, e⟩)
  · obtain ⟨t, ht, hr⟩ := h.get hi
    rw [hr.nil_iff.mp rfl] at ht
    exact spk_mem.mpr (.inr ⟨i, ht, e⟩)
theorem put_vd {ds : Drw} (hv : Vd ds) (hf : ds.flatten.length ≤ 90) {k : Int × Int} (hk : k ∈ spk ds) {ps : List T3} (hl : ps.length ≤ 4) (hn : (ps.map ky).Nodup) (hd : ∀ x ∈ ds.flatten, ∀ p ∈ ps, ky x ≠ ky p) (hw : ∀ p ∈ ps, p.b = 0 ∨ p.b = 1) : Vd (putL ds k ps) := by
  have hp := putL_perm ps hv.spkn hk
  refine ⟨siz_of ?_ ?_, ?_, fun x hx => ?_⟩
  · unfold putL
    rw [List.length_map, List.length_zipIdx]; exact hv.sz.len
  · rw [hp.length_eq, List.length_append]; omega
  · refine (hp.map ky).nodup_iff.mpr ?_
    rw [List.map_append]
    refine List.nodup_append.mpr ⟨hv.uk, hn, fun a ha b hb e => ?_⟩
    obtain ⟨x, hx, rfl⟩ := List.mem_map.mp ha
    obtain ⟨p, hp', rfl⟩ := List.mem_map.mp hb
    exact hd x hx p hp' e
  · rcases List.mem_append.mp (hp.mem_iff.mp hx) with h | h
    · exact hv.wy x h
    · exact hw x h
/-! ### what is told is as it is due -/
theorem whole_i (i : Int) : F__law_whole [.int i] = .ok (.bl true) := rfl
theorem wholes_t2 (p : Int × Int) : F__law_wholes [t2 p, t2 p] = .ok (.bl true) := by
  have h1 : isi .tuple (t2 p) = true := rfl
  have h2 : isOb (t2 p) = false := rfl
  have h3 : gLen (t2 p) = .ok (.int 2) := rfl
  have h4 : itemsT (t2 p) = .ok [.int p.1, .int p.2] := rfl
  have h5 : (t2 p).imm = true := rfl
  have h6 : gEq (t2 p) (t2 p) = .ok (.bl true) := by
    have := gEq_enc (α := Int × Int) p p (by decide)
    rw [show (Dat.enc p : D) = t2 p from rfl] at this
    rw [this]; simp
  have gn : gNe (.int 2) (.int 2) = .ok (.bl false) := okB_eq (by decide +kernel)
  have L := look_ok (t := tName 2) (fg := [2]) (env := [some (0, t2 p), some (0, t2 p), none]) (body := mIf (mNotB (mTb (mCall 0 F__law_whole (mConsA (mVar 2) mNilA)))) (mRet (mC (.bl false))) mSkip) D.int [p.1, p.2] (fun x _ => by
    have := whole_i x
    generalize t2 p = T at *
    simp -implicitDefEqProofs [this])
  have e : [p.1, p.2].map D.int = [D.int p.1, .int p.2] := rfl
  rw [e] at L
  generalize t2 p = T at *
  refine Tells.eq ?_
  simp only [F__law_wholes, m__law_wholes, runD]
  refine t_seq (e := [some (0, T), some (0, T), none]) (by simp -implicitDefEqProofs [h1, h2, h3, gn, -e_gNe_int]) ?_
  refine t_seq (e := [some (0, T), some (0, T), none]) (by
    refine Eq.trans ?_ L
    simp -implicitDefEqProofs [h4, h5]) ?_
  refine Tells.eqI ?_
  simp -implicitDefEqProofs [h6]
def ix1 (i : Nat) : D := .int ((i + 1 : Nat) : Int)
theorem tells_is (m : Mv) : F__law_tells [m.told, m.told] = .ok (.bl true) := by
  have h1 : isi .tuple m.told = true := rfl
  have h2 : isOb m.told = false := rfl
  have h3 : gLen m.told = .ok (.int ((m.pts.length + 1 : Nat) : Int)) := by cases m <;> rfl
  have h0 : gIx m.told (.int 0) = .ok (.str m.word) := by cases m <;> rfl
  have hw1 : isi .str (.str m.word) = true := rfl
  have hw2 : isOb (.str m.word) = false := rfl
  have hwn : gNe (.str m.word) (.str m.word) = .ok (.bl false) := by
    cases m with
    | lay => exact (okB_eq (by decide +kernel) : gNe (.str (Str.ofString "lay")) (.str (Str.ofString "lay")) = .ok (.bl false))
    | slide => exact (okB_eq (by decide +kernel) : gNe (.str (Str.ofString "slide")) (.str (Str.ofString "slide")) = .ok (.bl false))
    | curl => exact (okB_eq (by decide +kernel) : gNe (.str (Str.ofString "curl")) (.str (Str.ofString "curl")) = .ok (.bl false))
    | prt => exact (okB_eq (by decide +kernel) : gNe (.str (Str.ofString "part")) (.str (Str.ofString "part")) = .ok (.bl false))
    | uncurl => exact (okB_eq (by decide +kernel) : gNe (.str (Str.ofString "uncurl")) (.str (Str.ofString "uncurl")) = .ok (.bl false))
  have gni : ∀ i : Int, gNe (.int i) (.int i) = .ok (.bl false) := fun i => by
    have := gNe_enc (α := Int) i i (by decide)
    rw [show (Dat.enc i : D) = .int i from rfl] at this
    rw [this]; simp
  have hg : gRng2 (.int 1) (.int ((m.pts.length + 1 : Nat) : Int)) = .ok ((List.range m.pts.length).map ix1) := by
    cases m with
    | lay => exact (rfl : gRng2 (.int 1) (.int 7) = .ok [.int 1, .int 2, .int 3, .int 4, .int 5, .int 6])
    | slide => exact (rfl : gRng2 (.int 1) (.int 5) = .ok [.int 1, .int 2, .int 3, .int 4])
    | curl => exact (rfl : gRng2 (.int 1) (.int 5) = .ok [.int 1, .int 2, .int 3, .int 4])
    | prt => exact (rfl : gRng2 (.int 1) (.int 3) = .ok [.int 1, .int 2])
    | uncurl => exact (rfl : gRng2 (.int 1) (.int 2) = .ok [.int 1])
  have gl := gni ((m.pts.length + 1 : Nat) : Int)
  have L := look_ok (t := tName 2) (fg := [2]) (env := [some (0, m.told), some (0, m.told), none]) (body := mIf (mTb (mIsi .tuple (mOp gIx (mVar 1) (mVar 2)))) (mIf (mNotB (mTb (mCall 0 F__law_wholes (mConsA (mOp gIx (mVar 0) (mVar 2)) (mConsA (mOp gIx (mVar 1) (mVar 2)) mNilA))))) (mRet (mC (.bl false))) mSkip) (mIf (mOrB (mNotB (mTb (mCall 0 F__law_whole (mConsA (mOp gIx (mVar 0) (mVar 2)) mNilA)))) (mTb (mOp gNe (mOp gIx (mVar 0) (mVar 2)) (mOp gIx (mVar 1) (mVar 2))))) (mRet (mC (.bl false))) mSkip)) ix1 (List.range m.pts.length) (fun i hi => by
    have hi := List.mem_range.mp hi
    obtain ⟨x, hx⟩ : ∃ x, m.pts[i]? = some x := ⟨_, List.getElem?_eq_getElem hi⟩
    have gx : gIx m.told (ix1 i) = _ := gIx_told m hx
    generalize ix1 i = I at *
    generalize m.told = T at *
    cases x with
    | i z =>
      have w := whole_i z
      have n := gni z
      have e : encPt (.i z) = .int z := rfl
      rw [e] at gx
      have t1 : isi .tuple (.int z) = false := rfl
      have t2' : isOb (.int z) = false := rfl
      simp -implicitDefEqProofs [gx, w, n, t1, t2', -e_gNe_int]
    | s p =>
      have w := wholes_t2 p
      have e : encPt (.s p) = t2 p := rfl
      rw [e] at gx
      have t1 : isi .tuple (t2 p) = true := rfl
      have t2' : isOb (t2 p) = false := rfl
      generalize t2 p = TP at *
      simp -implicitDefEqProofs [gx, w, t1, t2'])
  generalize m.told = T at *
  generalize D.str m.word = S at *
  generalize D.int ((m.pts.length + 1 : Nat) : Int) = LN at *
  generalize ((List.range m.pts.length).map ix1) = RR at *
  refine Tells.eq ?_
  simp only [F__law_tells, m__law_tells, runD]
  refine t_seq (e := [some (0, T), some (0, T), none]) (by simp -implicitDefEqProofs [h1, h2, h3, gl]) ?_
  refine t_seq (e := [some (0, T), some (0, T), none]) (by simp -implicitDefEqProofs [h0, hw1, hw2, hwn]) ?_
  refine t_seq (e := [some (0, T), some (0, T), none]) (by
    refine Eq.trans ?_ L
    simp -implicitDefEqProofs [h3, hg]) ?_
  refine Tells.eqI ?_
  simp -implicitDefEqProofs

/-! ### what the law asks -/
theorem gNe_ii (i : Int) : gNe (.int i) (.int i) = .ok (.bl false) := by
  have := gNe_enc (α := Int) i i (by decide)
  rw [show (Dat.enc i : D) = .int i from rfl] at this
  rw [this]; simp
/-! ### the told rows are spoilt -/
theorem WD.vd {S : Nat} {ds : Drw} {C : List Crs} (h : WD S ds C) (hS : S ≤ 3) (hC : C.length ≤ 12) : Vd ds :=
  ⟨siz_of (by rw [h.di.len]; omega) (by rw [h.len]; omega), h.uk, fun _ hx => h.way hx⟩
theorem spk_ne {ds : Drw} (h : ds ≠ []) : spk ds ≠ [] := fun e => by
  cases ds with
  | nil => exact h rfl
  | cons r ds =>
    cases r with
    | nil =>
      have : (((0 : Nat) : Int), (2 : Int)) ∈ spk ([] :: ds) := spk_mem.mpr (.inr ⟨0, rfl, rfl⟩)
      rw [e] at this
      cases this
    | cons x r =>
      have : ky x ∈ spk ((x :: r) :: ds) := spk_mem.mpr (.inl ⟨x, by simp, rfl⟩)
      rw [e] at this
      cases this

/-! ### blocks taken out and put back -/
theorem RotL.of : ∀ {a b : Drw}, a.length = b.length → (∀ (i : Nat) (r t : List T3), a[i]? = some r → b[i]? = some t → Rot r t) → RotL a b
  | [], [], _, _ => trivial
  | r :: ds, t :: T, hl, h => ⟨h 0 r t rfl rfl, RotL.of (by simpa using hl) fun i r t h1 h2 => h (i + 1) r t (by simpa using h1) (by simpa using h2)⟩
  | [], _ :: _, h, _ => by simp at h
  | _ :: _, [], h, _ => by simp at h
theorem spk_put {A : Drw} {k j : Int × Int} {ps : List T3} (hn : (spk A).Nodup) (hk : k ∈ spk A) (hp : ps ≠ []) : j ∈ spk (putL A k ps) ↔ (∃ x ∈ A.flatten, ky x = j) ∨ (∃ p ∈ ps, ky p = j) ∨ ∃ i : Nat, A[i]? = some [] ∧ j = ((i : Int), 2) ∧ k ≠ ((i : Int), 2) := by
  have hpm := putL_perm ps hn hk
  have hget : ∀ {i : Nat} {r : List T3}, A[i]? = some r → (putL A k ps)[i]? = some (putK k ps (r, i)) := fun {i r} h => by
    unfold putL
    rw [List.getElem?_map, List.getElem?_zipIdx, h]
    simp
  rw [spk_mem]
  constructor
  · rintro (⟨x, hx, e⟩ | ⟨i, hi, e⟩)
    · rcases List.mem_append.mp (hpm.mem_iff.mp hx) with h | h
      · exact .inl ⟨x, h, e⟩
      · exact .inr (.inl ⟨x, h, e⟩)
    · have hl : i < A.length := by
        have := (List.getElem?_eq_some_iff.mp hi).1
        unfold putL at this
        rw [List.length_map, List.length_zipIdx] at this
        exact this
      obtain ⟨r, hr⟩ : ∃ r, A[i]? = some r := ⟨_, List.getElem?_eq_getElem hl⟩
      rw [hget hr] at hi
      have hi := Option.some.inj hi
      unfold putK at hi
      obtain ⟨e1, e2⟩ := List.append_eq_nil_iff.mp hi
      have hr0 : r = [] := by
        cases r with
        | nil => rfl
        | cons x r => cases e2
      subst hr0
      refine .inr (.inr ⟨i, hr, e, fun e3 => ?_⟩)
      rw [if_pos ⟨rfl, e3⟩] at e1
      exact hp e1
  · rintro (⟨x, hx, e⟩ | ⟨p, hp', e⟩ | ⟨i, hi, e, hne⟩)
    · exact .inl ⟨x, hpm.mem_iff.mpr (List.mem_append_left _ hx), e⟩
    · exact .inl ⟨p, hpm.mem_iff.mpr (List.mem_append_right _ hp'), e⟩
    · refine .inr ⟨i, ?_, e⟩
      rw [hget hi]
      unfold putK
      rw [if_neg (fun z => hne z.2)]; rfl

/-! ### lays and parts -/
def ovs2 (a b c : Int) : List T3 := [⟨a, 0, c⟩, ⟨b, 0, -c⟩]
def uns2 (a b c t : Int) : List T3 := if t = 1 then [⟨b, 1, -c⟩, ⟨a, 1, c⟩] else [⟨a, 1, c⟩, ⟨b, 1, -c⟩]
theorem uns2_len (a b c t : Int) : (uns2 a b c t).length = 2 := by unfold uns2; split <;> rfl
def laidL (ds : Drw) (a b : Int) (o u : Int × Int) (t c : Int) : Drw := putL (putL ds o (ovs2 a b c)) u (uns2 a b c t)
/-- two crossings of E that can be taken out together -/
structure Pt2 (E : Drw) (a b c : Int) : Prop where
  vd : Vd E
  ne : a ≠ b
  hc : c = 1 ∨ c = -1
  ha : lk (hnds E) a = some c
  hb : lk (hnds E) b = some (-c)
  ov : Rl E ⟨a, 0, c⟩ ⟨b, 0, -c⟩ ∨ Rl E ⟨b, 0, -c⟩ ⟨a, 0, c⟩
  un : Rl E ⟨a, 1, c⟩ ⟨b, 1, -c⟩ ∨ Rl E ⟨b, 1, -c⟩ ⟨a, 1, c⟩
theorem Pt2.symm {E : Drw} {a b c : Int} (h : Pt2 E a b c) : Pt2 E b a (-c) :=
  ⟨h.vd, h.ne.symm, by rcases h.hc with e | e <;> rw [e] <;> simp, h.hb, by rw [Int.neg_neg]; exact h.ha, by rw [Int.neg_neg]; exact h.ov.symm, by rw [Int.neg_neg]; exact h.un.symm⟩
theorem sbs_is {E : Drw} (hu : UK E) {x y : T3} (h : Rl E x y ∨ Rl E y x) : F_side_by_side [encK2 t2 (nxP E), t2 (ky x), t2 (ky y)] = .ok (.bl true) := by
  have hx : x ∈ E.flatten := h.elim (fun h => h.left) (fun h => h.right)
  have hy : y ∈ E.flatten := h.elim (fun h => h.right) (fun h => h.left)
  obtain ⟨z, hz⟩ := Rl.next hx
  obtain ⟨w, hw⟩ := Rl.next hy
  have d0 := gDGet_K2 t2 (nxP_lk hu hz)
  have d1 := gDGet_K2 t2 (nxP_lk hu hw)
  have q1 := gEq_pp (ky z) (ky y)
  have q2 := gEq_pp (ky w) (ky x)
  have h3 : ky z = ky y ∨ ky w = ky x := by
    rcases h with h | h
    · exact .inl (by rw [Rl.fn hu hz h rfl])
    · exact .inr (by rw [Rl.fn hu hw h rfl])
  generalize encK2 t2 (nxP E) = K at *
  generalize t2 (ky x) = T0 at *
  generalize t2 (ky y) = T1 at *
  generalize t2 (ky z) = TA at *
  generalize t2 (ky w) = TB at *
  simp only [F_side_by_side, m_side_by_side, runD]
  by_cases ha : ky z = ky y
  · rw [decide_eq_true ha] at q1
    simp -implicitDefEqProofs [d0, q1]
  · rw [decide_eq_false ha] at q1
    rw [decide_eq_true (h3.resolve_left ha)] at q2
    simp -implicitDefEqProofs [d0, q1, d1, q2]
theorem part_look (κ : Str → Addr) {E : Drw} {a b c : Int} (p : Pt2 E a b c) : gMeth κ [("Part", F_Part_look κ)] "look" 0 ((Mv.prt a b).ob κ) [encD E] = .ok .non := by
  refine meth_is (F := F_Part_look κ) rfl (by decide) ?_ rfl
  show F_Part_look κ [(Mv.prt a b).ob κ, encD E] = .ok .non
  have ho2 : (Mv.prt a b).ob κ = ob_part κ (.int a) (.int b) := rfl
  rw [ho2]
  have f0 := fld_part_name κ (.int a) (.int b)
  have f1 := fld_part_second κ (.int a) (.int b)
  have hold := old_is (ds := E) p.vd.sz.fl (ns := [a, b]) (fun m hm => by
    rcases List.mem_cons.mp hm with rfl | hm
    · exact ⟨_, p.ha⟩
    · rw [List.mem_singleton.mp hm]; exact ⟨_, p.hb⟩)
  have e1 : [a, b].map D.int = [.int a, .int b] := rfl
  rw [e1] at hold
  have hfl := p.vd.sz.fl
  have hnx := next_is E (by omega)
  have hha := hands_is E (by omega)
  have s1 := sbs_is p.vd.uk p.ov
  have s2 := sbs_is p.vd.uk p.un
  have k1 : t2 (ky (⟨a, 0, c⟩ : T3)) = .tup [.int a, .int 0] := rfl
  have k2' : t2 (ky (⟨b, 0, -c⟩ : T3)) = .tup [.int b, .int 0] := rfl
  have k3 : t2 (ky (⟨a, 1, c⟩ : T3)) = .tup [.int a, .int 1] := rfl
  have k4 : t2 (ky (⟨b, 1, -c⟩ : T3)) = .tup [.int b, .int 1] := rfl
  rw [k1, k2'] at s1
  rw [k3, k4] at s2
  have d0 := gDGet_K D.int p.ha
  have d1 := gDGet_K D.int p.hb
  have qab : gEq (.int a) (.int b) = .ok (.bl false) := by
    have := gEq_enc (α := Int) a b (by decide)
    rw [show (Dat.enc a : D) = .int a from rfl, show (Dat.enc b : D) = .int b from rfl] at this
    rw [this, decide_eq_false p.ne]
  have qcc : gEq (.int c) (.int (-c)) = .ok (.bl false) := by
    have := gEq_enc (α := Int) c (-c) (by decide)
    rw [show (Dat.enc c : D) = .int c from rfl, show (Dat.enc (-c) : D) = .int (-c) from rfl] at this
    rw [this, decide_eq_false (by rcases p.hc with e | e <;> rw [e] <;> decide)]
  have i1 : immAt 1 (encK2 t2 (nxP E)) = true := immAt_K2 t2 (fun _ => rfl) _
  have i2 : immAt 1 (encK D.int (hnds E)) = true := immAt_K D.int (fun _ => rfl) _
  rw [encP_K] at hha
  have hpt : F_parts [encK2 t2 (nxP E), encK D.int (hnds E), .int a, .int b] = .ok (.bl true) := by
    generalize encK2 t2 (nxP E) = K at *
    generalize encK D.int (hnds E) = H at *
    refine Tells.eq ?_
    simp only [F_parts, m_parts, runD]
    refine t_seq (e := [some (0, K), some (0, H), some (0, .int a), some (0, .int b)]) (by simp -implicitDefEqProofs [qab, d0, d1, qcc, -e_gEq_int]) ?_
    refine t_seq (e := [some (0, K), some (0, H), some (0, .int a), some (0, .int b)]) (by simp -implicitDefEqProofs [s1]) ?_
    refine Tells.eqI ?_
    simp -implicitDefEqProofs [s2]
  have hz2 : (2 : Nat) ≤ sizeLine := by decide
  generalize ob_part κ (.int a) (.int b) = O at *
  generalize encK2 t2 (nxP E) = K at *
  generalize encK D.int (hnds E) = H at *
  generalize encD E = EE at *
  simp only [F_Part_look, m_Part_look, runD]
  simp -implicitDefEqProofs [mExpr, f0, f1, hold, hnx, hha, i1, i2, hpt, hz2]
theorem part_made (κ : Str → Addr) {E : Drw} {a b c : Int} (p : Pt2 E a b c) : gMeth κ (madeT κ) "made" 2 ((Mv.prt a b).ob κ) [encD E] = .ok (encD (E.map (·.filter fun x => decide (x.a ∉ [a, b])))) := by
  refine meth_is (F := F_Part_made κ) rfl (by decide) ?_ (by simp)
  show F_Part_made κ [(Mv.prt a b).ob κ, encD E] = _
  have hl := part_look κ p
  have hw := without_is (ds := E) (ns := [a, b]) (by have := p.vd.sz.len; omega) (fun r hr => by have := p.vd.sz.row r hr; omega)
  have e1 : [a, b].map D.int = [.int a, .int b] := rfl
  rw [e1] at hw
  have ho2 : (Mv.prt a b).ob κ = ob_part κ (.int a) (.int b) := rfl
  rw [ho2] at hl ⊢
  have f0 := fld_part_name κ (.int a) (.int b)
  have f1 := fld_part_second κ (.int a) (.int b)
  have i2 : immAt 2 (encD (E.map (·.filter fun x => decide (x.a ∉ [a, b])))) = true := by simp
  have hz2 : (2 : Nat) ≤ sizeLine := by decide
  generalize encD (E.map (·.filter fun x => decide (x.a ∉ [a, b]))) = Q at *
  generalize ob_part κ (.int a) (.int b) = O at *
  generalize encD E = EE at *
  simp only [F_Part_made, m_Part_made, runD]
  simp -implicitDefEqProofs [mExpr, hl, f0, f1, hw, i2, hz2]

/-! ### the back of a part -/
/-! ### the law's own lays -/
theorem lays_vd1 {ds : Drw} (hv : Vd ds) (hfl : ds.flatten.length ≤ 80) {a b c : Int} {o : Int × Int} (hna : ∀ x ∈ ds.flatten, x.a ≠ a) (hnb : ∀ x ∈ ds.flatten, x.a ≠ b) (hab : a ≠ b) (ho : o ∈ spk ds) : Vd (putL ds o (ovs2 a b c)) := by
  refine put_vd hv (by omega) ho (by show 2 ≤ 4; omega) ?_ (fun x hx p hp e => ?_) fun p hp => ?_
  · show [((a : Int), (0 : Int)), (b, 0)].Nodup
    exact List.nodup_cons.mpr ⟨fun hm => hab (congrArg Prod.fst (List.mem_singleton.mp hm)), List.nodup_cons.mpr ⟨List.not_mem_nil, List.nodup_nil⟩⟩
  · have e1 : x.a = p.a := congrArg Prod.fst e
    rcases List.mem_cons.mp hp with rfl | hp
    · exact hna x hx e1
    · rw [List.mem_singleton.mp hp] at e1
      exact hnb x hx e1
  · rcases List.mem_cons.mp hp with rfl | hp
    · exact .inl rfl
    · rw [List.mem_singleton.mp hp]; exact .inl rfl
theorem put1_len {ds : Drw} (hv : Vd ds) {a b c : Int} {o : Int × Int} (ho : o ∈ spk ds) : (putL ds o (ovs2 a b c)).flatten.length = ds.flatten.length + 2 := by
  rw [(putL_perm (ovs2 a b c) hv.spkn ho).length_eq, List.length_append]; rfl
theorem sum_zip : ∀ (xs : Drw) (n : Nat), ((xs.zipIdx n).map fun x => x.1.length).sum = xs.flatten.length
  | [], _ => rfl
  | r :: xs, n => by
    rw [List.zipIdx_cons, List.map_cons, List.sum_cons, sum_zip xs (n + 1), List.flatten_cons, List.length_append]
/-! ### parted and laid again -/
/-! ### drawings: hands, who is behind whom -/
def nx (E : Drw) (k : Int × Int) : Int × Int := (lk (nxP E) k).getD (0, 0)
def hof (E : Drw) (n : Int) : Int := (lk (hnds E) n).getD 0
structure Dr (E : Drw) : Prop where
  vd : Vd E
  bt : ∀ x ∈ E.flatten, (⟨x.a, 0, x.c⟩ : T3) ∈ E.flatten ∧ (⟨x.a, 1, x.c⟩ : T3) ∈ E.flatten
  sg : ∀ x ∈ E.flatten, x.c = 1 ∨ x.c = -1
/-- a crossing's name -/
structure Nm (E : Drw) (n : Int) : Prop where
  o : (⟨n, 0, hof E n⟩ : T3) ∈ E.flatten
  u : (⟨n, 1, hof E n⟩ : T3) ∈ E.flatten
  lk : lk (hnds E) n = some (hof E n)
  sg : hof E n = 1 ∨ hof E n = -1
section
variable {E F : Drw}
theorem Dr.same (h : Dr E) {x y : T3} (hx : x ∈ E.flatten) (hy : y ∈ E.flatten) (e : y.a = x.a) : y.c = x.c := by
  have h1 := uk_eq h.vd.uk (h.bt x hx).1 (h.bt y hy).1 (by show (x.a, (0 : Int)) = (y.a, 0); rw [e])
  exact (congrArg T3.c h1).symm
theorem Dr.lkh (h : Dr E) {x : T3} (hx : x ∈ E.flatten) : lk (hnds E) x.a = some x.c := hnds_at E x.a x.c ⟨x, hx, rfl⟩ fun y hy e => h.same hx hy e
theorem Dr.hofc (h : Dr E) {x : T3} (hx : x ∈ E.flatten) : hof E x.a = x.c := by
  show (lk (hnds E) x.a).getD 0 = _
  rw [h.lkh hx]; rfl
theorem Dr.nm (h : Dr E) {x : T3} (hx : x ∈ E.flatten) : Nm E x.a := by
  have h2 := h.hofc hx
  refine ⟨?_, ?_, ?_, ?_⟩ <;> rw [h2]
  · exact (h.bt x hx).1
  · exact (h.bt x hx).2
  · exact h.lkh hx
  · exact h.sg x hx
theorem Dr.eta (h : Dr E) {x : T3} (hx : x ∈ E.flatten) : x = ⟨(ky x).1, (ky x).2, hof E (ky x).1⟩ := by
  cases x with
  | mk a b c => exact congrArg (T3.mk a b) (h.hofc hx).symm
theorem nx_lk (hu : UK E) {x : T3} (hx : x ∈ E.flatten) : lk (nxP E) (ky x) = some (nx E (ky x)) := by
  obtain ⟨y, hy⟩ := Rl.next hx
  show _ = some ((lk (nxP E) (ky x)).getD (0, 0))
  rw [nxP_lk hu hy]; rfl
theorem rl_nx (hu : UK E) {x y : T3} (h : Rl E x y) : nx E (ky x) = ky y := by
  show (lk (nxP E) (ky x)).getD (0, 0) = _
  rw [nxP_lk hu h]; rfl
theorem nx_rl (hu : UK E) {x y : T3} (hx : x ∈ E.flatten) (hy : y ∈ E.flatten) (h : nx E (ky x) = ky y) : Rl E x y := by
  obtain ⟨z, hz⟩ := Rl.next hx
  rw [rl_nx hu hz] at h
  rw [← uk_eq hu hz.right hy h]; exact hz
theorem RotL.dr (h : RotL E F) (hd : Dr E) : Dr F := by
  have hm : ∀ x, x ∈ F.flatten ↔ x ∈ E.flatten := fun x => h.flat.mem_iff
  exact ⟨h.vd hd.vd, fun x hx => ⟨(hm _).mpr (hd.bt x ((hm x).mp hx)).1, (hm _).mpr (hd.bt x ((hm x).mp hx)).2⟩, fun x hx => hd.sg x ((hm x).mp hx)⟩
theorem Dr.hof_eq (hE : Dr E) (hF : Dr F) (hm : ∀ x, x ∈ F.flatten ↔ x ∈ E.flatten) {n : Int} (hn : Nm E n) : hof F n = hof E n := by
  have h1 := hF.hofc ((hm _).mpr hn.o)
  exact h1
theorem Dr.nm_eq (hE : Dr E) (hF : Dr F) (hm : ∀ x, x ∈ F.flatten ↔ x ∈ E.flatten) {n : Int} (hn : Nm E n) : Nm F n := hF.nm ((hm _).mpr hn.o)
end
/-! ### pairs exchanged -/
def xcF (a b c : Int) (k : Int × Int) : Int × Int := if k = (a, 0) then (b, 0) else if k = (b, 0) then (a, 0) else if k = (a, 1) then (c, 0) else if k = (c, 0) then (a, 1) else if k = (b, 1) then (c, 1) else if k = (c, 1) then (b, 1) else k
theorem xcF_inv {a b c : Int} (h1 : a ≠ b) (h2 : a ≠ c) (h3 : b ≠ c) (k : Int × Int) : xcF a b c (xcF a b c k) = k := by
  obtain ⟨n, w⟩ := k
  unfold xcF
  grind
def xcT (E : Drw) (a b c : Int) (x : T3) : T3 := ⟨(xcF a b c (ky x)).1, (xcF a b c (ky x)).2, hof E (xcF a b c (ky x)).1⟩
def xc (E : Drw) (a b c : Int) : Drw := E.map fun r => r.map (xcT E a b c)
theorem xcT_ky (E : Drw) (a b c : Int) (x : T3) : ky (xcT E a b c x) = xcF a b c (ky x) := rfl
/-- three crossings of a drawing -/
structure Tr3 (E : Drw) (a b c : Int) : Prop where
  d : Dr E
  ab : a ≠ b
  ac : a ≠ c
  bc : b ≠ c
  na : Nm E a
  nb : Nm E b
  nc : Nm E c
section
variable {E F : Drw} {a b c : Int}
theorem Tr3.inv (h : Tr3 E a b c) (k : Int × Int) : xcF a b c (xcF a b c k) = k := xcF_inv h.ab h.ac h.bc k
theorem Tr3.has (h : Tr3 E a b c) {x : T3} (hx : x ∈ E.flatten) : ∃ y ∈ E.flatten, ky y = xcF a b c (ky x) := by
  unfold xcF
  split
  · exact ⟨_, h.nb.o, rfl⟩
  split
  · exact ⟨_, h.na.o, rfl⟩
  split
  · exact ⟨_, h.nc.o, rfl⟩
  split
  · exact ⟨_, h.na.u, rfl⟩
  split
  · exact ⟨_, h.nc.u, rfl⟩
  split
  · exact ⟨_, h.nb.u, rfl⟩
  · exact ⟨x, hx, rfl⟩
theorem Tr3.mem (h : Tr3 E a b c) {x : T3} : x ∈ (xc E a b c).flatten ↔ x ∈ E.flatten := by
  have e : (xc E a b c).flatten = E.flatten.map (xcT E a b c) := by
    show (E.map fun r => r.map (xcT E a b c)).flatten = _
    rw [List.map_flatten]
  have key : ∀ y ∈ E.flatten, xcT E a b c y ∈ E.flatten := fun y hy => by
    obtain ⟨z, hz, ez⟩ := h.has hy
    have : xcT E a b c y = z := by
      rw [h.d.eta hz, ez]; rfl
    rw [this]; exact hz
  have key2 : ∀ y ∈ E.flatten, xcT E a b c (xcT E a b c y) = y := fun y hy => by
    have e2 := h.d.eta hy
    show (⟨(xcF a b c (ky (xcT E a b c y))).1, (xcF a b c (ky (xcT E a b c y))).2, hof E (xcF a b c (ky (xcT E a b c y))).1⟩ : T3) = y
    rw [xcT_ky, h.inv]
    exact e2.symm
  rw [e, List.mem_map]
  constructor
  · rintro ⟨y, hy, rfl⟩; exact key y hy
  · intro hx; exact ⟨_, key x hx, key2 x hx⟩
theorem Tr3.uk (h : Tr3 E a b c) : UK (xc E a b c) := by
  have e : (xc E a b c).flatten.map ky = (E.flatten.map ky).map (xcF a b c) := by
    show (E.map fun r => r.map (xcT E a b c)).flatten.map ky = _
    rw [← List.map_flatten, List.map_map, List.map_map]; rfl
  show ((xc E a b c).flatten.map ky).Nodup
  rw [e]
  have hn := h.d.vd.uk
  show List.Nodup _
  refine List.Pairwise.map _ (fun p q hpq z => hpq ?_) hn
  rw [← h.inv p, z, h.inv q]
theorem Tr3.flen (E : Drw) (a b c : Int) : (xc E a b c).flatten.length = E.flatten.length := by
  show (E.map fun r => r.map (xcT E a b c)).flatten.length = _
  rw [← List.map_flatten, List.length_map]
theorem Tr3.dr (h : Tr3 E a b c) : Dr (xc E a b c) :=
  ⟨⟨siz_of (by rw [show (xc E a b c).length = E.length from List.length_map _]; exact h.d.vd.sz.len) (by rw [Tr3.flen]; exact h.d.vd.sz.fl), h.uk, fun x hx => h.d.vd.wy x (h.mem.mp hx)⟩,
   fun x hx => ⟨h.mem.mpr (h.d.bt x (h.mem.mp hx)).1, h.mem.mpr (h.d.bt x (h.mem.mp hx)).2⟩, fun x hx => h.d.sg x (h.mem.mp hx)⟩
theorem Tr3.hofx (h : Tr3 E a b c) {n : Int} (hn : Nm E n) : hof (xc E a b c) n = hof E n := h.d.hof_eq h.dr (fun _ => h.mem) hn
theorem Tr3.tr (h : Tr3 E a b c) : Tr3 (xc E a b c) a b c :=
  ⟨h.dr, h.ab, h.ac, h.bc, h.d.nm_eq h.dr (fun _ => h.mem) h.na, h.d.nm_eq h.dr (fun _ => h.mem) h.nb, h.d.nm_eq h.dr (fun _ => h.mem) h.nc⟩
/-- twice is none -/
theorem Tr3.xx (h : Tr3 E a b c) : xc (xc E a b c) a b c = E := by
  have key2 : ∀ y ∈ E.flatten, xcT (xc E a b c) a b c (xcT E a b c y) = y := fun y hy => by
    show (⟨(xcF a b c (ky (xcT E a b c y))).1, (xcF a b c (ky (xcT E a b c y))).2, hof (xc E a b c) (xcF a b c (ky (xcT E a b c y))).1⟩ : T3) = y
    rw [xcT_ky, h.inv]
    show (⟨y.a, y.b, hof (xc E a b c) y.a⟩ : T3) = y
    rw [h.hofx (h.d.nm hy)]
    exact (h.d.eta hy).symm
  show (E.map fun r => r.map (xcT E a b c)).map (fun r => r.map (xcT (xc E a b c) a b c)) = E
  rw [List.map_map]
  refine (List.map_congr_left fun r hr => ?_).trans (List.map_id _)
  show (r.map (xcT E a b c)).map (xcT (xc E a b c) a b c) = r
  rw [List.map_map]
  exact (List.map_congr_left fun y hy => key2 y (List.mem_flatten.mpr ⟨r, hr, hy⟩)).trans (List.map_id _)
theorem Tr3.xrot (h : Tr3 E a b c) (r : RotL E F) : RotL (xc E a b c) (xc F a b c) := by
  have hm : ∀ x, x ∈ F.flatten ↔ x ∈ E.flatten := fun x => r.flat.mem_iff
  have h1 := r.map (xcT E a b c)
  have e : (F.map fun r => r.map (xcT E a b c)) = xc F a b c := by
    refine List.map_congr_left fun s hs => List.map_congr_left fun y hy => ?_
    obtain ⟨z, hz, ez⟩ := h.has ((hm y).mp (List.mem_flatten.mpr ⟨s, hs, hy⟩))
    have hn := h.d.nm hz
    have e1 : (xcF a b c (ky y)).1 = z.a := by rw [← ez]; rfl
    show (⟨(xcF a b c (ky y)).1, (xcF a b c (ky y)).2, hof E (xcF a b c (ky y)).1⟩ : T3) = ⟨(xcF a b c (ky y)).1, (xcF a b c (ky y)).2, hof F (xcF a b c (ky y)).1⟩
    rw [e1, h.d.hof_eq (r.dr h.d) hm hn]
  rw [e] at h1
  exact h1
theorem Tr3.there (h : Tr3 E a b c) : (xc ((xc E a b c).map seat) a b c).map seat = E.map seat := by
  have r := RotL.seatL (xc E a b c)
  have r2 := h.tr.xrot r
  rw [h.xx] at r2
  exact r2.seatedL (uk_rows h.d.vd.uk)
end
/-! ### whether a slide fits -/
def rbB (E : Drw) (k l : Int × Int) (w : Int) : Bool := if w = 1 then decide (nx E k = l) else decide (nx E l = k)
def slB (E : Drw) (a b c t : Int) : Bool := if a = b ∨ a = c ∨ b = c then false else rbB E (a, 0) (b, 0) t && (rbB E (a, 1) (c, 0) (t * hof E b * hof E c) && rbB E (b, 1) (c, 1) (t * hof E a * hof E c))
theorem pm_mul {x y : Int} (hx : x = 1 ∨ x = -1) (hy : y = 1 ∨ y = -1) : x * y = 1 ∨ x * y = -1 := by
  rcases hx with rfl | rfl <;> rcases hy with rfl | rfl <;> decide
section
variable {E F : Drw} {a b c t : Int}
theorem slB_tr (hd : Dr E) (na : Nm E a) (nb : Nm E b) (nc : Nm E c) (h : slB E a b c t = true) : Tr3 E a b c := by
  unfold slB at h
  split at h
  · cases h
  · rename_i hn
    exact ⟨hd, fun e => hn (.inl e), fun e => hn (.inr (.inl e)), fun e => hn (.inr (.inr e)), na, nb, nc⟩
end

/-! ### slides walked -/
theorem nxlk_is {E : Drw} (hu : UK E) {x : T3} (hx : x ∈ E.flatten) : gDGet (encK2 t2 (nxP E)) (t2 (ky x)) = .ok (t2 (nx E (ky x))) := gDGet_K2 t2 (nx_lk hu hx)
theorem rb_is {E : Drw} (hu : UK E) {x y : T3} (hx : x ∈ E.flatten) (hy : y ∈ E.flatten) (w : Int) : F_right_behind [encK2 t2 (nxP E), t2 (ky x), t2 (ky y), .int w] = .ok (.bl (rbB E (ky x) (ky y) w)) := by
  have d0 := nxlk_is hu hx
  have d1 := nxlk_is hu hy
  have q1 := gEq_pp (nx E (ky x)) (ky y)
  have q2 := gEq_pp (nx E (ky y)) (ky x)
  have qw : gEq (.int w) (.int 1) = .ok (.bl (decide (w = 1))) := gEq_enc (α := Int) w 1 (by decide)
  unfold rbB
  generalize encK2 t2 (nxP E) = K at *
  generalize t2 (ky x) = T0 at *
  generalize t2 (ky y) = T1 at *
  generalize t2 (nx E (ky x)) = TA at *
  generalize t2 (nx E (ky y)) = TB at *
  simp only [F_right_behind, m_right_behind, runD]
  by_cases hw : w = 1
  · rw [decide_eq_true hw] at qw
    rw [if_pos hw]
    simp -implicitDefEqProofs [qw, d0, q1, -e_gEq_int]
  · rw [decide_eq_false hw] at qw
    rw [if_neg hw]
    simp -implicitDefEqProofs [qw, d1, q2, -e_gEq_int]
theorem gEq_i (a b : Int) : gEq (.int a) (.int b) = .ok (.bl (decide (a = b))) := gEq_enc (α := Int) a b (by decide)
theorem pm_sm {x : Int} (h : x = 1 ∨ x = -1) : -(2 ^ 64) < x ∧ x < 2 ^ 64 := by rcases h with rfl | rfl <;> decide
theorem slides_is {E : Drw} (hd : Dr E) {a b c t : Int} (na : Nm E a) (nb : Nm E b) (nc : Nm E c) (ht : t = 1 ∨ t = -1) : F_slides [encK2 t2 (nxP E), encK D.int (hnds E), .lst [.int a, .int b, .int c], .int t] = .ok (.bl (slB E a b c t)) := by
  have da := gDGet_K D.int na.lk
  have db := gDGet_K D.int nb.lk
  have dc := gDGet_K D.int nc.lk
  have r1 := rb_is hd.vd.uk na.o nb.o t
  have r2 := rb_is hd.vd.uk na.u nc.o (t * hof E b * hof E c)
  have r3 := rb_is hd.vd.uk nb.u nc.u (t * hof E a * hof E c)
  have m1 := e_gMul t (hof E b) (.inl (pm_sm ht))
  have m2 := e_gMul (t * hof E b) (hof E c) (.inl (pm_sm (pm_mul ht nb.sg)))
  have m3 := e_gMul t (hof E a) (.inl (pm_sm ht))
  have m4 := e_gMul (t * hof E a) (hof E c) (.inl (pm_sm (pm_mul ht na.sg)))
  have q1 := gEq_i a b
  have q2 := gEq_i a c
  have q3 := gEq_i b c
  have k1 : t2 (ky (⟨a, 0, hof E a⟩ : T3)) = .tup [.int a, .int 0] := rfl
  have k2' : t2 (ky (⟨b, 0, hof E b⟩ : T3)) = .tup [.int b, .int 0] := rfl
  have k3 : t2 (ky (⟨a, 1, hof E a⟩ : T3)) = .tup [.int a, .int 1] := rfl
  have k4 : t2 (ky (⟨c, 0, hof E c⟩ : T3)) = .tup [.int c, .int 0] := rfl
  have k5 : t2 (ky (⟨b, 1, hof E b⟩ : T3)) = .tup [.int b, .int 1] := rfl
  have k6 : t2 (ky (⟨c, 1, hof E c⟩ : T3)) = .tup [.int c, .int 1] := rfl
  rw [k1, k2'] at r1
  rw [k3, k4] at r2
  rw [k5, k6] at r3
  have e : slB E a b c t = if a = b ∨ a = c ∨ b = c then false else rbB E (a, 0) (b, 0) t && (rbB E (a, 1) (c, 0) (t * hof E b * hof E c) && rbB E (b, 1) (c, 1) (t * hof E a * hof E c)) := rfl
  have r1' : F_right_behind [encK2 t2 (nxP E), .tup [.int a, .int 0], .tup [.int b, .int 0], .int t] = .ok (.bl (rbB E (a, 0) (b, 0) t)) := r1
  have r2' : F_right_behind [encK2 t2 (nxP E), .tup [.int a, .int 1], .tup [.int c, .int 0], .int (t * hof E b * hof E c)] = .ok (.bl (rbB E (a, 1) (c, 0) (t * hof E b * hof E c))) := r2
  have r3' : F_right_behind [encK2 t2 (nxP E), .tup [.int b, .int 1], .tup [.int c, .int 1], .int (t * hof E a * hof E c)] = .ok (.bl (rbB E (b, 1) (c, 1) (t * hof E a * hof E c))) := r3
  clear r1 r2 r3 k1 k2' k3 k4 k5 k6
  rw [e]
  generalize rbB E (a, 0) (b, 0) t = B1 at *
  generalize rbB E (a, 1) (c, 0) (t * hof E b * hof E c) = B2 at *
  generalize rbB E (b, 1) (c, 1) (t * hof E a * hof E c) = B3 at *
  generalize encK2 t2 (nxP E) = K at *
  generalize encK D.int (hnds E) = H at *
  generalize hof E a = ha at *
  generalize hof E b = hb at *
  generalize hof E c = hc at *
  refine Tells.eq ?_
  simp only [F_slides, m_slides, runD]
  refine t_seq (e := [some (0, K), some (0, H), some (0, .lst [.int a, .int b, .int c]), some (0, .int t), some (0, .int a), some (0, .int b), some (0, .int c)]) (by simp -implicitDefEqProofs [mAsg]) ?_
  by_cases hne : a = b ∨ a = c ∨ b = c
  · rw [if_pos hne]
    refine t_seqR (d := .bl false) ?_ (Tells.ok rfl)
    by_cases h1 : a = b
    · rw [decide_eq_true h1] at q1
      simp -implicitDefEqProofs [q1, -e_gEq_int]
    · rw [decide_eq_false h1] at q1
      by_cases h2 : a = c
      · rw [decide_eq_true h2] at q2
        simp -implicitDefEqProofs [q1, q2, -e_gEq_int]
      · rw [decide_eq_false h2] at q2
        rw [decide_eq_true ((hne.resolve_left h1).resolve_left h2)] at q3
        simp -implicitDefEqProofs [q1, q2, q3, -e_gEq_int]
  · rw [if_neg hne]
    rw [decide_eq_false fun z => hne (.inl z)] at q1
    rw [decide_eq_false fun z => hne (.inr (.inl z))] at q2
    rw [decide_eq_false fun z => hne (.inr (.inr z))] at q3
    refine t_seq (e := [some (0, K), some (0, H), some (0, .lst [.int a, .int b, .int c]), some (0, .int t), some (0, .int a), some (0, .int b), some (0, .int c)]) (by simp -implicitDefEqProofs [q1, q2, q3, -e_gEq_int]) ?_
    cases B1
    · refine t_seqR (d := .bl false) (by simp -implicitDefEqProofs [r1']) (Tells.ok rfl)
    · refine t_seq (e := [some (0, K), some (0, H), some (0, .lst [.int a, .int b, .int c]), some (0, .int t), some (0, .int a), some (0, .int b), some (0, .int c)]) (by simp -implicitDefEqProofs [r1']) ?_
      cases B2
      · refine t_seqR (d := .bl false) (by simp -implicitDefEqProofs [db, dc, m1, m2, r2']) (Tells.ok rfl)
      · refine t_seq (e := [some (0, K), some (0, H), some (0, .lst [.int a, .int b, .int c]), some (0, .int t), some (0, .int a), some (0, .int b), some (0, .int c)]) (by simp -implicitDefEqProofs [db, dc, m1, m2, r2']) ?_
        refine Tells.eqI ?_
        simp -implicitDefEqProofs [da, dc, m3, m4, r3']

/-! ### a loop that appends -/
theorem for_app {α β : Type} {it : Mir.Env → Res (List D)} {t : Nat → D → Mir.Env → Res Mir.Env} {body : Mir.Env → Res Ctl} {fg : List Nat} {env e' : Mir.Env} (mk : List β → Mir.Env) (enc : α → D) (f : α → β) (B : Nat) (xs : List α) (hit : it env = .ok (xs.map enc)) (h0 : env = mk []) (h1 : mk (xs.map f) = e') (hl : xs.length ≤ B)
    (hs : ∀ a ∈ xs, ∀ acc, acc.length < B → (t 0 (enc a) (mk acc) >>= fun e => body e >>= stepc fg) = .ok (mk (acc ++ [f a]))) : mFor it t body fg env = .ok (.nx e') := by
  have L := app_loop (t := t) (body := body) (fg := fg) mk enc (fun a => [f a]) 1 B xs (fun _ _ => Nat.le_refl _) (fun a ha acc hacc => hs a ha acc (by omega)) [] (by rw [List.length_nil]; omega)
  rw [List.nil_append, flat_one, h1, ← h0] at L
  exact for_of hit L
/-- a loop that changes a state -/
theorem for_fold {α σ : Type} {it : Mir.Env → Res (List D)} {t : Nat → D → Mir.Env → Res Mir.Env} {body : Mir.Env → Res Ctl} {fg : List Nat} {env e' : Mir.Env} (mk : σ → Mir.Env) (enc : α → D) (f : σ → α → σ) (xs : List α) (s : σ) (hit : it env = .ok (xs.map enc)) (h0 : env = mk s) (h1 : mk (xs.foldl f s) = e')
    (hs : ∀ (i : Nat) (a : α), xs[i]? = some a → (t 0 (enc a) (mk ((xs.take i).foldl f s)) >>= fun e => body e >>= stepc fg) = .ok (mk (f ((xs.take i).foldl f s) a))) : mFor it t body fg env = .ok (.nx e') := by
  have L : ∀ (zs ys : List α), xs = ys ++ zs → loop t body fg (zs.map enc) (mk (ys.foldl f s)) = .ok (.nx (mk (xs.foldl f s))) := fun zs => by
    induction zs with
    | nil => intro ys h; rw [h, List.append_nil]; rfl
    | cons z zs ih =>
      intro ys h
      have h2 := hs ys.length z (by rw [h]; simp)
      rw [h, List.take_left' rfl] at h2
      rw [List.map_cons, loop_step h2]
      have := ih (ys ++ [z]) (by rw [h]; simp)
      rw [List.foldl_append] at this
      exact this
  have L0 := L xs [] rfl
  rw [List.foldl_nil, ← h0, h1] at L0
  exact for_of hit L0
/-- .. a state of which P holds -/
theorem for_run {α σ : Type} {it : Mir.Env → Res (List D)} {t : Nat → D → Mir.Env → Res Mir.Env} {body : Mir.Env → Res Ctl} {fg : List Nat} {env : Mir.Env} (mk : σ → Mir.Env) (enc : α → D) (P : Nat → σ → Prop) (xs : List α) (s : σ) (hit : it env = .ok (xs.map enc)) (h0 : env = mk s) (hp : P 0 s)
    (hs : ∀ (i : Nat) (a : α) (s : σ), xs[i]? = some a → P i s → ∃ s', P (i + 1) s' ∧ (t 0 (enc a) (mk s) >>= fun e => body e >>= stepc fg) = .ok (mk s')) : ∃ s', P xs.length s' ∧ mFor it t body fg env = .ok (.nx (mk s')) := by
  have L : ∀ (zs ys : List α) (s : σ), xs = ys ++ zs → P ys.length s → ∃ s', P xs.length s' ∧ loop t body fg (zs.map enc) (mk s) = .ok (.nx (mk s')) := fun zs => by
    induction zs with
    | nil => intro ys s h hp; exact ⟨s, by rw [h, List.append_nil]; exact hp, rfl⟩
    | cons z zs ih =>
      intro ys s h hp
      obtain ⟨s1, hp1, h2⟩ := hs ys.length z s (by rw [h]; simp) hp
      obtain ⟨s2, hp2, h3⟩ := ih (ys ++ [z]) s1 (by rw [h]; simp) (by rw [List.length_append]; exact hp1)
      exact ⟨s2, hp2, by rw [List.map_cons, loop_step h2]; exact h3⟩
  obtain ⟨s2, h1, h2⟩ := L xs [] s rfl hp
  exact ⟨s2, h1, for_of hit (by rw [h0]; exact h2)⟩
theorem step_of {t : Nat → D → Mir.Env → Res Mir.Env} {body : Mir.Env → Res Ctl} {fg : List Nat} {x : D} {env e1 e2 env' : Mir.Env} (h1 : t 0 x env = .ok e1) (h2 : body e1 = .ok (.nx e2)) (h3 : clear e2 fg = env') : (t 0 x env >>= fun e => body e >>= stepc fg) = .ok env' := by
  rw [h1, ok_bind, h2, ← h3]; rfl
theorem for_look {α : Type} {it : Mir.Env → Res (List D)} {t : Nat → D → Mir.Env → Res Mir.Env} {body : Mir.Env → Res Ctl} {fg : List Nat} {env : Mir.Env} (enc : α → D) (xs : List α) (hit : it env = .ok (xs.map enc)) (hs : ∀ a ∈ xs, (t 0 (enc a) env >>= fun e => body e >>= stepc fg) = .ok env) : mFor it t body fg env = .ok (.nx env) := for_of hit (look_ok enc xs hs)
/-- a loop that appends a few things at each turn -/
theorem for_appF {α β : Type} {it : Mir.Env → Res (List D)} {t : Nat → D → Mir.Env → Res Mir.Env} {body : Mir.Env → Res Ctl} {fg : List Nat} {env e' : Mir.Env} (mk : List β → Mir.Env) (enc : α → D) (g : α → List β) (c B : Nat) (xs : List α) (acc : List β) (hit : it env = .ok (xs.map enc)) (h0 : env = mk acc) (h1 : mk (acc ++ xs.flatMap g) = e') (hc : ∀ a ∈ xs, (g a).length ≤ c) (hl : acc.length + xs.length * c ≤ B)
    (hs : ∀ a ∈ xs, ∀ acc, acc.length + c ≤ B → (t 0 (enc a) (mk acc) >>= fun e => body e >>= stepc fg) = .ok (mk (acc ++ g a))) : mFor it t body fg env = .ok (.nx e') := by
  have L := app_loop (t := t) (body := body) (fg := fg) mk enc g c B xs hc hs acc hl
  rw [h1, ← h0] at L
  exact for_of hit L
/-- what of xs has p, made by f -/
def flt {α β : Type} (p : α → Bool) (f : α → β) (xs : List α) : List β := xs.flatMap fun a => if p a then [f a] else []
theorem flt_eq {α β : Type} (p : α → Bool) (f : α → β) : ∀ xs : List α, flt p f xs = (xs.filter p).map f
  | [] => rfl
  | x :: xs => by
    have ih := flt_eq p f xs
    unfold flt at ih ⊢
    rw [List.flatMap_cons, ih]
    cases h : p x <;> simp [h]
theorem flt_len {α β : Type} (p : α → Bool) (f : α → β) (xs : List α) : (flt p f xs).length ≤ xs.length := by
  rw [flt_eq, List.length_map]
  exact List.length_filter_le _ _
theorem flt_mem {α β : Type} {p : α → Bool} {f : α → β} {xs : List α} {y : β} : y ∈ flt p f xs ↔ ∃ a ∈ xs, p a = true ∧ f a = y := by
  rw [flt_eq, List.mem_map]
  constructor
  · rintro ⟨a, ha, rfl⟩
    rw [List.mem_filter] at ha
    exact ⟨a, ha.1, ha.2, rfl⟩
  · rintro ⟨a, ha, hp, rfl⟩
    exact ⟨a, List.mem_filter.mpr ⟨ha, hp⟩, rfl⟩

/-! ### pairs exchanged, walked -/
def xcP (a b c : Int) : List ((Int × Int) × (Int × Int)) := [((a, 0), (b, 0)), ((b, 0), (a, 0)), ((a, 1), (c, 0)), ((c, 0), (a, 1)), ((b, 1), (c, 1)), ((c, 1), (b, 1))]
def xcQ (a b c : Int) : List ((Int × Int) × (Int × Int)) := [((a, 0), (b, 0)), ((a, 1), (c, 0)), ((b, 1), (c, 1))]
theorem xcP_pt {a b c : Int} (h1 : a ≠ b) (h2 : a ≠ c) (h3 : b ≠ c) : (xcQ a b c).foldl (fun p e => pt (pt p e.1 e.2) e.2 e.1) [] = xcP a b c := by
  have e1 := h1.symm
  have e2 := h2.symm
  have e3 := h3.symm
  simp [xcQ, xcP, pt, h1, h2, h3, e1, e2, e3]
theorem xcP_lk (a b c : Int) (k : Int × Int) : (lk (xcP a b c) k).getD k = xcF a b c k := by
  unfold xcP xcF
  simp only [lk_cons, lk_nil]
  have s : ∀ p : Int × Int, (p = k) = (k = p) := fun p => propext ⟨fun h => h.symm, fun h => h.symm⟩
  simp only [s]
  repeat' split
  all_goals rfl
def pr2 (e : (Int × Int) × (Int × Int)) : D := .tup [t2 e.1, t2 e.2]
theorem partner_step (P : List ((Int × Int) × (Int × Int))) (k v : Int × Int) (h : P.length ≤ 1000) : dSet (encK2 t2 P) (t2 k) (t2 v) = .ok (encK2 t2 (pt P k v)) := dSet_K2 t2 P k v (sizeLine_lt (by omega))
section
variable {E : Drw} {a b c : Int}
theorem xcP_foldlen (a b c : Int) (i : Nat) : (((xcQ a b c).take i).foldl (fun p e => pt (pt p e.1 e.2) e.2 e.1) []).length ≤ 10 := by
  have gen : ∀ (xs : List ((Int × Int) × (Int × Int))) (p : List ((Int × Int) × (Int × Int))), (xs.foldl (fun p e => pt (pt p e.1 e.2) e.2 e.1) p).length ≤ p.length + 2 * xs.length := fun xs => by
    induction xs with
    | nil => intro p; exact Nat.le_refl _
    | cons x xs ih =>
      intro p
      have h1 := ih (pt (pt p x.1 x.2) x.2 x.1)
      have h2 := pt_len p x.1 x.2
      have h3 := pt_len (pt p x.1 x.2) x.2 x.1
      rw [List.foldl_cons, List.length_cons]
      omega
  have := gen ((xcQ a b c).take i) []
  have h2 : ((xcQ a b c).take i).length ≤ 3 := by rw [List.length_take]; exact Nat.min_le_right _ _
  rw [List.length_nil] at this
  omega
theorem exchanged_is (h : Tr3 E a b c) : F_exchanged [encD E, .lst ((xcQ a b c).map pr2)] = .ok (encD (xc E a b c)) := by
  have hfl := h.d.vd.sz.fl
  have hha := hands_is E (by omega)
  rw [encP_K] at hha
  have i1 : immAt 1 (encK D.int (hnds E)) = true := immAt_K D.int (fun _ => rfl) _
  have hDi : itemsL (encD E) = .ok (E.map encR) := rfl
  obtain ⟨PL, hPL⟩ : ∃ PL, PL = D.lst ((xcQ a b c).map pr2) := ⟨_, rfl⟩
  have hPi : itemsL PL = .ok ((xcQ a b c).map pr2) := by rw [hPL]; rfl
  rw [← hPL]
  refine Tells.eq ?_
  simp only [F_exchanged, m_exchanged, runD]
  refine t_seq (e := [some (0, encD E), some (0, PL), some (1, encK D.int (hnds E)), none, none, none, none, none, none, none, none]) (by
    generalize encK D.int (hnds E) = HH at *
    generalize encD E = EE at *
    simp -implicitDefEqProofs [hha, i1]) ?_
  refine t_seq (e := [some (0, encD E), some (0, PL), some (1, encK D.int (hnds E)), some (1, encK2 t2 []), none, none, none, none, none, none, none]) (by
    generalize encK D.int (hnds E) = HH at *
    generalize encD E = EE at *
    simp -implicitDefEqProofs [encK2_nil t2]) ?_
  refine t_seq (e := [some (0, encD E), some (0, PL), some (1, encK D.int (hnds E)), some (1, encK2 t2 (xcP a b c)), none, none, none, none, none, none, none]) (by
    refine for_fold (fun p => [some (0, encD E), some (0, PL), some (1, encK D.int (hnds E)), some (1, encK2 t2 p), none, none, none, none, none, none, none]) pr2 (fun p e => pt (pt p e.1 e.2) e.2 e.1) (xcQ a b c) [] ?_ rfl (by rw [xcP_pt h.ab h.ac h.bc]) ?_
    · generalize encK D.int (hnds E) = HH at *
      generalize encD E = EE at *
      generalize encK2 t2 [] = K0 at *
      simp -implicitDefEqProofs [hPi]
    · intro i e he
      have hl := xcP_foldlen a b c i
      generalize ((xcQ a b c).take i).foldl (fun p e => pt (pt p e.1 e.2) e.2 e.1) [] = P at *
      have s1 := partner_step P e.1 e.2 (by omega)
      have s2 := partner_step (pt P e.1 e.2) e.2 e.1 (by have := pt_len P e.1 e.2; omega)
      have j1 : (t2 e.1).imm = true := rfl
      have j2 : (t2 e.2).imm = true := rfl
      have ep : pr2 e = .tup [t2 e.1, t2 e.2] := rfl
      rw [ep]
      generalize encK2 t2 (pt (pt P e.1 e.2) e.2 e.1) = K2 at *
      generalize encK2 t2 (pt P e.1 e.2) = K1 at *
      generalize encK2 t2 P = K0 at *
      generalize encK D.int (hnds E) = HH at *
      generalize encD E = EE at *
      generalize t2 e.1 = A1 at *
      generalize t2 e.2 = A2 at *
      simp -implicitDefEqProofs [s1, s2, j1, j2]) ?_
  refine t_seq (e := [some (0, encD E), some (0, PL), some (1, encK D.int (hnds E)), some (1, encK2 t2 (xcP a b c)), none, none, some (2, encD []), none, none, none, none]) (by
    generalize encK D.int (hnds E) = HH at *
    generalize encD E = EE at *
    generalize encK2 t2 (xcP a b c) = K0 at *
    simp -implicitDefEqProofs [encD]) ?_
  refine t_seq (e := [some (0, encD E), some (0, PL), some (1, encK D.int (hnds E)), some (1, encK2 t2 (xcP a b c)), none, none, some (2, encD (xc E a b c)), none, none, none, none]) (by
    refine for_app (fun q : Drw => [some (0, encD E), some (0, PL), some (1, encK D.int (hnds E)), some (1, encK2 t2 (xcP a b c)), none, none, some (2, encD q), none, none, none, none]) encR (fun r => r.map (xcT E a b c)) 1000 E ?_ rfl rfl (by have := h.d.vd.sz.len; omega) ?_
    · generalize encK D.int (hnds E) = HH at *
      generalize E.map encR = ER at *
      generalize encD E = EE at *
      generalize encD [] = E0 at *
      generalize encK2 t2 (xcP a b c) = K0 at *
      simp -implicitDefEqProofs [hDi]
    · intro r hr acc hacc
      have hrl := h.d.vd.sz.row r hr
      have hR : itemsL (encR r) = .ok (r.map t3) := rfl
      refine (congrArg (fun r => r >>= stepc [7, 8, 9, 10]) (s_seq2 (e := [some (0, encD E), some (0, PL), some (1, encK D.int (hnds E)), some (1, encK2 t2 (xcP a b c)), none, none, some (2, encD acc), some (0, encR r), some (1, encR []), none, none]) ?_ (s_seq2 (e := [some (0, encD E), some (0, PL), some (1, encK D.int (hnds E)), some (1, encK2 t2 (xcP a b c)), none, none, some (2, encD acc), some (0, encR r), some (1, encR (r.map (xcT E a b c))), none, none]) ?_ (r := .ok (.nx [some (0, encD E), some (0, PL), some (1, encK D.int (hnds E)), some (1, encK2 t2 (xcP a b c)), none, none, some (2, encD (acc ++ [r.map (xcT E a b c)])), some (0, encR r), none, none, none])) ?_))).trans ?_
      · generalize encK D.int (hnds E) = HH at *
        generalize encD E = EE at *
        generalize encD acc = AA at *
        generalize encK2 t2 (xcP a b c) = K0 at *
        simp -implicitDefEqProofs [encR]
      · refine for_app (fun q : List T3 => [some (0, encD E), some (0, PL), some (1, encK D.int (hnds E)), some (1, encK2 t2 (xcP a b c)), none, none, some (2, encD acc), some (0, encR r), some (1, encR q), none, none]) t3 (xcT E a b c) 1000 r ?_ rfl rfl (by omega) ?_
        · generalize encK D.int (hnds E) = HH at *
          generalize encD E = EE at *
          generalize encD acc = AA at *
          generalize encK2 t2 (xcP a b c) = K0 at *
          generalize encR [] = R0 at *
          generalize r.map t3 = RL at *
          generalize encR r = RR at *
          simp -implicitDefEqProofs [hR]
        · intro x hx q hq
          obtain ⟨z, hz, ez⟩ := h.has (List.mem_flatten.mpr ⟨r, hr, hx⟩)
          have hh := gDGet_K D.int (h.d.nm hz).lk
          have eT : t3 (xcT E a b c x) = .tup [.int (xcF a b c (ky x)).1, .int (xcF a b c (ky x)).2, .int (hof E (xcF a b c (ky x)).1)] := rfl
          have ef : (xcF a b c (ky x)).1 = z.a := by rw [← ez]; rfl
          rw [← ef] at hh
          have g0 : gIx (t3 x) (.int 0) = .ok (.int x.a) := rfl
          have g1 : gIx (t3 x) (.int 1) = .ok (.int x.b) := rfl
          have e2 : t2 (ky x) = .tup [.int x.a, .int x.b] := rfl
          have hin := gDIn_K2 t2 (xcP a b c) (ky x)
          have hP := xcP_lk a b c (ky x)
          have hz1 : (q.map t3).length < sizeLine := sizeLine_lt (by rw [List.length_map]; omega)
          have e5 : encR (q ++ [xcT E a b c x]) = .lst (q.map t3 ++ [t3 (xcT E a b c x)]) := by unfold encR; simp
          have e6 : encR q = .lst (q.map t3) := rfl
          show (tName 9 0 (t3 x) [some (0, encD E), some (0, PL), some (1, encK D.int (hnds E)), some (1, encK2 t2 (xcP a b c)), none, none, some (2, encD acc), some (0, encR r), some (1, encR q), none, none] >>= fun e => _) = .ok [some (0, encD E), some (0, PL), some (1, encK D.int (hnds E)), some (1, encK2 t2 (xcP a b c)), none, none, some (2, encD acc), some (0, encR r), some (1, encR (q ++ [xcT E a b c x])), none, none]
          rw [e5, e6, eT]
          have ek0 : gIx (t2 (xcF a b c (ky x))) (.int 0) = .ok (.int (xcF a b c (ky x)).1) := rfl
          have ek1 : gIx (t2 (xcF a b c (ky x))) (.int 1) = .ok (.int (xcF a b c (ky x)).2) := rfl
          have jk : (t2 (xcF a b c (ky x))).imm = true := rfl
          have jk2 : (t2 (ky x)).imm = true := rfl
          cases hl : lk (xcP a b c) (ky x) with
          | none =>
            rw [hl] at hP hin
            have hP' : ky x = xcF a b c (ky x) := hP
            rw [← hP'] at hh ek0 ek1 jk ⊢
            have e2' : (t2 (ky x)) = .tup [.int x.a, .int x.b] := rfl
            have a1 : (ky x).1 = x.a := rfl
            have a2 : (ky x).2 = x.b := rfl
            rw [e2'] at hin ek0 ek1
            rw [a1] at hh ek0 ⊢
            rw [a2] at ek1 ⊢
            generalize encK D.int (hnds E) = HH at *
            generalize encD E = EE at *
            generalize encD acc = AA at *
            generalize encK2 t2 (xcP a b c) = K0 at *
            generalize encR r = RR at *
            generalize q.map t3 = QQ at *
            generalize t3 x = XX at *
            generalize hof E x.a = HX at *
            simp -implicitDefEqProofs [g0, g1, hin, ek0, ek1, hh, hz1]
          | some v =>
            rw [hl] at hP hin
            have hP' : v = xcF a b c (ky x) := hP
            have hg := gDGet_K2 t2 hl
            rw [hP'] at hg
            rw [e2] at hin hg
            generalize xcF a b c (ky x) = K5 at *
            generalize encK D.int (hnds E) = HH at *
            generalize encD E = EE at *
            generalize encD acc = AA at *
            generalize encK2 t2 (xcP a b c) = K0 at *
            generalize encR r = RR at *
            generalize q.map t3 = QQ at *
            generalize t3 x = XX at *
            generalize t2 K5 = TK at *
            generalize hof E K5.1 = HX at *
            simp -implicitDefEqProofs [g0, g1, hin, hg, jk, ek0, ek1, hh, hz1]
      · have e5 : encD (acc ++ [r.map (xcT E a b c)]) = .lst (acc.map encR ++ [encR (r.map (xcT E a b c))]) := by unfold encD; simp
        have e6 : encD acc = .lst (acc.map encR) := rfl
        have hz1 : (acc.map encR).length < sizeLine := sizeLine_lt (by rw [List.length_map]; omega)
        rw [e5, e6]
        generalize encK D.int (hnds E) = HH at *
        generalize encD E = EE at *
        generalize acc.map encR = AA at *
        generalize encK2 t2 (xcP a b c) = K0 at *
        generalize encR r = RR at *
        generalize encR (r.map (xcT E a b c)) = R2 at *
        simp -implicitDefEqProofs [hz1]
      · generalize encK D.int (hnds E) = HH at *
        generalize encD E = EE at *
        generalize encD (acc ++ [r.map (xcT E a b c)]) = AA at *
        generalize encK2 t2 (xcP a b c) = K0 at *
        generalize encR r = RR at *
        simp -implicitDefEqProofs) ?_
  refine Tells.eqI ?_
  have i2 : immAt 2 (encD (xc E a b c)) = true := by simp
  generalize encD (xc E a b c) = Q at *
  generalize encK D.int (hnds E) = HH at *
  generalize encD E = EE at *
  generalize encK2 t2 (xcP a b c) = K0 at *
  simp -implicitDefEqProofs [i2]
end

/-! ### slides made and refused -/
section
variable (κ : Str → Addr) {E : Drw} {a b c t : Int}
theorem old3_is (hd : Dr E) (na : Nm E a) (nb : Nm E b) (nc : Nm E c) : F_look_at_old [encD E, .lst [.int a, .int b, .int c]] = .ok .non := by
  have hold := old_is (ds := E) hd.vd.sz.fl (ns := [a, b, c]) (fun m hm => by
    rcases List.mem_cons.mp hm with rfl | hm
    · exact ⟨_, na.lk⟩
    rcases List.mem_cons.mp hm with rfl | hm
    · exact ⟨_, nb.lk⟩
    · rw [List.mem_singleton.mp hm]; exact ⟨_, nc.lk⟩)
  exact hold
theorem slide_made (h : Tr3 E a b c) (ht : t = 1 ∨ t = -1) (hs : slB E a b c t = true) : F_Slide_made κ [(Mv.slide a b c t).ob κ, encD E] = .ok (encD (xc E a b c)) := by
  have hob : (Mv.slide a b c t).ob κ = ob_slide κ (.int a) (.int b) (.int c) (.int t) := rfl
  rw [hob]
  have f0 := fld_slide_name κ (.int a) (.int b) (.int c) (.int t)
  have f1 := fld_slide_second κ (.int a) (.int b) (.int c) (.int t)
  have f2 := fld_slide_third κ (.int a) (.int b) (.int c) (.int t)
  have f3 := fld_slide_turn κ (.int a) (.int b) (.int c) (.int t)
  have hold := old3_is h.d h.na h.nb h.nc
  have hfl := h.d.vd.sz.fl
  have hnx := next_is E (by omega)
  have hha := hands_is E (by omega)
  rw [encP_K] at hha
  have i1 : immAt 1 (encK2 t2 (nxP E)) = true := immAt_K2 t2 (fun _ => rfl) _
  have i2 : immAt 1 (encK D.int (hnds E)) = true := immAt_K D.int (fun _ => rfl) _
  have i3 : immAt 2 (encD (xc E a b c)) = true := by simp
  have hsl := slides_is h.d h.na h.nb h.nc ht
  rw [hs] at hsl
  have hex := exchanged_is h
  have eq : D.lst ((xcQ a b c).map pr2) = .lst [.tup [.tup [.int a, .int 0], .tup [.int b, .int 0]], .tup [.tup [.int a, .int 1], .tup [.int c, .int 0]], .tup [.tup [.int b, .int 1], .tup [.int c, .int 1]]] := rfl
  rw [eq] at hex
  have hz2 : (2 : Nat) ≤ sizeLine := by decide
  have hz3 : (3 : Nat) ≤ sizeLine := by decide
  generalize ob_slide κ (.int a) (.int b) (.int c) (.int t) = O at *
  generalize encD (xc E a b c) = Q at *
  generalize encK2 t2 (nxP E) = K at *
  generalize encK D.int (hnds E) = H at *
  generalize encD E = EE at *
  simp only [F_Slide_made, m_Slide_made, runD]
  simp -implicitDefEqProofs [mExpr, f0, f1, f2, f3, hold, hnx, hha, i1, i2, i3, hsl, hex, hz2, hz3]
theorem slide_madeM {tt : List (Str × (List D → Res D))} (hl : tt.lookup (Str.ofString "Slide") = some (F_Slide_made κ)) (h : Tr3 E a b c) (ht : t = 1 ∨ t = -1) (hs : slB E a b c t = true) : gMeth κ tt "made" 2 ((Mv.slide a b c t).ob κ) [encD E] = .ok (encD (xc E a b c)) :=
  meth_is (F := F_Slide_made κ) hl (by decide) (slide_made κ h ht hs) (by simp)
end

/-! ### the law's own slides -/
theorem lhands_is {E : Drw} (h : E.flatten.length ≤ 1000) : F__law_hands [encD E] = .ok (encK D.int (hnds E)) := by
  rw [← encP_K]
  exact hands_is E h
theorem zip_rng (r : List T3) : r.zipIdx = (List.range r.length).map fun k => (r.getD k T0, k) := by
  apply List.ext_getElem?
  intro i
  rw [List.getElem?_map, List.getElem?_zipIdx, Nat.zero_add]
  by_cases h : i < r.length
  · rw [List.getElem?_range h, List.getElem?_eq_getElem h]
    simp [List.getElem?_eq_getElem h]
  · rw [List.getElem?_eq_none (by omega), List.getElem?_eq_none (by rw [List.length_range]; omega)]; rfl
def nxS (r : List T3) (p : List ((Int × Int) × (Int × Int))) (k : Nat) : List ((Int × Int) × (Int × Int)) := pt p (ky (r.getD k T0)) (ky (r.getD ((k + 1) % r.length) T0))
theorem nxS_fold (r : List T3) (p : List ((Int × Int) × (Int × Int))) : (List.range r.length).foldl (nxS r) p = pts (fun e : T3 × T3 => ky e.1) (fun e => ky e.2) (nxR r) p := by
  unfold pts nxR
  rw [List.foldl_map, zip_rng, List.foldl_map]; rfl
theorem nxS_len (r : List T3) (p : List ((Int × Int) × (Int × Int))) (ks : List Nat) : (ks.foldl (nxS r) p).length ≤ p.length + ks.length := by
  induction ks generalizing p with
  | nil => exact Nat.le_refl _
  | cons k ks ih =>
    have h1 := ih (nxS r p k)
    have h2 := pt_len p (ky (r.getD k T0)) (ky (r.getD ((k + 1) % r.length) T0))
    rw [List.foldl_cons, List.length_cons]
    unfold nxS at h1 ⊢
    omega
def nxU (p : List ((Int × Int) × (Int × Int))) (r : List T3) : List ((Int × Int) × (Int × Int)) := (List.range r.length).foldl (nxS r) p
theorem nxU_fold (E : Drw) : E.foldl nxU [] = nxP E := by
  have e : (fun p r => nxU p r) = fun p r => pts (fun e : T3 × T3 => ky e.1) (fun e => ky e.2) (nxR r) p := funext fun p => funext fun r => nxS_fold r p
  show E.foldl (fun p r => nxU p r) [] = _
  rw [e]
  unfold nxP nxA pts
  rw [foldl_flat]
theorem lnext_is {E : Drw} (hs : Siz E) : F__law_next [encD E] = .ok (encK2 t2 (nxP E)) := by
  have hDi : itemsL (encD E) = .ok (E.map encR) := rfl
  refine Tells.eq ?_
  simp only [F__law_next, m__law_next, runD]
  refine t_seq (e := [some (0, encD E), some (1, encK2 t2 []), none, none, none]) (by
    generalize encD E = EE at *
    simp -implicitDefEqProofs [encK2_nil t2]) ?_
  refine t_seq (e := [some (0, encD E), some (1, encK2 t2 (nxP E)), none, none, none]) (by
    refine for_fold (fun p => [some (0, encD E), some (1, encK2 t2 p), none, none, none]) encR nxU E [] ?_ rfl (by rw [nxU_fold]) ?_
    · generalize E.map encR = ER at *
      generalize encD E = EE at *
      generalize encK2 t2 [] = K0 at *
      simp -implicitDefEqProofs [hDi]
    · intro i r hr
      have hrl := hs.row r (List.mem_of_getElem? hr)
      have hpl : ((E.take i).foldl nxU []).length ≤ 100 := by
        rw [nxU_fold]
        have h1 := nxP_len (E.take i)
        have e : E.flatten = (E.take i).flatten ++ (E.drop i).flatten := by rw [← List.flatten_append, List.take_append_drop]
        have h2 := congrArg List.length e
        rw [List.length_append] at h2
        have := hs.fl
        omega
      generalize (E.take i).foldl nxU [] = P at *
      have gl : gLen (encR r) = .ok (.int (r.length : Nat)) := by
        show Res.ok (D.int (((r.map t3).length : Nat) : Int)) = _
        rw [List.length_map]
      have hg := gRng1_d (n := r.length) (by omega)
      refine step_of (e1 := [some (0, encD E), some (1, encK2 t2 P), some (0, encR r), none, none]) (e2 := [some (0, encD E), some (1, encK2 t2 (nxU P r)), some (0, encR r), none, none]) rfl ?_ rfl
      · refine for_fold (fun p => [some (0, encD E), some (1, encK2 t2 p), some (0, encR r), none, none]) (fun k : Nat => D.int (k : Int)) (nxS r) (List.range r.length) P ?_ rfl rfl ?_
        · generalize encD E = EE at *
          generalize encR r = RR at *
          generalize encK2 t2 P = K0 at *
          simp -implicitDefEqProofs [gl, hg]
        · intro j k hk
          obtain ⟨rfl, hkr⟩ := rng_at hk
          have hql := nxS_len r P ((List.range r.length).take k)
          have htl : ((List.range r.length).take k).length ≤ 100 := by rw [List.length_take, List.length_range]; omega
          have eU : nxS r (((List.range r.length).take k).foldl (nxS r) P) k = pt (((List.range r.length).take k).foldl (nxS r) P) (ky (r.getD k T0)) (ky (r.getD ((k + 1) % r.length) T0)) := rfl
          rw [eU]
          generalize ((List.range r.length).take k).foldl (nxS r) P = Q at *
          have h2 : (k + 1) % r.length < r.length := Nat.mod_lt _ (by omega)
          have gm : Mir.gMod (.int ((k : Int) + 1)) (.int (r.length : Int)) = .ok (.int (((k + 1) % r.length : Nat) : Int)) := by
            rw [e_gMod _ _ (by omega)]; congr 2
          have g1 : gIx (encR r) (.int (((k + 1) % r.length : Nat) : Int)) = .ok (t3 (r.getD ((k + 1) % r.length) T0)) := gIx_map (by rw [List.getD_eq_getElem?_getD, List.getElem?_eq_getElem h2]; rfl)
          have g2 : gIx (encR r) (.int (k : Int)) = .ok (t3 (r.getD k T0)) := gIx_map (by rw [List.getD_eq_getElem?_getD, List.getElem?_eq_getElem hkr]; rfl)
          generalize r.getD k T0 = X at *
          generalize r.getD ((k + 1) % r.length) T0 = Y at *
          have s := dSet_K2 t2 Q (ky X) (ky Y) (sizeLine_lt (by omega))
          have s' : dSet (encK2 t2 Q) (.tup [.int X.a, .int X.b]) (.tup [.int Y.a, .int Y.b]) = .ok (encK2 t2 (pt Q (ky X) (ky Y))) := s
          have x0 : gIx (t3 X) (.int 0) = .ok (.int X.a) := rfl
          have x1 : gIx (t3 X) (.int 1) = .ok (.int X.b) := rfl
          have y0 : gIx (t3 Y) (.int 0) = .ok (.int Y.a) := rfl
          have y1 : gIx (t3 Y) (.int 1) = .ok (.int Y.b) := rfl
          have jy : (t3 Y).imm = true := rfl
          rw [show (((k + 1) % r.length : Nat) : Int) = ((k : Int) + 1) % (r.length : Int) by simp] at g1 gm
          generalize encD E = EE at *
          generalize encR r = RR at *
          generalize encK2 t2 (pt Q (ky X) (ky Y)) = K1 at *
          generalize encK2 t2 Q = K0 at *
          generalize t3 X = XX at *
          generalize t3 Y = YY at *
          simp -implicitDefEqProofs [gl, gm, g1, g2, x0, x1, y0, y1, jy, s']) ?_
  refine Tells.eqI ?_
  have i1 : immAt 1 (encK2 t2 (nxP E)) = true := immAt_K2 t2 (fun _ => rfl) _
  generalize encK2 t2 (nxP E) = K at *
  generalize encD E = EE at *
  simp -implicitDefEqProofs [i1]
theorem lpairs_is (a b c : Int) : F__law_pairs [.int a, .int b, .int c] = .ok (.lst ((xcQ a b c).map pr2)) := by
  have eq : D.lst ((xcQ a b c).map pr2) = .lst [.tup [.tup [.int a, .int 0], .tup [.int b, .int 0]], .tup [.tup [.int a, .int 1], .tup [.int c, .int 0]], .tup [.tup [.int b, .int 1], .tup [.int c, .int 1]]] := rfl
  rw [eq]
  have hz2 : (2 : Nat) ≤ sizeLine := by decide
  have hz3 : (3 : Nat) ≤ sizeLine := by decide
  simp only [F__law_pairs, m__law_pairs, runD]
  simp -implicitDefEqProofs [hz2, hz3]
section
variable {E : Drw} {a b c t : Int}
theorem lslides_is (hd : Dr E) (na : Nm E a) (nb : Nm E b) (nc : Nm E c) (ht : t = 1 ∨ t = -1) : F__law_slides [encK2 t2 (nxP E), encK D.int (hnds E), (Mv.slide a b c t).told] = .ok (.bl (slB E a b c t)) := by
  have da := gDGet_K D.int na.lk
  have db := gDGet_K D.int nb.lk
  have dc := gDGet_K D.int nc.lk
  have m1 := e_gMul t (hof E b) (.inl (pm_sm ht))
  have m2 := e_gMul (t * hof E b) (hof E c) (.inl (pm_sm (pm_mul ht nb.sg)))
  have m3 := e_gMul t (hof E a) (.inl (pm_sm ht))
  have m4 := e_gMul (t * hof E a) (hof E c) (.inl (pm_sm (pm_mul ht na.sg)))
  have w2 : t * hof E b * hof E c = 1 ∨ t * hof E b * hof E c = -1 := pm_mul (pm_mul ht nb.sg) nc.sg
  have w3 : t * hof E a * hof E c = 1 ∨ t * hof E a * hof E c = -1 := pm_mul (pm_mul ht na.sg) nc.sg
  have q1 := gEq_i a b
  have q2 := gEq_i a c
  have q3 := gEq_i b c
  have hp := lpairs_is a b c
  have ip : immAt 1 (.lst ((xcQ a b c).map pr2)) = true := rfl
  have e : slB E a b c t = if a = b ∨ a = c ∨ b = c then false else rbB E (a, 0) (b, 0) t && (rbB E (a, 1) (c, 0) (t * hof E b * hof E c) && rbB E (b, 1) (c, 1) (t * hof E a * hof E c)) := rfl
  rw [e]
  -- one pair
  have step : ∀ (x y : T3), x ∈ E.flatten → y ∈ E.flatten → ∀ w : Int, w = 1 ∨ w = -1 → ∀ (j : Nat) (WS PS H TT : D), gIx PS (.int (j : Int)) = .ok (.tup [t2 (ky x), t2 (ky y)]) → gIx WS (.int (j : Int)) = .ok (.int w) →
      (tName 9 0 (.int (j : Int)) [some (0, encK2 t2 (nxP E)), some (0, H), some (0, TT), some (0, .int a), some (0, .int b), some (0, .int c), some (0, .int t), some (1, PS), some (1, WS), none, none, none] >>= fun e => (mSeq (mAsg (tTupT 2 (tCons (tName 10) (tCons (tName 11) tNil))) 0 [] (mImm (mOp gIx (mVar 7) (mVar 9)))) (mIf (mOrB (mAndB (mTb (mOp gEq (mOp gIx (mVar 8) (mVar 9)) (mC (.int 1)))) (mTb (mOp gNe (mOp gDGet (mVar 0) (mVar 10)) (mVar 11)))) (mAndB (mTb (mOp gEq (mOp gIx (mVar 8) (mVar 9)) (mUn gNeg (mC (.int 1))))) (mTb (mOp gNe (mOp gDGet (mVar 0) (mVar 11)) (mVar 10))))) (mRet (mC (.bl false))) mSkip)) e) = if rbB E (ky x) (ky y) w = true then .ok (.nx [some (0, encK2 t2 (nxP E)), some (0, H), some (0, TT), some (0, .int a), some (0, .int b), some (0, .int c), some (0, .int t), some (1, PS), some (1, WS), some (0, .int (j : Int)), some (0, t2 (ky x)), some (0, t2 (ky y))]) else .ok (.rt (.bl false)) := by
    intro x y hx hy w hw j WS PS H TT hps hws
    have d0 := nxlk_is hd.vd.uk hx
    have d1 := nxlk_is hd.vd.uk hy
    have n1 : gNe (t2 (nx E (ky x))) (t2 (ky y)) = .ok (.bl (!decide (nx E (ky x) = ky y))) := gNe_enc (α := Int × Int) _ _ (by decide)
    have n2 : gNe (t2 (nx E (ky y))) (t2 (ky x)) = .ok (.bl (!decide (nx E (ky y) = ky x))) := gNe_enc (α := Int × Int) _ _ (by decide)
    have jj : (D.tup [t2 (ky x), t2 (ky y)]).imm = true := rfl
    have gn : gNeg (.int 1) = .ok (.int (-1)) := rfl
    have eR : rbB E (ky x) (ky y) w = if w = 1 then decide (nx E (ky x) = ky y) else decide (nx E (ky y) = ky x) := rfl
    rw [eR]
    generalize decide (nx E (ky x) = ky y) = B1 at *
    generalize decide (nx E (ky y) = ky x) = B2 at *
    generalize encK2 t2 (nxP E) = K at *
    generalize t2 (nx E (ky x)) = TA at *
    generalize t2 (nx E (ky y)) = TB at *
    generalize t2 (ky x) = T0 at *
    generalize t2 (ky y) = T1 at *
    rcases hw with rfl | rfl
    · have z1 : gEq (.int 1) (.int 1) = .ok (.bl true) := rfl
      have z2 : gEq (.int 1) (.int (-1)) = .ok (.bl false) := rfl
      rw [if_pos rfl]
      cases B1 <;> simp -implicitDefEqProofs [mAsg, hps, hws, jj, z1, z2, gn, d0, n1, -e_gEq_int]
    · have z1 : gEq (.int (-1)) (.int 1) = .ok (.bl false) := rfl
      have z2 : gEq (.int (-1)) (.int (-1)) = .ok (.bl true) := rfl
      rw [if_neg (by decide : ¬ (-1 : Int) = 1)]
      cases B2 <;> simp -implicitDefEqProofs [mAsg, hps, hws, jj, z1, z2, gn, d1, n2, -e_gEq_int]
  have g1 : gIx (Mv.slide a b c t).told (.int 1) = .ok (.int a) := rfl
  have eT : (Mv.slide a b c t).told = .tup [.str (Str.ofString "slide"), .int a, .int b, .int c, .int t] := rfl
  have eC : gCutT [.str (Str.ofString "slide"), .int a, .int b, .int c, .int t] (some 1) none = .ok (.tup [.int a, .int b, .int c, .int t]) := rfl
  have hti : itemsT (Mv.slide a b c t).told = .ok [.str (Str.ofString "slide"), .int a, .int b, .int c, .int t] := rfl
  have s1 := step _ _ na.o nb.o t ht 0 (.lst [.int t, .int (t * hof E b * hof E c), .int (t * hof E a * hof E c)]) (.lst ((xcQ a b c).map pr2)) (encK D.int (hnds E)) (Mv.slide a b c t).told rfl rfl
  have s2 := step _ _ na.u nc.o _ w2 1 (.lst [.int t, .int (t * hof E b * hof E c), .int (t * hof E a * hof E c)]) (.lst ((xcQ a b c).map pr2)) (encK D.int (hnds E)) (Mv.slide a b c t).told rfl rfl
  have s3 := step _ _ nb.u nc.u _ w3 2 (.lst [.int t, .int (t * hof E b * hof E c), .int (t * hof E a * hof E c)]) (.lst ((xcQ a b c).map pr2)) (encK D.int (hnds E)) (Mv.slide a b c t).told rfl rfl
  have k1 : rbB E (ky (⟨a, 0, hof E a⟩ : T3)) (ky (⟨b, 0, hof E b⟩ : T3)) t = rbB E (a, 0) (b, 0) t := rfl
  have k2' : rbB E (ky (⟨a, 1, hof E a⟩ : T3)) (ky (⟨c, 0, hof E c⟩ : T3)) (t * hof E b * hof E c) = rbB E (a, 1) (c, 0) (t * hof E b * hof E c) := rfl
  have k3 : rbB E (ky (⟨b, 1, hof E b⟩ : T3)) (ky (⟨c, 1, hof E c⟩ : T3)) (t * hof E a * hof E c) = rbB E (b, 1) (c, 1) (t * hof E a * hof E c) := rfl
  rw [k1] at s1
  rw [k2'] at s2
  rw [k3] at s3
  have hg : gRng1 (.int 3) = .ok [.int ((0 : Nat) : Int), .int ((1 : Nat) : Int), .int ((2 : Nat) : Int)] := rfl
  have hz3 : (3 : Nat) ≤ sizeLine := by decide
  generalize rbB E (a, 0) (b, 0) t = B1 at *
  generalize rbB E (a, 1) (c, 0) (t * hof E b * hof E c) = B2 at *
  generalize rbB E (b, 1) (c, 1) (t * hof E a * hof E c) = B3 at *
  clear step
  generalize D.lst ((xcQ a b c).map pr2) = PS at *
  generalize encK2 t2 (nxP E) = K at *
  generalize encK D.int (hnds E) = H at *
  generalize (Mv.slide a b c t).told = TT at *
  refine Tells.eq ?_
  simp only [F__law_slides, m__law_slides, runD]
  refine t_seq (e := [some (0, K), some (0, H), some (0, TT), some (0, .int a), some (0, .int b), some (0, .int c), some (0, .int t), none, none, none, none, none]) (by simp -implicitDefEqProofs [mAsg, hti, eC]) ?_
  by_cases hne : a = b ∨ a = c ∨ b = c
  · rw [if_pos hne]
    refine t_seqR (d := .bl false) ?_ (Tells.ok rfl)
    by_cases h1 : a = b
    · rw [decide_eq_true h1] at q1
      simp -implicitDefEqProofs [q1, -e_gEq_int]
    · rw [decide_eq_false h1] at q1
      by_cases h2 : a = c
      · rw [decide_eq_true h2] at q2
        simp -implicitDefEqProofs [q1, q2, -e_gEq_int]
      · rw [decide_eq_false h2] at q2
        rw [decide_eq_true ((hne.resolve_left h1).resolve_left h2)] at q3
        simp -implicitDefEqProofs [q1, q2, q3, -e_gEq_int]
  · rw [if_neg hne]
    rw [decide_eq_false fun z => hne (.inl z)] at q1
    rw [decide_eq_false fun z => hne (.inr (.inl z))] at q2
    rw [decide_eq_false fun z => hne (.inr (.inr z))] at q3
    refine t_seq (e := [some (0, K), some (0, H), some (0, TT), some (0, .int a), some (0, .int b), some (0, .int c), some (0, .int t), none, none, none, none, none]) (by simp -implicitDefEqProofs [q1, q2, q3, -e_gEq_int]) ?_
    refine t_seq (e := [some (0, K), some (0, H), some (0, TT), some (0, .int a), some (0, .int b), some (0, .int c), some (0, .int t), some (1, PS), none, none, none, none]) (by simp -implicitDefEqProofs [hp, ip]) ?_
    refine t_seq (e := [some (0, K), some (0, H), some (0, TT), some (0, .int a), some (0, .int b), some (0, .int c), some (0, .int t), some (1, PS), some (1, .lst [.int t, .int (t * hof E b * hof E c), .int (t * hof E a * hof E c)]), none, none, none]) (by simp -implicitDefEqProofs [da, db, dc, m1, m2, m3, m4, hz3]) ?_
    generalize D.lst [.int t, .int (t * hof E b * hof E c), .int (t * hof E a * hof E c)] = WS at *
    have nxst : ∀ (e : Mir.Env) (body : Mir.Env → Res Ctl) (x : D) (xs : List D) (t9 : Nat → D → Mir.Env → Res Mir.Env) (env env' : Mir.Env), (t9 0 x env >>= fun e => body e) = .ok (.nx env') → loop t9 body [9, 10, 11] (x :: xs) env = loop t9 body [9, 10, 11] xs (clear env' [9, 10, 11]) := fun e body x xs t9 env env' h => by
      obtain ⟨e1, h1, h2⟩ := bind_ok h
      show (t9 0 x env >>= fun e1 => body e1 >>= fun c => match c with | .nx e => loop t9 body [9, 10, 11] xs (clear e [9, 10, 11]) | .ct e => loop t9 body [9, 10, 11] xs (clear e [9, 10, 11]) | .bk e => .ok (.nx (clear e [9, 10, 11])) | .rt d => .ok (.rt d)) = _
      rw [h1, ok_bind, h2]; rfl
    have rtst : ∀ (body : Mir.Env → Res Ctl) (x : D) (xs : List D) (t9 : Nat → D → Mir.Env → Res Mir.Env) (env : Mir.Env) (d : D), (t9 0 x env >>= fun e => body e) = .ok (.rt d) → loop t9 body [9, 10, 11] (x :: xs) env = .ok (.rt d) := fun body x xs t9 env d h => by
      obtain ⟨e1, h1, h2⟩ := bind_ok h
      show (t9 0 x env >>= fun e1 => body e1 >>= fun c => match c with | .nx e => loop t9 body [9, 10, 11] xs (clear e [9, 10, 11]) | .ct e => loop t9 body [9, 10, 11] xs (clear e [9, 10, 11]) | .bk e => .ok (.nx (clear e [9, 10, 11])) | .rt d => .ok (.rt d)) = _
      rw [h1, ok_bind, h2]; rfl
    have hit : ((mC (.int 3)) [some (0, K), some (0, H), some (0, TT), some (0, .int a), some (0, .int b), some (0, .int c), some (0, .int t), some (1, PS), some (1, WS), none, none, none] >>= gRng1) = .ok [.int ((0 : Nat) : Int), .int ((1 : Nat) : Int), .int ((2 : Nat) : Int)] := hg
    cases B1
    · refine t_seqR (d := .bl false) (for_of hit (rtst _ _ _ _ _ _ s1)) (Tells.ok rfl)
    · have z1 := nxst [] _ (.int ((0 : Nat) : Int)) [.int ((1 : Nat) : Int), .int ((2 : Nat) : Int)] _ _ _ (s1.trans (if_pos rfl))
      cases B2
      · refine t_seqR (d := .bl false) (for_of hit (z1.trans (rtst _ _ _ _ _ _ s2))) (Tells.ok rfl)
      · have z2 := nxst [] _ (.int ((1 : Nat) : Int)) [.int ((2 : Nat) : Int)] _ _ _ (s2.trans (if_pos rfl))
        cases B3
        · refine t_seqR (d := .bl false) (for_of hit (z1.trans (z2.trans (rtst _ _ _ _ _ _ s3)))) (Tells.ok rfl)
        · have z3 := nxst [] _ (.int ((2 : Nat) : Int)) [] _ _ _ (s3.trans (if_pos rfl))
          refine t_seq (for_of hit (z1.trans (z2.trans (z3.trans rfl)))) ?_
          exact Tells.eqI rfl
end

section
variable {E : Drw} {a b c t : Int}
end

/-! ### slides there and back, or refused -/
section
variable {E : Drw} {a b c t : Int}
theorem Tr3.siz (h : Tr3 E a b c) : Siz (xc E a b c) := h.dr.vd.sz
end

/-! ### three crossings put as blocks -/
def encB (rs : List Drw) : D := .lst (rs.map encD)
theorem mBinsE_B {j i : Nat} {mi mv : Mir.Env → Res D} {mp : Nat → Mir.Env → Res D} {mr : Mir.Env → Res Ctl} {env : Mir.Env} {rs : List Drw} {a p : Nat} {r : Drw} {x : List T3} (hj : env[j]? = some (some (2, encB rs))) (hi : mi env = .ok (.int a)) (hr : rs[a]? = some r) (hil : i < env.length) (hij : i ≠ j)
    (hp : mp rs.length ((env.set j none).set i (some (1, encD r))) = .ok (.int p)) (hv : mv ((env.set j none).set i (some (1, encD r))) = .ok (encR x)) (hpl : p ≤ 1000000) (hrl : r.length ≤ 1000000) :
    mBinsE j i mi mp mv mr env = mr ((env.set i none).set j (some (2, encB (rs.set a (r.take p ++ [x] ++ r.drop p))))) := by
  have hal := (List.getElem?_eq_some_iff.mp hr).1
  have h1 : atL env j 2 = .ok (rs.map encD) := by
    rw [e_atL, hj]; rfl
  have h2 : ixN (rs.map encD).length (a : Int) = some a := by rw [List.length_map]; exact ixN_nat hal
  have h3 : (rs.map encD)[a]? = some (.lst (r.map encR)) := by rw [List.getElem?_map, hr]; rfl
  unfold mBinsE
  rw [hi, ok_bind, h1, ok_bind]
  dsimp only
  rw [h2]
  dsimp only
  rw [h3]
  dsimp only
  rw [if_pos ⟨hil, hij⟩, show D.lst (r.map encR) = encD r from rfl, List.length_map, hp, ok_bind, hv, ok_bind]
  dsimp only
  rw [if_pos ⟨by omega, by omega, by rw [List.length_map]; exact sizeLine_lt (by omega)⟩]
  congr 3
  unfold encB
  rw [List.map_set]
  congr 3
  simp [encD]
theorem flat_setB {α : Type} {rs : List (List (List α))} {a p : Nat} {r : List (List α)} {x : List α} (h : rs[a]? = some r) : ((rs.set a (r.take p ++ [x] ++ r.drop p)).map List.flatten).flatten.Perm (x ++ (rs.map List.flatten).flatten) := by
  induction rs generalizing a with
  | nil => simp at h
  | cons q rs ih =>
    cases a with
    | zero =>
      have e : q = r := by simpa using h
      subst e
      rw [List.set_cons_zero, List.map_cons, List.flatten_cons, List.map_cons, List.flatten_cons, ← List.append_assoc]
      refine List.Perm.append_right _ ?_
      have e2 : q.flatten = (q.take p).flatten ++ (q.drop p).flatten := by rw [← List.flatten_append, List.take_append_drop]
      rw [e2, List.flatten_append, List.flatten_append]
      have e3 : [x].flatten = x := by simp
      rw [e3, List.append_assoc, ← List.append_assoc x]
      exact (List.perm_append_comm_assoc _ _ _).trans (by rw [List.append_assoc])
    | succ a =>
      have h2 : rs[a]? = some r := by simpa using h
      rw [List.set_cons_succ, List.map_cons, List.flatten_cons, List.map_cons, List.flatten_cons]
      refine ((ih h2).append_left _).trans ?_
      exact List.perm_append_comm_assoc _ _ _
theorem block_is {rs : List Drw} (h1 : 1 ≤ rs.length) (h3 : rs.length ≤ 3) (hl : ∀ r ∈ rs, r.length ≤ 1000) (v : Int) (b : List T3) : ∃ rs' : List Drw, F__law_block [encB rs, .int v, encR b] = .ok (encB rs') ∧ rs'.length = rs.length ∧ (rs'.map List.flatten).flatten.Perm (b ++ (rs.map List.flatten).flatten) ∧ ∀ L : Nat, (∀ r ∈ rs, r.length ≤ L) → ∀ r ∈ rs', r.length ≤ L + 1 := by
  have hm := mixed_is v
  obtain ⟨m, hm0⟩ : ∃ m : Nat, v % 1000003 * 48271 % 1000003 = (m : Int) := ⟨(v % 1000003 * 48271 % 1000003).toNat, by omega⟩
  rw [hm0] at hm
  have hS : 0 < rs.length := by omega
  have ha : m % rs.length < rs.length := Nat.mod_lt _ hS
  obtain ⟨r, hr⟩ : ∃ r, rs[m % rs.length]? = some r := ⟨_, List.getElem?_eq_getElem ha⟩
  have hrl := hl r (List.mem_of_getElem? hr)
  have cp : mLc (fun env => (mVarK 0 0) env >>= itemsL) (tName 5) (fun _ => .ok true) (fun env => (fun env => (mVarK 5 0) env >>= itemsL) env >>= fun ds => .ok (.lst ds)) [5] [some (0, encB rs), some (0, .int v), some (0, encR b), some (0, .int (m : Nat)), none, none] = .ok (encB rs) := by
    have hl2 := lc_all (t := tName 5) (me := fun env => (fun env => (mVarK 5 0) env >>= itemsL) env >>= fun ds => .ok (.lst ds)) encD encD rs (env := [some (0, encB rs), some (0, .int v), some (0, encR b), some (0, .int (m : Nat)), none, none]) (fun a _ => rfl)
    have hz : (rs.map encD).length ≤ sizeLine := sizeLine_big (by rw [List.length_map]; omega)
    have hi : itemsL (encB rs) = .ok (rs.map encD) := rfl
    rw [e_mLc]
    show (chk _ >>= fun _ => (Res.ok (encB rs) >>= itemsL) >>= fun ds => _) = _
    rw [ok_bind, hi]
    show (Res.ok () >>= fun _ => Res.ok (rs.map encD) >>= fun ds => _) = _
    rw [ok_bind, ok_bind, hl2, ok_bind, if_pos hz]; rfl
  refine ⟨rs.set (m % rs.length) (r.take (m / rs.length % (r.length + 1)) ++ [b] ++ r.drop (m / rs.length % (r.length + 1))), ?_, by simp, flat_setB hr, fun L hL q hq => ?_⟩
  · have gl : gLen (encB rs) = .ok (.int (rs.length : Nat)) := by
      show Res.ok (D.int (((rs.map encD).length : Nat) : Int)) = _
      rw [List.length_map]
    have gl2 : gLen (encD r) = .ok (.int (r.length : Nat)) := by
      show Res.ok (D.int (((r.map encR).length : Nat) : Int)) = _
      rw [List.length_map]
    have g1 := e_gMod (m : Int) (rs.length : Int) (by omega)
    have g2 := e_gFdv (m : Int) (rs.length : Int) (by omega) (by omega)
    have g3 := e_gMod ((m : Int) / (rs.length : Int)) ((r.length : Int) + 1) (by omega)
    refine Tells.eq ?_
    simp only [F__law_block, m__law_block, runD]
    refine t_seq (e := [some (0, encB rs), some (0, .int v), some (0, encR b), some (0, .int (m : Nat)), none, none]) (by
      generalize encB rs = BB at *
      generalize encR b = RR at *
      simp -implicitDefEqProofs [hm]) ?_
    refine t_seq (e := [some (0, encB rs), some (0, .int v), some (0, encR b), some (0, .int (m : Nat)), some (2, encB rs), none]) (set_of cp rfl) ?_
    rw [mBinsE_B (rs := rs) (a := m % rs.length) (p := m / rs.length % (r.length + 1)) (r := r) (x := b) rfl ?_ hr (by show (5 : Nat) < 6; omega) (by decide) ?_ rfl ?_ (by omega)]
    · refine Tells.eqI ?_
      generalize encB (rs.set (m % rs.length) (r.take (m / rs.length % (r.length + 1)) ++ [b] ++ r.drop (m / rs.length % (r.length + 1)))) = Q at *
      generalize encB rs = BB at *
      generalize encR b = RR at *
      simp -implicitDefEqProofs
    · generalize encB rs = BB at *
      generalize encR b = RR at *
      simp -implicitDefEqProofs [gl, g1]
    · show ((Res.ok (D.int (m : Int)) >>= fun x => Res.ok (D.int (rs.length : Int)) >>= fun y => Mir.gFdv x y) >>= fun x => ((mUn gLen (mVar 5)) [some (0, encB rs), some (0, .int v), some (0, encR b), some (0, .int (m : Nat)), none, some (1, encD r)] >>= fun x => Res.ok (D.int 1) >>= fun y => gAdd x y) >>= fun y => Mir.gMod x y) = _
      generalize encB rs = BB at *
      generalize encR b = RR at *
      simp -implicitDefEqProofs [g2, gl2, g3]
    · have := Nat.mod_lt (m / rs.length) (y := r.length + 1) (by omega)
      omega
  · rcases List.mem_or_eq_of_mem_set hq with h | rfl
    · have := hL q h; omega
    · have := hL r (List.mem_of_getElem? hr)
      rw [List.length_append, List.length_append, List.length_take, List.length_drop, List.length_singleton]
      omega
theorem three_step {X Y : T3} {w k q : Int} {BK TU R CE A N BI HA a b c t H8 : D} {rs : List Drw} {v : Int} (hb : gIx BK (.int k) = .ok (encR [X, Y])) (hw : gIx TU (.int k) = .ok (.int w)) (hv : gIx CE (.int k) = .ok (.int v)) (hq : (Mir.gFdv BI (.int 16) >>= fun x => Mir.gMod x (.int 6)) = .ok (.int q)) (h1 : 1 ≤ rs.length) (h3 : rs.length ≤ 3) (hl : ∀ r ∈ rs, r.length ≤ 1000) :
    ∃ rs' : List Drw, (tName 13 0 (.int k) [some (0, A), some (0, N), some (0, BI), some (0, CE), some (0, a), some (0, b), some (0, c), some (0, t), some (1, H8), some (0, BK), some (1, TU), some (0, encB rs), none, none, none, none, none, none] >>= fun e => (mSeq (mSet 14 0 [] (mOp gIx (mVarK 9 0) (mVar 13))) (mSeq (mIf (mTb (mOp gEq (mOp gIx (mVar 10) (mVar 13)) (mUn gNeg (mC (.int 1))))) (mSeq (mSet 14 1 [] (mLst (mConsE (mImm (mOp gIx (mVar 14) (mC (.int 1)))) [] (mConsE (mImm (mOp gIx (mVar 14) (mC (.int 0)))) [] mNilA)))) (mFz 14 mSkip)) mSkip) (mSeq (mIf (mTb (mOp gEq (mOp gAdd (mVar 13) (mC (.int 1))) (mOp gMod (mOp gFdv (mVar 2) (mC (.int 16))) (mC (.int 6))))) (mSeq (mSet 14 1 [] (mLst (mConsE (mImm (mOp gIx (mVar 14) (mC (.int 1)))) [] (mConsE (mImm (mOp gIx (mVar 14) (mC (.int 0)))) [] mNilA)))) (mFz 14 mSkip)) mSkip) (mSet 11 0 [] (mCall0 F__law_block (mConsE (mVarK 11 0) [] (mConsE (mImm (mOp gIx (mVar 3) (mVar 13))) [] (mConsE (mVarK 14 0) [] mNilA)))))))) e >>= stepc [13, 14]) = .ok [some (0, A), some (0, N), some (0, BI), some (0, CE), some (0, a), some (0, b), some (0, c), some (0, t), some (1, H8), some (0, BK), some (1, TU), some (0, encB rs'), none, none, none, none, none, none] ∧ rs'.length = rs.length ∧ (rs'.map List.flatten).flatten.Perm ([X, Y] ++ (rs.map List.flatten).flatten) ∧ ∀ L : Nat, (∀ r ∈ rs, r.length ≤ L) → ∀ r ∈ rs', r.length ≤ L + 1 := by
  have z2 : (2 : Nat) ≤ sizeLine := by decide
  have gn1 : gNeg (.int 1) = .ok (.int (-1)) := rfl
  have e1 := gEq_i w (-1)
  have e2 := gEq_i (k + 1) q
  have sw : ∀ U V : T3, gIx (encR [U, V]) (.int 0) = .ok (t3 U) ∧ gIx (encR [U, V]) (.int 1) = .ok (t3 V) := fun U V => ⟨rfl, rfl⟩
  have er : ∀ U V : T3, encR [U, V] = .lst [t3 U, t3 V] := fun U V => rfl
  have it : ∀ U : T3, (t3 U).imm = true := fun U => rfl
  -- the block, turned twice, once or not
  obtain ⟨p1, hp1, hp1'⟩ : ∃ p : T3 × T3, (p = (X, Y) ∨ p = (Y, X)) ∧ p = (if w = -1 then (Y, X) else (X, Y)) := ⟨_, by split <;> simp, rfl⟩
  obtain ⟨p2, hp2, hp2'⟩ : ∃ p : T3 × T3, (p = (p1.1, p1.2) ∨ p = (p1.2, p1.1)) ∧ p = (if k + 1 = q then (p1.2, p1.1) else (p1.1, p1.2)) := ⟨_, by split <;> simp, rfl⟩
  obtain ⟨rs', hr, hlen, hpm, hL⟩ := block_is h1 h3 hl v [p2.1, p2.2]
  refine ⟨rs', ?_, hlen, hpm.trans (List.Perm.append_right _ ?_), hL⟩
  · refine step_of (e1 := [some (0, A), some (0, N), some (0, BI), some (0, CE), some (0, a), some (0, b), some (0, c), some (0, t), some (1, H8), some (0, BK), some (1, TU), some (0, encB rs), none, some (0, .int k), none, none, none, none]) (e2 := [some (0, A), some (0, N), some (0, BI), some (0, CE), some (0, a), some (0, b), some (0, c), some (0, t), some (1, H8), some (0, BK), some (1, TU), some (0, encB rs'), none, some (0, .int k), some (0, encR [p2.1, p2.2]), none, none, none]) rfl ?_ rfl
    refine s_seq2 (e := [some (0, A), some (0, N), some (0, BI), some (0, CE), some (0, a), some (0, b), some (0, c), some (0, t), some (1, H8), some (0, BK), some (1, TU), some (0, encB rs), none, some (0, .int k), some (0, encR [X, Y]), none, none, none]) ?_ (s_seq2 (e := [some (0, A), some (0, N), some (0, BI), some (0, CE), some (0, a), some (0, b), some (0, c), some (0, t), some (1, H8), some (0, BK), some (1, TU), some (0, encB rs), none, some (0, .int k), some (0, encR [p1.1, p1.2]), none, none, none]) ?_ (s_seq2 (e := [some (0, A), some (0, N), some (0, BI), some (0, CE), some (0, a), some (0, b), some (0, c), some (0, t), some (1, H8), some (0, BK), some (1, TU), some (0, encB rs), none, some (0, .int k), some (0, encR [p2.1, p2.2]), none, none, none]) ?_ ?_))
    · generalize encR [X, Y] = R2 at *
      generalize encB rs = R1 at *
      simp -implicitDefEqProofs [hb]
    · have s1 := sw X Y
      have i1 := it X
      have i2 := it Y
      rw [hp1']
      have e3 := er Y X
      by_cases h : w = -1
      · rw [if_pos h]
        show _ = Res.ok (Ctl.nx [_, _, _, _, _, _, _, _, _, _, _, _, _, _, some (0, encR [Y, X]), _, _, _])
        rw [decide_eq_true h] at e1
        rw [e3]
        generalize encR [X, Y] = R2 at *
        generalize encB rs = R1 at *
        generalize t3 X = X3 at *
        generalize t3 Y = Y3 at *
        simp -implicitDefEqProofs [hw, gn1, e1, s1.1, s1.2, i1, i2, z2, -e_gEq_int]
      · rw [if_neg h]
        rw [decide_eq_false h] at e1
        generalize encR [X, Y] = R2 at *
        generalize encB rs = R1 at *
        simp -implicitDefEqProofs [hw, gn1, e1, -e_gEq_int]
    · obtain ⟨U, V⟩ := p1
      have s1 := sw U V
      have i1 := it U
      have i2 := it V
      rw [hp2']
      have e3 := er V U
      by_cases h : k + 1 = q
      · rw [if_pos h]
        show _ = Res.ok (Ctl.nx [_, _, _, _, _, _, _, _, _, _, _, _, _, _, some (0, encR [V, U]), _, _, _])
        rw [decide_eq_true h] at e2
        rw [e3]
        dsimp only
        generalize encR [U, V] = R2 at *
        generalize encB rs = R1 at *
        generalize t3 U = X3 at *
        generalize t3 V = Y3 at *
        simp -implicitDefEqProofs [hq, e2, s1.1, s1.2, i1, i2, z2, -e_gEq_int]
      · rw [if_neg h]
        rw [decide_eq_false h] at e2
        dsimp only
        generalize encR [U, V] = R2 at *
        generalize encB rs = R1 at *
        simp -implicitDefEqProofs [hq, e2, -e_gEq_int]
    · generalize encR [p2.1, p2.2] = R2 at *
      generalize encB rs' = R3 at *
      generalize encB rs = R1 at *
      simp -implicitDefEqProofs [hv, mCall0, hr]
  · have a1 : ([p1.1, p1.2] : List T3).Perm [X, Y] := by
      rcases hp1 with rfl | rfl
      · exact List.Perm.refl _
      · exact List.Perm.swap _ _ _
    have a2 : ([p2.1, p2.2] : List T3).Perm [p1.1, p1.2] := by
      rcases hp2 with rfl | rfl
      · exact List.Perm.refl _
      · exact List.Perm.swap _ _ _
    exact a2.trans a1

/-! ### three crossings more -/
theorem sgl_flat : ∀ E : Drw, ((E.map fun r => r.map fun x => [x]).map List.flatten) = E
  | [] => rfl
  | r :: E => by
    rw [List.map_cons, List.map_cons, sgl_flat E]
    congr 1
    induction r with
    | nil => rfl
    | cons x r ih => rw [List.map_cons, List.flatten_cons, ih]; rfl
theorem three_is {E : Drw} (h1 : 1 ≤ E.length) (h3 : E.length ≤ 3) (hl : ∀ r ∈ E, r.length ≤ 100) (a b c bits v0 v1 v2 : Int) (hb0 : 0 ≤ bits) (hb1 : bits < 96) : ∃ E' : Drw, F__law_three [encD E, .lst [.int a, .int b, .int c], .int bits, .lst [.int v0, .int v1, .int v2]] = .ok (encD E') ∧ E'.length = E.length ∧ E'.flatten.Perm ([⟨b, 1, 1 - 2 * (bits / 4 % 2)⟩, ⟨c, 1, 1 - 2 * (bits / 8 % 2)⟩] ++ ([⟨a, 1, 1 - 2 * (bits / 2 % 2)⟩, ⟨c, 0, 1 - 2 * (bits / 8 % 2)⟩] ++ ([⟨a, 0, 1 - 2 * (bits / 2 % 2)⟩, ⟨b, 0, 1 - 2 * (bits / 4 % 2)⟩] ++ E.flatten))) := by
  obtain ⟨t, ht⟩ : ∃ t, t = 1 - 2 * (bits % 2) := ⟨_, rfl⟩
  obtain ⟨ha, hha⟩ : ∃ x, x = 1 - 2 * (bits / 2 % 2) := ⟨_, rfl⟩
  obtain ⟨hb, hhb⟩ : ∃ x, x = 1 - 2 * (bits / 4 % 2) := ⟨_, rfl⟩
  obtain ⟨hc, hhc⟩ : ∃ x, x = 1 - 2 * (bits / 8 % 2) := ⟨_, rfl⟩
  have tpm : t = 1 ∨ t = -1 := by omega
  have apm : ha = 1 ∨ ha = -1 := by omega
  have bpm : hb = 1 ∨ hb = -1 := by omega
  have cpm : hc = 1 ∨ hc = -1 := by omega
  rw [← hha, ← hhb, ← hhc]
  have m0 := e_gMod bits 2 (by decide)
  have f2 := e_gFdv bits 2 (by decide) (by decide)
  have f4 := e_gFdv bits 4 (by decide) (by decide)
  have f8 := e_gFdv bits 8 (by decide) (by decide)
  have f16 := e_gFdv bits 16 (by decide) (by decide)
  have m2 := e_gMod (bits / 2) 2 (by decide)
  have m4 := e_gMod (bits / 4) 2 (by decide)
  have m8 := e_gMod (bits / 8) 2 (by decide)
  have m16 := e_gMod (bits / 16) 6 (by decide)
  have u0 := e_gMul 2 (bits % 2) (.inl (by decide))
  have u2 := e_gMul 2 (bits / 2 % 2) (.inl (by decide))
  have u4 := e_gMul 2 (bits / 4 % 2) (.inl (by decide))
  have u8 := e_gMul 2 (bits / 8 % 2) (.inl (by decide))
  have w1 := e_gMul t hb (.inl (pm_sm tpm))
  have w2 := e_gMul (t * hb) hc (.inl (pm_sm (pm_mul tpm bpm)))
  have w3 := e_gMul t ha (.inl (pm_sm tpm))
  have w4 := e_gMul (t * ha) hc (.inl (pm_sm (pm_mul tpm apm)))
  have hq : (Mir.gFdv (.int bits) (.int 16) >>= fun x => Mir.gMod x (.int 6)) = .ok (.int (bits / 16 % 6)) := by rw [f16, ok_bind, m16]
  have z2 : (2 : Nat) ≤ sizeLine := by decide
  have z3 : (3 : Nat) ≤ sizeLine := by decide
  have z3' : (2 : Nat) < sizeLine := by decide
  have hDi : itemsL (encD E) = .ok (E.map encR) := rfl
  obtain ⟨A, hA⟩ : ∃ A, A = encD E := ⟨_, rfl⟩
  rw [← hA] at hDi ⊢
  obtain ⟨N, hN⟩ : ∃ N, N = D.lst [.int a, .int b, .int c] := ⟨_, rfl⟩
  obtain ⟨CE, hCE⟩ : ∃ CE, CE = D.lst [.int v0, .int v1, .int v2] := ⟨_, rfl⟩
  rw [← hN, ← hCE]
  obtain ⟨H8, hH8⟩ : ∃ H8, H8 = D.lst [.int ha, .int hb, .int hc] := ⟨_, rfl⟩
  obtain ⟨BK, hBK⟩ : ∃ BK, BK = D.lst [encR [⟨a, 0, ha⟩, ⟨b, 0, hb⟩], encR [⟨a, 1, ha⟩, ⟨c, 0, hc⟩], encR [⟨b, 1, hb⟩, ⟨c, 1, hc⟩]] := ⟨_, rfl⟩
  obtain ⟨TU, hTU⟩ : ∃ TU, TU = D.lst [.int t, .int (t * hb * hc), .int (t * ha * hc)] := ⟨_, rfl⟩
  obtain ⟨rs0, hrs0⟩ : ∃ rs0, rs0 = E.map fun r => r.map fun x => [x] := ⟨_, rfl⟩
  have l0 : rs0.length = E.length := by rw [hrs0, List.length_map]
  have b0 : ∀ r ∈ rs0, r.length ≤ 100 := fun r hr => by
    rw [hrs0] at hr
    obtain ⟨r', hr', rfl⟩ := List.mem_map.mp hr
    rw [List.length_map]; exact hl r' hr'
  have p0 : (rs0.map List.flatten).flatten = E.flatten := by rw [hrs0, sgl_flat]
  obtain ⟨rs1, q1, l1, p1, b1⟩ := three_step (X := ⟨a, 0, ha⟩) (Y := ⟨b, 0, hb⟩) (w := t) (k := 0) (q := bits / 16 % 6) (BK := BK) (TU := TU) (CE := CE) (A := A) (N := N) (BI := .int bits) (a := .int a) (b := .int b) (c := .int c) (t := .int t) (H8 := H8) (R := .non) (HA := .non) (rs := rs0) (v := v0) (by rw [hBK]; rfl) (by rw [hTU]; rfl) (by rw [hCE]; rfl) hq (by omega) (by omega) (fun r hr => by have := b0 r hr; omega)
  have c1 := b1 100 b0
  obtain ⟨rs2, q2, l2, p2, b2⟩ := three_step (X := ⟨a, 1, ha⟩) (Y := ⟨c, 0, hc⟩) (w := t * hb * hc) (k := 1) (q := bits / 16 % 6) (BK := BK) (TU := TU) (CE := CE) (A := A) (N := N) (BI := .int bits) (a := .int a) (b := .int b) (c := .int c) (t := .int t) (H8 := H8) (R := .non) (HA := .non) (rs := rs1) (v := v1) (by rw [hBK]; rfl) (by rw [hTU]; rfl) (by rw [hCE]; rfl) hq (by omega) (by omega) (fun r hr => by have := c1 r hr; omega)
  have c2 := b2 101 c1
  obtain ⟨rs3, q3, l3, p3, b3⟩ := three_step (X := ⟨b, 1, hb⟩) (Y := ⟨c, 1, hc⟩) (w := t * ha * hc) (k := 2) (q := bits / 16 % 6) (BK := BK) (TU := TU) (CE := CE) (A := A) (N := N) (BI := .int bits) (a := .int a) (b := .int b) (c := .int c) (t := .int t) (H8 := H8) (R := .non) (HA := .non) (rs := rs2) (v := v2) (by rw [hBK]; rfl) (by rw [hTU]; rfl) (by rw [hCE]; rfl) hq (by omega) (by omega) (fun r hr => by have := c2 r hr; omega)
  have c3 := b3 102 c2
  rw [p0] at p1
  have hP := p3.trans ((p2.trans (p1.append_left _)).append_left _)
  -- each block has at most two passings
  have hE3 : (rs3.map List.flatten).flatten.length ≤ 1000 := by
    rw [hP.length_eq]
    have : E.flatten.length ≤ 300 := by
      rw [List.length_flatten]
      have h4 : ∀ (xs : Drw), (∀ r ∈ xs, r.length ≤ 100) → (xs.map List.length).sum ≤ xs.length * 100 := fun xs => by
        induction xs with
        | nil => intro _; exact Nat.le_refl _
        | cons x xs ih =>
          intro h
          have := ih fun r hr => h r (List.mem_cons_of_mem _ hr)
          have := h x List.mem_cons_self
          rw [List.map_cons, List.sum_cons, List.length_cons, Nat.add_mul]
          omega
      have := h4 E hl
      omega
    simp only [List.length_append, List.length_cons, List.length_nil]
    omega
  refine ⟨rs3.map List.flatten, ?_, by rw [List.length_map]; omega, hP⟩
  refine Tells.eq ?_
  simp only [F__law_three, m__law_three, runD]
  refine t_seq (e := [some (0, A), some (0, N), some (0, .int bits), some (0, CE), some (0, .int a), some (0, .int b), some (0, .int c), none, none, none, none, none, none, none, none, none, none, none]) (by
    rw [hN]
    simp -implicitDefEqProofs [mAsg]) ?_
  refine t_seq (e := [some (0, A), some (0, N), some (0, .int bits), some (0, CE), some (0, .int a), some (0, .int b), some (0, .int c), some (0, .int t), none, none, none, none, none, none, none, none, none, none]) (by
    rw [ht]
    simp -implicitDefEqProofs [m0, u0]) ?_
  refine t_seq (e := [some (0, A), some (0, N), some (0, .int bits), some (0, CE), some (0, .int a), some (0, .int b), some (0, .int c), some (0, .int t), some (1, H8), none, none, none, none, none, none, none, none, none]) (by
    rw [hH8, hha, hhb, hhc]
    simp -implicitDefEqProofs [f2, f4, f8, m2, m4, m8, u2, u4, u8, z3]) ?_
  have x0 : gIx H8 (.int 0) = .ok (.int ha) := by rw [hH8]; rfl
  have x1 : gIx H8 (.int 1) = .ok (.int hb) := by rw [hH8]; rfl
  have x2 : gIx H8 (.int 2) = .ok (.int hc) := by rw [hH8]; rfl
  refine t_seq (e := [some (0, A), some (0, N), some (0, .int bits), some (0, CE), some (0, .int a), some (0, .int b), some (0, .int c), some (0, .int t), some (1, H8), some (2, .lst [encR [⟨a, 0, ha⟩, ⟨b, 0, hb⟩], encR [⟨a, 1, ha⟩, ⟨c, 0, hc⟩]]), none, none, none, none, none, none, none, none]) (by
    have e1 : encR [⟨a, 0, ha⟩, ⟨b, 0, hb⟩] = .lst [.tup [.int a, .int 0, .int ha], .tup [.int b, .int 0, .int hb]] := rfl
    have e2 : encR [⟨a, 1, ha⟩, ⟨c, 0, hc⟩] = .lst [.tup [.int a, .int 1, .int ha], .tup [.int c, .int 0, .int hc]] := rfl
    rw [e1, e2]
    simp -implicitDefEqProofs [x0, x1, x2, z2, z3]) ?_
  refine t_seq (e := [some (0, A), some (0, N), some (0, .int bits), some (0, CE), some (0, .int a), some (0, .int b), some (0, .int c), some (0, .int t), some (1, H8), some (2, BK), none, none, none, none, none, none, none, none]) (by
    rw [hBK]
    have e3 : encR [⟨b, 1, hb⟩, ⟨c, 1, hc⟩] = .lst [.tup [.int b, .int 1, .int hb], .tup [.int c, .int 1, .int hc]] := rfl
    rw [e3]
    generalize encR [⟨a, 0, ha⟩, ⟨b, 0, hb⟩] = R1 at *
    generalize encR [⟨a, 1, ha⟩, ⟨c, 0, hc⟩] = R2 at *
    simp -implicitDefEqProofs [x1, x2, z2, z3, z3']) ?_
  refine t_seq (e := [some (0, A), some (0, N), some (0, .int bits), some (0, CE), some (0, .int a), some (0, .int b), some (0, .int c), some (0, .int t), some (1, H8), some (2, BK), some (1, TU), none, none, none, none, none, none, none]) (by
    rw [hTU]
    simp -implicitDefEqProofs [x0, x1, x2, w1, w2, w3, w4, z3]) ?_
  refine t_seq (e := [some (0, A), some (0, N), some (0, .int bits), some (0, CE), some (0, .int a), some (0, .int b), some (0, .int c), some (0, .int t), some (1, H8), some (2, BK), some (1, TU), some (3, encB []), none, none, none, none, none, none]) (by
    simp -implicitDefEqProofs [encB]) ?_
  refine t_seq (e := [some (0, A), some (0, N), some (0, .int bits), some (0, CE), some (0, .int a), some (0, .int b), some (0, .int c), some (0, .int t), some (1, H8), some (2, BK), some (1, TU), some (3, encB rs0), none, none, none, none, none, none]) (by
    refine for_app (fun q : List Drw => [some (0, A), some (0, N), some (0, .int bits), some (0, CE), some (0, .int a), some (0, .int b), some (0, .int c), some (0, .int t), some (1, H8), some (2, BK), some (1, TU), some (3, encB q), none, none, none, none, none, none]) encR (fun r => r.map fun x => [x]) 1000 E ?_ rfl (by rw [hrs0]) (by omega) ?_
    · generalize E.map encR = ER at *
      generalize encB [] = E0 at *
      simp -implicitDefEqProofs [hDi]
    · intro r hr acc hacc
      have hrl := hl r hr
      have hlc := lc_all (t := tName 17) (me := mLst (mConsE (mImm (mVar 17)) [] mNilA)) t3 (fun x => encR [x]) r (env := [some (0, A), some (0, N), some (0, .int bits), some (0, CE), some (0, .int a), some (0, .int b), some (0, .int c), some (0, .int t), some (1, H8), some (2, BK), some (1, TU), some (3, encB acc), some (0, encR r), none, none, none, none, none]) (fun x _ => by
        have jx : (t3 x).imm = true := rfl
        have z1 : (1 : Nat) ≤ sizeLine := by decide
        have e1 : encR [x] = .lst [t3 x] := rfl
        rw [e1]
        generalize t3 x = XX at *
        generalize encB acc = AC at *
        generalize encR r = RR at *
        simp -implicitDefEqProofs [jx, z1])
      have hz : (r.map fun x => encR [x]).length ≤ sizeLine := sizeLine_big (by rw [List.length_map]; omega)
      have hR : itemsL (encR r) = .ok (r.map t3) := rfl
      have e5 : encB (acc ++ [r.map fun x => [x]]) = .lst (acc.map encD ++ [.lst (r.map fun x => encR [x])]) := by
        unfold encB encD; simp
      have e6 : encB acc = .lst (acc.map encD) := rfl
      have hz2 : (acc.map encD).length < sizeLine := sizeLine_lt (by rw [List.length_map]; omega)
      refine step_of (e1 := [some (0, A), some (0, N), some (0, .int bits), some (0, CE), some (0, .int a), some (0, .int b), some (0, .int c), some (0, .int t), some (1, H8), some (2, BK), some (1, TU), some (3, encB acc), some (0, encR r), none, none, none, none, none]) (e2 := [some (0, A), some (0, N), some (0, .int bits), some (0, CE), some (0, .int a), some (0, .int b), some (0, .int c), some (0, .int t), some (1, H8), some (2, BK), some (1, TU), some (3, encB (acc ++ [r.map fun x => [x]])), some (0, encR r), none, none, none, none, none]) rfl ?_ rfl
      rw [e5]
      rw [e6] at hlc ⊢
      generalize (r.map fun x => encR [x]) = FF at *
      generalize acc.map encD = AC at *
      generalize encR r = RR at *
      generalize r.map t3 = RL at *
      simp -implicitDefEqProofs [e_mLc, hR, hlc, hz, hz2]) ?_
  refine t_seq (e := [some (0, A), some (0, N), some (0, .int bits), some (0, CE), some (0, .int a), some (0, .int b), some (0, .int c), some (0, .int t), some (1, H8), some (0, BK), some (1, TU), some (0, encB rs3), none, none, none, none, none, none]) (by
    rw [e_mFz, e_mFz]
    show (mFor _ _ _ _ : Mir.Env → Res Ctl) [some (0, A), some (0, N), some (0, .int bits), some (0, CE), some (0, .int a), some (0, .int b), some (0, .int c), some (0, .int t), some (1, H8), some (0, BK), some (1, TU), some (0, encB rs0), none, none, none, none, none, none] = _
    have hg : gRng1 (.int 3) = .ok [.int 0, .int 1, .int 2] := rfl
    refine for_of (ds := [.int 0, .int 1, .int 2]) hg ?_
    rw [loop_step q1, loop_step q2, loop_step q3]; rfl) ?_
  refine t_seq (e := [some (0, A), some (0, N), some (0, .int bits), some (0, CE), some (0, .int a), some (0, .int b), some (0, .int c), some (0, .int t), some (1, H8), some (0, BK), some (1, TU), some (0, encB rs3), none, none, none, some (2, encD []), none, none]) (by
    generalize encB rs3 = R3 at *
    simp -implicitDefEqProofs [encD]) ?_
  refine t_seq (e := [some (0, A), some (0, N), some (0, .int bits), some (0, CE), some (0, .int a), some (0, .int b), some (0, .int c), some (0, .int t), some (1, H8), some (0, BK), some (1, TU), some (0, encB rs3), none, none, none, some (2, encD (rs3.map List.flatten)), none, none]) (by
    refine for_app (fun q : Drw => [some (0, A), some (0, N), some (0, .int bits), some (0, CE), some (0, .int a), some (0, .int b), some (0, .int c), some (0, .int t), some (1, H8), some (0, BK), some (1, TU), some (0, encB rs3), none, none, none, some (2, encD q), none, none]) encD List.flatten 1000 rs3 ?_ rfl rfl (by omega) ?_
    · have hBi : itemsL (encB rs3) = .ok (rs3.map encD) := rfl
      generalize rs3.map encD = RL at *
      generalize encB rs3 = R3 at *
      generalize encD [] = E0 at *
      simp -implicitDefEqProofs [hBi]
    · intro r hr acc hacc
      have hrl := c3 r hr
      have hfl : r.flatten.length ≤ 1000 := by
        refine Nat.le_trans ?_ hE3
        exact flat_ge (List.mem_map.mpr ⟨r, hr, rfl⟩)
      have hRi : itemsL (encD r) = .ok (r.map encR) := rfl
      refine step_of (e1 := [some (0, A), some (0, N), some (0, .int bits), some (0, CE), some (0, .int a), some (0, .int b), some (0, .int c), some (0, .int t), some (1, H8), some (0, BK), some (1, TU), some (0, encB rs3), some (0, encD r), none, none, some (2, encD acc), none, none]) (e2 := [some (0, A), some (0, N), some (0, .int bits), some (0, CE), some (0, .int a), some (0, .int b), some (0, .int c), some (0, .int t), some (1, H8), some (0, BK), some (1, TU), some (0, encB rs3), some (0, encD r), none, none, some (2, encD (acc ++ [r.flatten])), none, none]) rfl ?_ rfl
      refine s_seq2 (e := [some (0, A), some (0, N), some (0, .int bits), some (0, CE), some (0, .int a), some (0, .int b), some (0, .int c), some (0, .int t), some (1, H8), some (0, BK), some (1, TU), some (0, encB rs3), some (0, encD r), none, none, some (2, encD acc), some (1, encR []), none]) ?_ (s_seq2 (e := [some (0, A), some (0, N), some (0, .int bits), some (0, CE), some (0, .int a), some (0, .int b), some (0, .int c), some (0, .int t), some (1, H8), some (0, BK), some (1, TU), some (0, encB rs3), some (0, encD r), none, none, some (2, encD acc), some (1, encR r.flatten), none]) ?_ ?_)
      · generalize encB rs3 = R3 at *
        generalize encD r = RR at *
        generalize encD acc = AC at *
        simp -implicitDefEqProofs [encR]
      · refine for_fold (fun q : List T3 => [some (0, A), some (0, N), some (0, .int bits), some (0, CE), some (0, .int a), some (0, .int b), some (0, .int c), some (0, .int t), some (1, H8), some (0, BK), some (1, TU), some (0, encB rs3), some (0, encD r), none, none, some (2, encD acc), some (1, encR q), none]) encR (fun q b => q ++ b) r [] ?_ rfl ?_ ?_
        · generalize encB rs3 = R3 at *
          generalize r.map encR = RL at *
          generalize encD r = RR at *
          generalize encD acc = AC at *
          generalize encR [] = R0 at *
          simp -implicitDefEqProofs [hRi]
        · have : ∀ (xs : Drw) (q : List T3), xs.foldl (fun q b => q ++ b) q = q ++ xs.flatten := fun xs => by
            induction xs with
            | nil => intro q; simp
            | cons x xs ih => intro q; rw [List.foldl_cons, ih, List.flatten_cons, List.append_assoc]
          rw [this, List.nil_append]
        · intro i y hy
          have hf2 : ((r.take i).foldl (fun q b => q ++ b) []).length + y.length ≤ 1000 := by
            have : ∀ (xs : Drw) (q : List T3), xs.foldl (fun q b => q ++ b) q = q ++ xs.flatten := fun xs => by
              induction xs with
              | nil => intro q; simp
              | cons x xs ih => intro q; rw [List.foldl_cons, ih, List.flatten_cons, List.append_assoc]
            rw [this, List.nil_append]
            have e : r.flatten = (r.take i).flatten ++ (r.drop i).flatten := by rw [← List.flatten_append, List.take_append_drop]
            have e2 : y ∈ r.drop i := List.mem_iff_getElem?.mpr ⟨0, by rw [List.getElem?_drop]; exact hy⟩
            have := flat_ge (ds := r.drop i) e2
            have := congrArg List.length e
            rw [List.length_append] at this
            omega
          generalize (r.take i).foldl (fun q b => q ++ b) [] = q at *
          have hzz : (q.map t3).length + (y.map t3).length ≤ sizeLine := sizeLine_big (by rw [List.length_map, List.length_map]; omega)
          have i1 := immT3 q
          have i2 := immT3 y
          have eq : encR q = .lst (q.map t3) := rfl
          have ey : encR y = .lst (y.map t3) := rfl
          have e5 : encR (q ++ y) = .lst (q.map t3 ++ y.map t3) := by unfold encR; simp
          show (tName 14 0 (encR y) [some (0, A), some (0, N), some (0, .int bits), some (0, CE), some (0, .int a), some (0, .int b), some (0, .int c), some (0, .int t), some (1, H8), some (0, BK), some (1, TU), some (0, encB rs3), some (0, encD r), none, none, some (2, encD acc), some (1, encR q), none] >>= fun e => _) = .ok [some (0, A), some (0, N), some (0, .int bits), some (0, CE), some (0, .int a), some (0, .int b), some (0, .int c), some (0, .int t), some (1, H8), some (0, BK), some (1, TU), some (0, encB rs3), some (0, encD r), none, none, some (2, encD acc), some (1, encR (q ++ y)), none]
          rw [e5, eq, ey]
          generalize q.map t3 = QL at *
          generalize y.map t3 = YL at *
          generalize encB rs3 = R3 at *
          generalize encD r = RR at *
          generalize encD acc = AC at *
          simp -implicitDefEqProofs [mCat, immL, i1, i2, hzz]
      · have e5 : encD (acc ++ [r.flatten]) = .lst (acc.map encR ++ [encR r.flatten]) := by unfold encD; simp
        have e6 : encD acc = .lst (acc.map encR) := rfl
        have hz2 : (acc.map encR).length < sizeLine := sizeLine_lt (by rw [List.length_map]; omega)
        rw [e5, e6]
        generalize encR r.flatten = RF at *
        generalize acc.map encR = AC at *
        generalize encB rs3 = R3 at *
        generalize encD r = RR at *
        simp -implicitDefEqProofs [hz2]) ?_
  refine Tells.eqI ?_
  have i2 : immAt 2 (encD (rs3.map List.flatten)) = true := by simp
  generalize encD (rs3.map List.flatten) = Q at *
  generalize encB rs3 = R3 at *
  simp -implicitDefEqProofs [i2]

/-! ### drawings by their crossings -/
theorem psg_mem {C : List Crs} {x : T3} : x ∈ psg C ↔ ∃ c ∈ C, x = ⟨c.n, 0, c.c⟩ ∨ x = ⟨c.n, 1, c.c⟩ := by
  unfold psg
  rw [List.mem_flatMap]
  constructor
  · rintro ⟨c, hc, hx⟩
    refine ⟨c, hc, ?_⟩
    simpa using hx
  · rintro ⟨c, hc, hx⟩
    exact ⟨c, hc, by simpa using hx⟩
theorem Dr.of_psg {E : Drw} {C : List Crs} (hl : E.length ≤ 10) (hC : C.length ≤ 40) (hp : E.flatten.Perm (psg C)) (hn : (C.map (·.n)).Nodup) (hh : ∀ c ∈ C, c.c = 1 ∨ c.c = -1) : Dr E := by
  have hm : ∀ x, x ∈ E.flatten ↔ ∃ c ∈ C, x = ⟨c.n, 0, c.c⟩ ∨ x = ⟨c.n, 1, c.c⟩ := fun x => hp.mem_iff.trans psg_mem
  refine ⟨⟨siz_of hl (by rw [hp.length_eq, psg_len]; omega), (hp.map ky).nodup_iff.mpr (psg_ky C hn), fun x hx => ?_⟩, fun x hx => ?_, fun x hx => ?_⟩
  · obtain ⟨c, hc, rfl | rfl⟩ := (hm x).mp hx
    · exact .inl rfl
    · exact .inr rfl
  · obtain ⟨c, hc, rfl | rfl⟩ := (hm x).mp hx
    · exact ⟨(hm _).mpr ⟨c, hc, .inl rfl⟩, (hm _).mpr ⟨c, hc, .inr rfl⟩⟩
    · exact ⟨(hm _).mpr ⟨c, hc, .inl rfl⟩, (hm _).mpr ⟨c, hc, .inr rfl⟩⟩
  · obtain ⟨c, hc, rfl | rfl⟩ := (hm x).mp hx
    · exact hh c hc
    · exact hh c hc
/-! ### rows begun elsewhere -/
/-! ### hands turned -/
def hxT (ns : List Int) (x : T3) : T3 := ⟨x.a, x.b, if x.a ∈ ns then -x.c else x.c⟩
def hxL (ns : List Int) (E : Drw) : Drw := E.map fun r => r.map (hxT ns)
theorem hxL_mem {ns : List Int} {E : Drw} {x : T3} : x ∈ (hxL ns E).flatten ↔ ∃ y ∈ E.flatten, x = hxT ns y := by
  have e : (hxL ns E).flatten = E.flatten.map (hxT ns) := by
    show (E.map fun r => r.map (hxT ns)).flatten = _
    rw [List.map_flatten]
  rw [e, List.mem_map]
  exact ⟨fun ⟨y, hy, h⟩ => ⟨y, hy, h.symm⟩, fun ⟨y, hy, h⟩ => ⟨y, hy, h.symm⟩⟩
theorem Dr.hx {E : Drw} (h : Dr E) (ns : List Int) : Dr (hxL ns E) := by
  have e : (hxL ns E).flatten = E.flatten.map (hxT ns) := by
    show (E.map fun r => r.map (hxT ns)).flatten = _
    rw [List.map_flatten]
  refine ⟨⟨siz_of (by show (E.map _).length ≤ 10; rw [List.length_map]; exact h.vd.sz.len) (by rw [e, List.length_map]; exact h.vd.sz.fl), ?_, fun x hx => ?_⟩, fun x hx => ?_, fun x hx => ?_⟩
  · show ((hxL ns E).flatten.map ky).Nodup
    rw [e, List.map_map]
    exact h.vd.uk
  · obtain ⟨y, hy, rfl⟩ := hxL_mem.mp hx
    exact h.vd.wy y hy
  · obtain ⟨y, hy, rfl⟩ := hxL_mem.mp hx
    exact ⟨hxL_mem.mpr ⟨_, (h.bt y hy).1, rfl⟩, hxL_mem.mpr ⟨_, (h.bt y hy).2, rfl⟩⟩
  · obtain ⟨y, hy, rfl⟩ := hxL_mem.mp hx
    show (if y.a ∈ ns then -y.c else y.c) = 1 ∨ (if y.a ∈ ns then -y.c else y.c) = -1
    have := h.sg y hy
    split <;> omega
/-! ### a drawing made -/
theorem WD.zero (S : Nat) : WD S (List.replicate S []) [] := ⟨⟨by simp, List.nodup_nil, fun c hc => absurd hc List.not_mem_nil, fun k r hk x => by
      have : r = [] := by
        have := List.mem_of_getElem? hk
        rw [List.mem_replicate] at this
        exact this.2
      subst this
      exact ⟨fun h => absurd h List.not_mem_nil, fun ⟨c, hc, _⟩ => absurd hc List.not_mem_nil⟩, fun r hr => by
      rw [List.mem_replicate] at hr
      rw [hr.2]; exact Nat.zero_le _⟩, by rw [List.flatten_replicate_nil]; exact List.Perm.refl _, fun c hc => absurd hc List.not_mem_nil⟩
theorem psg3 (a b c ha hb hc : Int) (C : List Crs) : (([⟨b, 1, hb⟩, ⟨c, 1, hc⟩] : List T3) ++ (([⟨a, 1, ha⟩, ⟨c, 0, hc⟩] : List T3) ++ (([⟨a, 0, ha⟩, ⟨b, 0, hb⟩] : List T3) ++ psg C))).Perm (psg (([⟨a, 0, 0, ha⟩, ⟨b, 0, 0, hb⟩, ⟨c, 0, 0, hc⟩] : List Crs) ++ C)) := by
  have e : psg (([⟨a, 0, 0, ha⟩, ⟨b, 0, 0, hb⟩, ⟨c, 0, 0, hc⟩] : List Crs) ++ C) = ([⟨a, 0, ha⟩, ⟨a, 1, ha⟩, ⟨b, 0, hb⟩, ⟨b, 1, hb⟩, ⟨c, 0, hc⟩, ⟨c, 1, hc⟩] : List T3) ++ psg C := by
    unfold psg; simp
  rw [e, ← List.append_assoc, ← List.append_assoc]
  refine List.Perm.append_right _ ?_
  show ([⟨b, 1, hb⟩, ⟨c, 1, hc⟩, ⟨a, 1, ha⟩, ⟨c, 0, hc⟩, ⟨a, 0, ha⟩, ⟨b, 0, hb⟩] : List T3).Perm _
  rw [List.perm_iff_count]
  intro x
  simp only [List.count_cons, List.count_nil]
  omega
/-- the names of a drawing, as the law tells them -/
def nmsL (ds : Drw) : List Int := (ds.flatten.filter fun x => decide (x.b = 0)).map (·.a)
theorem nmsL_len (ds : Drw) : (nmsL ds).length ≤ ds.flatten.length := by
  unfold nmsL
  rw [List.length_map]
  exact List.length_filter_le _ _
/-! ### the other drawing -/
/-! ### moves that add no crossing, as data -/
inductive Wd3 where
  | p | s | u
  deriving DecidableEq
def Wd3.str : Wd3 → Str
  | .p => Str.ofString "part"
  | .s => Str.ofString "slide"
  | .u => Str.ofString "uncurl"
def Wd3.ix : Wd3 → Nat
  | .p => 0
  | .s => 1
  | .u => 2
instance : Dat Wd3 where
  enc w := .str w.str
  lt a b := decide (a.ix < b.ix)
  dep := 1
  eqv a b := by cases a <;> cases b <;> decide +kernel
  alike a b := by cases a <;> cases b <;> decide +kernel
  lay a := by cases a <;> decide +kernel
  depth a := by cases a <;> decide +kernel
  dlt a b := by
    show PySem.W.dataLt (.str a.str) (.str b.str) = _
    rw [PySem.W.dataLt_str]
    cases a <;> cases b <;> decide +kernel
  nn a := by simp
  tot a b := by cases a <;> cases b <;> decide
  tr a b c := by cases a <;> cases b <;> cases c <;> decide
  asy a b := by cases a <;> cases b <;> decide
structure Lm where
  w : Wd3
  xs : List Int
  deriving DecidableEq
def lmE (m : Lm) : D := .tup (.str m.w.str :: m.xs.map D.int)
theorem Lm.eta (m : Lm) : m = ⟨m.w, m.xs⟩ := rfl
instance : Dat Lm where
  enc := lmE
  lt a b := if a.w = b.w then listLt Dat.lt a.xs b.xs else Dat.lt a.w b.w
  dep := 2
  eqv a b := by
    have h1 := Dat.eqv a.w b.w
    have h2 := eqvAll_enc a.xs b.xs
    show PyData.eqv (D.tup _).py (D.tup _).py = _
    simp only [D.py, pyAll, PyData.eqv, PyData.eqvAll]
    have e1 : (Dat.enc a.w : D).py = PyData.str a.w.str := by rw [show (Dat.enc a.w : D) = .str a.w.str from rfl, D.py]
    have e2 : (Dat.enc b.w : D).py = PyData.str b.w.str := by rw [show (Dat.enc b.w : D) = .str b.w.str from rfl, D.py]
    rw [e1, e2] at h1
    rw [show PyData.eqvAll (pyAll (a.xs.map D.int)) (pyAll (b.xs.map D.int)) = decide (a.xs = b.xs) from h2]
    have h1' : PyData.eqv (PyData.str a.w.str) (PyData.str b.w.str) = decide (a.w = b.w) := h1
    simp only [PyData.eqv] at h1'
    rw [h1']
    cases a; cases b
    rename_i w1 x1 w2 x2
    by_cases q1 : w1 = w2 <;> by_cases q2 : x1 = x2 <;> simp [q1, q2]
  alike a b := by
    have h2 := alikeAll_enc a.xs b.xs
    show PySem.W.alike (D.tup _).py (D.tup _).py = true
    simp only [D.py, pyAll, PySem.W.alike, PySem.W.alikeAll, Bool.true_and]
    exact h2
  lay a := by
    have h2 := layAll_enc a.xs
    have h1 := Dat.lay a.w
    show PyData.canLay0 (D.tup _).py = true
    simp only [D.py, pyAll, PyData.canLay0, PyData.canLayAll0, Bool.true_and, Bool.and_eq_true]
    have h1' : PyData.canLay0 (D.str a.w.str).py = true := h1
    simp only [D.py, PyData.canLay0] at h1'
    exact ⟨h1', h2⟩
  depth a := by
    have h2 := depthAll_enc a.xs
    show (D.tup _).py.depth ≤ 2
    simp only [D.py, pyAll, PyData.depth, PyData.depthAll]
    have h3 : PyData.depthAll (pyAll (a.xs.map D.int)) ≤ 1 := h2
    omega
  dlt a b := by
    show PySem.W.dataLt (D.tup _).py (D.tup _).py = _
    simp only [D.py, pyAll, PySem.W.dataLt_tuple]
    have h := consTok a.w b.w (pyAll (a.xs.map D.int)) (pyAll (b.xs.map D.int))
    have e1 : ∀ w : Wd3, (Dat.enc w : D).py = PyData.str w.str := fun w => by rw [show (Dat.enc w : D) = .str w.str from rfl, D.py]
    rw [e1, e1] at h
    rw [h]
    have h2 := lexAll_enc a.xs b.xs
    by_cases q : a.w = b.w
    · rw [if_pos q, if_pos q]; exact h2
    · rw [if_neg q, if_neg q]
  nn a := by simp [lmE]
  tot a b h1 h2 := by
    cases a with
    | mk a1 a2 =>
      cases b with
      | mk b1 b2 =>
        dsimp only at h1 h2
        by_cases e : a1 = b1
        · subst e
          rw [if_pos rfl] at h1 h2
          rw [listLt_tot Dat.tot _ _ h1 h2]
        · rw [if_neg e] at h1
          rw [if_neg (Ne.symm e)] at h2
          exact absurd (Dat.tot _ _ h1 h2) e
  tr a b c h1 h2 := by
    cases a with
    | mk a1 a2 =>
      cases b with
      | mk b1 b2 =>
        cases c with
        | mk c1 c2 =>
          dsimp only at h1 h2 ⊢
          by_cases e : a1 = b1
          · subst e
            rw [if_pos rfl] at h1
            by_cases e2 : a1 = c1
            · rw [if_pos e2] at h2 ⊢
              exact listLt_tr Dat.tr Dat.asy _ _ _ h1 h2
            · rw [if_neg e2] at h2 ⊢
              exact h2
          · rw [if_neg e] at h1
            by_cases e2 : b1 = c1
            · subst e2
              rw [if_neg e]; exact h1
            · rw [if_neg e2] at h2
              have h3 := Dat.tr _ _ _ h1 h2
              have e3 : a1 ≠ c1 := fun e => by
                subst e
                rw [Dat.asy _ _ h1] at h2
                cases h2
              rw [if_neg e3]; exact h3
  asy a b h1 := by
    cases a with
    | mk a1 a2 =>
      cases b with
      | mk b1 b2 =>
        dsimp only at h1 ⊢
        by_cases e : a1 = b1
        · subst e
          rw [if_pos rfl] at h1 ⊢
          exact listLt_asy Dat.asy _ _ h1
        · rw [if_neg e] at h1
          rw [if_neg (Ne.symm e)]
          exact Dat.asy _ _ h1
theorem gSort_Lm (xs : List Lm) : gSort (.lst (xs.map lmE)) = .ok (.lst ((sorted xs).map lmE)) := gSort_enc xs (by decide) (by
  unfold sortB
  rw [pyAll_map, List.map_map, Bool.or_eq_true]
  left
  rw [List.all_eq_true]
  intro d hd
  obtain ⟨x, _, rfl⟩ := List.mem_map.mp hd
  rfl)

/-! ### which moves fit -/
def nL (E : Drw) : List Int := sortI ((hnds E).map (·.1))
def sbB (E : Drw) (k l : Int × Int) : Bool := decide (nx E k = l) || decide (nx E l = k)
def ptB (E : Drw) (a b : Int) : Bool := if a = b ∨ hof E a = hof E b then false else sbB E (a, 0) (b, 0) && sbB E (a, 1) (b, 1)
section
variable {E : Drw}
theorem nL_pw (E : Drw) : (nL E).Pairwise (· < ·) := sortI_strict (pts_nodup (key := T3.a) (val := T3.c) E.flatten (p := []) List.nodup_nil)
theorem nL_mem (hd : Dr E) {n : Int} : n ∈ nL E ↔ Nm E n := by
  unfold nL
  rw [(sortI_perm _).mem_iff]
  constructor
  · intro h
    rcases (pts_mem (key := T3.a) (val := T3.c) E.flatten [] n).mp h with h | ⟨x, hx, e⟩
    · cases h
    · rw [← e]; exact hd.nm hx
  · intro h
    exact (pts_mem (key := T3.a) (val := T3.c) E.flatten [] n).mpr (.inr ⟨_, h.o, rfl⟩)
theorem nL_len (E : Drw) : (nL E).length = (hnds E).length := by
  unfold nL
  rw [(sortI_perm _).length_eq, List.length_map]
theorem gsD_is (E : Drw) (h : (hnds E).length < 64) : gSortD (encK D.int (hnds E)) = .ok (.lst ((nL E).map D.int)) := gSortD_K D.int (hnds E) h
theorem sb_is (hu : UK E) {x y : T3} (hx : x ∈ E.flatten) (hy : y ∈ E.flatten) : F_side_by_side [encK2 t2 (nxP E), t2 (ky x), t2 (ky y)] = .ok (.bl (sbB E (ky x) (ky y))) := by
  have d0 := nxlk_is hu hx
  have d1 := nxlk_is hu hy
  have q1 := gEq_pp (nx E (ky x)) (ky y)
  have q2 := gEq_pp (nx E (ky y)) (ky x)
  unfold sbB
  generalize decide (nx E (ky x) = ky y) = B1 at *
  generalize decide (nx E (ky y) = ky x) = B2 at *
  generalize encK2 t2 (nxP E) = K at *
  generalize t2 (nx E (ky x)) = TA at *
  generalize t2 (nx E (ky y)) = TB at *
  generalize t2 (ky x) = T0 at *
  generalize t2 (ky y) = T1 at *
  simp only [F_side_by_side, m_side_by_side, runD]
  cases B1 <;> simp -implicitDefEqProofs [d0, q1, d1, q2]
theorem lbs_is (hu : UK E) {x y : T3} (hx : x ∈ E.flatten) (hy : y ∈ E.flatten) : F__law_beside [encK2 t2 (nxP E), t2 (ky x), t2 (ky y)] = .ok (.bl (sbB E (ky x) (ky y))) := by
  have d0 := nxlk_is hu hx
  have d1 := nxlk_is hu hy
  have q1 := gEq_pp (nx E (ky x)) (ky y)
  have q2 := gEq_pp (nx E (ky y)) (ky x)
  unfold sbB
  generalize decide (nx E (ky x) = ky y) = B1 at *
  generalize decide (nx E (ky y) = ky x) = B2 at *
  generalize encK2 t2 (nxP E) = K at *
  generalize t2 (nx E (ky x)) = TA at *
  generalize t2 (nx E (ky y)) = TB at *
  generalize t2 (ky x) = T0 at *
  generalize t2 (ky y) = T1 at *
  simp only [F__law_beside, m__law_beside, runD]
  cases B1 <;> simp -implicitDefEqProofs [d0, q1, d1, q2]
theorem sb4 {a b : Int} (na : Nm E a) (nb : Nm E b) {F : List D → Res D} (h : ∀ x y : T3, x ∈ E.flatten → y ∈ E.flatten → F [encK2 t2 (nxP E), t2 (ky x), t2 (ky y)] = .ok (.bl (sbB E (ky x) (ky y)))) : F [encK2 t2 (nxP E), .tup [.int a, .int 0], .tup [.int b, .int 0]] = .ok (.bl (sbB E (a, 0) (b, 0))) ∧ F [encK2 t2 (nxP E), .tup [.int a, .int 1], .tup [.int b, .int 1]] = .ok (.bl (sbB E (a, 1) (b, 1))) ∧ F [encK2 t2 (nxP E), .tup [.int a, .int 0], .tup [.int a, .int 1]] = .ok (.bl (sbB E (a, 0) (a, 1))) :=
  ⟨h ⟨a, 0, hof E a⟩ ⟨b, 0, hof E b⟩ na.o nb.o, h ⟨a, 1, hof E a⟩ ⟨b, 1, hof E b⟩ na.u nb.u, h ⟨a, 0, hof E a⟩ ⟨a, 1, hof E a⟩ na.o na.u⟩
theorem uncurls_is (hd : Dr E) {a : Int} (na : Nm E a) : F_uncurls [encK2 t2 (nxP E), .int a] = .ok (.bl (sbB E (a, 0) (a, 1))) := by
  have s := (sb4 na na (F := F_side_by_side) fun x y => sb_is hd.vd.uk).2.2
  have hz2 : (2 : Nat) ≤ sizeLine := by decide
  generalize encK2 t2 (nxP E) = K at *
  generalize sbB E (a, 0) (a, 1) = B at *
  simp only [F_uncurls, m_uncurls, runD]
  simp -implicitDefEqProofs [s, hz2]
theorem parts_is (hd : Dr E) {a b : Int} (na : Nm E a) (nb : Nm E b) : F_parts [encK2 t2 (nxP E), encK D.int (hnds E), .int a, .int b] = .ok (.bl (ptB E a b)) := by
  have s := sb4 na nb (F := F_side_by_side) fun x y => sb_is hd.vd.uk
  have s1 := s.1
  have s2 := s.2.1
  have d0 := gDGet_K D.int na.lk
  have d1 := gDGet_K D.int nb.lk
  have q1 := gEq_i a b
  have q2 := gEq_i (hof E a) (hof E b)
  have hz2 : (2 : Nat) ≤ sizeLine := by decide
  have e : ptB E a b = if a = b ∨ hof E a = hof E b then false else sbB E (a, 0) (b, 0) && sbB E (a, 1) (b, 1) := rfl
  rw [e]
  clear s
  generalize sbB E (a, 0) (b, 0) = B1 at *
  generalize sbB E (a, 1) (b, 1) = B2 at *
  generalize encK2 t2 (nxP E) = K at *
  generalize encK D.int (hnds E) = H at *
  generalize hof E a = ha at *
  generalize hof E b = hb at *
  simp only [F_parts, m_parts, runD]
  by_cases h1 : a = b
  · rw [decide_eq_true h1] at q1
    rw [if_pos (.inl h1)]
    simp -implicitDefEqProofs [q1, -e_gEq_int]
  · rw [decide_eq_false h1] at q1
    by_cases h2 : ha = hb
    · rw [decide_eq_true h2] at q2
      rw [if_pos (.inr h2)]
      simp -implicitDefEqProofs [q1, d0, d1, q2, -e_gEq_int]
    · rw [decide_eq_false h2] at q2
      rw [if_neg fun z => z.elim h1 h2]
      cases B1 <;> simp -implicitDefEqProofs [q1, d0, d1, q2, s1, s2, hz2, -e_gEq_int]
theorem lparts_is (hd : Dr E) {a b : Int} (na : Nm E a) (nb : Nm E b) : F__law_parts [encK2 t2 (nxP E), encK D.int (hnds E), .tup [.str (Str.ofString "part"), .int a, .int b]] = .ok (.bl (ptB E a b)) := by
  have s := sb4 na nb (F := F__law_beside) fun x y => lbs_is hd.vd.uk
  have s1 := s.1
  have s2 := s.2.1
  have d0 := gDGet_K D.int na.lk
  have d1 := gDGet_K D.int nb.lk
  have q1 := gEq_i a b
  have q2 := gEq_i (hof E a) (hof E b)
  have hz2 : (2 : Nat) ≤ sizeLine := by decide
  have eC : gCutT [.str (Str.ofString "part"), .int a, .int b] (some 1) none = .ok (.tup [.int a, .int b]) := rfl
  have e : ptB E a b = if a = b ∨ hof E a = hof E b then false else sbB E (a, 0) (b, 0) && sbB E (a, 1) (b, 1) := rfl
  rw [e]
  clear s
  generalize sbB E (a, 0) (b, 0) = B1 at *
  generalize sbB E (a, 1) (b, 1) = B2 at *
  generalize encK2 t2 (nxP E) = K at *
  generalize encK D.int (hnds E) = H at *
  generalize hof E a = ha at *
  generalize hof E b = hb at *
  generalize D.str (Str.ofString "part") = S at *
  refine Tells.eq ?_
  simp only [F__law_parts, m__law_parts, runD]
  refine t_seq (e := [some (0, K), some (0, H), some (0, .tup [S, .int a, .int b]), some (0, .int a), some (0, .int b)]) (by simp -implicitDefEqProofs [mAsg, eC]) ?_
  refine Tells.eqI ?_
  by_cases h1 : a = b
  · rw [decide_eq_true h1] at q1
    rw [if_pos (.inl h1)]
    simp -implicitDefEqProofs [q1, -e_gEq_int]
  · rw [decide_eq_false h1] at q1
    by_cases h2 : ha = hb
    · rw [decide_eq_true h2] at q2
      rw [if_pos (.inr h2)]
      simp -implicitDefEqProofs [q1, d0, d1, q2, -e_gEq_int]
    · rw [decide_eq_false h2] at q2
      rw [if_neg fun z => z.elim h1 h2]
      cases B1 <;> simp -implicitDefEqProofs [q1, d0, d1, q2, s1, s2, hz2, -e_gEq_int]
/-! the lists -/
def uL (E : Drw) : List Lm := flt (fun n => sbB E (n, 0) (n, 1)) (fun n => ⟨.u, [n]⟩) (nL E)
def pP (E : Drw) : List Lm := (nL E).zipIdx.flatMap fun x => flt (fun s => ptB E x.1 s) (fun s => ⟨.p, [x.1, s]⟩) ((nL E).drop (x.2 + 1))
def sOn (E : Drw) (a b t : Int) : List Lm := flt (fun c => slB E a b c t) (fun c => ⟨.s, [a, b, c, t]⟩) (nL E)
def sP (E : Drw) : List Lm := (nL E).flatMap fun n => if (nx E (n, 0)).2 = 0 then sOn E n (nx E (n, 0)).1 1 ++ sOn E (nx E (n, 0)).1 n (-1) else []
def pW (E : Drw) : List Lm := (nL E).flatMap fun a => flt (fun b => decide (a < b) && ptB E a b) (fun b => ⟨.p, [a, b]⟩) (nL E)
def sW (E : Drw) : List Lm := (nL E).flatMap fun a => (nL E).flatMap fun b => if sbB E (a, 0) (b, 0) then (nL E).flatMap fun c => flt (fun t => slB E a b c t) (fun t => ⟨.s, [a, b, c, t]⟩) [-1, 1] else []
def dueL (E : Drw) : List Lm := pW E ++ sW E ++ uL E
theorem slB_sb (E : Drw) {a b c t : Int} (ht : t = 1 ∨ t = -1) (h : slB E a b c t = true) : a ≠ b ∧ a ≠ c ∧ b ≠ c ∧ rbB E (a, 0) (b, 0) t = true := by
  unfold slB at h
  split at h
  · cases h
  · rename_i hn
    rw [Bool.and_eq_true] at h
    exact ⟨fun e => hn (.inl e), fun e => hn (.inr (.inl e)), fun e => hn (.inr (.inr e)), h.1⟩
theorem nx_name (hd : Dr E) {n : Int} (hn : Nm E n) (h : (nx E (n, 0)).2 = 0) : Nm E (nx E (n, 0)).1 ∧ nx E (n, 0) = ((nx E (n, 0)).1, 0) := by
  obtain ⟨y, hy⟩ := Rl.next hn.o
  have e : nx E (n, 0) = ky y := rl_nx hd.vd.uk hy
  rw [e] at h ⊢
  exact ⟨hd.nm hy.right, by rw [← h]⟩
theorem mem_uL (hd : Dr E) {m : Lm} : m ∈ uL E ↔ ∃ n, Nm E n ∧ sbB E (n, 0) (n, 1) = true ∧ m = ⟨.u, [n]⟩ := by
  unfold uL
  rw [flt_mem]
  exact ⟨fun ⟨n, h1, h2, h3⟩ => ⟨n, (nL_mem hd).mp h1, h2, h3.symm⟩, fun ⟨n, h1, h2, h3⟩ => ⟨n, (nL_mem hd).mpr h1, h2, h3.symm⟩⟩
theorem mem_pW (hd : Dr E) {m : Lm} : m ∈ pW E ↔ ∃ a b, Nm E a ∧ Nm E b ∧ a < b ∧ ptB E a b = true ∧ m = ⟨.p, [a, b]⟩ := by
  unfold pW
  rw [List.mem_flatMap]
  constructor
  · rintro ⟨a, ha, h⟩
    obtain ⟨b, hb, hp, rfl⟩ := flt_mem.mp h
    rw [Bool.and_eq_true, decide_eq_true_eq] at hp
    exact ⟨a, b, (nL_mem hd).mp ha, (nL_mem hd).mp hb, hp.1, hp.2, rfl⟩
  · rintro ⟨a, b, ha, hb, hl, hp, rfl⟩
    exact ⟨a, (nL_mem hd).mpr ha, flt_mem.mpr ⟨b, (nL_mem hd).mpr hb, by rw [Bool.and_eq_true, decide_eq_true_eq]; exact ⟨hl, hp⟩, rfl⟩⟩
theorem mem_pP (hd : Dr E) {m : Lm} : m ∈ pP E ↔ ∃ a b, Nm E a ∧ Nm E b ∧ a < b ∧ ptB E a b = true ∧ m = ⟨.p, [a, b]⟩ := by
  have hp := nL_pw E
  unfold pP
  rw [List.mem_flatMap]
  constructor
  · rintro ⟨⟨a, i⟩, hx, h⟩
    obtain ⟨b, hb, hpt, rfl⟩ := flt_mem.mp h
    obtain ⟨j, hj⟩ := List.mem_iff_getElem?.mp hb
    rw [List.getElem?_drop] at hj
    have hi := List.mem_zipIdx_iff_getElem?.mp hx
    have hlt : a < b := by
      obtain ⟨h1, e1⟩ := List.getElem?_eq_some_iff.mp hi
      obtain ⟨h2, e2⟩ := List.getElem?_eq_some_iff.mp hj
      have := List.pairwise_iff_getElem.mp hp i (i + 1 + j) h1 h2 (by omega)
      rw [e1, e2] at this
      exact this
    exact ⟨a, b, (nL_mem hd).mp (List.mem_of_getElem? hi), (nL_mem hd).mp (List.mem_of_getElem? hj), hlt, hpt, rfl⟩
  · rintro ⟨a, b, ha, hb, hl, hpt, rfl⟩
    obtain ⟨i, hi⟩ := List.mem_iff_getElem?.mp ((nL_mem hd).mpr ha)
    obtain ⟨j, hj⟩ := List.mem_iff_getElem?.mp ((nL_mem hd).mpr hb)
    have hij : i < j := by
      obtain ⟨h1, e1⟩ := List.getElem?_eq_some_iff.mp hi
      obtain ⟨h2, e2⟩ := List.getElem?_eq_some_iff.mp hj
      rcases Nat.lt_trichotomy i j with h | h | h
      · exact h
      · subst h
        have : (nL E)[i] = (nL E)[i] := rfl
        rw [hi] at hj
        have := Option.some.inj hj
        omega
      · have := List.pairwise_iff_getElem.mp hp j i h2 h1 h
        rw [e1, e2] at this
        omega
    exact ⟨(a, i), List.mem_zipIdx_iff_getElem?.mpr hi, flt_mem.mpr ⟨b, List.mem_iff_getElem?.mpr ⟨j - (i + 1), by rw [List.getElem?_drop, show i + 1 + (j - (i + 1)) = j by omega]; exact hj⟩, hpt, rfl⟩⟩
def SlFit (E : Drw) (m : Lm) : Prop := ∃ a b c t, Nm E a ∧ Nm E b ∧ Nm E c ∧ (t = 1 ∨ t = -1) ∧ slB E a b c t = true ∧ m = ⟨.s, [a, b, c, t]⟩
theorem mem_sW (hd : Dr E) {m : Lm} : m ∈ sW E ↔ SlFit E m := by
  unfold sW
  rw [List.mem_flatMap]
  constructor
  · rintro ⟨a, ha, h⟩
    obtain ⟨b, hb, h⟩ := List.mem_flatMap.mp h
    split at h
    · obtain ⟨c, hc, h⟩ := List.mem_flatMap.mp h
      obtain ⟨t, ht, hp, rfl⟩ := flt_mem.mp h
      exact ⟨a, b, c, t, (nL_mem hd).mp ha, (nL_mem hd).mp hb, (nL_mem hd).mp hc, by simp at ht; exact ht.symm, hp, rfl⟩
    · cases h
  · rintro ⟨a, b, c, t, ha, hb, hc, ht, hp, rfl⟩
    refine ⟨a, (nL_mem hd).mpr ha, List.mem_flatMap.mpr ⟨b, (nL_mem hd).mpr hb, ?_⟩⟩
    have hr := (slB_sb E ht hp).2.2.2
    have hs : sbB E (a, 0) (b, 0) = true := by
      unfold sbB
      unfold rbB at hr
      rw [Bool.or_eq_true]
      split at hr
      · exact .inl hr
      · exact .inr hr
    rw [if_pos hs]
    exact List.mem_flatMap.mpr ⟨c, (nL_mem hd).mpr hc, flt_mem.mpr ⟨t, by rcases ht with rfl | rfl <;> simp, hp, rfl⟩⟩
theorem mem_sP (hd : Dr E) {m : Lm} : m ∈ sP E ↔ SlFit E m := by
  unfold sP
  rw [List.mem_flatMap]
  constructor
  · rintro ⟨n, hn, h⟩
    have nn := (nL_mem hd).mp hn
    split at h
    · rename_i h2
      have nb := (nx_name hd nn h2).1
      rcases List.mem_append.mp h with h | h
      · obtain ⟨c, hc, hp, rfl⟩ := flt_mem.mp h
        exact ⟨_, _, c, 1, nn, nb, (nL_mem hd).mp hc, .inl rfl, hp, rfl⟩
      · obtain ⟨c, hc, hp, rfl⟩ := flt_mem.mp h
        exact ⟨_, _, c, -1, nb, nn, (nL_mem hd).mp hc, .inr rfl, hp, rfl⟩
    · cases h
  · rintro ⟨a, b, c, t, ha, hb, hc, ht, hp, rfl⟩
    have hr := (slB_sb E ht hp).2.2.2
    unfold rbB at hr
    rcases ht with rfl | rfl
    · rw [if_pos rfl, decide_eq_true_eq] at hr
      refine ⟨a, (nL_mem hd).mpr ha, ?_⟩
      rw [hr, if_pos rfl]
      exact List.mem_append.mpr (.inl (flt_mem.mpr ⟨c, (nL_mem hd).mpr hc, hp, rfl⟩))
    · rw [if_neg (by decide), decide_eq_true_eq] at hr
      refine ⟨b, (nL_mem hd).mpr hb, ?_⟩
      rw [hr, if_pos rfl]
      exact List.mem_append.mpr (.inr (flt_mem.mpr ⟨c, (nL_mem hd).mpr hc, hp, rfl⟩))
/-! rising -/
theorem pw_flatMap {α β : Type} {R : β → β → Prop} {S : α → α → Prop} {f : α → List β} : ∀ {xs : List α}, xs.Pairwise S → (∀ a ∈ xs, (f a).Pairwise R) → (∀ a b, S a b → ∀ x ∈ f a, ∀ y ∈ f b, R x y) → (xs.flatMap f).Pairwise R
  | [], _, _, _ => List.Pairwise.nil
  | x :: xs, h, h1, h2 => by
    rw [List.pairwise_cons] at h
    rw [List.flatMap_cons, List.pairwise_append]
    refine ⟨h1 x List.mem_cons_self, pw_flatMap h.2 (fun a ha => h1 a (List.mem_cons_of_mem _ ha)) h2, fun u hu v hv => ?_⟩
    obtain ⟨b, hb, hv⟩ := List.mem_flatMap.mp hv
    exact h2 x b (h.1 b hb) u hu v hv
theorem pw_flt {α β : Type} {R : β → β → Prop} {S : α → α → Prop} {p : α → Bool} {f : α → β} {xs : List α} (h : xs.Pairwise S) (h2 : ∀ a b, S a b → R (f a) (f b)) : (flt p f xs).Pairwise R := by
  refine pw_flatMap h (fun a _ => ?_) (fun a b hs x hx y hy => ?_)
  · split
    · exact List.pairwise_singleton _ _
    · exact List.Pairwise.nil
  · split at hx
    · split at hy
      · rw [List.mem_singleton.mp hx, List.mem_singleton.mp hy]; exact h2 a b hs
      · cases hy
    · cases hx
theorem ltI {a b : Int} (h : a < b) : (Dat.lt a b : Bool) = true := decide_eq_true h
theorem lm_lt {w : Wd3} {xs ys : List Int} (h : listLt (Dat.lt (α := Int)) xs ys = true) : (Dat.lt (⟨w, xs⟩ : Lm) ⟨w, ys⟩ : Bool) = true := by
  show (if w = w then listLt Dat.lt xs ys else _) = true
  rw [if_pos rfl]; exact h
theorem lm_ltw {w v : Wd3} {xs ys : List Int} (h : (Dat.lt w v : Bool) = true) (hn : w ≠ v) : (Dat.lt (⟨w, xs⟩ : Lm) ⟨v, ys⟩ : Bool) = true := by
  show (if w = v then listLt Dat.lt xs ys else Dat.lt w v) = true
  rw [if_neg hn]; exact h
theorem ll_hd {a b : Int} {xs ys : List Int} (h : a < b) : listLt (Dat.lt (α := Int)) (a :: xs) (b :: ys) = true := by
  show (if a = b then _ else Dat.lt a b) = true
  rw [if_neg (by omega)]; exact ltI h
theorem ll_tl {a : Int} {xs ys : List Int} (h : listLt (Dat.lt (α := Int)) xs ys = true) : listLt (Dat.lt (α := Int)) (a :: xs) (a :: ys) = true := by
  show (if a = a then _ else Dat.lt a a) = true
  rw [if_pos rfl]; exact h
theorem uL_pw (E : Drw) : (uL E).Pairwise fun a b => (Dat.lt a b : Bool) = true := pw_flt (nL_pw E) fun a b h => lm_lt (ll_hd h)
theorem pW_pw (E : Drw) : (pW E).Pairwise fun a b => (Dat.lt a b : Bool) = true := pw_flatMap (nL_pw E) (fun a _ => pw_flt (nL_pw E) fun b c h => lm_lt (ll_tl (ll_hd h))) fun a b h x hx y hy => by
  obtain ⟨_, _, _, rfl⟩ := flt_mem.mp hx
  obtain ⟨_, _, _, rfl⟩ := flt_mem.mp hy
  exact lm_lt (ll_hd h)
theorem sW_pw (E : Drw) : (sW E).Pairwise fun a b => (Dat.lt a b : Bool) = true := by
  refine pw_flatMap (nL_pw E) (fun a _ => pw_flatMap (nL_pw E) (fun b _ => ?_) fun b b' h x hx y hy => ?_) fun a a' h x hx y hy => ?_
  · split
    · refine pw_flatMap (nL_pw E) (fun c _ => pw_flt (S := (· < ·)) (by simp) fun t t' h => lm_lt (ll_tl (ll_tl (ll_tl (ll_hd h))))) fun c c' h x hx y hy => ?_
      obtain ⟨_, _, _, rfl⟩ := flt_mem.mp hx
      obtain ⟨_, _, _, rfl⟩ := flt_mem.mp hy
      exact lm_lt (ll_tl (ll_tl (ll_hd h)))
    · exact List.Pairwise.nil
  · split at hx
    · split at hy
      · obtain ⟨_, _, hx⟩ := List.mem_flatMap.mp hx
        obtain ⟨_, _, hy⟩ := List.mem_flatMap.mp hy
        obtain ⟨_, _, _, rfl⟩ := flt_mem.mp hx
        obtain ⟨_, _, _, rfl⟩ := flt_mem.mp hy
        exact lm_lt (ll_tl (ll_hd h))
      · cases hy
    · cases hx
  · obtain ⟨_, _, hx⟩ := List.mem_flatMap.mp hx
    obtain ⟨_, _, hy⟩ := List.mem_flatMap.mp hy
    split at hx
    · split at hy
      · obtain ⟨_, _, hx⟩ := List.mem_flatMap.mp hx
        obtain ⟨_, _, hy⟩ := List.mem_flatMap.mp hy
        obtain ⟨_, _, _, rfl⟩ := flt_mem.mp hx
        obtain ⟨_, _, _, rfl⟩ := flt_mem.mp hy
        exact lm_lt (ll_hd h)
      · cases hy
    · cases hx
theorem due_pw (hd : Dr E) : (dueL E).Pairwise fun a b => (Dat.lt a b : Bool) = true := by
  unfold dueL
  rw [List.pairwise_append, List.pairwise_append]
  refine ⟨⟨pW_pw E, sW_pw E, fun x hx y hy => ?_⟩, uL_pw E, fun x hx y hy => ?_⟩
  · obtain ⟨_, _, _, _, _, _, rfl⟩ := (mem_pW hd).mp hx
    obtain ⟨_, _, _, _, _, _, _, _, _, rfl⟩ := (mem_sW hd).mp hy
    exact lm_ltw (by decide) (by decide)
  · obtain ⟨_, _, _, rfl⟩ := (mem_uL hd).mp hy
    rcases List.mem_append.mp hx with hx | hx
    · obtain ⟨_, _, _, _, _, _, rfl⟩ := (mem_pW hd).mp hx
      exact lm_ltw (by decide) (by decide)
    · obtain ⟨_, _, _, _, _, _, _, _, _, rfl⟩ := (mem_sW hd).mp hx
      exact lm_ltw (by decide) (by decide)
theorem nd_of_pw {xs : List Lm} (h : xs.Pairwise fun a b => (Dat.lt a b : Bool) = true) : xs.Nodup := h.imp fun {a b} h e => by
  subst e
  rw [Dat.irr] at h; cases h
theorem pP_nd (E : Drw) : (pP E).Nodup := by
  refine pw_flatMap (S := fun x y : Int × Nat => x.1 < y.1) ?_ (fun x _ => pw_flt ((nL_pw E).sublist (List.drop_sublist _ _)) fun b c h e => ?_) fun x y h u hu v hv e => ?_
  · have h := nL_pw E
    rw [List.pairwise_iff_getElem] at h ⊢
    intro i j hi hj hij
    rw [List.getElem_zipIdx, List.getElem_zipIdx]
    exact h i j (by rw [List.length_zipIdx] at hi; exact hi) (by rw [List.length_zipIdx] at hj; exact hj) hij
  · have := congrArg Lm.xs e
    simp at this
    omega
  · obtain ⟨_, _, _, rfl⟩ := flt_mem.mp hu
    obtain ⟨_, _, _, rfl⟩ := flt_mem.mp hv
    have := congrArg Lm.xs e
    simp at this
    omega
theorem sP_nd (E : Drw) : (sP E).Nodup := by
  have on : ∀ a b t, (sOn E a b t).Nodup := fun a b t => pw_flt (nL_pw E) fun c d h e => by
    have := congrArg Lm.xs e
    simp at this
    omega
  refine pw_flatMap (nL_pw E) (fun n _ => ?_) fun n n' h u hu v hv e => ?_
  · split
    · rw [List.pairwise_append]
      refine ⟨on _ _ _, on _ _ _, fun u hu v hv e => ?_⟩
      obtain ⟨_, _, _, rfl⟩ := flt_mem.mp hu
      obtain ⟨_, _, _, rfl⟩ := flt_mem.mp hv
      have := congrArg Lm.xs e
      simp at this
    · exact List.Pairwise.nil
  · split at hu
    · split at hv
      · rcases List.mem_append.mp hu with hu | hu <;> rcases List.mem_append.mp hv with hv | hv <;> obtain ⟨_, _, _, rfl⟩ := flt_mem.mp hu <;> obtain ⟨_, _, _, rfl⟩ := flt_mem.mp hv <;> have := congrArg Lm.xs e <;> simp at this <;> omega
      · cases hv
    · cases hu
theorem due_perm (hd : Dr E) : (uL E ++ pP E ++ sP E).Perm (dueL E) := by
  have h1 : (pP E).Perm (pW E) := (List.perm_ext_iff_of_nodup (pP_nd E) (nd_of_pw (pW_pw E))).mpr fun m => (mem_pP hd).trans (mem_pW hd).symm
  have h2 : (sP E).Perm (sW E) := (List.perm_ext_iff_of_nodup (sP_nd E) (nd_of_pw (sW_pw E))).mpr fun m => (mem_sP hd).trans (mem_sW hd).symm
  unfold dueL
  refine ((h1.append_left _).append h2).trans ?_
  rw [List.append_assoc]
  exact List.perm_append_comm
theorem due_sorted (hd : Dr E) : sorted (uL E ++ pP E ++ sP E) = dueL E := sorted_eq (due_perm hd) ((due_pw hd).imp fun h => Dat.asy _ _ h)
end

/-! ### which moves fit, walked -/
def encM (ms : List Lm) : D := .lst (ms.map lmE)
theorem encM_app (xs ys : List Lm) : encM (xs ++ ys) = .lst (xs.map lmE ++ ys.map lmE) := by unfold encM; simp
theorem immM (ms : List Lm) : immAll (ms.map lmE) = true := by
  rw [e_immAll_map, List.all_eq_true]
  intro m _
  show immAll _ = true
  rw [e_immAll_cons]
  simp
theorem immAtM (ms : List Lm) : immAt 1 (encM ms) = true := by
  show immAt 1 (.lst _) = true
  unfold immAt
  rw [immAtL0]; exact immM ms
section
variable {E : Drw}
theorem uncurlsof_is (hd : Dr E) (h12 : (hnds E).length ≤ 12) : F_uncurls_of [encK2 t2 (nxP E), .lst ((nL E).map D.int)] = .ok (encM (uL E)) := by
  have hl := nL_len E
  obtain ⟨N, hN⟩ : ∃ N, N = D.lst ((nL E).map D.int) := ⟨_, rfl⟩
  have hi : itemsL N = .ok ((nL E).map D.int) := by rw [hN]; rfl
  rw [← hN]
  have hlc := lc_run (t := tName 2) (mt := mTb (mCall 0 F_uncurls (mConsA (mVar 0) (mConsA (mVar 2) mNilA)))) (me := mImm (mTup (mConsE (mC (.str (Str.ofString "uncurl"))) [] (mConsE (mImm (mVar 2)) [] mNilA)))) (env := [some (0, encK2 t2 (nxP E)), some (0, N), none]) D.int (fun n => sbB E (n, 0) (n, 1)) (fun n => lmE ⟨.u, [n]⟩) (nL E) (fun n hn => by
    have hu := uncurls_is hd ((nL_mem hd).mp hn)
    have e : lmE ⟨.u, [n]⟩ = .tup [.str (Str.ofString "uncurl"), .int n] := rfl
    have hz2 : (2 : Nat) ≤ sizeLine := by decide
    refine ⟨[some (0, encK2 t2 (nxP E)), some (0, N), some (0, .int n)], rfl, ?_, fun _ => ?_⟩
    · generalize sbB E (n, 0) (n, 1) = B at *
      generalize encK2 t2 (nxP E) = K at *
      simp -implicitDefEqProofs [hu]
    · rw [e]
      generalize encK2 t2 (nxP E) = K at *
      simp -implicitDefEqProofs [hz2])
  have eU : encM (uL E) = .lst (((nL E).filter fun n => sbB E (n, 0) (n, 1)).map fun n => lmE ⟨.u, [n]⟩) := by
    unfold encM uL
    rw [flt_eq, List.map_map]; rfl
  have hz : (((nL E).filter fun n => sbB E (n, 0) (n, 1)).map fun n => lmE ⟨.u, [n]⟩).length ≤ sizeLine := sizeLine_big (by
    rw [List.length_map]
    have := List.length_filter_le (fun n => sbB E (n, 0) (n, 1)) (nL E)
    omega)
  have i1 := immAtM (uL E)
  rw [eU] at i1 ⊢
  generalize (((nL E).filter fun n => sbB E (n, 0) (n, 1)).map fun n => lmE ⟨.u, [n]⟩) = R at *
  generalize encK2 t2 (nxP E) = K at *
  generalize (nL E).map D.int = NL at *
  simp only [F_uncurls_of, m_uncurls_of, runD]
  simp -implicitDefEqProofs [e_mLc, hi, hlc, hz]
theorem partsof_is (hd : Dr E) (h12 : (hnds E).length ≤ 12) : F_parts_of [encK2 t2 (nxP E), encK D.int (hnds E), .lst ((nL E).map D.int)] = .ok (encM (pP E)) := by
  have hl := nL_len E
  obtain ⟨N, hN⟩ : ∃ N, N = D.lst ((nL E).map D.int) := ⟨_, rfl⟩
  have hi : itemsL N = .ok ((nL E).map D.int) := by rw [hN]; rfl
  have hin : immAll ((nL E).map D.int) = true := by simp
  rw [← hN]
  obtain ⟨K, hK⟩ : ∃ K, K = encK2 t2 (nxP E) := ⟨_, rfl⟩
  obtain ⟨H, hH⟩ : ∃ H, H = encK D.int (hnds E) := ⟨_, rfl⟩
  have hpt : ∀ a b : Int, a ∈ nL E → b ∈ nL E → F_parts [K, H, .int a, .int b] = .ok (.bl (ptB E a b)) := fun a b ha hb => by
    rw [hK, hH]
    exact parts_is hd ((nL_mem hd).mp ha) ((nL_mem hd).mp hb)
  rw [← hK, ← hH]
  have hz3 : (3 : Nat) ≤ sizeLine := by decide
  refine Tells.eq ?_
  simp only [F_parts_of, m_parts_of, runD]
  refine t_seq (e := [some (0, K), some (0, H), some (0, N), some (1, encM []), none, none, none]) (by simp -implicitDefEqProofs [encM]) ?_
  refine t_seq (e := [some (0, K), some (0, H), some (0, N), some (1, encM (pP E)), none, none, none]) (by
    refine for_appF (fun q : List Lm => [some (0, K), some (0, H), some (0, N), some (1, encM q), none, none, none]) (fun x : Int × Nat => D.tup [.int (x.2 : Nat), .int x.1]) (fun x => flt (fun s => ptB E x.1 s) (fun s => ⟨.p, [x.1, s]⟩) ((nL E).drop (x.2 + 1))) 12 1000 (nL E).zipIdx [] ?_ rfl rfl (fun x _ => by
        have := flt_len (fun s => ptB E x.1 s) (fun s => (⟨.p, [x.1, s]⟩ : Lm)) ((nL E).drop (x.2 + 1))
        rw [List.length_drop] at this
        omega) (by rw [List.length_zipIdx, List.length_nil]; omega) ?_
    · generalize encM [] = M0 at *
      have := enumD_map D.int (nL E) 0
      rw [← this]
      generalize (nL E).map D.int = NL at *
      simp -implicitDefEqProofs [hi]
    · rintro ⟨a, i⟩ hx acc hacc
      have hai := List.mem_zipIdx_iff_getElem?.mp hx
      have ha := List.mem_of_getElem? hai
      have hil := (List.getElem?_eq_some_iff.mp hai).1
      have hc := cutD_from D.int (nL E) (i + 1) (by dsimp only at hil; omega)
      refine step_of (e1 := [some (0, K), some (0, H), some (0, N), some (1, encM acc), some (0, .int (i : Nat)), some (0, .int a), none]) (e2 := [some (0, K), some (0, H), some (0, N), some (1, encM (acc ++ flt (fun s => ptB E a s) (fun s => ⟨.p, [a, s]⟩) ((nL E).drop (i + 1)))), some (0, .int (i : Nat)), some (0, .int a), none]) rfl ?_ rfl
      refine for_appF (fun q : List Lm => [some (0, K), some (0, H), some (0, N), some (1, encM q), some (0, .int (i : Nat)), some (0, .int a), none]) D.int (fun s => if ptB E a s then [⟨.p, [a, s]⟩] else []) 1 2000 ((nL E).drop (i + 1)) acc ?_ rfl rfl (fun s _ => by split <;> simp) (by rw [List.length_drop]; omega) ?_
      · rw [show ((i + 1 : Nat) : Int) = (i : Int) + 1 by omega] at hc
        generalize ((nL E).drop (i + 1)).map D.int = DL at *
        generalize (nL E).map D.int = NL at *
        generalize encM acc = M0 at *
        simp -implicitDefEqProofs [hi, immL, hin, mSlice, hc]
      · intro s hs q hq
        have hp := hpt a s ha (List.mem_of_mem_drop hs)
        have e1 : lmE ⟨.p, [a, s]⟩ = .tup [.str (Str.ofString "part"), .int a, .int s] := rfl
        have e5 : encM (q ++ [⟨.p, [a, s]⟩]) = .lst (q.map lmE ++ [lmE ⟨.p, [a, s]⟩]) := encM_app _ _
        have e6 : encM q = .lst (q.map lmE) := rfl
        have hzq : (q.map lmE).length < sizeLine := sizeLine_lt (by rw [List.length_map]; omega)
        show (tName 6 0 (.int s) [some (0, K), some (0, H), some (0, N), some (1, encM q), some (0, .int (i : Nat)), some (0, .int a), none] >>= fun e => _) = .ok [some (0, K), some (0, H), some (0, N), some (1, encM (q ++ if ptB E a s = true then [⟨.p, [a, s]⟩] else [])), some (0, .int (i : Nat)), some (0, .int a), none]
        cases hb : ptB E a s with
        | true =>
          rw [hb] at hp
          rw [if_pos rfl, e5, e6, e1]
          generalize q.map lmE = QL at *
          simp -implicitDefEqProofs [hp, hz3, hzq]
        | false =>
          rw [hb] at hp
          rw [if_neg (by decide), List.append_nil]
          generalize encM q = QL at *
          simp -implicitDefEqProofs [hp]) ?_
  refine Tells.eqI ?_
  have i1 := immAtM (pP E)
  generalize encM (pP E) = Q at *
  simp -implicitDefEqProofs [i1]
theorem slideson_is (hd : Dr E) (h12 : (hnds E).length ≤ 12) {a b t : Int} (na : Nm E a) (nb : Nm E b) (ht : t = 1 ∨ t = -1) : F_slides_on [encK2 t2 (nxP E), encK D.int (hnds E), .tup [.int a, .int b], .int t] = .ok (encM (sOn E a b t)) := by
  have hl := nL_len E
  have hg := gsD_is E (by omega)
  obtain ⟨K, hK⟩ : ∃ K, K = encK2 t2 (nxP E) := ⟨_, rfl⟩
  obtain ⟨H, hH⟩ : ∃ H, H = encK D.int (hnds E) := ⟨_, rfl⟩
  have hs : ∀ c : Int, c ∈ nL E → F_slides [K, H, .lst [.int a, .int b, .int c], .int t] = .ok (.bl (slB E a b c t)) := fun c hc => by
    rw [hK, hH]
    exact slides_is hd na nb ((nL_mem hd).mp hc) ht
  rw [← hH] at hg
  rw [← hK, ← hH]
  have hz3 : (3 : Nat) ≤ sizeLine := by decide
  have hz5 : (5 : Nat) ≤ sizeLine := by decide
  obtain ⟨P, hP⟩ : ∃ P, P = D.tup [.int a, .int b] := ⟨_, rfl⟩
  have x0 : gIx P (.int 0) = .ok (.int a) := by rw [hP]; rfl
  have x1 : gIx P (.int 1) = .ok (.int b) := by rw [hP]; rfl
  rw [← hP]
  refine Tells.eq ?_
  simp only [F_slides_on, m_slides_on, runD]
  refine t_seq (e := [some (0, K), some (0, H), some (0, P), some (0, .int t), some (1, encM []), none]) (by simp -implicitDefEqProofs [encM]) ?_
  refine t_seq (e := [some (0, K), some (0, H), some (0, P), some (0, .int t), some (1, encM (sOn E a b t)), none]) (by
    refine for_appF (fun q : List Lm => [some (0, K), some (0, H), some (0, P), some (0, .int t), some (1, encM q), none]) D.int (fun c => if slB E a b c t then [⟨.s, [a, b, c, t]⟩] else []) 1 2000 (nL E) [] ?_ rfl rfl (fun s _ => by split <;> simp) (by rw [List.length_nil]; omega) ?_
    · generalize (nL E).map D.int = NL at *
      generalize encM [] = M0 at *
      simp -implicitDefEqProofs [hg]
    · intro c hc q hq
      have hp := hs c hc
      have e1 : lmE ⟨.s, [a, b, c, t]⟩ = .tup [.str (Str.ofString "slide"), .int a, .int b, .int c, .int t] := rfl
      have e5 : encM (q ++ [⟨.s, [a, b, c, t]⟩]) = .lst (q.map lmE ++ [lmE ⟨.s, [a, b, c, t]⟩]) := encM_app _ _
      have e6 : encM q = .lst (q.map lmE) := rfl
      have hzq : (q.map lmE).length < sizeLine := sizeLine_lt (by rw [List.length_map]; omega)
      show (tName 5 0 (.int c) [some (0, K), some (0, H), some (0, P), some (0, .int t), some (1, encM q), none] >>= fun e => _) = .ok [some (0, K), some (0, H), some (0, P), some (0, .int t), some (1, encM (q ++ if slB E a b c t = true then [⟨.s, [a, b, c, t]⟩] else [])), none]
      cases hb : slB E a b c t with
      | true =>
        rw [hb] at hp
        rw [if_pos rfl, e5, e6, e1]
        generalize q.map lmE = QL at *
        simp -implicitDefEqProofs [hp, x0, x1, hz3, hz5, hzq]
      | false =>
        rw [hb] at hp
        rw [if_neg (by decide), List.append_nil]
        generalize encM q = QL at *
        simp -implicitDefEqProofs [hp, x0, x1, hz3]) ?_
  refine Tells.eqI ?_
  have i1 := immAtM (sOn E a b t)
  generalize encM (sOn E a b t) = Q at *
  simp -implicitDefEqProofs [i1]
theorem sOn_len (E : Drw) (a b t : Int) : (sOn E a b t).length ≤ (nL E).length := flt_len _ _ _
theorem slidesof_is (hd : Dr E) (h12 : (hnds E).length ≤ 12) : F_slides_of [encK2 t2 (nxP E), encK D.int (hnds E), .lst ((nL E).map D.int)] = .ok (encM (sP E)) := by
  have hl := nL_len E
  obtain ⟨N, hN⟩ : ∃ N, N = D.lst ((nL E).map D.int) := ⟨_, rfl⟩
  have hi : itemsL N = .ok ((nL E).map D.int) := by rw [hN]; rfl
  rw [← hN]
  obtain ⟨K, hK⟩ : ∃ K, K = encK2 t2 (nxP E) := ⟨_, rfl⟩
  obtain ⟨H, hH⟩ : ∃ H, H = encK D.int (hnds E) := ⟨_, rfl⟩
  have hon : ∀ a b t : Int, Nm E a → Nm E b → (t = 1 ∨ t = -1) → F_slides_on [K, H, .tup [.int a, .int b], .int t] = .ok (encM (sOn E a b t)) := fun a b t na nb ht => by
    rw [hK, hH]
    exact slideson_is hd h12 na nb ht
  have hnx : ∀ a : Int, Nm E a → gDGet K (.tup [.int a, .int 0]) = .ok (t2 (nx E (a, 0))) := fun a na => by
    rw [hK]
    exact nxlk_is hd.vd.uk na.o
  rw [← hK, ← hH]
  have hz2 : (2 : Nat) ≤ sizeLine := by decide
  refine Tells.eq ?_
  simp only [F_slides_of, m_slides_of, runD]
  refine t_seq (e := [some (0, K), some (0, H), some (0, N), some (1, encM []), none, none]) (by simp -implicitDefEqProofs [encM]) ?_
  refine t_seq (e := [some (0, K), some (0, H), some (0, N), some (1, encM (sP E)), none, none]) (by
    refine for_appF (fun q : List Lm => [some (0, K), some (0, H), some (0, N), some (1, encM q), none, none]) D.int (fun n => if (nx E (n, 0)).2 = 0 then sOn E n (nx E (n, 0)).1 1 ++ sOn E (nx E (n, 0)).1 n (-1) else []) 24 2000 (nL E) [] ?_ rfl rfl (fun n _ => by
        split
        · have h1 := sOn_len E n (nx E (n, 0)).1 1
          have h2 := sOn_len E (nx E (n, 0)).1 n (-1)
          rw [List.length_append]; omega
        · simp) (by rw [List.length_nil]; omega) ?_
    · generalize (nL E).map D.int = NL at *
      generalize encM [] = M0 at *
      simp -implicitDefEqProofs [hi]
    · intro n hn q hq
      have nn := (nL_mem hd).mp hn
      have hx := hnx n nn
      have x0 : gIx (t2 (nx E (n, 0))) (.int 0) = .ok (.int (nx E (n, 0)).1) := rfl
      have x1 : gIx (t2 (nx E (n, 0))) (.int 1) = .ok (.int (nx E (n, 0)).2) := rfl
      have jx : (t2 (nx E (n, 0))).imm = true := rfl
      have qe := gEq_i (nx E (n, 0)).2 0
      have gn1 : gNeg (.int 1) = .ok (.int (-1)) := rfl
      show (tName 4 0 (.int n) [some (0, K), some (0, H), some (0, N), some (1, encM q), none, none] >>= fun e => _) = .ok [some (0, K), some (0, H), some (0, N), some (1, encM (q ++ if (nx E (n, 0)).2 = 0 then sOn E n (nx E (n, 0)).1 1 ++ sOn E (nx E (n, 0)).1 n (-1) else [])), none, none]
      by_cases h2 : (nx E (n, 0)).2 = 0
      · have nb := (nx_name hd nn h2).1
        have o1 := hon n (nx E (n, 0)).1 1 nn nb (.inl rfl)
        have o2 := hon (nx E (n, 0)).1 n (-1) nb nn (.inr rfl)
        have l1 := sOn_len E n (nx E (n, 0)).1 1
        have l2 := sOn_len E (nx E (n, 0)).1 n (-1)
        rw [if_pos h2]
        rw [decide_eq_true h2] at qe
        generalize sOn E n (nx E (n, 0)).1 1 = S1 at *
        generalize sOn E (nx E (n, 0)).1 n (-1) = S2 at *
        have e1 : encM (q ++ (S1 ++ S2)) = .lst ((q.map lmE ++ S1.map lmE) ++ S2.map lmE) := by unfold encM; simp
        have e2 : encM q = .lst (q.map lmE) := rfl
        have e3 : encM S1 = .lst (S1.map lmE) := rfl
        have e4 : encM S2 = .lst (S2.map lmE) := rfl
        have i1 := immM S1
        have i2 := immM S2
        have j1 := immAtM S1
        have j2 := immAtM S2
        have z1 : (q.map lmE).length + (S1.map lmE).length ≤ sizeLine := sizeLine_big (by rw [List.length_map, List.length_map]; omega)
        have z2 : ((q.map lmE) ++ (S1.map lmE)).length + (S2.map lmE).length ≤ sizeLine := sizeLine_big (by rw [List.length_append, List.length_map, List.length_map, List.length_map]; omega)
        rw [e1, e2]
        rw [e3] at o1 j1
        rw [e4] at o2 j2
        generalize q.map lmE = QL at *
        generalize S1.map lmE = L1 at *
        generalize S2.map lmE = L2 at *
        generalize t2 (nx E (n, 0)) = TX at *
        generalize (nx E (n, 0)).1 = B at *
        generalize (nx E (n, 0)).2 = B2 at *
        have z2' : QL.length + L1.length + L2.length ≤ sizeLine := by rw [List.length_append] at z2; exact z2
        simp -implicitDefEqProofs [hx, jx, x0, x1, qe, o1, o2, j1, j2, immL, i1, i2, mExtend, z1, z2', gn1, hz2, -e_gEq_int]
      · rw [if_neg h2, List.append_nil]
        rw [decide_eq_false h2] at qe
        generalize encM q = QL at *
        generalize t2 (nx E (n, 0)) = TX at *
        generalize (nx E (n, 0)).1 = B at *
        generalize (nx E (n, 0)).2 = B2 at *
        simp -implicitDefEqProofs [hx, jx, x0, x1, qe, hz2, -e_gEq_int]) ?_
  refine Tells.eqI ?_
  have i1 := immAtM (sP E)
  generalize encM (sP E) = Q at *
  simp -implicitDefEqProofs [i1]
theorem sP_len (E : Drw) (h : (nL E).length ≤ 12) : (sP E).length ≤ 288 := by
  have : ∀ xs : List Int, (xs.flatMap fun n => if (nx E (n, 0)).2 = 0 then sOn E n (nx E (n, 0)).1 1 ++ sOn E (nx E (n, 0)).1 n (-1) else []).length ≤ xs.length * 24 := fun xs => by
    induction xs with
    | nil => simp
    | cons n xs ih =>
      rw [List.flatMap_cons, List.length_append, List.length_cons, Nat.add_mul]
      have h1 := sOn_len E n (nx E (n, 0)).1 1
      have h2 := sOn_len E (nx E (n, 0)).1 n (-1)
      split
      · rw [List.length_append]; omega
      · rw [List.length_nil]; omega
  have := this (nL E)
  show (sP E).length ≤ 288
  unfold sP
  omega
theorem pP_len (E : Drw) (h : (nL E).length ≤ 12) : (pP E).length ≤ 144 := by
  have : ∀ xs : List (Int × Nat), (xs.flatMap fun x => flt (fun s => ptB E x.1 s) (fun s => (⟨.p, [x.1, s]⟩ : Lm)) ((nL E).drop (x.2 + 1))).length ≤ xs.length * 12 := fun xs => by
    induction xs with
    | nil => simp
    | cons x xs ih =>
      rw [List.flatMap_cons, List.length_append, List.length_cons, Nat.add_mul]
      have h1 := flt_len (fun s => ptB E x.1 s) (fun s => (⟨.p, [x.1, s]⟩ : Lm)) ((nL E).drop (x.2 + 1))
      rw [List.length_drop] at h1
      omega
  have := this (nL E).zipIdx
  rw [List.length_zipIdx] at this
  unfold pP
  omega
theorem uL_len (E : Drw) : (uL E).length ≤ (nL E).length := flt_len _ _ _
theorem lessening_is (hd : Dr E) (h12 : (hnds E).length ≤ 12) : F_lessening [encD E] = .ok (encM (dueL E)) := by
  have hfl := hd.vd.sz.fl
  have hl := nL_len E
  have hnx := next_is E (by omega)
  have hha := hands_is E (by omega)
  rw [encP_K] at hha
  have hnm := names_is E (by omega) (by omega)
  have hnm' : F_names_of [encD E] = .ok (.lst ((nL E).map D.int)) := hnm
  have j1 : immAt 1 (encK2 t2 (nxP E)) = true := immAt_K2 t2 (fun _ => rfl) _
  have j2 : immAt 1 (encK D.int (hnds E)) = true := immAt_K D.int (fun _ => rfl) _
  have j3 : immAt 1 (.lst ((nL E).map D.int)) = true := by simp
  have hu := uncurlsof_is hd h12
  have hp := partsof_is hd h12
  have hs := slidesof_is hd h12
  have hso := gSort_Lm (uL E ++ pP E ++ sP E)
  rw [due_sorted hd, List.map_append, List.map_append] at hso
  have b1 := uL_len E
  have b2 := pP_len E (by omega)
  have b3 := sP_len E (by omega)
  have eU : encM (uL E) = .lst ((uL E).map lmE) := rfl
  have eP : encM (pP E) = .lst ((pP E).map lmE) := rfl
  have eS : encM (sP E) = .lst ((sP E).map lmE) := rfl
  have eD : encM (dueL E) = .lst ((dueL E).map lmE) := rfl
  have i1 := immM (uL E)
  have i2 := immM (pP E)
  have i3 := immM (sP E)
  have k1 := immAtM (uL E)
  have k2' := immAtM (pP E)
  have k3 := immAtM (sP E)
  have k4 := immAtM (dueL E)
  have i12 : immAll ((uL E).map lmE ++ (pP E).map lmE) = true := by
    have := immM (uL E ++ pP E)
    rw [List.map_append] at this
    exact this
  have i123 : immAll ((uL E).map lmE ++ (pP E).map lmE ++ (sP E).map lmE) = true := by
    have := immM (uL E ++ pP E ++ sP E)
    rw [List.map_append, List.map_append] at this
    exact this
  have z1 : ((uL E).map lmE).length + ((pP E).map lmE).length ≤ sizeLine := sizeLine_big (by rw [List.length_map, List.length_map]; omega)
  have z2 : ((uL E).map lmE).length + ((pP E).map lmE).length + ((sP E).map lmE).length ≤ sizeLine := sizeLine_big (by rw [List.length_map, List.length_map, List.length_map]; omega)
  rw [eU] at hu k1
  rw [eP] at hp k2'
  rw [eS] at hs k3
  rw [eD] at k4 ⊢
  generalize (uL E).map lmE = U at *
  generalize (pP E).map lmE = P at *
  generalize (sP E).map lmE = S at *
  generalize (dueL E).map lmE = DU at *
  generalize encK2 t2 (nxP E) = K at *
  generalize encK D.int (hnds E) = H at *
  generalize (nL E).map D.int = NL at *
  generalize encD E = EE at *
  refine Tells.eq ?_
  simp only [F_lessening, m_lessening, runD]
  refine t_seq (e := [some (0, EE), some (1, K), none, none, none]) (by simp -implicitDefEqProofs [hnx, j1]) ?_
  refine t_seq (e := [some (0, EE), some (1, K), some (1, H), none, none]) (by simp -implicitDefEqProofs [hha, j2]) ?_
  refine t_seq (e := [some (0, EE), some (1, K), some (1, H), some (1, .lst NL), none]) (by simp -implicitDefEqProofs [hnm', j3]) ?_
  refine t_seq (e := [some (0, EE), some (1, K), some (1, H), some (1, .lst NL), some (1, .lst (U ++ P))]) (by simp -implicitDefEqProofs [hu, hp, k1, k2', mCat, immL, i1, i2, z1]) ?_
  refine Tells.eqI ?_
  simp -implicitDefEqProofs [hs, k3, k4, mCat, immL, i12, i3, z2, i123, hso, -List.append_assoc]
end

/-! ### which moves fit, as the law goes -/
section
variable {E : Drw}
theorem lpairsof_is (hd : Dr E) (h12 : (hnds E).length ≤ 12) : F__law_pairs_of [encK2 t2 (nxP E), encK D.int (hnds E)] = .ok (encM (pW E)) := by
  have hl := nL_len E
  have hg := gsD_is E (by omega)
  obtain ⟨K, hK⟩ : ∃ K, K = encK2 t2 (nxP E) := ⟨_, rfl⟩
  obtain ⟨H, hH⟩ : ∃ H, H = encK D.int (hnds E) := ⟨_, rfl⟩
  have hpt : ∀ a b : Int, a ∈ nL E → b ∈ nL E → F__law_parts [K, H, .tup [.str (Str.ofString "part"), .int a, .int b]] = .ok (.bl (ptB E a b)) := fun a b ha hb => by
    rw [hK, hH]
    exact lparts_is hd ((nL_mem hd).mp ha) ((nL_mem hd).mp hb)
  rw [← hH] at hg
  rw [← hK, ← hH]
  have hz3 : (3 : Nat) ≤ sizeLine := by decide
  refine Tells.eq ?_
  simp only [F__law_pairs_of, m__law_pairs_of, runD]
  refine t_seq (e := [some (0, K), some (0, H), some (1, encM []), none, none]) (by simp -implicitDefEqProofs [encM]) ?_
  refine t_seq (e := [some (0, K), some (0, H), some (1, encM (pW E)), none, none]) (by
    refine for_appF (fun q : List Lm => [some (0, K), some (0, H), some (1, encM q), none, none]) D.int (fun a => flt (fun b => decide (a < b) && ptB E a b) (fun b => ⟨.p, [a, b]⟩) (nL E)) 12 1000 (nL E) [] ?_ rfl rfl (fun x _ => by
        have := flt_len (fun b => decide (x < b) && ptB E x b) (fun s => (⟨.p, [x, s]⟩ : Lm)) (nL E)
        omega) (by rw [List.length_nil]; omega) ?_
    · generalize (nL E).map D.int = NL at *
      generalize encM [] = M0 at *
      simp -implicitDefEqProofs [hg]
    · intro a ha acc hacc
      refine step_of (e1 := [some (0, K), some (0, H), some (1, encM acc), some (0, .int a), none]) (e2 := [some (0, K), some (0, H), some (1, encM (acc ++ flt (fun b => decide (a < b) && ptB E a b) (fun b => ⟨.p, [a, b]⟩) (nL E))), some (0, .int a), none]) rfl ?_ rfl
      refine for_appF (fun q : List Lm => [some (0, K), some (0, H), some (1, encM q), some (0, .int a), none]) D.int (fun b => if (decide (a < b) && ptB E a b) then [⟨.p, [a, b]⟩] else []) 1 2000 (nL E) acc ?_ rfl rfl (fun s _ => by split <;> simp) (by omega) ?_
      · generalize (nL E).map D.int = NL at *
        generalize encM acc = M0 at *
        simp -implicitDefEqProofs [hg]
      · intro b hb q hq
        have hp := hpt a b ha hb
        have e1 : lmE ⟨.p, [a, b]⟩ = .tup [.str (Str.ofString "part"), .int a, .int b] := rfl
        have e5 : encM (q ++ [⟨.p, [a, b]⟩]) = .lst (q.map lmE ++ [lmE ⟨.p, [a, b]⟩]) := encM_app _ _
        have e6 : encM q = .lst (q.map lmE) := rfl
        have hzq : (q.map lmE).length < sizeLine := sizeLine_lt (by rw [List.length_map]; omega)
        have gl : gLt (.int a) (.int b) = .ok (.bl (decide (a < b))) := rfl
        show (tName 4 0 (.int b) [some (0, K), some (0, H), some (1, encM q), some (0, .int a), none] >>= fun e => _) = .ok [some (0, K), some (0, H), some (1, encM (q ++ if (decide (a < b) && ptB E a b) = true then [⟨.p, [a, b]⟩] else [])), some (0, .int a), none]
        have key : encM (q ++ if (decide (a < b) && ptB E a b) = true then [⟨.p, [a, b]⟩] else []) = if decide (a < b) = true then (if ptB E a b = true then encM (q ++ [⟨.p, [a, b]⟩]) else encM q) else encM q := by
          cases decide (a < b) <;> cases ptB E a b <;> simp
        rw [key, e5, e6, e1]
        generalize decide (a < b) = B1 at *
        generalize ptB E a b = B2 at *
        generalize q.map lmE = QL at *
        cases B1
        · simp -implicitDefEqProofs [gl, -e_gLt]
        · cases B2 <;> simp -implicitDefEqProofs [gl, hp, hz3, hzq, -e_gLt]) ?_
  refine Tells.eqI ?_
  have i1 := immAtM (pW E)
  generalize encM (pW E) = Q at *
  simp -implicitDefEqProofs [i1]
theorem lslidesof_is (hd : Dr E) (h12 : (hnds E).length ≤ 12) : F__law_slides_of [encK2 t2 (nxP E), encK D.int (hnds E)] = .ok (encM (sW E)) := by
  have hl := nL_len E
  have hg := gsD_is E (by omega)
  obtain ⟨K, hK⟩ : ∃ K, K = encK2 t2 (nxP E) := ⟨_, rfl⟩
  obtain ⟨H, hH⟩ : ∃ H, H = encK D.int (hnds E) := ⟨_, rfl⟩
  have hsl : ∀ a b c t : Int, a ∈ nL E → b ∈ nL E → c ∈ nL E → (t = 1 ∨ t = -1) → F__law_slides [K, H, .tup [.str (Str.ofString "slide"), .int a, .int b, .int c, .int t]] = .ok (.bl (slB E a b c t)) := fun a b c t ha hb hc ht => by
    rw [hK, hH]
    exact lslides_is hd ((nL_mem hd).mp ha) ((nL_mem hd).mp hb) ((nL_mem hd).mp hc) ht
  have hbs : ∀ a b : Int, a ∈ nL E → b ∈ nL E → F__law_beside [K, .tup [.int a, .int 0], .tup [.int b, .int 0]] = .ok (.bl (sbB E (a, 0) (b, 0))) := fun a b ha hb => by
    rw [hK]
    exact (sb4 ((nL_mem hd).mp ha) ((nL_mem hd).mp hb) (F := F__law_beside) fun x y => lbs_is hd.vd.uk).1
  rw [← hH] at hg
  rw [← hK, ← hH]
  have hz2 : (2 : Nat) ≤ sizeLine := by decide
  have hz5 : (5 : Nat) ≤ sizeLine := by decide
  have gn1 : gNeg (.int 1) = .ok (.int (-1)) := rfl
  have inner : ∀ a b c : Int, (flt (fun t => slB E a b c t) (fun t => (⟨.s, [a, b, c, t]⟩ : Lm)) [-1, 1]).length ≤ 2 := fun a b c => flt_len _ _ _
  have mid : ∀ a b : Int, (if sbB E (a, 0) (b, 0) then (nL E).flatMap fun c => flt (fun t => slB E a b c t) (fun t => (⟨.s, [a, b, c, t]⟩ : Lm)) [-1, 1] else []).length ≤ 24 := fun a b => by
    have : ∀ xs : List Int, (xs.flatMap fun c => flt (fun t => slB E a b c t) (fun t => (⟨.s, [a, b, c, t]⟩ : Lm)) [-1, 1]).length ≤ xs.length * 2 := fun xs => by
      induction xs with
      | nil => simp
      | cons n xs ih =>
        rw [List.flatMap_cons, List.length_append, List.length_cons, Nat.add_mul]
        have := inner a b n
        omega
    split
    · have := this (nL E); omega
    · simp
  have outer : ∀ a : Int, ((nL E).flatMap fun b => if sbB E (a, 0) (b, 0) then (nL E).flatMap fun c => flt (fun t => slB E a b c t) (fun t => (⟨.s, [a, b, c, t]⟩ : Lm)) [-1, 1] else []).length ≤ 288 := fun a => by
    have : ∀ xs : List Int, (xs.flatMap fun b => if sbB E (a, 0) (b, 0) then (nL E).flatMap fun c => flt (fun t => slB E a b c t) (fun t => (⟨.s, [a, b, c, t]⟩ : Lm)) [-1, 1] else []).length ≤ xs.length * 24 := fun xs => by
      induction xs with
      | nil => simp
      | cons n xs ih =>
        rw [List.flatMap_cons, List.length_append, List.length_cons, Nat.add_mul]
        have := mid a n
        omega
    have := this (nL E); omega
  refine Tells.eq ?_
  simp only [F__law_slides_of, m__law_slides_of, runD]
  refine t_seq (e := [some (0, K), some (0, H), some (1, encM []), none, none, none, none]) (by simp -implicitDefEqProofs [encM]) ?_
  refine t_seq (e := [some (0, K), some (0, H), some (1, encM (sW E)), none, none, none, none]) (by
    refine for_appF (fun q : List Lm => [some (0, K), some (0, H), some (1, encM q), none, none, none, none]) D.int (fun a => (nL E).flatMap fun b => if sbB E (a, 0) (b, 0) then (nL E).flatMap fun c => flt (fun t => slB E a b c t) (fun t => ⟨.s, [a, b, c, t]⟩) [-1, 1] else []) 288 4000 (nL E) [] ?_ rfl rfl (fun a _ => outer a) (by rw [List.length_nil]; omega) ?_
    · generalize (nL E).map D.int = NL at *
      generalize encM [] = M0 at *
      simp -implicitDefEqProofs [hg]
    · intro a ha acc hacc
      refine step_of (e1 := [some (0, K), some (0, H), some (1, encM acc), some (0, .int a), none, none, none]) (e2 := [some (0, K), some (0, H), some (1, encM (acc ++ (nL E).flatMap fun b => if sbB E (a, 0) (b, 0) then (nL E).flatMap fun c => flt (fun t => slB E a b c t) (fun t => ⟨.s, [a, b, c, t]⟩) [-1, 1] else [])), some (0, .int a), none, none, none]) rfl ?_ rfl
      refine for_appF (fun q : List Lm => [some (0, K), some (0, H), some (1, encM q), some (0, .int a), none, none, none]) D.int (fun b => if sbB E (a, 0) (b, 0) then (nL E).flatMap fun c => flt (fun t => slB E a b c t) (fun t => ⟨.s, [a, b, c, t]⟩) [-1, 1] else []) 24 5000 (nL E) acc ?_ rfl rfl (fun b _ => mid a b) (by omega) ?_
      · generalize (nL E).map D.int = NL at *
        generalize encM acc = M0 at *
        simp -implicitDefEqProofs [hg]
      · intro b hb q hq
        have hp := hbs a b ha hb
        show (tName 4 0 (.int b) [some (0, K), some (0, H), some (1, encM q), some (0, .int a), none, none, none] >>= fun e => _) = .ok [some (0, K), some (0, H), some (1, encM (q ++ if sbB E (a, 0) (b, 0) = true then (nL E).flatMap fun c => flt (fun t => slB E a b c t) (fun t => ⟨.s, [a, b, c, t]⟩) [-1, 1] else [])), some (0, .int a), none, none, none]
        cases h1 : sbB E (a, 0) (b, 0) with
        | false =>
          rw [h1] at hp
          rw [if_neg (by simp), List.append_nil]
          generalize encM q = QL at *
          simp -implicitDefEqProofs [hp, hz2]
        | true =>
          rw [h1] at hp
          rw [if_pos rfl]
          refine step_of (e1 := [some (0, K), some (0, H), some (1, encM q), some (0, .int a), some (0, .int b), none, none]) (e2 := [some (0, K), some (0, H), some (1, encM (q ++ (nL E).flatMap fun c => flt (fun t => slB E a b c t) (fun t => ⟨.s, [a, b, c, t]⟩) [-1, 1])), some (0, .int a), some (0, .int b), none, none]) rfl ?_ rfl
          rw [t_ifT (by
            generalize encM q = QL at *
            simp -implicitDefEqProofs [hp, hz2])]
          refine for_appF (fun q : List Lm => [some (0, K), some (0, H), some (1, encM q), some (0, .int a), some (0, .int b), none, none]) D.int (fun c => flt (fun t => slB E a b c t) (fun t => ⟨.s, [a, b, c, t]⟩) [-1, 1]) 2 6000 (nL E) q ?_ rfl rfl (fun c _ => inner a b c) (by omega) ?_
          · generalize (nL E).map D.int = NL at *
            generalize encM q = M0 at *
            simp -implicitDefEqProofs [hg]
          · intro c hc q hq
            refine step_of (e1 := [some (0, K), some (0, H), some (1, encM q), some (0, .int a), some (0, .int b), some (0, .int c), none]) (e2 := [some (0, K), some (0, H), some (1, encM (q ++ flt (fun t => slB E a b c t) (fun t => ⟨.s, [a, b, c, t]⟩) [-1, 1])), some (0, .int a), some (0, .int b), some (0, .int c), none]) rfl ?_ rfl
            refine for_appF (fun q : List Lm => [some (0, K), some (0, H), some (1, encM q), some (0, .int a), some (0, .int b), some (0, .int c), none]) D.int (fun t => if slB E a b c t then [⟨.s, [a, b, c, t]⟩] else []) 1 7000 [-1, 1] q ?_ rfl rfl (fun c _ => by split <;> simp) (by show _ + 2 * 1 ≤ 7000; omega) ?_
            · have ei : [-1, 1].map D.int = [.int (-1), .int 1] := rfl
              rw [ei]
              generalize encM q = M0 at *
              simp -implicitDefEqProofs [gn1, hz2]
            · intro t ht q hq
              have ht' : t = 1 ∨ t = -1 := by
                have : t = -1 ∨ t = 1 := by simpa using ht
                exact this.symm
              have hp2 := hsl a b c t ha hb hc ht'
              have e1 : lmE ⟨.s, [a, b, c, t]⟩ = .tup [.str (Str.ofString "slide"), .int a, .int b, .int c, .int t] := rfl
              have e5 : encM (q ++ [⟨.s, [a, b, c, t]⟩]) = .lst (q.map lmE ++ [lmE ⟨.s, [a, b, c, t]⟩]) := encM_app _ _
              have e6 : encM q = .lst (q.map lmE) := rfl
              have hzq : (q.map lmE).length < sizeLine := sizeLine_lt (by rw [List.length_map]; omega)
              show (tName 6 0 (.int t) [some (0, K), some (0, H), some (1, encM q), some (0, .int a), some (0, .int b), some (0, .int c), none] >>= fun e => _) = .ok [some (0, K), some (0, H), some (1, encM (q ++ if slB E a b c t = true then [⟨.s, [a, b, c, t]⟩] else [])), some (0, .int a), some (0, .int b), some (0, .int c), none]
              cases h2 : slB E a b c t with
              | true =>
                rw [h2] at hp2
                rw [if_pos rfl, e5, e6, e1]
                generalize q.map lmE = QL at *
                simp -implicitDefEqProofs [hp2, hz5, hzq]
              | false =>
                rw [h2] at hp2
                rw [if_neg (by simp), List.append_nil]
                generalize encM q = QL at *
                simp -implicitDefEqProofs [hp2, hz5]) ?_
  refine Tells.eqI ?_
  have i1 := immAtM (sW E)
  generalize encM (sW E) = Q at *
  simp -implicitDefEqProofs [i1]
theorem due_len (hd : Dr E) (h12 : (hnds E).length ≤ 12) : (dueL E).length ≤ 500 := by
  have hl := nL_len E
  have b1 := uL_len E
  have b2 := pP_len E (by omega)
  have b3 := sP_len E (by omega)
  rw [← (due_perm hd).length_eq, List.length_append, List.length_append]
  omega
theorem llessening_is (hd : Dr E) (h12 : (hnds E).length ≤ 12) : F__law_lessening [encD E] = .ok (encM (dueL E)) := by
  have hfl := hd.vd.sz.fl
  have hl := nL_len E
  have hg := gsD_is E (by omega)
  have hnx := lnext_is hd.vd.sz
  have hha := lhands_is (E := E) (by omega)
  have j1 : immAt 1 (encK2 t2 (nxP E)) = true := immAt_K2 t2 (fun _ => rfl) _
  have j2 : immAt 1 (encK D.int (hnds E)) = true := immAt_K D.int (fun _ => rfl) _
  have hp := lpairsof_is hd h12
  have hs := lslidesof_is hd h12
  have bl := due_len hd h12
  have bl2 : (pW E).length + (sW E).length + (uL E).length ≤ 500 := by
    have : (dueL E).length = (pW E).length + (sW E).length + (uL E).length := by
      unfold dueL; rw [List.length_append, List.length_append]
    omega
  have hbs : ∀ a : Int, a ∈ nL E → F__law_beside [encK2 t2 (nxP E), .tup [.int a, .int 0], .tup [.int a, .int 1]] = .ok (.bl (sbB E (a, 0) (a, 1))) := fun a ha => (sb4 ((nL_mem hd).mp ha) ((nL_mem hd).mp ha) (F := F__law_beside) fun x y => lbs_is hd.vd.uk).2.2
  have hz2 : (2 : Nat) ≤ sizeLine := by decide
  obtain ⟨K, hK⟩ : ∃ K, K = encK2 t2 (nxP E) := ⟨_, rfl⟩
  obtain ⟨H, hH⟩ : ∃ H, H = encK D.int (hnds E) := ⟨_, rfl⟩
  obtain ⟨EE, hEE⟩ : ∃ EE, EE = encD E := ⟨_, rfl⟩
  rw [← hK] at hnx j1 hp hs hbs
  rw [← hH] at hg hha j2 hp hs
  rw [← hEE] at hnx hha ⊢
  refine Tells.eq ?_
  simp only [F__law_lessening, m__law_lessening, runD]
  refine t_seq (e := [some (0, EE), some (1, K), none, none, none]) (by simp -implicitDefEqProofs [hnx, j1]) ?_
  refine t_seq (e := [some (0, EE), some (1, K), some (1, H), none, none]) (by simp -implicitDefEqProofs [hha, j2]) ?_
  refine t_seq (e := [some (0, EE), some (1, K), some (1, H), some (1, encM (pW E ++ sW E)), none]) (by
    have i1 := immM (pW E)
    have i2 := immM (sW E)
    have k1 := immAtM (pW E)
    have k2' := immAtM (sW E)
    have z1 : ((pW E).map lmE).length + ((sW E).map lmE).length ≤ sizeLine := sizeLine_big (by rw [List.length_map, List.length_map]; omega)
    have eP : encM (pW E) = .lst ((pW E).map lmE) := rfl
    have eS : encM (sW E) = .lst ((sW E).map lmE) := rfl
    rw [encM_app]
    rw [eP] at hp k1
    rw [eS] at hs k2'
    generalize (pW E).map lmE = P at *
    generalize (sW E).map lmE = S at *
    simp -implicitDefEqProofs [hp, hs, k1, k2', mCat, immL, i1, i2, z1]) ?_
  refine t_seq (e := [some (0, EE), some (1, K), some (1, H), some (1, encM (dueL E)), none]) (by
    refine for_appF (fun q : List Lm => [some (0, EE), some (1, K), some (1, H), some (1, encM q), none]) D.int (fun n => if sbB E (n, 0) (n, 1) then [⟨.u, [n]⟩] else []) 1 2000 (nL E) (pW E ++ sW E) ?_ rfl rfl (fun n _ => by split <;> simp) (by rw [List.length_append]; omega) ?_
    · generalize (nL E).map D.int = NL at *
      generalize encM (pW E ++ sW E) = M0 at *
      simp -implicitDefEqProofs [hg]
    · intro n hn q hq
      have hp2 := hbs n hn
      have e1 : lmE ⟨.u, [n]⟩ = .tup [.str (Str.ofString "uncurl"), .int n] := rfl
      have e5 : encM (q ++ [⟨.u, [n]⟩]) = .lst (q.map lmE ++ [lmE ⟨.u, [n]⟩]) := encM_app _ _
      have e6 : encM q = .lst (q.map lmE) := rfl
      have hzq : (q.map lmE).length < sizeLine := sizeLine_lt (by rw [List.length_map]; omega)
      show (tName 4 0 (.int n) [some (0, EE), some (1, K), some (1, H), some (1, encM q), none] >>= fun e => _) = .ok [some (0, EE), some (1, K), some (1, H), some (1, encM (q ++ if sbB E (n, 0) (n, 1) = true then [⟨.u, [n]⟩] else [])), none]
      cases h2 : sbB E (n, 0) (n, 1) with
      | true =>
        rw [h2] at hp2
        rw [if_pos rfl, e5, e6, e1]
        generalize q.map lmE = QL at *
        simp -implicitDefEqProofs [hp2, hz2, hzq]
      | false =>
        rw [h2] at hp2
        rw [if_neg (by simp), List.append_nil]
        generalize encM q = QL at *
        simp -implicitDefEqProofs [hp2, hz2]) ?_
  refine Tells.eqI ?_
  have i1 := immAtM (dueL E)
  generalize encM (dueL E) = Q at *
  simp -implicitDefEqProofs [i1]
end

/-! ### drawings grown, counted; what a fitting move makes -/
theorem Dr.add {ds F : Drw} (hd : Dr ds) (hl : F.length ≤ 10) (hf : F.flatten.length ≤ 100) {C : List Crs} (hp : F.flatten.Perm (ds.flatten ++ psg C)) (hn : (C.map (·.n)).Nodup) (hh : ∀ c ∈ C, c.c = 1 ∨ c.c = -1) (hfr : ∀ c ∈ C, ∀ x ∈ ds.flatten, x.a ≠ c.n) : Dr F := by
  have hm : ∀ x, x ∈ F.flatten ↔ x ∈ ds.flatten ∨ x ∈ psg C := fun x => hp.mem_iff.trans List.mem_append
  refine ⟨⟨siz_of hl hf, ?_, fun x hx => ?_⟩, fun x hx => ?_, fun x hx => ?_⟩
  · refine (hp.map ky).nodup_iff.mpr ?_
    rw [List.map_append, List.nodup_append]
    refine ⟨hd.vd.uk, psg_ky C hn, fun k hk l hl e => ?_⟩
    obtain ⟨x, hx, rfl⟩ := List.mem_map.mp hk
    obtain ⟨y, hy, rfl⟩ := List.mem_map.mp hl
    obtain ⟨c, hc, rfl | rfl⟩ := psg_mem.mp hy
    · exact hfr c hc x hx (congrArg Prod.fst e)
    · exact hfr c hc x hx (congrArg Prod.fst e)
  · rcases (hm x).mp hx with h | h
    · exact hd.vd.wy x h
    · obtain ⟨c, hc, rfl | rfl⟩ := psg_mem.mp h
      · exact .inl rfl
      · exact .inr rfl
  · rcases (hm x).mp hx with h | h
    · exact ⟨(hm _).mpr (.inl (hd.bt x h).1), (hm _).mpr (.inl (hd.bt x h).2)⟩
    · obtain ⟨c, hc, rfl | rfl⟩ := psg_mem.mp h
      · exact ⟨(hm _).mpr (.inr (psg_mem.mpr ⟨c, hc, .inl rfl⟩)), (hm _).mpr (.inr (psg_mem.mpr ⟨c, hc, .inr rfl⟩))⟩
      · exact ⟨(hm _).mpr (.inr (psg_mem.mpr ⟨c, hc, .inl rfl⟩)), (hm _).mpr (.inr (psg_mem.mpr ⟨c, hc, .inr rfl⟩))⟩
  · rcases (hm x).mp hx with h | h
    · exact hd.sg x h
    · obtain ⟨c, hc, rfl | rfl⟩ := psg_mem.mp h
      · exact hh c hc
      · exact hh c hc
theorem Dr.cnt {E : Drw} (hd : Dr E) : E.flatten.length = 2 * (hnds E).length := by
  have h1 : (E.flatten.map ky).Perm ((nL E).flatMap fun n => [(n, (0 : Int)), (n, 1)]) := by
    refine (List.perm_ext_iff_of_nodup hd.vd.uk ?_).mpr fun k => ?_
    · refine pw_flatMap (nL_pw E) (fun n _ => by simp) fun a b h x hx y hy e => ?_
      subst e
      simp at hx hy
      rcases hx with rfl | rfl <;> simp at hy <;> omega
    · rw [List.mem_map, List.mem_flatMap]
      constructor
      · rintro ⟨x, hx, rfl⟩
        refine ⟨x.a, (nL_mem hd).mpr (hd.nm hx), ?_⟩
        rcases hd.vd.wy x hx with h | h
        · simp [ky, h]
        · simp [ky, h]
      · rintro ⟨n, hn, hk⟩
        have := (nL_mem hd).mp hn
        simp at hk
        rcases hk with rfl | rfl
        · exact ⟨_, this.o, rfl⟩
        · exact ⟨_, this.u, rfl⟩
  have h2 := h1.length_eq
  rw [List.length_map] at h2
  rw [h2, ← nL_len]
  have : ∀ xs : List Int, (xs.flatMap fun n => [(n, (0 : Int)), (n, 1)]).length = 2 * xs.length := fun xs => by
    induction xs with
    | nil => rfl
    | cons n xs ih =>
      rw [List.flatMap_cons, List.length_append, ih]
      show 2 + 2 * xs.length = 2 * (xs.length + 1)
      omega
  exact this _
theorem Dr.cnt_le {E : Drw} (hd : Dr E) {m : Nat} (h : E.flatten.length ≤ 2 * m) : (hnds E).length ≤ m := by
  have := hd.cnt
  omega
theorem ptB_pt {E : Drw} (hd : Dr E) {a b : Int} (na : Nm E a) (nb : Nm E b) (h : ptB E a b = true) : hof E b = -hof E a ∧ Pt2 E a b (hof E a) := by
  unfold ptB at h
  split at h
  · cases h
  · rename_i hn
    rw [Bool.and_eq_true] at h
    have hne : a ≠ b := fun e => hn (.inl e)
    have hhe : hof E a ≠ hof E b := fun e => hn (.inr e)
    have hb : hof E b = -hof E a := by
      rcases na.sg with e1 | e1 <;> rcases nb.sg with e2 | e2 <;> omega
    have rl : ∀ {x y : T3}, x ∈ E.flatten → y ∈ E.flatten → sbB E (ky x) (ky y) = true → Rl E x y ∨ Rl E y x := fun {x y} hx hy hs => by
      unfold sbB at hs
      rw [Bool.or_eq_true, decide_eq_true_eq, decide_eq_true_eq] at hs
      exact hs.imp (nx_rl hd.vd.uk hx hy) (nx_rl hd.vd.uk hy hx)
    refine ⟨hb, ⟨hd.vd, hne, na.sg, na.lk, by rw [← hb]; exact nb.lk, ?_, ?_⟩⟩
    · rw [← hb]; exact rl na.o nb.o h.1
    · rw [← hb]; exact rl na.u nb.u h.2
theorem sbB_cu {E : Drw} (hd : Dr E) {n : Int} (nn : Nm E n) (h : sbB E (n, 0) (n, 1) = true) : Cu E n (hof E n) := by
  unfold sbB at h
  rw [Bool.or_eq_true, decide_eq_true_eq, decide_eq_true_eq] at h
  exact ⟨hd.vd.sz, hd.vd.uk, nn.lk, nx E (n, 0), nx E (n, 1), nx_lk hd.vd.uk nn.o, nx_lk hd.vd.uk nn.u, h⟩
theorem filter_flen (f : T3 → Bool) (E : Drw) : (E.map (·.filter f)).flatten.length ≤ E.flatten.length := by
  induction E with
  | nil => exact Nat.le_refl _
  | cons r E ih =>
    rw [List.map_cons, List.flatten_cons, List.flatten_cons, List.length_append, List.length_append]
    have := List.length_filter_le f r
    omega
/-- a fitting move can be done -/
theorem due_done (κ : Str → Addr) {E : Drw} (hd : Dr E) {m : Lm} (hm : m ∈ dueL E) : ∃ (mv : Mv) (G : Drw), mv.told = lmE m ∧ Siz G ∧ G.flatten.length ≤ E.flatten.length ∧ gMeth κ (doneT κ) "done" 2 (mv.ob κ) [encD E] = .ok (encD (G.map seat)) := by
  unfold dueL at hm
  have fs : ∀ f : T3 → Bool, Siz (E.map (·.filter f)) := fun f => siz_of (by rw [List.length_map]; exact hd.vd.sz.len) (Nat.le_trans (filter_flen f E) hd.vd.sz.fl)
  rcases List.mem_append.mp hm with hm | hm
  · rcases List.mem_append.mp hm with hm | hm
    · obtain ⟨a, b, na, nb, _, hp, rfl⟩ := (mem_pW hd).mp hm
      have p := (ptB_pt hd na nb hp).2
      exact ⟨.prt a b, _, rfl, fs _, filter_flen _ E, done_of κ (fs _) (part_made κ p)⟩
    · obtain ⟨a, b, c, t, na, nb, nc, ht, hs, rfl⟩ := (mem_sW hd).mp hm
      have h := slB_tr hd na nb nc hs
      exact ⟨.slide a b c t, xc E a b c, rfl, h.siz, Nat.le_of_eq (Tr3.flen E a b c), done_of κ h.siz (slide_madeM κ (tt := madeT κ) rfl h ht hs)⟩
  · obtain ⟨n, nn, hs, rfl⟩ := (mem_uL hd).mp hm
    have c := sbB_cu hd nn hs
    exact ⟨.uncurl n, _, rfl, fs _, filter_flen _ E, done_of κ (fs _) (uncurl_made κ c)⟩
theorem seat_flen (E : Drw) : (E.map seat).flatten.length = E.flatten.length := (RotL.seatL E).flat.length_eq
/-- how many passings -/
theorem sumlen {E : Drw} : (E.map fun r => ((r.length : Nat) : Int)).sum = ((E.flatten.length : Nat) : Int) := by
  induction E with
  | nil => rfl
  | cons r E ih => rw [List.map_cons, List.sum_cons, ih, List.flatten_cons, List.length_append]; omega

/-! ### the list told; a lay put in -/
theorem listed_is {ms : List Lm} (hl : ms.length ≤ 1000) (hm : ∀ m ∈ ms, ∃ mv : Mv, mv.told = lmE m) : F__law_listed [encM ms, encM ms] = .ok (.bl true) := by
  have gl : gLen (encM ms) = .ok (.int (ms.length : Nat)) := by
    show Res.ok (D.int (((ms.map lmE).length : Nat) : Int)) = _
    rw [List.length_map]
  have hg := gRng1_d (n := ms.length) (by omega)
  have gn := gNe_ii ((ms.length : Nat) : Int)
  have h1 : isi .list (encM ms) = true := rfl
  have h2 : isOb (encM ms) = false := rfl
  refine Tells.eq ?_
  simp only [F__law_listed, m__law_listed, runD]
  refine t_seq (e := [some (0, encM ms), some (0, encM ms), none]) (by
    generalize encM ms = M at *
    generalize ((ms.length : Nat) : Int) = L at *
    simp -implicitDefEqProofs [h1, h2, gl, gn, -e_gNe_int]) ?_
  refine t_seq (e := [some (0, encM ms), some (0, encM ms), none]) (by
    refine for_look (fun i : Nat => D.int i) (List.range ms.length) ?_ fun i hi => ?_
    · generalize encM ms = M at *
      simp -implicitDefEqProofs [gl, hg]
    · have hi' := List.mem_range.mp hi
      have hx : ms[i]? = some ms[i] := List.getElem?_eq_getElem hi'
      obtain ⟨mv, hmv⟩ := hm ms[i] (List.getElem_mem hi')
      have gx : gIx (encM ms) (.int (i : Int)) = .ok (lmE ms[i]) := gIx_map hx
      have ht := tells_is mv
      rw [hmv] at ht
      generalize lmE ms[i] = X at *
      generalize encM ms = M at *
      simp -implicitDefEqProofs [gx, ht]) ?_
  refine Tells.eqI ?_
  generalize encM ms = M at *
  simp -implicitDefEqProofs
theorem spk_le {ds : Drw} : (spk ds).length ≤ ds.length + ds.flatten.length := by
  have hs := spk_len ds.zipIdx
  have e : (spk ds).length = (ds.zipIdx.flatMap rowK).length := rfl
  rw [e]
  rw [List.length_zipIdx, sum_zip ds 0] at hs
  exact hs
theorem lay_psg (a b c t : Int) (X : List T3) : (X ++ ovs2 a b c ++ uns2 a b c t).Perm (X ++ psg [⟨a, 0, 0, c⟩, ⟨b, 0, 0, -c⟩]) := by
  rw [List.append_assoc]
  refine List.Perm.append_left _ ?_
  have e : psg [⟨a, 0, 0, c⟩, ⟨b, 0, 0, -c⟩] = [⟨a, 0, c⟩, ⟨a, 1, c⟩, ⟨b, 0, -c⟩, ⟨b, 1, -c⟩] := rfl
  rw [e, List.perm_iff_count]
  intro x
  unfold ovs2 uns2
  split <;> simp only [List.count_cons, List.count_nil, List.cons_append, List.nil_append] <;> omega
theorem lay_dr {ds : Drw} (hd : Dr ds) (hfl : ds.flatten.length ≤ 80) {a b c t : Int} {o u : Int × Int} (hna : ∀ x ∈ ds.flatten, x.a ≠ a) (hnb : ∀ x ∈ ds.flatten, x.a ≠ b) (hab : a ≠ b) (hc : c = 1 ∨ c = -1) (ho : o ∈ spk ds) (hu : u ∈ spk (putL ds o (ovs2 a b c))) : Dr (laidL ds a b o u t c) ∧ (laidL ds a b o u t c).flatten.length = ds.flatten.length + 4 := by
  have h1 := lays_vd1 hd.vd hfl (c := c) hna hnb hab ho
  have p1 := putL_perm (ovs2 a b c) hd.vd.spkn ho
  have p2 := putL_perm (uns2 a b c t) h1.spkn hu
  have hp : (laidL ds a b o u t c).flatten.Perm (ds.flatten ++ psg [⟨a, 0, 0, c⟩, ⟨b, 0, 0, -c⟩]) := (p2.trans (p1.append_right _)).trans (lay_psg a b c t _)
  have hl : (laidL ds a b o u t c).flatten.length = ds.flatten.length + 4 := by
    rw [hp.length_eq, List.length_append]; rfl
  refine ⟨Dr.add hd (by
    show (putL (putL _ _ _) _ _).length ≤ 10
    unfold putL
    rw [List.length_map, List.length_zipIdx, List.length_map, List.length_zipIdx]
    exact hd.vd.sz.len) (by omega) hp (by
    show [a, b].Nodup
    simp [hab]) (fun x hx => ?_) (fun x hx y hy => ?_), hl⟩
  · have : x = ⟨a, 0, 0, c⟩ ∨ x = ⟨b, 0, 0, -c⟩ := by simpa using hx
    rcases this with rfl | rfl
    · exact hc
    · show -c = 1 ∨ -c = -1
      omega
  · have : x = ⟨a, 0, 0, c⟩ ∨ x = ⟨b, 0, 0, -c⟩ := by simpa using hx
    rcases this with rfl | rfl
    · exact hna y hy
    · exact hnb y hy
theorem nms_free {ds : Drw} (hd : Dr ds) {n : Int} (h : n ∉ nmsL ds) : ∀ x ∈ ds.flatten, x.a ≠ n := fun x hx e => h (by
  subst e
  exact List.mem_map.mpr ⟨⟨x.a, 0, x.c⟩, List.mem_filter.mpr ⟨(hd.bt x hx).1, rfl⟩, rfl⟩)
theorem withlay_is {ds : Drw} (hd : Dr ds) (hfl : ds.flatten.length ≤ 40) (hne : ds ≠ []) (v : Int) : ∃ F : Drw, F__law_with_lay [encD ds, .int v] = .ok (encD F) ∧ Dr F ∧ F.flatten.length = ds.flatten.length + 4 ∧ F.length = ds.length := by
  have hnm : F__law_names [encD ds] = .ok (.lst ((nmsL ds).map D.int)) := lnames0 (ds := ds) (by omega)
  have hNl := nmsL_len ds
  obtain ⟨a, ha1, ha2, _, _⟩ := free29 (nmsL ds) (by omega) v
  obtain ⟨b, hb1, hb2, _, _⟩ := free29 (nmsL ds ++ [a]) (by rw [List.length_append, List.length_singleton]; omega) (v / 999)
  have hab : a ≠ b := fun e => hb2 (by rw [← e]; simp)
  have hna := nms_free hd ha2
  have hnb := nms_free hd (n := b) (fun h => hb2 (by simp [h]))
  have iN : immAt 1 (.lst ((nmsL ds).map D.int)) = true := by simp
  have iN2 : immAll ((nmsL ds).map D.int) = true := by simp
  have zN : ((nmsL ds).map D.int).length + 1 ≤ sizeLine := sizeLine_big (by rw [List.length_map]; omega)
  have eNa : D.lst ((nmsL ds ++ [a]).map D.int) = .lst ((nmsL ds).map D.int ++ [.int a]) := by rw [List.map_append]; rfl
  rw [eNa] at hb1
  have hm := mixed_is v
  obtain ⟨r, hr⟩ : ∃ r : Nat, v % 1000003 * 48271 % 1000003 = (r : Int) := ⟨(v % 1000003 * 48271 % 1000003).toNat, by omega⟩
  rw [hr] at hm
  clear hr
  obtain ⟨c, hc, hc2⟩ : ∃ c, c = 1 - 2 * ((r : Int) % 2) ∧ (c = 1 ∨ c = -1) := ⟨_, rfl, by omega⟩
  have hsp := lspots_is ds hd.vd.sz.len hd.vd.sz.row
  have hsl : 0 < (spk ds).length := List.length_pos_iff.mpr (spk_ne hne)
  have hsle := spk_le (ds := ds)
  have hdl := hd.vd.sz.len
  obtain ⟨o, ho⟩ : ∃ o, (spk ds)[r / 4 % (spk ds).length]? = some o := ⟨_, List.getElem?_eq_getElem (Nat.mod_lt _ hsl)⟩
  have hom := List.mem_of_getElem? ho
  have h1 := lays_vd1 hd.vd (by omega) (c := c) hna hnb hab hom
  have h1l := put1_len hd.vd (a := a) (b := b) (c := c) hom
  have h1len : (putL ds o (ovs2 a b c)).length = ds.length := by
    unfold putL
    rw [List.length_map, List.length_zipIdx]
  have hp1 := lput_is (ps := ovs2 a b c) hd.vd.sz.len hd.vd.sz.row (by show 2 ≤ 4; omega) (hd.vd.bare hom)
  have e2 : encR (ovs2 a b c) = .lst [.tup [.int a, .int 0, .int c], .tup [.int b, .int 0, .int (-c)]] := rfl
  rw [e2] at hp1
  have hsp2 := lspots_is (putL ds o (ovs2 a b c)) h1.sz.len h1.sz.row
  obtain ⟨U, hU⟩ : ∃ U, U = (spk (putL ds o (ovs2 a b c))).filter fun k => decide (k ≠ (a, 0)) := ⟨_, rfl⟩
  have hUl : 0 < U.length := by
    refine List.length_pos_iff.mpr fun e => ?_
    have : (b, (0 : Int)) ∈ U := by
      rw [hU]
      refine List.mem_filter.mpr ⟨(spk_put hd.vd.spkn hom (by simp [ovs2])).mpr (.inr (.inl ⟨⟨b, 0, -c⟩, by simp [ovs2], rfl⟩)), ?_⟩
      exact decide_eq_true fun e => hab (congrArg Prod.fst e).symm
    rw [e] at this; cases this
  have hUle : U.length ≤ 200 := by
    have h3 := spk_le (ds := putL ds o (ovs2 a b c))
    have h4 := List.length_filter_le (fun k : Int × Int => decide (k ≠ (a, 0))) (spk (putL ds o (ovs2 a b c)))
    rw [← hU] at h4
    omega
  obtain ⟨u, hu⟩ : ∃ u, U[r / 4 / 11 % U.length]? = some u := ⟨_, List.getElem?_eq_getElem (Nat.mod_lt _ hUl)⟩
  have hum : u ∈ spk (putL ds o (ovs2 a b c)) := by
    have := List.mem_of_getElem? hu
    rw [hU] at this
    exact (List.mem_filter.mp this).1
  obtain ⟨t, ht, ht2⟩ : ∃ t : Int, t = (r : Int) / 2 % 2 ∧ (t = 0 ∨ t = 1) := ⟨_, rfl, by omega⟩
  have hp2 := lput_is (ps := uns2 a b c t) h1.sz.len h1.sz.row (by rw [uns2_len]; omega) (h1.bare hum)
  have hD := lay_dr hd (t := t) (by omega) hna hnb hab hc2 hom hum
  refine ⟨laidL ds a b o u t c, ?_, hD.1, hD.2, ?_⟩
  · have f999 := e_gFdv v 999 (by decide) (by decide)
    have m2 := e_gMod (r : Int) 2 (by decide)
    have u2 := e_gMul 2 ((r : Int) % 2) (.inl (by decide))
    have f4 := e_gFdv (r : Int) 4 (by decide) (by decide)
    have f11 := e_gFdv ((r : Int) / 4) 11 (by decide) (by decide)
    have f2 := e_gFdv (r : Int) 2 (by decide) (by decide)
    have m22 := e_gMod ((r : Int) / 2) 2 (by decide)
    have gl1 : gLen (.lst ((spk ds).map t2)) = .ok (.int ((spk ds).length : Nat)) := by
      show Res.ok (D.int ((((spk ds).map t2).length : Nat) : Int)) = _
      rw [List.length_map]
    have gl2 : gLen (.lst (U.map t2)) = .ok (.int (U.length : Nat)) := by
      show Res.ok (D.int (((U.map t2).length : Nat) : Int)) = _
      rw [List.length_map]
    have ms := e_gMod ((r : Int) / 4) ((spk ds).length : Int) (by omega)
    have mu := e_gMod ((r : Int) / 4 / 11) (U.length : Int) (by omega)
    rw [show (r : Int) / 4 % ((spk ds).length : Int) = ((r / 4 % (spk ds).length : Nat) : Int) by simp] at ms
    rw [show (r : Int) / 4 / 11 % (U.length : Int) = ((r / 4 / 11 % U.length : Nat) : Int) by simp] at mu
    have gs : gIx (.lst ((spk ds).map t2)) (.int ((r / 4 % (spk ds).length : Nat) : Int)) = .ok (t2 o) := gIx_map ho
    have gu : gIx (.lst (U.map t2)) (.int ((r / 4 / 11 % U.length : Nat) : Int)) = .ok (t2 u) := gIx_map hu
    have iS : immAt 1 (.lst ((spk ds).map t2)) = true := by simp
    have iS2 : immAt 1 (.lst ((spk (putL ds o (ovs2 a b c))).map t2)) = true := by simp
    have i2 : immAt 2 (encD (putL ds o (ovs2 a b c))) = true := by simp
    have i3 : immAt 2 (encD (laidL ds a b o u t c)) = true := by simp
    have gn : gNeg (.int c) = .ok (.int (-c)) := rfl
    have hz1 : (1 : Nat) ≤ sizeLine := by decide
    have hz2 : (2 : Nat) ≤ sizeLine := by decide
    have hz3 : (3 : Nat) ≤ sizeLine := by decide
    have qt := gEq_i t 1
    have hq2 : F__law_put [encD (putL ds o (ovs2 a b c)), t2 u, encR (uns2 a b c t)] = .ok (encD (laidL ds a b o u t c)) := hp2
    have e4 : encR (uns2 a b c t) = if t = 1 then .lst [.tup [.int b, .int 1, .int (-c)], .tup [.int a, .int 1, .int c]] else .lst [.tup [.int a, .int 1, .int c], .tup [.int b, .int 1, .int (-c)]] := by
      unfold uns2
      split <;> rfl
    have hlc := lc_run (t := tName 10) (mt := mTb (mOp gNe (mVar 10) (mImm (mTup (mConsE (mImm (mVar 3)) [] (mConsE (mC (.int 0)) [] mNilA)))))) (me := mImm (mVar 10)) (env := [some (0, encD ds), some (0, .int v), some (1, .lst ((nmsL ds).map D.int)), some (0, .int a), some (0, .int b), some (0, .int (r : Nat)), some (0, .int c), some (1, .lst ((spk ds).map t2)), some (2, encD (putL ds o (ovs2 a b c))), some (1, encR (uns2 a b c t)), none]) t2 (fun k => decide (k ≠ (a, 0))) t2 (spk (putL ds o (ovs2 a b c))) (fun k _ => by
      have hi : (t2 k).imm = true := rfl
      have gn : gNe (t2 k) (t2 (a, 0)) = .ok (.bl (decide (k ≠ (a, 0)))) := (gNe_enc (α := Int × Int) k (a, 0) (by decide)).trans (congrArg (fun b => Res.ok (D.bl b)) (by simp))
      have ea : t2 (a, 0) = .tup [.int a, .int 0] := rfl
      rw [ea] at gn
      refine ⟨[some (0, encD ds), some (0, .int v), some (1, .lst ((nmsL ds).map D.int)), some (0, .int a), some (0, .int b), some (0, .int (r : Nat)), some (0, .int c), some (1, .lst ((spk ds).map t2)), some (2, encD (putL ds o (ovs2 a b c))), some (1, encR (uns2 a b c t)), some (0, t2 k)], rfl, ?_, ?_⟩
      · generalize encD (putL ds o (ovs2 a b c)) = Q at *
        generalize encD ds = DD at *
        generalize D.lst ((nmsL ds).map D.int) = NN at *
        generalize D.lst ((spk ds).map t2) = SS at *
        generalize encR (uns2 a b c t) = UN at *
        generalize t2 k = KK at *
        simp -implicitDefEqProofs [gn, hz2]
      · intro _
        generalize encD (putL ds o (ovs2 a b c)) = Q at *
        generalize encD ds = DD at *
        generalize D.lst ((nmsL ds).map D.int) = NN at *
        generalize D.lst ((spk ds).map t2) = SS at *
        generalize encR (uns2 a b c t) = UN at *
        generalize t2 k = KK at *
        simp -implicitDefEqProofs [hi])
    rw [← hU] at hlc
    have hzU : (U.map t2).length ≤ sizeLine := sizeLine_big (by rw [List.length_map]; omega)
    refine Tells.eq ?_
    simp only [F__law_with_lay, m__law_with_lay, runD]
    refine t_seq (e := [some (0, encD ds), some (0, .int v), some (1, .lst ((nmsL ds).map D.int)), none, none, none, none, none, none, none, none]) (by
      generalize (nmsL ds).map D.int = NN at *
      generalize encD ds = DD at *
      simp -implicitDefEqProofs [hnm, iN]) ?_
    refine t_seq (e := [some (0, encD ds), some (0, .int v), some (1, .lst ((nmsL ds).map D.int)), some (0, .int a), none, none, none, none, none, none, none]) (by
      generalize (nmsL ds).map D.int = NN at *
      generalize encD ds = DD at *
      simp -implicitDefEqProofs [ha1]) ?_
    refine t_seq (e := [some (0, encD ds), some (0, .int v), some (1, .lst ((nmsL ds).map D.int)), some (0, .int a), some (0, .int b), none, none, none, none, none, none]) (by
      generalize (nmsL ds).map D.int = NN at *
      generalize encD ds = DD at *
      simp -implicitDefEqProofs [f999, mCat, immL, iN2, hz1, zN, hb1]) ?_
    refine t_seq (e := [some (0, encD ds), some (0, .int v), some (1, .lst ((nmsL ds).map D.int)), some (0, .int a), some (0, .int b), some (0, .int (r : Nat)), none, none, none, none, none]) (by
      generalize (nmsL ds).map D.int = NN at *
      generalize encD ds = DD at *
      simp -implicitDefEqProofs [hm]) ?_
    refine t_seq (e := [some (0, encD ds), some (0, .int v), some (1, .lst ((nmsL ds).map D.int)), some (0, .int a), some (0, .int b), some (0, .int (r : Nat)), some (0, .int c), none, none, none, none]) (by
      rw [hc]
      generalize (nmsL ds).map D.int = NN at *
      generalize encD ds = DD at *
      simp -implicitDefEqProofs [m2, u2]) ?_
    refine t_seq (e := [some (0, encD ds), some (0, .int v), some (1, .lst ((nmsL ds).map D.int)), some (0, .int a), some (0, .int b), some (0, .int (r : Nat)), some (0, .int c), some (1, .lst ((spk ds).map t2)), none, none, none]) (by
      generalize (nmsL ds).map D.int = NN at *
      generalize (spk ds).map t2 = SS at *
      generalize encD ds = DD at *
      simp -implicitDefEqProofs [hsp, iS]) ?_
    refine t_seq (e := [some (0, encD ds), some (0, .int v), some (1, .lst ((nmsL ds).map D.int)), some (0, .int a), some (0, .int b), some (0, .int (r : Nat)), some (0, .int c), some (1, .lst ((spk ds).map t2)), some (2, encD (putL ds o (ovs2 a b c))), none, none]) (by
      generalize (nmsL ds).map D.int = NN at *
      generalize hSS : (spk ds).map t2 = SS at *
      generalize encD (putL ds o (ovs2 a b c)) = Q at *
      generalize encD ds = DD at *
      generalize t2 o = KO at *
      generalize ((r / 4 % (spk ds).length : Nat) : Int) = J at *
      generalize ((spk ds).length : Int) = SL at *
      simp -implicitDefEqProofs [f4, gl1, ms, gs, gn, hz2, hz3, hp1, i2]) ?_
    refine t_seq (e := [some (0, encD ds), some (0, .int v), some (1, .lst ((nmsL ds).map D.int)), some (0, .int a), some (0, .int b), some (0, .int (r : Nat)), some (0, .int c), some (1, .lst ((spk ds).map t2)), some (2, encD (putL ds o (ovs2 a b c))), some (1, .lst [.tup [.int a, .int 1, .int c], .tup [.int b, .int 1, .int (-c)]]), none]) (by
      generalize (nmsL ds).map D.int = NN at *
      generalize (spk ds).map t2 = SS at *
      generalize encD (putL ds o (ovs2 a b c)) = Q at *
      generalize encD ds = DD at *
      simp -implicitDefEqProofs [gn, hz2, hz3]) ?_
    refine t_seq (e := [some (0, encD ds), some (0, .int v), some (1, .lst ((nmsL ds).map D.int)), some (0, .int a), some (0, .int b), some (0, .int (r : Nat)), some (0, .int c), some (1, .lst ((spk ds).map t2)), some (2, encD (putL ds o (ovs2 a b c))), some (1, encR (uns2 a b c t)), none]) (by
      rw [e4]
      rw [← ht] at m22
      have x0 : gIx (.lst [.tup [.int a, .int 1, .int c], .tup [.int b, .int 1, .int (-c)]]) (.int 0) = .ok (.tup [.int a, .int 1, .int c]) := rfl
      have x1 : gIx (.lst [.tup [.int a, .int 1, .int c], .tup [.int b, .int 1, .int (-c)]]) (.int 1) = .ok (.tup [.int b, .int 1, .int (-c)]) := rfl
      generalize (nmsL ds).map D.int = NN at *
      generalize (spk ds).map t2 = SS at *
      generalize encD (putL ds o (ovs2 a b c)) = Q at *
      generalize encD ds = DD at *
      clear ht
      rcases ht2 with rfl | rfl
      · rw [if_neg (by decide)]
        rw [decide_eq_false (by decide)] at qt
        simp -implicitDefEqProofs [f2, m22, qt, -e_gEq_int]
      · rw [if_pos rfl]
        rw [decide_eq_true rfl] at qt
        simp -implicitDefEqProofs [f2, m22, qt, x0, x1, hz2, -e_gEq_int]) ?_
    refine t_seq (e := [some (0, encD ds), some (0, .int v), some (1, .lst ((nmsL ds).map D.int)), some (0, .int a), some (0, .int b), some (0, .int (r : Nat)), some (0, .int c), some (1, .lst (U.map t2)), some (2, encD (putL ds o (ovs2 a b c))), some (1, encR (uns2 a b c t)), none]) (by
      generalize (nmsL ds).map D.int = NN at *
      generalize (spk ds).map t2 = SS at *
      generalize (spk (putL ds o (ovs2 a b c))).map t2 = S2 at *
      generalize U.map t2 = UU at *
      generalize encD (putL ds o (ovs2 a b c)) = Q at *
      generalize encD ds = DD at *
      generalize encR (uns2 a b c t) = UN at *
      simp -implicitDefEqProofs [e_mLc, hsp2, iS2, hlc, hzU]) ?_
    refine Tells.eqI ?_
    generalize (nmsL ds).map D.int = NN at *
    generalize hUU : U.map t2 = UU at *
    generalize encD (putL ds o (ovs2 a b c)) = Q at *
    generalize encD (laidL ds a b o u t c) = Q2 at *
    generalize encD ds = DD at *
    generalize encR (uns2 a b c t) = UN at *
    generalize t2 u = KU at *
    generalize ((r / 4 / 11 % U.length : Nat) : Int) = J at *
    generalize (U.length : Int) = UL at *
    simp -implicitDefEqProofs [f4, f11, gl2, mu, gu, hq2, i3]
  · show (putL (putL _ _ _) _ _).length = _
    unfold putL
    rw [List.length_map, List.length_zipIdx, List.length_map, List.length_zipIdx]

/-! ### three free names, and three crossings of these -/
theorem last3 (N : List Int) (a b c : Int) : cutD ((N ++ [a] ++ [b] ++ [c]).map D.int) (some (-3)) none = [.int a, .int b, .int c] := by
  have e : N ++ [a] ++ [b] ++ [c] = N ++ [a, b, c] := by simp
  rw [e, cutD_map]
  have h1 : HT.sIx (N ++ [a, b, c]).length 0 (some (-3)) = N.length := by
    have e2 : HT.sIx (N ++ [a, b, c]).length 0 (some (-3)) = ((-3 : Int) + ((N ++ [a, b, c]).length : Int)).toNat := by
      show (if (-3 : Int) < 0 then ((-3 : Int) + ((N ++ [a, b, c]).length : Int)).toNat else min ((-3 : Int)).toNat (N ++ [a, b, c]).length) = _
      rw [if_pos (by decide)]
    rw [e2, List.length_append]
    show ((-3 : Int) + ((N.length + 3 : Nat) : Int)).toNat = _
    omega
  have h2 : HT.sIx (N ++ [a, b, c]).length (N ++ [a, b, c]).length none = N.length + 3 := by
    show (N ++ [a, b, c]).length = _
    rw [List.length_append]; rfl
  rw [h1, h2, List.drop_left' rfl, show N.length + 3 - N.length = 3 by omega]
  rfl
theorem three_dr {ds E : Drw} (hd : Dr ds) (hfl : ds.flatten.length ≤ 40) {a b c bits : Int} (hl : E.length ≤ 10) (ab : a ≠ b) (ac : a ≠ c) (bc : b ≠ c) (ha : ∀ x ∈ ds.flatten, x.a ≠ a) (hb : ∀ x ∈ ds.flatten, x.a ≠ b) (hc : ∀ x ∈ ds.flatten, x.a ≠ c)
    (hp : E.flatten.Perm ([⟨b, 1, 1 - 2 * (bits / 4 % 2)⟩, ⟨c, 1, 1 - 2 * (bits / 8 % 2)⟩] ++ ([⟨a, 1, 1 - 2 * (bits / 2 % 2)⟩, ⟨c, 0, 1 - 2 * (bits / 8 % 2)⟩] ++ ([⟨a, 0, 1 - 2 * (bits / 2 % 2)⟩, ⟨b, 0, 1 - 2 * (bits / 4 % 2)⟩] ++ ds.flatten)))) : Dr E ∧ E.flatten.length = ds.flatten.length + 6 ∧ Nm E a ∧ Nm E b ∧ Nm E c := by
  obtain ⟨C, hC⟩ : ∃ C : List Crs, C = [⟨a, 0, 0, 1 - 2 * (bits / 2 % 2)⟩, ⟨b, 0, 0, 1 - 2 * (bits / 4 % 2)⟩, ⟨c, 0, 0, 1 - 2 * (bits / 8 % 2)⟩] := ⟨_, rfl⟩
  have hlen := hp.length_eq
  simp only [List.length_append, List.length_cons, List.length_nil] at hlen
  have hp2 : E.flatten.Perm (ds.flatten ++ psg C) := by
    have h := psg3 a b c (1 - 2 * (bits / 2 % 2)) (1 - 2 * (bits / 4 % 2)) (1 - 2 * (bits / 8 % 2)) []
    have e0 : psg ([] : List Crs) = [] := rfl
    rw [List.append_nil, e0, List.append_nil] at h
    refine hp.trans ?_
    rw [← List.append_assoc, ← List.append_assoc]
    refine List.perm_append_comm.trans (List.Perm.append_left _ ?_)
    rw [List.append_assoc, hC]
    exact h
  have hm : ∀ x ∈ C, x = ⟨a, 0, 0, 1 - 2 * (bits / 2 % 2)⟩ ∨ x = ⟨b, 0, 0, 1 - 2 * (bits / 4 % 2)⟩ ∨ x = ⟨c, 0, 0, 1 - 2 * (bits / 8 % 2)⟩ := fun x hx => by
    rw [hC] at hx
    simpa using hx
  have hD := Dr.add hd hl (by omega) hp2 (by
    rw [hC]
    show [a, b, c].Nodup
    simp [ab, ac, bc]) (fun x hx => by
    rcases hm x hx with rfl | rfl | rfl
    · show 1 - 2 * (bits / 2 % 2) = 1 ∨ 1 - 2 * (bits / 2 % 2) = -1
      omega
    · show 1 - 2 * (bits / 4 % 2) = 1 ∨ 1 - 2 * (bits / 4 % 2) = -1
      omega
    · show 1 - 2 * (bits / 8 % 2) = 1 ∨ 1 - 2 * (bits / 8 % 2) = -1
      omega) (fun x hx y hy => by
    rcases hm x hx with rfl | rfl | rfl
    · exact ha y hy
    · exact hb y hy
    · exact hc y hy)
  have nm : ∀ x ∈ C, Nm E x.n := fun x hx => hD.nm (x := ⟨x.n, 0, x.c⟩) (hp2.mem_iff.mpr (List.mem_append.mpr (.inr (psg_mem.mpr ⟨x, hx, .inl rfl⟩))))
  refine ⟨hD, by omega, ?_, ?_, ?_⟩
  · exact nm ⟨a, 0, 0, 1 - 2 * (bits / 2 % 2)⟩ (by rw [hC]; simp)
  · exact nm ⟨b, 0, 0, 1 - 2 * (bits / 4 % 2)⟩ (by rw [hC]; simp)
  · exact nm ⟨c, 0, 0, 1 - 2 * (bits / 8 % 2)⟩ (by rw [hC]; simp)
theorem WD.dr {S : Nat} {ds : Drw} {C : List Crs} (h : WD S ds C) (hS : S ≤ 3) (hC : C.length ≤ 12) : Dr ds := Dr.of_psg (by rw [h.di.len]; omega) (by omega) h.pm h.di.nd h.hd

theorem law_true (κ : Str → Addr) (ns : List Int) (hn : ns.length ≤ 63) : F_law κ [.lst (ns.map D.int)] = .ok (.bl true) := by
  have cc : ∀ k : Nat, k < 64 → F__law_cell_at [.lst (ns.map D.int), .int k] = .ok (.int (ns.getD k 0)) := fun k hk => cell_at ns k hk
  obtain ⟨A, hA⟩ : ∃ A, A = D.lst (ns.map D.int) := ⟨_, rfl⟩
  rw [← hA] at cc ⊢
  obtain ⟨v, hv⟩ : ∃ v : Nat → Int, v = fun k => ns.getD k 0 := ⟨_, rfl⟩
  have cv : ∀ k : Nat, k < 64 → F__law_cell_at [A, .int k] = .ok (.int (v k)) := fun k hk => by rw [hv]; exact cc k hk
  clear cc hv hA
  have c0 : F__law_cell_at [A, .int 0] = .ok (.int (v 0)) := cv 0 (by decide)
  have c1 : F__law_cell_at [A, .int 1] = .ok (.int (v 1)) := cv 1 (by decide)
  have c2 : F__law_cell_at [A, .int 2] = .ok (.int (v 2)) := cv 2 (by decide)
  have c3 : F__law_cell_at [A, .int 3] = .ok (.int (v 3)) := cv 3 (by decide)
  have c4 : F__law_cell_at [A, .int 4] = .ok (.int (v 4)) := cv 4 (by decide)
  have c5 : F__law_cell_at [A, .int 5] = .ok (.int (v 5)) := cv 5 (by decide)
  have c6 : F__law_cell_at [A, .int 6] = .ok (.int (v 6)) := cv 6 (by decide)
  have c7 : F__law_cell_at [A, .int 7] = .ok (.int (v 7)) := cv 7 (by decide)
  have c8 : F__law_cell_at [A, .int 8] = .ok (.int (v 8)) := cv 8 (by decide)
  have c9 : F__law_cell_at [A, .int 9] = .ok (.int (v 9)) := cv 9 (by decide)
  have c10 : F__law_cell_at [A, .int 10] = .ok (.int (v 10)) := cv 10 (by decide)
  have m0 := e_gMod (v 0) 3 (by decide)
  have m1 := e_gMod (v 1) 6 (by decide)
  have m2 := e_gMod (v 2) 4 (by decide)
  have m6 := e_gMod (v 6) 96 (by decide)
  obtain ⟨S, hSe, hS1, hS3⟩ : ∃ S : Nat, 1 + v 0 % 3 = (S : Int) ∧ 1 ≤ S ∧ S ≤ 3 := ⟨(1 + v 0 % 3).toNat, by omega, by omega, by omega⟩
  obtain ⟨W, hWe, hW9⟩ : ∃ W : Nat, v 1 % 6 = (W : Int) ∧ W ≤ 5 := ⟨(v 1 % 6).toNat, by omega, by omega⟩
  have hg := gRng1_d (n := S) (by omega)
  have hgW := gRng1_d (n := W) (by omega)
  have hSz : S ≤ sizeLine := sizeLine_big (by omega)
  have lz := lc_all (t := tName 2) (me := mLst mNilA) (fun i : Nat => D.int i) (fun _ => encR []) (List.range S) (env := [some (0, A), none, none, none, none, none, none, none, none, none, none]) (fun a _ => by simp -implicitDefEqProofs [encR])
  have e1 : ((List.range S).map fun _ => encR []) = (List.replicate S ([] : List T3)).map encR := by rw [List.map_replicate]; simp [List.map_const']
  refine Tells.eq ?_
  simp only [F_law, m_law, runD]
  refine t_seq (e := [some (0, A), some (2, encD (List.replicate S [])), none, none, none, none, none, none, none, none, none]) (by
    simp -implicitDefEqProofs [c0, m0, hSe, e_mLc, hg]
    rw [lz, e1]
    simp -implicitDefEqProofs [hSz, encD]) ?_
  refine t_seqP (P := fun e => ∃ (ds : Drw) (C : List Crs), WD S ds C ∧ C.length = W ∧ e = [some (0, A), some (2, encD ds), none, none, none, none, none, none, none, none, none]) ?_ ?_
  · obtain ⟨⟨ds, C⟩, ⟨hW, hC⟩, hf⟩ := for_run (fun s : Drw × List Crs => [some (0, A), some (2, encD s.1), none, none, none, none, none, none, none, none, none]) (fun i : Nat => D.int i) (fun i s => WD S s.1 s.2 ∧ s.2.length = i) (List.range W) (List.replicate S [], []) (it := fun env => (mOp gMod (mCall 0 F__law_cell_at (mConsA (mVar 0) (mConsA (mC (.int 1)) mNilA))) (mC (.int 6))) env >>= gRng1) (t := tName 2) (fg := [2]) (body := mSet 1 2 [] (mCall 2 F__law_crossed (mConsA (mVar 1) (mConsA (mCall 0 F__law_cell_at (mConsA (mVar 0) (mConsA (mOp gAdd (mC (.int 11)) (mVar 2)) mNilA))) mNilA)))) (env := [some (0, A), some (2, encD (List.replicate S [])), none, none, none, none, none, none, none, none, none]) (by
      generalize encD (List.replicate S []) = D0 at *
      simp -implicitDefEqProofs [c1, m1, hWe, hgW]) rfl ⟨WD.zero S, rfl⟩ (fun i k s hk hp => by
      obtain ⟨rfl, hkW⟩ := rng_at hk
      obtain ⟨hw, hl⟩ := hp
      have ck := cv (11 + k) (by omega)
      rw [show ((11 + k : Nat) : Int) = 11 + (k : Int) by omega] at ck
      obtain ⟨ds', c, hcr, hw'⟩ := crossed_is hw hS1 hS3 (by omega) (v (11 + k))
      refine ⟨(ds', s.2 ++ [c]), ⟨hw', by rw [List.length_append, hl]; rfl⟩, ?_⟩
      have i2 : immAt 2 (encD ds') = true := by simp
      show (tName 2 0 (.int (k : Int)) [some (0, A), some (2, encD s.1), none, none, none, none, none, none, none, none, none] >>= fun e => _) = .ok [some (0, A), some (2, encD ds'), none, none, none, none, none, none, none, none, none]
      generalize encD ds' = D2 at *
      generalize encD s.1 = D1 at *
      simp -implicitDefEqProofs [ck, hcr, i2])
    rw [List.length_range] at hC
    exact Tells.of hf ⟨_, rfl, ds, C, hW, hC, rfl⟩
  rintro _ ⟨ds, C, hW, hC, rfl⟩
  have hln := hW.len
  have hD := hW.dr hS3 (by omega)
  have hdl := hW.di.len
  have hcnt : ∀ r ∈ ds, r.length ≤ 100 := fun r hr => by have := hW.di.cnt r hr; omega
  obtain ⟨w, hw⟩ : ∃ w, w = v 2 % 4 := ⟨_, rfl⟩
  rw [← hw] at m2
  refine t_seq (e := [some (0, A), some (2, encD ds), none, some (0, .int w), none, none, none, none, none, none, none]) (by
    generalize encD ds = DD at *
    simp -implicitDefEqProofs [c2, m2]) ?_
  -- three more
  have mw := e_gMod w 2 (by decide)
  have qw := gEq_i (w % 2) 1
  refine t_seqP (P := fun e => ∃ (E : Drw) (x4 x5 : Option (Nat × D)), Dr E ∧ E.flatten.length ≤ 16 ∧ E.length = S ∧ e = [some (0, A), some (2, encD E), none, some (0, .int w), x4, x5, none, none, none, none, none]) ?_ ?_
  · by_cases h1 : w % 2 = 1
    · rw [decide_eq_true h1] at qw
      rw [t_ifT (by
        generalize encD ds = DD at *
        simp -implicitDefEqProofs [mw, qw, -e_gEq_int])]
      have hnm : F__law_names [encD ds] = .ok (.lst ((nmsL ds).map D.int)) := lnames0 (ds := ds) (by omega)
      have hNl := nmsL_len ds
      obtain ⟨a, ha1, ha2, _, _⟩ := free29 (nmsL ds) (by omega) (v 3)
      obtain ⟨b, hb1, hb2, _, _⟩ := free29 (nmsL ds ++ [a]) (by rw [List.length_append, List.length_singleton]; omega) (v 4)
      obtain ⟨c, hc1, hc2, _, _⟩ := free29 (nmsL ds ++ [a] ++ [b]) (by rw [List.length_append, List.length_append, List.length_singleton, List.length_singleton]; omega) (v 5)
      have ab : a ≠ b := fun e => hb2 (by rw [← e]; simp)
      have ac : a ≠ c := fun e => hc2 (by rw [← e]; simp)
      have bc : b ≠ c := fun e => hc2 (by rw [← e]; simp)
      have zN : ∀ N : List Int, N.length ≤ 900 → (N.map D.int).length < sizeLine := fun N h => sizeLine_lt (by rw [List.length_map]; omega)
      have iN : immAt 1 (.lst ((nmsL ds).map D.int)) = true := by simp
      obtain ⟨N4, hN4⟩ : ∃ N4, N4 = nmsL ds ++ [a] ++ [b] ++ [c] := ⟨_, rfl⟩
      have hcut := last3 (nmsL ds) a b c
      rw [← hN4] at hcut
      have iN4 : immAll (N4.map D.int) = true := by rw [e_immAll_map, List.all_eq_true]; intro _ _; rfl
      obtain ⟨E, hE, hEl, hEp⟩ := three_is (E := ds) (by omega) (by omega) hcnt a b c (v 6 % 96) (v 7) (v 8) (v 9) (by omega) (by omega)
      have hT := three_dr hD (by omega) (by omega) ab ac bc (nms_free hD ha2) (nms_free hD (n := b) (fun h => hb2 (by simp [h]))) (nms_free hD (n := c) (fun h => hc2 (by simp [h]))) hEp
      have st : ∀ (N : List Int) (k z : Int) (w' : Int), F__law_cell_at [A, .int (3 + k)] = .ok (.int w') → F__law_free [.lst (N.map D.int), .int w'] = .ok (.int z) → N.length ≤ 900 → (tName 2 0 (.int k) [some (0, A), some (2, encD ds), none, some (0, .int w), some (1, .lst (N.map D.int)), none, none, none, none, none, none] >>= fun e => (mAppend 4 0 [] (mCall 0 F__law_free (mConsA (mVar 4) (mConsA (mCall 0 F__law_cell_at (mConsA (mVar 0) (mConsA (mOp gAdd (mC (.int 3)) (mVar 2)) mNilA))) mNilA)))) e >>= stepc [2]) = .ok [some (0, A), some (2, encD ds), none, some (0, .int w), some (1, .lst ((N ++ [z]).map D.int)), none, none, none, none, none, none] := by
        intro N k z w' h1 h2 h3
        have h4 := zN N h3
        rw [List.map_append, List.map_singleton]
        generalize N.map D.int = NN at *
        generalize encD ds = DD at *
        simp -implicitDefEqProofs [h1, h2, h4]
      refine Tells.of (?_ : _ = Res.ok (Ctl.nx [some (0, A), some (2, encD E), none, some (0, .int w), some (1, .lst (N4.map D.int)), some (1, .lst [.int (v 7), .int (v 8), .int (v 9)]), none, none, none, none, none])) ⟨_, rfl, E, _, _, hT.1, by omega, by omega, rfl⟩
      refine s_seq2 (e := [some (0, A), some (2, encD ds), none, some (0, .int w), some (1, .lst ((nmsL ds).map D.int)), none, none, none, none, none, none]) ?_ (s_seq2 (e := [some (0, A), some (2, encD ds), none, some (0, .int w), some (1, .lst (N4.map D.int)), none, none, none, none, none, none]) ?_ (s_seq2 (e := [some (0, A), some (2, encD ds), none, some (0, .int w), some (1, .lst (N4.map D.int)), some (1, .lst [.int (v 7), .int (v 8), .int (v 9)]), none, none, none, none, none]) ?_ ?_))
      · generalize (nmsL ds).map D.int = NN at *
        generalize encD ds = DD at *
        simp -implicitDefEqProofs [hnm, iN]
      · have hg3 : gRng1 (.int 3) = .ok [.int 0, .int 1, .int 2] := rfl
        rw [hN4]
        refine for_of (ds := [.int 0, .int 1, .int 2]) hg3 ?_
        rw [loop_step (st (nmsL ds) 0 a (v 3) c3 ha1 (by omega)), loop_step (st (nmsL ds ++ [a]) 1 b (v 4) c4 hb1 (by rw [List.length_append, List.length_singleton]; omega)), loop_step (st (nmsL ds ++ [a] ++ [b]) 2 c (v 5) c5 hc1 (by rw [List.length_append, List.length_append, List.length_singleton, List.length_singleton]; omega))]
        rfl
      · have hlc : lcLoop (tName 2) (fun _ => .ok true) (mCall 0 F__law_cell_at (mConsA (mVar 0) (mConsA (mOp gAdd (mC (.int 7)) (mVar 2)) mNilA))) [some (0, A), some (2, encD ds), none, some (0, .int w), some (1, .lst (N4.map D.int)), none, none, none, none, none, none] ([(0, v 7), (1, v 8), (2, v 9)].map fun p : Int × Int => D.int p.1) = .ok ([(0, v 7), (1, v 8), (2, v 9)].map fun p : Int × Int => D.int p.2) := by
          refine lc_all _ _ _ fun p hp => ?_
          have hp' : p = (0, v 7) ∨ p = (1, v 8) ∨ p = (2, v 9) := by simpa using hp
          generalize encD ds = DD at *
          generalize N4.map D.int = NN at *
          rcases hp' with rfl | rfl | rfl
          · simp -implicitDefEqProofs [c7]
          · simp -implicitDefEqProofs [c8]
          · simp -implicitDefEqProofs [c9]
        have hg3 : gRng1 (.int 3) = .ok ([(0, v 7), (1, v 8), (2, v 9)].map fun p : Int × Int => D.int p.1) := rfl
        have eo : ([(0, v 7), (1, v 8), (2, v 9)].map fun p : Int × Int => D.int p.2) = [.int (v 7), .int (v 8), .int (v 9)] := rfl
        rw [eo] at hlc
        have hz3 : (3 : Nat) ≤ sizeLine := by decide
        generalize ([(0, v 7), (1, v 8), (2, v 9)].map fun p : Int × Int => D.int p.1) = R3 at *
        generalize N4.map D.int = NN at *
        generalize encD ds = DD at *
        simp -implicitDefEqProofs [e_mLc, hg3, hlc, hz3]
      · have gn3 : gNeg (.int 3) = .ok (.int (-3)) := rfl
        have i2 : immAt 2 (encD E) = true := by simp
        generalize encD E = EE at *
        generalize N4.map D.int = NN at *
        generalize encD ds = DD at *
        generalize D.lst [.int (v 7), .int (v 8), .int (v 9)] = CE at *
        simp -implicitDefEqProofs [immL, iN4, gn3, mSlice, hcut, c6, m6, hE, i2]
    · rw [decide_eq_false h1] at qw
      rw [t_ifF (by
        generalize encD ds = DD at *
        simp -implicitDefEqProofs [mw, qw, -e_gEq_int])]
      exact Tells.of rfl ⟨_, rfl, ds, none, none, hD, by omega, hdl, rfl⟩
  rintro _ ⟨E, x4, x5, hDE, hEf, hEl, rfl⟩
  -- a lay more
  have f4 := e_gFdv (v 2) 4 (by decide) (by decide)
  have mf := e_gMod (v 2 / 4) 2 (by decide)
  have qf := gEq_i (v 2 / 4 % 2) 0
  have gw : gGt (.int w) (.int 1) = .ok (.bl (decide (1 < w))) := rfl
  refine t_seqP (P := fun e => ∃ (G : Drw), Dr G ∧ G.flatten.length ≤ 20 ∧ G.length = S ∧ e = [some (0, A), some (2, encD G), none, some (0, .int w), x4, x5, none, none, none, none, none]) ?_ ?_
  · have hE0 : E ≠ [] := fun e => by rw [e] at hEl; simp at hEl; omega
    obtain ⟨P12, hP12⟩ : ∃ P : Int, P = 1000000000000 := ⟨_, rfl⟩
    have gp : gPow (.int 10) (.int 12) = .ok (.int P12) := by rw [hP12]; exact if_pos (e := Res.bad) (show (0 : Int) ≤ 12 ∧ (12 : Int) ≤ 1000000 ∧ (10 : Int).natAbs < 2 ^ 64 from ⟨by decide, by decide, by decide⟩)
    have m10 := e_gMod (v 10) P12 (by omega)
    obtain ⟨G, hG, hGd, hGf, hGl⟩ := withlay_is hDE (by omega) hE0 (v 10 % P12)
    have i2 : immAt 2 (encD G) = true := by simp
    by_cases h1 : (1 < w) ∧ v 2 / 4 % 2 = 0
    · rw [decide_eq_true h1.1] at gw
      rw [decide_eq_true h1.2] at qf
      refine Tells.of (?_ : _ = Res.ok (Ctl.nx [some (0, A), some (2, encD G), none, some (0, .int w), x4, x5, none, none, none, none, none])) ⟨_, rfl, G, hGd, by omega, by omega, rfl⟩
      generalize encD G = GG at *
      generalize encD E = EE at *
      simp -implicitDefEqProofs [gw, c2, f4, mf, qf, c10, gp, m10, hG, i2, -e_gEq_int, -e_gGt]
    · refine Tells.of (?_ : _ = Res.ok (Ctl.nx [some (0, A), some (2, encD E), none, some (0, .int w), x4, x5, none, none, none, none, none])) ⟨_, rfl, E, hDE, by omega, hEl, rfl⟩
      generalize encD G = GG at *
      generalize encD E = EE at *
      by_cases h2 : 1 < w
      · have h3 : ¬ v 2 / 4 % 2 = 0 := fun z => h1 ⟨h2, z⟩
        rw [decide_eq_true h2] at gw
        rw [decide_eq_false h3] at qf
        simp -implicitDefEqProofs [gw, c2, f4, mf, qf, -e_gEq_int, -e_gGt]
      · rw [decide_eq_false h2] at gw
        simp -implicitDefEqProofs [gw, -e_gGt]
  rintro _ ⟨G, hDG, hGf, hGl, rfl⟩
  have h12 : (hnds G).length ≤ 12 := hDG.cnt_le (by omega)
  have hle := llessening_is hDG h12
  have hpl := lessening_is hDG h12
  have iM := immAtM (dueL G)
  have hdul := due_len hDG h12
  have hmv : ∀ m ∈ dueL G, ∃ mv : Mv, mv.told = lmE m := fun m hm => by
    obtain ⟨mv, _, h, _⟩ := due_done κ hDG hm
    exact ⟨mv, h⟩
  have hls := listed_is (ms := dueL G) (by omega) hmv
  have qq : gEq (encD G) (encD G) = .ok (.bl true) := by rw [gEq_D]; simp
  refine t_seq (e := [some (0, A), some (2, encD G), none, some (0, .int w), x4, x5, some (1, encM (dueL G)), none, none, none, none]) (by
    generalize encM (dueL G) = MM at *
    generalize encD G = GG at *
    simp -implicitDefEqProofs [hle, iM]) ?_
  have cp := cpy15 (x := G) (sizeLine_big (by omega)) 10 (mVarK 1 0) [some (0, A), some (0, encD G), none, some (0, .int w), x4, x5, some (1, encM (dueL G)), none, none, none, none] rfl rfl
  refine t_seq (e := [some (0, A), some (0, encD G), none, some (0, .int w), x4, x5, some (1, encM (dueL G)), some (2, encD G), none, none, none]) (by
    rw [e_mFz]
    show (mSet _ _ _ _ : Mir.Env → Res Ctl) [some (0, A), some (0, encD G), none, some (0, .int w), x4, x5, some (1, encM (dueL G)), none, none, none, none] = _
    exact set_of cp rfl) ?_
  refine t_seq (e := [some (0, A), some (0, encD G), none, some (0, .int w), x4, x5, some (1, encM (dueL G)), some (2, encD G), none, none, none]) (by
    generalize encM (dueL G) = MM at *
    generalize encD G = GG at *
    simp -implicitDefEqProofs [hpl, iM, hls]) ?_
  refine t_seq (e := [some (0, A), some (0, encD G), none, some (0, .int w), x4, x5, some (0, encM (dueL G)), some (2, encD G), none, none, none]) (by
    rw [e_mFz]
    show (mFor _ _ _ _ : Mir.Env → Res Ctl) [some (0, A), some (0, encD G), none, some (0, .int w), x4, x5, some (0, encM (dueL G)), some (2, encD G), none, none, none] = _
    refine for_look lmE (dueL G) rfl fun m hm => ?_
    obtain ⟨mv, Q, ht, hQs, hQf, hdn⟩ := due_done κ hDG hm
    have mo := moveof_is κ mv
    rw [ht] at mo
    have io : (mv.ob κ).imm = true := by cases mv <;> rfl
    have i2 : immAt 2 (encD (Q.map seat)) = true := by simp
    have sum1 : ∀ X : Drw, X.length ≤ 10 → ∀ env : Mir.Env, (∃ src : Mir.Env → Res D, True) → True := fun _ _ _ _ => trivial
    refine step_of (e1 := [some (0, A), some (0, encD G), none, some (0, .int w), x4, x5, some (0, encM (dueL G)), some (2, encD G), some (0, lmE m), none, none]) (e2 := [some (0, A), some (0, encD G), none, some (0, .int w), x4, x5, some (0, encM (dueL G)), some (2, encD G), some (0, lmE m), some (0, encD (Q.map seat)), none]) rfl ?_ rfl
    refine s_seq2 (e := [some (0, A), some (0, encD G), none, some (0, .int w), x4, x5, some (0, encM (dueL G)), some (2, encD G), some (0, lmE m), some (2, encD (Q.map seat)), none]) ?_ ?_
    · generalize encM (dueL G) = MM at *
      generalize encD (Q.map seat) = QQ at *
      generalize encD G = GG at *
      generalize lmE m = LM at *
      simp -implicitDefEqProofs [mo, io, hdn, i2]
    · have len1 : ∀ (X : Drw) (env : Mir.Env) (mi : Mir.Env → Res (List D)), X.length ≤ 10 → mi env = .ok (X.map encR) → chk (noOwn [10] env) = .ok () → (∀ r ∈ X, (tName 10 0 (encR r) env >>= mUn gLen (mVar 10)) = .ok (.int ((r.length : Nat) : Int))) → (mUn gSum (mLc mi (tName 10) (fun _ => .ok true) (mUn gLen (mVar 10)) [10])) env = .ok (.int ((X.flatten.length : Nat) : Int)) := by
        intro X env mi hX hmi hchk hr
        have hlc := lc_all (t := tName 10) (me := mUn gLen (mVar 10)) (env := env) encR (fun r => D.int ((r.length : Nat) : Int)) X hr
        have hz : (X.map fun r => D.int ((r.length : Nat) : Int)).length ≤ sizeLine := sizeLine_big (by rw [List.length_map]; omega)
        have hs := gSum_int (X.map fun r => ((r.length : Nat) : Int))
        rw [List.map_map, sumlen] at hs
        rw [e_mUn, e_mLc, hchk, ok_bind, hmi, ok_bind, hlc, ok_bind, if_pos hz, ok_bind]
        exact hs
      have stp : ∀ (env : Mir.Env) (r : List T3), 10 < env.length → (tName 10 0 (encR r) env >>= mUn gLen (mVar 10)) = .ok (.int ((r.length : Nat) : Int)) := fun env r he => by
        have gl : gLen (encR r) = .ok (.int (r.length : Nat)) := by
          show Res.ok (D.int (((r.map t3).length : Nat) : Int)) = _
          rw [List.length_map]
        rw [e_tName, if_pos he, ok_bind, e_mUn, e_mVar, List.getElem?_set_self he, ok_bind]
        exact gl
      rw [e_mFz]
      show (mIf _ _ _ : Mir.Env → Res Ctl) [some (0, A), some (0, encD G), none, some (0, .int w), x4, x5, some (0, encM (dueL G)), some (2, encD G), some (0, lmE m), some (0, encD (Q.map seat)), none] = _
      have l1 := len1 (Q.map seat) [some (0, A), some (0, encD G), none, some (0, .int w), x4, x5, some (0, encM (dueL G)), some (2, encD G), some (0, lmE m), some (0, encD (Q.map seat)), none] (fun env => (mVarK 9 0) env >>= itemsL) (by rw [List.length_map]; exact hQs.len) rfl rfl (fun r _ => stp _ r (by show (10 : Nat) < 11; omega))
      have l2 := len1 G [some (0, A), some (0, encD G), none, some (0, .int w), x4, x5, some (0, encM (dueL G)), some (2, encD G), some (0, lmE m), some (0, encD (Q.map seat)), none] (fun env => (mVarK 1 0) env >>= itemsL) (by omega) rfl rfl (fun r _ => stp _ r (by show (10 : Nat) < 11; omega))
      have hlt : decide (((G.flatten.length : Nat) : Int) < (((Q.map seat).flatten.length : Nat) : Int)) = false := decide_eq_false (by rw [seat_flen]; omega)
      have gg : gGt (.int (((Q.map seat).flatten.length : Nat) : Int)) (.int ((G.flatten.length : Nat) : Int)) = .ok (.bl false) := by
        show Res.ok (D.bl (decide (((G.flatten.length : Nat) : Int) < (((Q.map seat).flatten.length : Nat) : Int)))) = _
        rw [hlt]
      rw [t_ifF (by rw [e_mTb, e_mOp, l1, ok_bind, l2, ok_bind, gg, ok_bind, e_toB])]
      rfl) ?_
  refine Tells.eqI ?_
  generalize encM (dueL G) = MM at *
  generalize encD G = GG at *
  simp -implicitDefEqProofs [hpl, iM, hls, qq]

def top (i : Nat) : Stmt := PySem.Challenge.pw_knotwise_k27_lessening.main.body.getD i (.Pass ⟨0, 0, 0, 0⟩)
open PyProof.Rows (envOfC)
structure Txt (K : PySem.W.Frag) (mg : Str → Option Value) (κ : Str → Addr) : Prop where
  b_bool : mg "bool" = none
  b_enumerate : mg "enumerate" = none
  b_int : mg "int" = none
  b_isinstance : mg "isinstance" = none
  b_len : mg "len" = none
  b_list : mg "list" = none
  b_min : mg "min" = none
  b_range : mg "range" = none
  b_sorted : mg "sorted" = none
  b_str : mg "str" = none
  b_sum : mg "sum" = none
  b_tuple : mg "tuple" = none
  b_BARE : ∃ t, mg "BARE" = some (.int 2 t)
  b_MOST_CROSSINGS : ∃ t, mg "MOST_CROSSINGS" = some (.int 12 t)
  b_OVER : ∃ t, mg "OVER" = some (.int 0 t)
  b_UNDER : ∃ t, mg "UNDER" = some (.int 1 t)
  o_Curl : OCl K mg κ "Curl"
  o_Lay : OCl K mg κ "Lay"
  o_Part : OCl K mg κ "Part"
  o_Slide : OCl K mg κ "Slide"
  o_Uncurl : OCl K mg κ "Uncurl"
  a_Curl_first : NoAttr K (κ "Curl") "first"
  a_Curl_hand : NoAttr K (κ "Curl") "hand"
  a_Curl_name : NoAttr K (κ "Curl") "name"
  a_Curl_spot : NoAttr K (κ "Curl") "spot"
  a_Lay_hand : NoAttr K (κ "Lay") "hand"
  a_Lay_name : NoAttr K (κ "Lay") "name"
  a_Lay_over : NoAttr K (κ "Lay") "over"
  a_Lay_second : NoAttr K (κ "Lay") "second"
  a_Lay_turned : NoAttr K (κ "Lay") "turned"
  a_Lay_under : NoAttr K (κ "Lay") "under"
  a_Part_name : NoAttr K (κ "Part") "name"
  a_Part_second : NoAttr K (κ "Part") "second"
  a_Slide_name : NoAttr K (κ "Slide") "name"
  a_Slide_second : NoAttr K (κ "Slide") "second"
  a_Slide_third : NoAttr K (κ "Slide") "third"
  a_Slide_turn : NoAttr K (κ "Slide") "turn"
  a_Uncurl_name : NoAttr K (κ "Uncurl") "name"
abbrev s__law_next : Stmt := top 55
theorem sc__law_next : FnScope ["_law_drawing", "_law_behind", "_law_row", "_law_k", "_law_other"] ["_law_drawing"] (defScope s__law_next) := ⟨rfl, rfl, rfl, by decide +kernel, rfl, by decide +kernel, by decide +kernel⟩
theorem ok__law_next {P : Program} {w : World} {K : PySem.W.Frag} {mg : Str → Option Value} {base : Heap} {κ : Str → Addr} (T : Txt K mg κ) (A : At K mg "_law_next" s__law_next)  : Cal P w K mg base "_law_next" 1 1 1 F__law_next := by
  obtain ⟨f, fd, F, hm⟩ := A.ex
  refine ⟨f, fd, ["_law_drawing"], hm, F.kp, F.binds (fun _ _ _ _ _ _ us hl => match us, hl with | [_], _ => rfl), def_ok (m := m__law_next) F sc__law_next rfl rfl fun cdv A outer s H E hr => ?_⟩
  have nd := sc__law_next.nd
  have hu := hr.units
  have hu1 : (A.deeper (envOfC "_law_next" (defScope s__law_next) s.heap.objs.size f cdv)).units + 1 < cLine := by omega
  have hu65 : (A.deeper (envOfC "_law_next" (defScope s__law_next) s.heap.objs.size f cdv)).units + 65 < cLine := by have := hr.un; omega
  exact (ss_cons (s_set (i := 1) nd rfl (.inl rfl) (se_dnewT (k := 0))) (ss_cons (s_for .never rfl (si_list (se_var (pv 0))) (tg_name (i := 2) (pg_name nd rfl (.inl rfl))) (ss_one (s_for .never rfl (si_range1 (by rfl) T.b_range (sb_c (sc_len (by rfl) T.b_len (sb_var (pv 2))))) (tg_name (i := 3) (pg_name nd rfl (.inl rfl))) (ss_cons (s_set (i := 4) nd rfl (.inl rfl) (se_c (k := 0) (sc_b (sb_ix (sb_var (pv 2)) (sb_c (sc_op o_mod (sb_c (sc_op o_add (sb_var (pv 3)) (sb_c sc_int))) (sb_c (sc_len (by rfl) T.b_len (sb_var (pv 2)))))) (fun _ _ => rfl))))) (ss_one (s_dput (j := 1) hu1 (pv 1) (sb_c (sc_tup (sae_cons (se_c (k := 0) (sc_b (sb_ix (sb_ix (sb_var (pv 2)) (sb_var (pv 3)) (fun _ _ => rfl)) (sb_c sc_int) (fun _ _ => rfl)))) (sae_cons (se_c (k := 0) (sc_b (sb_ix (sb_ix (sb_var (pv 2)) (sb_var (pv 3)) (fun _ _ => rfl)) (sb_c sc_int) (fun _ _ => rfl)))) (sae_nil (k := 0)))))) (se_c (k := 0) (sc_tup (sae_cons (se_c (k := 0) (sc_b (sb_ix (sb_var (pv 4)) (sb_c sc_int) (fun _ _ => rfl)))) (sae_cons (se_c (k := 0) (sc_b (sb_ix (sb_var (pv 4)) (sb_c sc_int) (fun _ _ => rfl)))) (sae_nil (k := 0))))))))) (fg := [3, 4]))) (fg := [2, 3, 4])) (ss_one (s_ret (se_move (k := 1) (pv 1))))))
abbrev s__law_hands : Stmt := top 54
theorem sc__law_hands : FnScope ["_law_drawing", "_law_hands_here", "_law_row", "_law_passing"] ["_law_drawing"] (defScope s__law_hands) := ⟨rfl, rfl, rfl, by decide +kernel, rfl, by decide +kernel, by decide +kernel⟩
theorem ok__law_hands {P : Program} {w : World} {K : PySem.W.Frag} {mg : Str → Option Value} {base : Heap} {κ : Str → Addr} (T : Txt K mg κ) (A : At K mg "_law_hands" s__law_hands)  : Cal P w K mg base "_law_hands" 1 1 1 F__law_hands := by
  obtain ⟨f, fd, F, hm⟩ := A.ex
  refine ⟨f, fd, ["_law_drawing"], hm, F.kp, F.binds (fun _ _ _ _ _ _ us hl => match us, hl with | [_], _ => rfl), def_ok (m := m__law_hands) F sc__law_hands rfl rfl fun cdv A outer s H E hr => ?_⟩
  have nd := sc__law_hands.nd
  have hu := hr.units
  have hu1 : (A.deeper (envOfC "_law_hands" (defScope s__law_hands) s.heap.objs.size f cdv)).units + 1 < cLine := by omega
  have hu65 : (A.deeper (envOfC "_law_hands" (defScope s__law_hands) s.heap.objs.size f cdv)).units + 65 < cLine := by have := hr.un; omega
  exact (ss_cons (s_set (i := 1) nd rfl (.inl rfl) (se_dnewK (k := 0))) (ss_cons (s_for .never rfl (si_list (se_var (pv 0))) (tg_name (i := 2) (pg_name nd rfl (.inl rfl))) (ss_one (s_for .never rfl (si_list (se_var (pv 2))) (tg_name (i := 3) (pg_name nd rfl (.inl rfl))) (ss_one (s_dput (j := 1) hu1 (pv 1) (sb_ix (sb_var (pv 3)) (sb_c sc_int) (fun _ _ => rfl)) (se_c (k := 0) (sc_b (sb_ix (sb_var (pv 3)) (sb_c sc_int) (fun _ _ => rfl)))))) (fg := [3]))) (fg := [2, 3])) (ss_one (s_ret (se_move (k := 1) (pv 1))))))
abbrev s__law_beside : Stmt := top 60
theorem sc__law_beside : FnScope ["_law_behind", "_law_one", "_law_other"] ["_law_behind", "_law_one", "_law_other"] (defScope s__law_beside) := ⟨rfl, rfl, rfl, by decide +kernel, rfl, by decide +kernel, by decide +kernel⟩
theorem ok__law_beside {P : Program} {w : World} {K : PySem.W.Frag} {mg : Str → Option Value} {base : Heap} {κ : Str → Addr} (T : Txt K mg κ) (A : At K mg "_law_beside" s__law_beside)  : Cal P w K mg base "_law_beside" 1 3 0 F__law_beside := by
  obtain ⟨f, fd, F, hm⟩ := A.ex
  refine ⟨f, fd, ["_law_behind", "_law_one", "_law_other"], hm, F.kp, F.binds (fun _ _ _ _ _ _ us hl => match us, hl with | [_, _, _], _ => rfl), def_ok (m := m__law_beside) F sc__law_beside rfl rfl fun cdv A outer s H E hr => ?_⟩
  have nd := sc__law_beside.nd
  have hu := hr.units
  have hu1 : (A.deeper (envOfC "_law_beside" (defScope s__law_beside) s.heap.objs.size f cdv)).units + 1 < cLine := by omega
  have hu65 : (A.deeper (envOfC "_law_beside" (defScope s__law_beside) s.heap.objs.size f cdv)).units + 65 < cLine := by have := hr.un; omega
  exact (ss_one (s_ret (se_c (k := 0) (sc_or (sb_c (sc_cmp (o_eq hu) (sb_dget hu1 (sb_var (pv 0)) (sb_var (pv 1)) (fun _ _ => rfl)) (sb_var (pv 2)) (nomark _))) (sc_one (sc_cmp (o_eq hu) (sb_dget hu1 (sb_var (pv 0)) (sb_var (pv 2)) (fun _ _ => rfl)) (sb_var (pv 1)) (nomark _)))))))
abbrev s__law_parts : Stmt := top 61
theorem sc__law_parts : FnScope ["_law_behind", "_law_hands_here", "_law_told", "_law_a", "_law_b"] ["_law_behind", "_law_hands_here", "_law_told"] (defScope s__law_parts) := ⟨rfl, rfl, rfl, by decide +kernel, rfl, by decide +kernel, by decide +kernel⟩
theorem ok__law_parts {P : Program} {w : World} {K : PySem.W.Frag} {mg : Str → Option Value} {base : Heap} {κ : Str → Addr} (T : Txt K mg κ) (A : At K mg "_law_parts" s__law_parts) (C__law_beside : Cal P w K mg base "_law_beside" 1 3 0 F__law_beside) : Cal P w K mg base "_law_parts" 2 3 0 F__law_parts := by
  obtain ⟨f, fd, F, hm⟩ := A.ex
  refine ⟨f, fd, ["_law_behind", "_law_hands_here", "_law_told"], hm, F.kp, F.binds (fun _ _ _ _ _ _ us hl => match us, hl with | [_, _, _], _ => rfl), def_ok (m := m__law_parts) F sc__law_parts rfl rfl fun cdv A outer s H E hr => ?_⟩
  have nd := sc__law_parts.nd
  have hu := hr.units
  have hu1 : (A.deeper (envOfC "_law_parts" (defScope s__law_parts) s.heap.objs.size f cdv)).units + 1 < cLine := by omega
  have hu65 : (A.deeper (envOfC "_law_parts" (defScope s__law_parts) s.heap.objs.size f cdv)).units + 65 < cLine := by have := hr.un; omega
  exact (ss_cons (s_asg (tg_tup rfl (tgs_cons (tg_name (i := 3) (pg_name nd rfl (.inl rfl))) (tgs_cons (tg_name (i := 4) (pg_name nd rfl (.inl rfl))) tgs_nil))) (se_c (k := 0) (sc_sliceT (sb_var (pv 2)) (so_some (sb_c sc_int)) so_none))) (ss_cons (s_if (st_w (sw_or (st_cmp (o_eq hu) (sb_var (pv 3)) (sb_var (pv 4)) (nomark _)) (sw_or (st_cmp (o_eq hu) (sb_dget hu1 (sb_var (pv 1)) (sb_var (pv 3)) (fun _ _ => rfl)) (sb_dget hu1 (sb_var (pv 1)) (sb_var (pv 4)) (fun _ _ => rfl)) (nomark _)) (sw_or1 (st_not (st_val (sb_e (se_cal C__law_beside (hr.mono (by decide)) (by rfl) (sab_cons (sb_var (pv 0)) (sab_cons (sb_c (sc_tup (sae_cons (se_c (k := 0) (sc_b (sb_var (pv 3)))) (sae_cons (se_c (k := 0) sc_int) (sae_nil (k := 0)))))) (sab_cons (sb_c (sc_tup (sae_cons (se_c (k := 0) (sc_b (sb_var (pv 4)))) (sae_cons (se_c (k := 0) sc_int) (sae_nil (k := 0)))))) sab_nil))) (hl := (sab_len (sab_len (sab_len sab_len0)))))))))))) (ss_one (s_ret (se_c (k := 0) sc_bl))) ss_nil) (ss_one (s_ret (se_cal C__law_beside (hr.mono (by decide)) (by rfl) (sab_cons (sb_var (pv 0)) (sab_cons (sb_c (sc_tup (sae_cons (se_c (k := 0) (sc_b (sb_var (pv 3)))) (sae_cons (se_c (k := 0) sc_int) (sae_nil (k := 0)))))) (sab_cons (sb_c (sc_tup (sae_cons (se_c (k := 0) (sc_b (sb_var (pv 4)))) (sae_cons (se_c (k := 0) sc_int) (sae_nil (k := 0)))))) sab_nil))) (hl := (sab_len (sab_len (sab_len sab_len0)))))))))
abbrev s__law_pairs_of : Stmt := top 62
theorem sc__law_pairs_of : FnScope ["_law_behind", "_law_hands_here", "_law_found", "_law_a", "_law_b"] ["_law_behind", "_law_hands_here"] (defScope s__law_pairs_of) := ⟨rfl, rfl, rfl, by decide +kernel, rfl, by decide +kernel, by decide +kernel⟩
theorem ok__law_pairs_of {P : Program} {w : World} {K : PySem.W.Frag} {mg : Str → Option Value} {base : Heap} {κ : Str → Addr} (T : Txt K mg κ) (A : At K mg "_law_pairs_of" s__law_pairs_of) (C__law_parts : Cal P w K mg base "_law_parts" 2 3 0 F__law_parts) : Cal P w K mg base "_law_pairs_of" 3 2 1 F__law_pairs_of := by
  obtain ⟨f, fd, F, hm⟩ := A.ex
  refine ⟨f, fd, ["_law_behind", "_law_hands_here"], hm, F.kp, F.binds (fun _ _ _ _ _ _ us hl => match us, hl with | [_, _], _ => rfl), def_ok (m := m__law_pairs_of) F sc__law_pairs_of rfl rfl fun cdv A outer s H E hr => ?_⟩
  have nd := sc__law_pairs_of.nd
  have hu := hr.units
  have hu1 : (A.deeper (envOfC "_law_pairs_of" (defScope s__law_pairs_of) s.heap.objs.size f cdv)).units + 1 < cLine := by omega
  have hu65 : (A.deeper (envOfC "_law_pairs_of" (defScope s__law_pairs_of) s.heap.objs.size f cdv)).units + 65 < cLine := by have := hr.un; omega
  exact (ss_cons (s_set (i := 2) nd rfl (.inl rfl) (se_lst (sae_nil (k := 0)))) (ss_cons (s_for .never rfl (si_list (se_0 (se_sortDI (k := 0) rfl (by rfl) T.b_sorted (sb_var (pv 1))))) (tg_name (i := 3) (pg_name nd rfl (.inl rfl))) (ss_one (s_for .never rfl (si_list (se_0 (se_sortDI (k := 0) rfl (by rfl) T.b_sorted (sb_var (pv 1))))) (tg_name (i := 4) (pg_name nd rfl (.inl rfl))) (ss_one (s_if (st_w (sw_and (st_cmp (o_lt hu) (sb_var (pv 3)) (sb_var (pv 4)) (nomark _)) (sw_and1 (st_val (sb_e (se_cal C__law_parts (hr.mono (by decide)) (by rfl) (sab_cons (sb_var (pv 0)) (sab_cons (sb_var (pv 1)) (sab_cons (sb_c (sc_tup (sae_cons (se_c (k := 0) sc_str) (sae_cons (se_c (k := 0) (sc_b (sb_var (pv 3)))) (sae_cons (se_c (k := 0) (sc_b (sb_var (pv 4)))) (sae_nil (k := 0))))))) sab_nil))) (hl := (sab_len (sab_len (sab_len sab_len0)))))))))) (ss_one (s_append (j := 2) (pv 2) (se_c (k := 0) (sc_tup (sae_cons (se_c (k := 0) sc_str) (sae_cons (se_c (k := 0) (sc_b (sb_var (pv 3)))) (sae_cons (se_c (k := 0) (sc_b (sb_var (pv 4)))) (sae_nil (k := 0))))))))) ss_nil)) (fg := [4]))) (fg := [3, 4])) (ss_one (s_ret (se_move (k := 1) (pv 2))))))
abbrev s__law_pairs : Stmt := top 56
theorem sc__law_pairs : FnScope ["_law_a", "_law_b", "_law_c"] ["_law_a", "_law_b", "_law_c"] (defScope s__law_pairs) := ⟨rfl, rfl, rfl, by decide +kernel, rfl, by decide +kernel, by decide +kernel⟩
theorem ok__law_pairs {P : Program} {w : World} {K : PySem.W.Frag} {mg : Str → Option Value} {base : Heap} {κ : Str → Addr} (T : Txt K mg κ) (A : At K mg "_law_pairs" s__law_pairs)  : Cal P w K mg base "_law_pairs" 1 3 1 F__law_pairs := by
  obtain ⟨f, fd, F, hm⟩ := A.ex
  refine ⟨f, fd, ["_law_a", "_law_b", "_law_c"], hm, F.kp, F.binds (fun _ _ _ _ _ _ us hl => match us, hl with | [_, _, _], _ => rfl), def_ok (m := m__law_pairs) F sc__law_pairs rfl rfl fun cdv A outer s H E hr => ?_⟩
  have nd := sc__law_pairs.nd
  have hu := hr.units
  have hu1 : (A.deeper (envOfC "_law_pairs" (defScope s__law_pairs) s.heap.objs.size f cdv)).units + 1 < cLine := by omega
  have hu65 : (A.deeper (envOfC "_law_pairs" (defScope s__law_pairs) s.heap.objs.size f cdv)).units + 65 < cLine := by have := hr.un; omega
  exact (ss_one (s_ret (se_lst (sae_cons (se_c (k := 0) (sc_tup (sae_cons (se_c (k := 0) (sc_tup (sae_cons (se_c (k := 0) (sc_b (sb_var (pv 0)))) (sae_cons (se_c (k := 0) sc_int) (sae_nil (k := 0)))))) (sae_cons (se_c (k := 0) (sc_tup (sae_cons (se_c (k := 0) (sc_b (sb_var (pv 1)))) (sae_cons (se_c (k := 0) sc_int) (sae_nil (k := 0)))))) (sae_nil (k := 0)))))) (sae_cons (se_c (k := 0) (sc_tup (sae_cons (se_c (k := 0) (sc_tup (sae_cons (se_c (k := 0) (sc_b (sb_var (pv 0)))) (sae_cons (se_c (k := 0) sc_int) (sae_nil (k := 0)))))) (sae_cons (se_c (k := 0) (sc_tup (sae_cons (se_c (k := 0) (sc_b (sb_var (pv 2)))) (sae_cons (se_c (k := 0) sc_int) (sae_nil (k := 0)))))) (sae_nil (k := 0)))))) (sae_cons (se_c (k := 0) (sc_tup (sae_cons (se_c (k := 0) (sc_tup (sae_cons (se_c (k := 0) (sc_b (sb_var (pv 1)))) (sae_cons (se_c (k := 0) sc_int) (sae_nil (k := 0)))))) (sae_cons (se_c (k := 0) (sc_tup (sae_cons (se_c (k := 0) (sc_b (sb_var (pv 2)))) (sae_cons (se_c (k := 0) sc_int) (sae_nil (k := 0)))))) (sae_nil (k := 0)))))) (sae_nil (k := 0))))))))
abbrev s__law_slides : Stmt := top 57
theorem sc__law_slides : FnScope ["_law_behind", "_law_hands_here", "_law_told", "_law_a", "_law_b", "_law_c", "_law_t", "_law_pairs_here", "_law_turns", "_law_k", "_law_one", "_law_other"] ["_law_behind", "_law_hands_here", "_law_told"] (defScope s__law_slides) := ⟨rfl, rfl, rfl, by decide +kernel, rfl, by decide +kernel, by decide +kernel⟩
theorem ok__law_slides {P : Program} {w : World} {K : PySem.W.Frag} {mg : Str → Option Value} {base : Heap} {κ : Str → Addr} (T : Txt K mg κ) (A : At K mg "_law_slides" s__law_slides) (C__law_pairs : Cal P w K mg base "_law_pairs" 1 3 1 F__law_pairs) : Cal P w K mg base "_law_slides" 2 3 0 F__law_slides := by
  obtain ⟨f, fd, F, hm⟩ := A.ex
  refine ⟨f, fd, ["_law_behind", "_law_hands_here", "_law_told"], hm, F.kp, F.binds (fun _ _ _ _ _ _ us hl => match us, hl with | [_, _, _], _ => rfl), def_ok (m := m__law_slides) F sc__law_slides rfl rfl fun cdv A outer s H E hr => ?_⟩
  have nd := sc__law_slides.nd
  have hu := hr.units
  have hu1 : (A.deeper (envOfC "_law_slides" (defScope s__law_slides) s.heap.objs.size f cdv)).units + 1 < cLine := by omega
  have hu65 : (A.deeper (envOfC "_law_slides" (defScope s__law_slides) s.heap.objs.size f cdv)).units + 65 < cLine := by have := hr.un; omega
  exact (ss_cons (s_asg (tg_tup rfl (tgs_cons (tg_name (i := 3) (pg_name nd rfl (.inl rfl))) (tgs_cons (tg_name (i := 4) (pg_name nd rfl (.inl rfl))) (tgs_cons (tg_name (i := 5) (pg_name nd rfl (.inl rfl))) (tgs_cons (tg_name (i := 6) (pg_name nd rfl (.inl rfl))) tgs_nil))))) (se_c (k := 0) (sc_sliceT (sb_var (pv 2)) (so_some (sb_c sc_int)) so_none))) (ss_cons (s_if (st_w (sw_or (st_cmp (o_eq hu) (sb_var (pv 3)) (sb_var (pv 4)) (nomark _)) (sw_or (st_cmp (o_eq hu) (sb_var (pv 3)) (sb_var (pv 5)) (nomark _)) (sw_or1 (st_cmp (o_eq hu) (sb_var (pv 4)) (sb_var (pv 5)) (nomark _)))))) (ss_one (s_ret (se_c (k := 0) sc_bl))) ss_nil) (ss_cons (s_set (i := 7) nd rfl (.inl rfl) (se_cal C__law_pairs (hr.mono (by decide)) (by rfl) (sab_cons (sb_var (pv 3)) (sab_cons (sb_var (pv 4)) (sab_cons (sb_var (pv 5)) sab_nil))) (hl := (sab_len (sab_len (sab_len sab_len0)))))) (ss_cons (s_set (i := 8) nd rfl (.inl rfl) (se_lst (sae_cons (se_c (k := 0) (sc_b (sb_var (pv 6)))) (sae_cons (se_c (k := 0) (sc_op o_mul (sb_c (sc_op o_mul (sb_var (pv 6)) (sb_dget hu1 (sb_var (pv 1)) (sb_var (pv 4)) (fun _ _ => rfl)))) (sb_dget hu1 (sb_var (pv 1)) (sb_var (pv 5)) (fun _ _ => rfl)))) (sae_cons (se_c (k := 0) (sc_op o_mul (sb_c (sc_op o_mul (sb_var (pv 6)) (sb_dget hu1 (sb_var (pv 1)) (sb_var (pv 3)) (fun _ _ => rfl)))) (sb_dget hu1 (sb_var (pv 1)) (sb_var (pv 5)) (fun _ _ => rfl)))) (sae_nil (k := 0))))))) (ss_cons (s_for .never rfl (si_range1 (by rfl) T.b_range (sb_c sc_int)) (tg_name (i := 9) (pg_name nd rfl (.inl rfl))) (ss_cons (s_asg (tg_tup rfl (tgs_cons (tg_name (i := 10) (pg_name nd rfl (.inl rfl))) (tgs_cons (tg_name (i := 11) (pg_name nd rfl (.inl rfl))) tgs_nil))) (se_c (k := 0) (sc_b (sb_ix (sb_var (pv 7)) (sb_var (pv 9)) (fun _ _ => rfl))))) (ss_one (s_if (st_w (sw_or (st_w (sw_and (st_cmp (o_eq hu) (sb_ix (sb_var (pv 8)) (sb_var (pv 9)) (fun _ _ => rfl)) (sb_c sc_int) (nomark _)) (sw_and1 (st_cmp (o_ne hu) (sb_dget hu1 (sb_var (pv 0)) (sb_var (pv 10)) (fun _ _ => rfl)) (sb_var (pv 11)) (nomark _))))) (sw_or1 (st_w (sw_and (st_cmp (o_eq hu) (sb_ix (sb_var (pv 8)) (sb_var (pv 9)) (fun _ _ => rfl)) (sb_c (sc_neg (sb_c sc_int))) (nomark _)) (sw_and1 (st_cmp (o_ne hu) (sb_dget hu1 (sb_var (pv 0)) (sb_var (pv 11)) (fun _ _ => rfl)) (sb_var (pv 10)) (nomark _)))))))) (ss_one (s_ret (se_c (k := 0) sc_bl))) ss_nil))) (fg := [9, 10, 11])) (ss_one (s_ret (se_c (k := 0) sc_bl))))))))
abbrev s__law_slides_of : Stmt := top 63
theorem sc__law_slides_of : FnScope ["_law_behind", "_law_hands_here", "_law_found", "_law_a", "_law_b", "_law_c", "_law_t"] ["_law_behind", "_law_hands_here"] (defScope s__law_slides_of) := ⟨rfl, rfl, rfl, by decide +kernel, rfl, by decide +kernel, by decide +kernel⟩
theorem ok__law_slides_of {P : Program} {w : World} {K : PySem.W.Frag} {mg : Str → Option Value} {base : Heap} {κ : Str → Addr} (T : Txt K mg κ) (A : At K mg "_law_slides_of" s__law_slides_of) (C__law_beside : Cal P w K mg base "_law_beside" 1 3 0 F__law_beside) (C__law_slides : Cal P w K mg base "_law_slides" 2 3 0 F__law_slides) : Cal P w K mg base "_law_slides_of" 3 2 1 F__law_slides_of := by
  obtain ⟨f, fd, F, hm⟩ := A.ex
  refine ⟨f, fd, ["_law_behind", "_law_hands_here"], hm, F.kp, F.binds (fun _ _ _ _ _ _ us hl => match us, hl with | [_, _], _ => rfl), def_ok (m := m__law_slides_of) F sc__law_slides_of rfl rfl fun cdv A outer s H E hr => ?_⟩
  have nd := sc__law_slides_of.nd
  have hu := hr.units
  have hu1 : (A.deeper (envOfC "_law_slides_of" (defScope s__law_slides_of) s.heap.objs.size f cdv)).units + 1 < cLine := by omega
  have hu65 : (A.deeper (envOfC "_law_slides_of" (defScope s__law_slides_of) s.heap.objs.size f cdv)).units + 65 < cLine := by have := hr.un; omega
  exact (ss_cons (s_set (i := 2) nd rfl (.inl rfl) (se_lst (sae_nil (k := 0)))) (ss_cons (s_for .never rfl (si_list (se_0 (se_sortDI (k := 0) rfl (by rfl) T.b_sorted (sb_var (pv 1))))) (tg_name (i := 3) (pg_name nd rfl (.inl rfl))) (ss_one (s_for .never rfl (si_list (se_0 (se_sortDI (k := 0) rfl (by rfl) T.b_sorted (sb_var (pv 1))))) (tg_name (i := 4) (pg_name nd rfl (.inl rfl))) (ss_one (s_if (st_val (sb_e (se_cal C__law_beside (hr.mono (by decide)) (by rfl) (sab_cons (sb_var (pv 0)) (sab_cons (sb_c (sc_tup (sae_cons (se_c (k := 0) (sc_b (sb_var (pv 3)))) (sae_cons (se_c (k := 0) sc_int) (sae_nil (k := 0)))))) (sab_cons (sb_c (sc_tup (sae_cons (se_c (k := 0) (sc_b (sb_var (pv 4)))) (sae_cons (se_c (k := 0) sc_int) (sae_nil (k := 0)))))) sab_nil))) (hl := (sab_len (sab_len (sab_len sab_len0))))))) (ss_one (s_for .never rfl (si_list (se_0 (se_sortDI (k := 0) rfl (by rfl) T.b_sorted (sb_var (pv 1))))) (tg_name (i := 5) (pg_name nd rfl (.inl rfl))) (ss_one (s_for .never rfl (si_list (se_0 (se_lst (sae_cons (se_c (k := 0) (sc_neg (sb_c sc_int))) (sae_cons (se_c (k := 0) sc_int) (sae_nil (k := 0))))))) (tg_name (i := 6) (pg_name nd rfl (.inl rfl))) (ss_one (s_if (st_val (sb_e (se_cal C__law_slides (hr.mono (by decide)) (by rfl) (sab_cons (sb_var (pv 0)) (sab_cons (sb_var (pv 1)) (sab_cons (sb_c (sc_tup (sae_cons (se_c (k := 0) sc_str) (sae_cons (se_c (k := 0) (sc_b (sb_var (pv 3)))) (sae_cons (se_c (k := 0) (sc_b (sb_var (pv 4)))) (sae_cons (se_c (k := 0) (sc_b (sb_var (pv 5)))) (sae_cons (se_c (k := 0) (sc_b (sb_var (pv 6)))) (sae_nil (k := 0))))))))) sab_nil))) (hl := (sab_len (sab_len (sab_len sab_len0))))))) (ss_one (s_append (j := 2) (pv 2) (se_c (k := 0) (sc_tup (sae_cons (se_c (k := 0) sc_str) (sae_cons (se_c (k := 0) (sc_b (sb_var (pv 3)))) (sae_cons (se_c (k := 0) (sc_b (sb_var (pv 4)))) (sae_cons (se_c (k := 0) (sc_b (sb_var (pv 5)))) (sae_cons (se_c (k := 0) (sc_b (sb_var (pv 6)))) (sae_nil (k := 0))))))))))) ss_nil)) (fg := [6]))) (fg := [5, 6]))) ss_nil)) (fg := [4, 5, 6]))) (fg := [3, 4, 5, 6])) (ss_one (s_ret (se_move (k := 1) (pv 2))))))
abbrev s__law_lessening : Stmt := top 64
theorem sc__law_lessening : FnScope ["_law_drawing", "_law_behind", "_law_hands_here", "_law_found", "_law_name"] ["_law_drawing"] (defScope s__law_lessening) := ⟨rfl, rfl, rfl, by decide +kernel, rfl, by decide +kernel, by decide +kernel⟩
theorem ok__law_lessening {P : Program} {w : World} {K : PySem.W.Frag} {mg : Str → Option Value} {base : Heap} {κ : Str → Addr} (T : Txt K mg κ) (A : At K mg "_law_lessening" s__law_lessening) (C__law_next : Cal P w K mg base "_law_next" 1 1 1 F__law_next) (C__law_hands : Cal P w K mg base "_law_hands" 1 1 1 F__law_hands) (C__law_pairs_of : Cal P w K mg base "_law_pairs_of" 3 2 1 F__law_pairs_of) (C__law_slides_of : Cal P w K mg base "_law_slides_of" 3 2 1 F__law_slides_of) (C__law_beside : Cal P w K mg base "_law_beside" 1 3 0 F__law_beside) : Cal P w K mg base "_law_lessening" 4 1 1 F__law_lessening := by
  obtain ⟨f, fd, F, hm⟩ := A.ex
  refine ⟨f, fd, ["_law_drawing"], hm, F.kp, F.binds (fun _ _ _ _ _ _ us hl => match us, hl with | [_], _ => rfl), def_ok (m := m__law_lessening) F sc__law_lessening rfl rfl fun cdv A outer s H E hr => ?_⟩
  have nd := sc__law_lessening.nd
  have hu := hr.units
  have hu1 : (A.deeper (envOfC "_law_lessening" (defScope s__law_lessening) s.heap.objs.size f cdv)).units + 1 < cLine := by omega
  have hu65 : (A.deeper (envOfC "_law_lessening" (defScope s__law_lessening) s.heap.objs.size f cdv)).units + 65 < cLine := by have := hr.un; omega
  exact (ss_cons (s_set (i := 1) nd rfl (.inl rfl) (se_cal C__law_next (hr.mono (by decide)) (by rfl) (sab_cons (sb_var (pv 0)) sab_nil) (hl := (sab_len sab_len0)))) (ss_cons (s_set (i := 2) nd rfl (.inl rfl) (se_cal C__law_hands (hr.mono (by decide)) (by rfl) (sab_cons (sb_var (pv 0)) sab_nil) (hl := (sab_len sab_len0)))) (ss_cons (s_set (i := 3) nd rfl (.inl rfl) (se_cat (sl_imm (k := 0) (sb_e (se_cal C__law_pairs_of (hr.mono (by decide)) (by rfl) (sab_cons (sb_var (pv 1)) (sab_cons (sb_var (pv 2)) sab_nil)) (hl := (sab_len (sab_len sab_len0)))))) (sl_imm (k := 0) (sb_e (se_cal C__law_slides_of (hr.mono (by decide)) (by rfl) (sab_cons (sb_var (pv 1)) (sab_cons (sb_var (pv 2)) sab_nil)) (hl := (sab_len (sab_len sab_len0)))))))) (ss_cons (s_for .never rfl (si_list (se_0 (se_sortDI (k := 0) rfl (by rfl) T.b_sorted (sb_var (pv 2))))) (tg_name (i := 4) (pg_name nd rfl (.inl rfl))) (ss_one (s_if (st_val (sb_e (se_cal C__law_beside (hr.mono (by decide)) (by rfl) (sab_cons (sb_var (pv 1)) (sab_cons (sb_c (sc_tup (sae_cons (se_c (k := 0) (sc_b (sb_var (pv 4)))) (sae_cons (se_c (k := 0) sc_int) (sae_nil (k := 0)))))) (sab_cons (sb_c (sc_tup (sae_cons (se_c (k := 0) (sc_b (sb_var (pv 4)))) (sae_cons (se_c (k := 0) sc_int) (sae_nil (k := 0)))))) sab_nil))) (hl := (sab_len (sab_len (sab_len sab_len0))))))) (ss_one (s_append (j := 3) (pv 3) (se_c (k := 0) (sc_tup (sae_cons (se_c (k := 0) sc_str) (sae_cons (se_c (k := 0) (sc_b (sb_var (pv 4)))) (sae_nil (k := 0)))))))) ss_nil)) (fg := [4])) (ss_one (s_ret (se_move (k := 1) (pv 3))))))))
abbrev s__law_free : Stmt := top 48
theorem sc__law_free : FnScope ["_law_names_here", "_law_number", "_law_name"] ["_law_names_here", "_law_number"] (defScope s__law_free) := ⟨rfl, rfl, rfl, by decide +kernel, rfl, by decide +kernel, by decide +kernel⟩
theorem ok__law_free {P : Program} {w : World} {K : PySem.W.Frag} {mg : Str → Option Value} {base : Heap} {κ : Str → Addr} (T : Txt K mg κ) (A : At K mg "_law_free" s__law_free)  : Cal P w K mg base "_law_free" 1 2 0 F__law_free := by
  obtain ⟨f, fd, F, hm⟩ := A.ex
  refine ⟨f, fd, ["_law_names_here", "_law_number"], hm, F.kp, F.binds (fun _ _ _ _ _ _ us hl => match us, hl with | [_, _], _ => rfl), def_ok (m := m__law_free) F sc__law_free rfl rfl fun cdv A outer s H E hr => ?_⟩
  have nd := sc__law_free.nd
  have hu := hr.units
  have hu1 : (A.deeper (envOfC "_law_free" (defScope s__law_free) s.heap.objs.size f cdv)).units + 1 < cLine := by omega
  have hu65 : (A.deeper (envOfC "_law_free" (defScope s__law_free) s.heap.objs.size f cdv)).units + 65 < cLine := by have := hr.un; omega
  exact (ss_cons (s_set (i := 2) nd rfl (.inl rfl) (se_c (k := 0) (sc_op o_add (sb_c sc_int) (sb_c (sc_op o_mod (sb_var (pv 1)) (sb_c sc_int)))))) (ss_cons (s_while (n := 4096) .never (st_cmp (o_in hu65) (sb_var (pv 2)) (sb_var (pv 0)) (by rfl)) (ss_one (s_set (i := 2) nd rfl (.inl rfl) (se_c (k := 0) (sc_op o_add (sb_c sc_int) (sb_c (sc_op o_mod (sb_var (pv 2)) (sb_c sc_int))))))) (fg := [])) (ss_one (s_ret (se_c (k := 0) (sc_b (sb_var (pv 2))))))))
abbrev s__law_mixed : Stmt := top 46
theorem sc__law_mixed : FnScope ["_law_cell"] ["_law_cell"] (defScope s__law_mixed) := ⟨rfl, rfl, rfl, by decide +kernel, rfl, by decide +kernel, by decide +kernel⟩
theorem ok__law_mixed {P : Program} {w : World} {K : PySem.W.Frag} {mg : Str → Option Value} {base : Heap} {κ : Str → Addr} (T : Txt K mg κ) (A : At K mg "_law_mixed" s__law_mixed)  : Cal P w K mg base "_law_mixed" 1 1 0 F__law_mixed := by
  obtain ⟨f, fd, F, hm⟩ := A.ex
  refine ⟨f, fd, ["_law_cell"], hm, F.kp, F.binds (fun _ _ _ _ _ _ us hl => match us, hl with | [_], _ => rfl), def_ok (m := m__law_mixed) F sc__law_mixed rfl rfl fun cdv A outer s H E hr => ?_⟩
  have nd := sc__law_mixed.nd
  have hu := hr.units
  have hu1 : (A.deeper (envOfC "_law_mixed" (defScope s__law_mixed) s.heap.objs.size f cdv)).units + 1 < cLine := by omega
  have hu65 : (A.deeper (envOfC "_law_mixed" (defScope s__law_mixed) s.heap.objs.size f cdv)).units + 65 < cLine := by have := hr.un; omega
  exact (ss_one (s_ret (se_c (k := 0) (sc_op o_mod (sb_c (sc_op o_mul (sb_c (sc_op o_mod (sb_var (pv 0)) (sb_c sc_int))) (sb_c sc_int))) (sb_c sc_int)))))
abbrev s__law_names : Stmt := top 47
theorem sc__law_names : FnScope ["_law_drawing", "_law_names_here", "_law_row", "_law_passing"] ["_law_drawing"] (defScope s__law_names) := ⟨rfl, rfl, rfl, by decide +kernel, rfl, by decide +kernel, by decide +kernel⟩
theorem ok__law_names {P : Program} {w : World} {K : PySem.W.Frag} {mg : Str → Option Value} {base : Heap} {κ : Str → Addr} (T : Txt K mg κ) (A : At K mg "_law_names" s__law_names)  : Cal P w K mg base "_law_names" 1 1 1 F__law_names := by
  obtain ⟨f, fd, F, hm⟩ := A.ex
  refine ⟨f, fd, ["_law_drawing"], hm, F.kp, F.binds (fun _ _ _ _ _ _ us hl => match us, hl with | [_], _ => rfl), def_ok (m := m__law_names) F sc__law_names rfl rfl fun cdv A outer s H E hr => ?_⟩
  have nd := sc__law_names.nd
  have hu := hr.units
  have hu1 : (A.deeper (envOfC "_law_names" (defScope s__law_names) s.heap.objs.size f cdv)).units + 1 < cLine := by omega
  have hu65 : (A.deeper (envOfC "_law_names" (defScope s__law_names) s.heap.objs.size f cdv)).units + 65 < cLine := by have := hr.un; omega
  exact (ss_cons (s_set (i := 1) nd rfl (.inl rfl) (se_lst (sae_nil (k := 0)))) (ss_cons (s_for .never rfl (si_list (se_var (pv 0))) (tg_name (i := 2) (pg_name nd rfl (.inl rfl))) (ss_one (s_for .never rfl (si_list (se_var (pv 2))) (tg_name (i := 3) (pg_name nd rfl (.inl rfl))) (ss_one (s_if (st_cmp (o_eq hu) (sb_ix (sb_var (pv 3)) (sb_c sc_int) (fun _ _ => rfl)) (sb_c sc_int) (nomark _)) (ss_one (s_append (j := 1) (pv 1) (se_c (k := 0) (sc_b (sb_ix (sb_var (pv 3)) (sb_c sc_int) (fun _ _ => rfl)))))) ss_nil)) (fg := [3]))) (fg := [2, 3])) (ss_one (s_ret (se_move (k := 1) (pv 1))))))
abbrev s__law_crossed : Stmt := top 49
theorem sc__law_crossed : FnScope ["_law_drawing", "_law_cell", "_law_name", "_law_rest", "_law_hand", "_law_made", "_law_way", "_law_row"] ["_law_drawing", "_law_cell"] (defScope s__law_crossed) := ⟨rfl, rfl, rfl, by decide +kernel, rfl, by decide +kernel, by decide +kernel⟩
theorem ok__law_crossed {P : Program} {w : World} {K : PySem.W.Frag} {mg : Str → Option Value} {base : Heap} {κ : Str → Addr} (T : Txt K mg κ) (A : At K mg "_law_crossed" s__law_crossed) (C__law_free : Cal P w K mg base "_law_free" 1 2 0 F__law_free) (C__law_names : Cal P w K mg base "_law_names" 1 1 1 F__law_names) (C__law_mixed : Cal P w K mg base "_law_mixed" 1 1 0 F__law_mixed) : Cal P w K mg base "_law_crossed" 2 2 2 F__law_crossed := by
  obtain ⟨f, fd, F, hm⟩ := A.ex
  refine ⟨f, fd, ["_law_drawing", "_law_cell"], hm, F.kp, F.binds (fun _ _ _ _ _ _ us hl => match us, hl with | [_, _], _ => rfl), def_ok (m := m__law_crossed) F sc__law_crossed rfl rfl fun cdv A outer s H E hr => ?_⟩
  have nd := sc__law_crossed.nd
  have hu := hr.units
  have hu1 : (A.deeper (envOfC "_law_crossed" (defScope s__law_crossed) s.heap.objs.size f cdv)).units + 1 < cLine := by omega
  have hu65 : (A.deeper (envOfC "_law_crossed" (defScope s__law_crossed) s.heap.objs.size f cdv)).units + 65 < cLine := by have := hr.un; omega
  exact (ss_cons (s_set (i := 2) nd rfl (.inl rfl) (se_cal C__law_free (hr.mono (by decide)) (by rfl) (sab_cons (sb_e (se_cal C__law_names (hr.mono (by decide)) (by rfl) (sab_cons (sb_var (pv 0)) sab_nil) (hl := (sab_len sab_len0)))) (sab_cons (sb_var (pv 1)) sab_nil)) (hl := (sab_len (sab_len sab_len0))))) (ss_cons (s_set (i := 3) nd rfl (.inl rfl) (se_cal C__law_mixed (hr.mono (by decide)) (by rfl) (sab_cons (sb_var (pv 1)) sab_nil) (hl := (sab_len sab_len0)))) (ss_cons (s_set (i := 4) nd rfl (.inl rfl) (se_c (k := 0) (sc_op o_sub (sb_c sc_int) (sb_c (sc_op o_mul (sb_c sc_int) (sb_c (sc_op o_mod (sb_var (pv 3)) (sb_c sc_int)))))))) (ss_cons (s_set (i := 3) nd rfl (.inl rfl) (se_c (k := 0) (sc_op o_fdv (sb_var (pv 3)) (sb_c sc_int)))) (ss_cons (s_setLc [("_law_row", 7)] (by rfl) nd rfl rfl (sw_true rfl rfl rfl (by decide +kernel)) (blkOk_by (by rfl)) (by rfl) (si_list (se_var (pv 0))) (fun _ _ _ _ _ => (tg_name (i := 7) (pg_name nd rfl (.inl rfl)))) tok_name (by decide) (fun _ _ _ _ _ => spt_nil) (fun _ _ _ _ _ => (se_list (.inl rfl) (by rfl) T.b_list (sl_imm (k := 0) (sb_var (pv 7)))))) (ss_cons (s_for .never rfl (si_range1 (by rfl) T.b_range (sb_c sc_int)) (tg_name (i := 6) (pg_name nd rfl (.inl rfl))) (ss_of (κ := fun _ => 0) (W := fun _ _ _ _ => False) (ss_aliasK (j := 5) (i := 7) (k := 0) nd rfl (.inl rfl) (pv 5) (sb_c (sc_op o_mod (sb_var (pv 3)) (sb_c (sc_len (by rfl) T.b_len (sb_var (pv 5)))))) (fun _ _ => rfl) (by rfl) (sin_midL (i0 := 3) nd rfl (.inl rfl) (by decide) (by decide) (by rfl) o_fdv (sb_var (pv 3)) (by rfl) T.b_len (pv 5) (sin_mid (s_insertK (j := 7) (k := 0) (pv 7) (sb_c (sc_op o_mod (sb_var (pv 3)) (sb_c (sc_op o_add (sb_c (sc_len (by rfl) T.b_len (sb_var (pv 7)))) (sb_c sc_int))))) (sb_c (sc_tup (sae_cons (se_c (k := 0) (sc_b (sb_var (pv 2)))) (sae_cons (se_c (k := 0) (sc_b (sb_var (pv 6)))) (sae_cons (se_c (k := 0) (sc_b (sb_var (pv 4)))) (sae_nil (k := 0)))))))) (sin_mid (s_setK (i := 3) nd rfl (.inl rfl) (by rfl) (sx_se (se_c (k := 0) (sc_op o_fdv (sb_var (pv 3)) (sb_c (sc_len (by rfl) T.b_len (sb_var (pv 7)))))))) (sin_end (j := 5) (i := 7) (k := 0) (ss_k ss_nil))))))) (fg := [6, 7])) (ss_one (s_ret (se_move (k := 2) (pv 5))))))))))
abbrev s__law_cell_at : Stmt := top 44
theorem sc__law_cell_at : FnScope ["_law_script", "_law_k"] ["_law_script", "_law_k"] (defScope s__law_cell_at) := ⟨rfl, rfl, rfl, by decide +kernel, rfl, by decide +kernel, by decide +kernel⟩
theorem ok__law_cell_at {P : Program} {w : World} {K : PySem.W.Frag} {mg : Str → Option Value} {base : Heap} {κ : Str → Addr} (T : Txt K mg κ) (A : At K mg "_law_cell_at" s__law_cell_at)  : Cal P w K mg base "_law_cell_at" 1 2 0 F__law_cell_at := by
  obtain ⟨f, fd, F, hm⟩ := A.ex
  refine ⟨f, fd, ["_law_script", "_law_k"], hm, F.kp, F.binds (fun _ _ _ _ _ _ us hl => match us, hl with | [_, _], _ => rfl), def_ok (m := m__law_cell_at) F sc__law_cell_at rfl rfl fun cdv A outer s H E hr => ?_⟩
  have nd := sc__law_cell_at.nd
  have hu := hr.units
  have hu1 : (A.deeper (envOfC "_law_cell_at" (defScope s__law_cell_at) s.heap.objs.size f cdv)).units + 1 < cLine := by omega
  have hu65 : (A.deeper (envOfC "_law_cell_at" (defScope s__law_cell_at) s.heap.objs.size f cdv)).units + 65 < cLine := by have := hr.un; omega
  exact (ss_cons (s_if (st_cmp (o_lt hu) (sb_var (pv 1)) (sb_c (sc_len (by rfl) T.b_len (sb_var (pv 0)))) (nomark _)) (ss_one (s_ret (se_c (k := 0) (sc_b (sb_ix (sb_var (pv 0)) (sb_var (pv 1)) (fun _ _ => rfl)))))) ss_nil) (ss_one (s_ret (se_c (k := 0) sc_int))))
abbrev s__law_block : Stmt := top 58
theorem sc__law_block : FnScope ["_law_rows", "_law_cell", "_law_block_here", "_law_rest", "_law_made", "_law_row"] ["_law_rows", "_law_cell", "_law_block_here"] (defScope s__law_block) := ⟨rfl, rfl, rfl, by decide +kernel, rfl, by decide +kernel, by decide +kernel⟩
theorem ok__law_block {P : Program} {w : World} {K : PySem.W.Frag} {mg : Str → Option Value} {base : Heap} {κ : Str → Addr} (T : Txt K mg κ) (A : At K mg "_law_block" s__law_block) (C__law_mixed : Cal P w K mg base "_law_mixed" 1 1 0 F__law_mixed) : Cal P w K mg base "_law_block" 2 3 0 F__law_block := by
  obtain ⟨f, fd, F, hm⟩ := A.ex
  refine ⟨f, fd, ["_law_rows", "_law_cell", "_law_block_here"], hm, F.kp, F.binds (fun _ _ _ _ _ _ us hl => match us, hl with | [_, _, _], _ => rfl), def_ok (m := m__law_block) F sc__law_block rfl rfl fun cdv A outer s H E hr => ?_⟩
  have nd := sc__law_block.nd
  have hu := hr.units
  have hu1 : (A.deeper (envOfC "_law_block" (defScope s__law_block) s.heap.objs.size f cdv)).units + 1 < cLine := by omega
  have hu65 : (A.deeper (envOfC "_law_block" (defScope s__law_block) s.heap.objs.size f cdv)).units + 65 < cLine := by have := hr.un; omega
  exact (ss_cons (s_set (i := 3) nd rfl (.inl rfl) (se_cal C__law_mixed (hr.mono (by decide)) (by rfl) (sab_cons (sb_var (pv 1)) sab_nil) (hl := (sab_len sab_len0)))) (ss_cons (s_setLc [("_law_row", 5)] (by rfl) nd rfl rfl (sw_true rfl rfl rfl (by decide +kernel)) (blkOk_by (by rfl)) (by rfl) (si_list (se_var (pv 0))) (fun _ _ _ _ _ => (tg_name (i := 5) (pg_name nd rfl (.inl rfl)))) tok_name (by decide) (fun _ _ _ _ _ => spt_nil) (fun _ _ _ _ _ => (se_list (.inl rfl) (by rfl) T.b_list (sl_sh (se_var (pv 5)))))) (ss_binsE (j := 4) (i := 5) nd rfl (.inl rfl) (pv 4) (pv 5) (sb_c (sc_op o_mod (sb_var (pv 3)) (sb_c (sc_len (by rfl) T.b_len (sb_var (pv 4)))))) (fun _ _ => rfl) (sbq_op o_mod (sbq_op o_fdv (sbq_of (sb_var (pv 3))) (sbq_len (by rfl) T.b_len (pv 4))) (sbq_of (sb_c (sc_op o_add (sb_c (sc_len (by rfl) T.b_len (sb_var (pv 5)))) (sb_c sc_int))))) (se_var (pv 2)) (ss_one (s1_fz (i := 4) (s_ret (se_var (pv 4))))))))
abbrev s__law_three : Stmt := top 59
theorem sc__law_three : FnScope ["_law_drawing", "_law_names_here", "_law_bits", "_law_cells", "_law_a", "_law_b", "_law_c", "_law_t", "_law_hands_here", "_law_blocks", "_law_turns", "_law_rows", "_law_row", "_law_k", "_law_block_here", "_law_made", "_law_passings", "_law_passing"] ["_law_drawing", "_law_names_here", "_law_bits", "_law_cells"] (defScope s__law_three) := ⟨rfl, rfl, rfl, by decide +kernel, rfl, by decide +kernel, by decide +kernel⟩
theorem ok__law_three {P : Program} {w : World} {K : PySem.W.Frag} {mg : Str → Option Value} {base : Heap} {κ : Str → Addr} (T : Txt K mg κ) (A : At K mg "_law_three" s__law_three) (C__law_block : Cal P w K mg base "_law_block" 2 3 0 F__law_block) : Cal P w K mg base "_law_three" 3 4 2 F__law_three := by
  obtain ⟨f, fd, F, hm⟩ := A.ex
  refine ⟨f, fd, ["_law_drawing", "_law_names_here", "_law_bits", "_law_cells"], hm, F.kp, F.binds (fun _ _ _ _ _ _ us hl => match us, hl with | [_, _, _, _], _ => rfl), def_ok (m := m__law_three) F sc__law_three rfl rfl fun cdv A outer s H E hr => ?_⟩
  have nd := sc__law_three.nd
  have hu := hr.units
  have hu1 : (A.deeper (envOfC "_law_three" (defScope s__law_three) s.heap.objs.size f cdv)).units + 1 < cLine := by omega
  have hu65 : (A.deeper (envOfC "_law_three" (defScope s__law_three) s.heap.objs.size f cdv)).units + 65 < cLine := by have := hr.un; omega
  exact (ss_cons (s_asg (tg_tupL rfl (tgs_cons (tg_name (i := 4) (pg_name nd rfl (.inl rfl))) (tgs_cons (tg_name (i := 5) (pg_name nd rfl (.inl rfl))) (tgs_cons (tg_name (i := 6) (pg_name nd rfl (.inl rfl))) tgs_nil)))) (se_var (pv 1))) (ss_cons (s_set (i := 7) nd rfl (.inl rfl) (se_c (k := 0) (sc_op o_sub (sb_c sc_int) (sb_c (sc_op o_mul (sb_c sc_int) (sb_c (sc_op o_mod (sb_var (pv 2)) (sb_c sc_int)))))))) (ss_cons (s_set (i := 8) nd rfl (.inl rfl) (se_lst (sae_cons (se_c (k := 0) (sc_op o_sub (sb_c sc_int) (sb_c (sc_op o_mul (sb_c sc_int) (sb_c (sc_op o_mod (sb_c (sc_op o_fdv (sb_var (pv 2)) (sb_c sc_int))) (sb_c sc_int))))))) (sae_cons (se_c (k := 0) (sc_op o_sub (sb_c sc_int) (sb_c (sc_op o_mul (sb_c sc_int) (sb_c (sc_op o_mod (sb_c (sc_op o_fdv (sb_var (pv 2)) (sb_c sc_int))) (sb_c sc_int))))))) (sae_cons (se_c (k := 0) (sc_op o_sub (sb_c sc_int) (sb_c (sc_op o_mul (sb_c sc_int) (sb_c (sc_op o_mod (sb_c (sc_op o_fdv (sb_var (pv 2)) (sb_c sc_int))) (sb_c sc_int))))))) (sae_nil (k := 0))))))) (ss_cons (s_set (i := 9) nd rfl (.inl rfl) (se_lst (sae_cons (se_lst (sae_cons (se_c (k := 0) (sc_tup (sae_cons (se_c (k := 0) (sc_b (sb_var (pv 4)))) (sae_cons (se_c (k := 0) sc_int) (sae_cons (se_c (k := 0) (sc_b (sb_ix (sb_var (pv 8)) (sb_c sc_int) (fun _ _ => rfl)))) (sae_nil (k := 0))))))) (sae_cons (se_c (k := 0) (sc_tup (sae_cons (se_c (k := 0) (sc_b (sb_var (pv 5)))) (sae_cons (se_c (k := 0) sc_int) (sae_cons (se_c (k := 0) (sc_b (sb_ix (sb_var (pv 8)) (sb_c sc_int) (fun _ _ => rfl)))) (sae_nil (k := 0))))))) (sae_nil (k := 0))))) (sae_cons (se_lst (sae_cons (se_c (k := 0) (sc_tup (sae_cons (se_c (k := 0) (sc_b (sb_var (pv 4)))) (sae_cons (se_c (k := 0) sc_int) (sae_cons (se_c (k := 0) (sc_b (sb_ix (sb_var (pv 8)) (sb_c sc_int) (fun _ _ => rfl)))) (sae_nil (k := 0))))))) (sae_cons (se_c (k := 0) (sc_tup (sae_cons (se_c (k := 0) (sc_b (sb_var (pv 6)))) (sae_cons (se_c (k := 0) sc_int) (sae_cons (se_c (k := 0) (sc_b (sb_ix (sb_var (pv 8)) (sb_c sc_int) (fun _ _ => rfl)))) (sae_nil (k := 0))))))) (sae_nil (k := 0))))) (sae_nil (k := 1)))))) (ss_cons (s_append (j := 9) (pv 9) (se_lst (sae_cons (se_c (k := 0) (sc_tup (sae_cons (se_c (k := 0) (sc_b (sb_var (pv 5)))) (sae_cons (se_c (k := 0) sc_int) (sae_cons (se_c (k := 0) (sc_b (sb_ix (sb_var (pv 8)) (sb_c sc_int) (fun _ _ => rfl)))) (sae_nil (k := 0))))))) (sae_cons (se_c (k := 0) (sc_tup (sae_cons (se_c (k := 0) (sc_b (sb_var (pv 6)))) (sae_cons (se_c (k := 0) sc_int) (sae_cons (se_c (k := 0) (sc_b (sb_ix (sb_var (pv 8)) (sb_c sc_int) (fun _ _ => rfl)))) (sae_nil (k := 0))))))) (sae_nil (k := 0)))))) (ss_cons (s_set (i := 10) nd rfl (.inl rfl) (se_lst (sae_cons (se_c (k := 0) (sc_b (sb_var (pv 7)))) (sae_cons (se_c (k := 0) (sc_op o_mul (sb_c (sc_op o_mul (sb_var (pv 7)) (sb_ix (sb_var (pv 8)) (sb_c sc_int) (fun _ _ => rfl)))) (sb_ix (sb_var (pv 8)) (sb_c sc_int) (fun _ _ => rfl)))) (sae_cons (se_c (k := 0) (sc_op o_mul (sb_c (sc_op o_mul (sb_var (pv 7)) (sb_ix (sb_var (pv 8)) (sb_c sc_int) (fun _ _ => rfl)))) (sb_ix (sb_var (pv 8)) (sb_c sc_int) (fun _ _ => rfl)))) (sae_nil (k := 0))))))) (ss_cons (s_set (i := 11) nd rfl (.inl rfl) (se_lst (sae_nil (k := 2)))) (ss_cons (s_for .never rfl (si_list (se_var (pv 0))) (tg_name (i := 12) (pg_name nd rfl (.inl rfl))) (ss_one (s_append (j := 11) (pv 11) (se_lc [("_law_passing", 17)] (by rfl) nd (blkOk_by (by rfl)) (by rfl) (si_list (se_var (pv 12))) (fun _ _ _ _ _ => (tg_name (i := 17) (pg_name nd rfl (.inl rfl)))) tok_name (by decide) (fun _ _ _ _ _ => spt_nil) (fun _ _ _ _ _ => (se_lst (sae_cons (se_c (k := 0) (sc_b (sb_var (pv 17)))) (sae_nil (k := 0)))))))) (fg := [12, 17])) (ss_cons (s1_fz (i := 9) (s1_fz (i := 11) (s_for .never rfl (si_range1 (by rfl) T.b_range (sb_c sc_int)) (tg_name (i := 13) (pg_name nd rfl (.inl rfl))) (ss_cons (s_set (i := 14) nd rfl (.inl rfl) (se_ix (se_var (pv 9)) (sb_var (pv 13)) (fun _ _ => rfl))) (ss_cons (s_if (st_cmp (o_eq hu) (sb_ix (sb_var (pv 10)) (sb_var (pv 13)) (fun _ _ => rfl)) (sb_c (sc_neg (sb_c sc_int))) (nomark _)) (ss_cons (s_set (i := 14) nd rfl (.inl rfl) (se_lst (sae_cons (se_c (k := 0) (sc_b (sb_ix (sb_var (pv 14)) (sb_c sc_int) (fun _ _ => rfl)))) (sae_cons (se_c (k := 0) (sc_b (sb_ix (sb_var (pv 14)) (sb_c sc_int) (fun _ _ => rfl)))) (sae_nil (k := 0)))))) (ss_fz (i := 14) ss_nil)) ss_nil) (ss_cons (s_if (st_cmp (o_eq hu) (sb_c (sc_op o_add (sb_var (pv 13)) (sb_c sc_int))) (sb_c (sc_op o_mod (sb_c (sc_op o_fdv (sb_var (pv 2)) (sb_c sc_int))) (sb_c sc_int))) (nomark _)) (ss_cons (s_set (i := 14) nd rfl (.inl rfl) (se_lst (sae_cons (se_c (k := 0) (sc_b (sb_ix (sb_var (pv 14)) (sb_c sc_int) (fun _ _ => rfl)))) (sae_cons (se_c (k := 0) (sc_b (sb_ix (sb_var (pv 14)) (sb_c sc_int) (fun _ _ => rfl)))) (sae_nil (k := 0)))))) (ss_fz (i := 14) ss_nil)) ss_nil) (ss_one (s_set (i := 11) nd rfl (.inl rfl) (se_cal0 C__law_block (hr.mono (by decide)) (by rfl) (sae_cons (se_var (pv 11)) (sae_cons (se_c (k := 0) (sc_b (sb_ix (sb_var (pv 3)) (sb_var (pv 13)) (fun _ _ => rfl)))) (sae_cons (se_var (pv 14)) (sae_nil (k := 0))))) (hl := (sae_len (sae_len (sae_len sae_len0)))))))))) (fg := [13, 14])))) (ss_cons (s_set (i := 15) nd rfl (.inl rfl) (se_lst (sae_nil (k := 1)))) (ss_cons (s_for .never rfl (si_list (se_var (pv 11))) (tg_name (i := 12) (pg_name nd rfl (.inl rfl))) (ss_cons (s_set (i := 16) nd rfl (.inl rfl) (se_lst (sae_nil (k := 0)))) (ss_cons (s_for .never rfl (si_list (se_var (pv 12))) (tg_name (i := 14) (pg_name nd rfl (.inl rfl))) (ss_one (s_set (i := 16) nd rfl (.inl rfl) (se_cat (sl_imm (k := 0) (sb_var (pv 16))) (sl_imm (k := 0) (sb_var (pv 14)))))) (fg := [14])) (ss_one (s_append (j := 15) (pv 15) (se_move (k := 1) (pv 16)))))) (fg := [12, 14, 16])) (ss_one (s_ret (se_move (k := 2) (pv 15)))))))))))))))
abbrev s__law_spots : Stmt := top 50
theorem sc__law_spots : FnScope ["_law_drawing", "_law_spots_here", "_law_k", "_law_passing"] ["_law_drawing"] (defScope s__law_spots) := ⟨rfl, rfl, rfl, by decide +kernel, rfl, by decide +kernel, by decide +kernel⟩
theorem ok__law_spots {P : Program} {w : World} {K : PySem.W.Frag} {mg : Str → Option Value} {base : Heap} {κ : Str → Addr} (T : Txt K mg κ) (A : At K mg "_law_spots" s__law_spots)  : Cal P w K mg base "_law_spots" 1 1 1 F__law_spots := by
  obtain ⟨f, fd, F, hm⟩ := A.ex
  refine ⟨f, fd, ["_law_drawing"], hm, F.kp, F.binds (fun _ _ _ _ _ _ us hl => match us, hl with | [_], _ => rfl), def_ok (m := m__law_spots) F sc__law_spots rfl rfl fun cdv A outer s H E hr => ?_⟩
  have nd := sc__law_spots.nd
  have hu := hr.units
  have hu1 : (A.deeper (envOfC "_law_spots" (defScope s__law_spots) s.heap.objs.size f cdv)).units + 1 < cLine := by omega
  have hu65 : (A.deeper (envOfC "_law_spots" (defScope s__law_spots) s.heap.objs.size f cdv)).units + 65 < cLine := by have := hr.un; omega
  exact (ss_cons (s_set (i := 1) nd rfl (.inl rfl) (se_lst (sae_nil (k := 0)))) (ss_cons (s_for .never rfl (si_range1 (by rfl) T.b_range (sb_c (sc_len (by rfl) T.b_len (sb_var (pv 0))))) (tg_name (i := 2) (pg_name nd rfl (.inl rfl))) (ss_cons (s_if (st_not (st_tru (sb_ix (sb_var (pv 0)) (sb_var (pv 2)) (fun _ _ => rfl)))) (ss_one (s_append (j := 1) (pv 1) (se_c (k := 0) (sc_tup (sae_cons (se_c (k := 0) (sc_b (sb_var (pv 2)))) (sae_cons (se_c (k := 0) sc_int) (sae_nil (k := 0)))))))) ss_nil) (ss_one (s_for .never rfl (si_list (se_ix (se_var (pv 0)) (sb_var (pv 2)) (fun _ _ => rfl))) (tg_name (i := 3) (pg_name nd rfl (.inl rfl))) (ss_one (s_append (j := 1) (pv 1) (se_c (k := 0) (sc_tup (sae_cons (se_c (k := 0) (sc_b (sb_ix (sb_var (pv 3)) (sb_c sc_int) (fun _ _ => rfl)))) (sae_cons (se_c (k := 0) (sc_b (sb_ix (sb_var (pv 3)) (sb_c sc_int) (fun _ _ => rfl)))) (sae_nil (k := 0)))))))) (fg := [3])))) (fg := [2, 3])) (ss_one (s_ret (se_move (k := 1) (pv 1))))))
abbrev s__law_put : Stmt := top 51
theorem sc__law_put : FnScope ["_law_drawing", "_law_spot", "_law_passings", "_law_made", "_law_k", "_law_row", "_law_passing"] ["_law_drawing", "_law_spot", "_law_passings"] (defScope s__law_put) := ⟨rfl, rfl, rfl, by decide +kernel, rfl, by decide +kernel, by decide +kernel⟩
theorem ok__law_put {P : Program} {w : World} {K : PySem.W.Frag} {mg : Str → Option Value} {base : Heap} {κ : Str → Addr} (T : Txt K mg κ) (A : At K mg "_law_put" s__law_put)  : Cal P w K mg base "_law_put" 1 3 2 F__law_put := by
  obtain ⟨f, fd, F, hm⟩ := A.ex
  refine ⟨f, fd, ["_law_drawing", "_law_spot", "_law_passings"], hm, F.kp, F.binds (fun _ _ _ _ _ _ us hl => match us, hl with | [_, _, _], _ => rfl), def_ok (m := m__law_put) F sc__law_put rfl rfl fun cdv A outer s H E hr => ?_⟩
  have nd := sc__law_put.nd
  have hu := hr.units
  have hu1 : (A.deeper (envOfC "_law_put" (defScope s__law_put) s.heap.objs.size f cdv)).units + 1 < cLine := by omega
  have hu65 : (A.deeper (envOfC "_law_put" (defScope s__law_put) s.heap.objs.size f cdv)).units + 65 < cLine := by have := hr.un; omega
  exact (ss_cons (s_set (i := 3) nd rfl (.inl rfl) (se_lst (sae_nil (k := 1)))) (ss_cons (s_for .never rfl (si_range1 (by rfl) T.b_range (sb_c (sc_len (by rfl) T.b_len (sb_var (pv 0))))) (tg_name (i := 4) (pg_name nd rfl (.inl rfl))) (ss_cons (s_set (i := 5) nd rfl (.inl rfl) (se_lst (sae_nil (k := 0)))) (ss_cons (s_if (st_cmp (o_eq hu) (sb_var (pv 1)) (sb_c (sc_tup (sae_cons (se_c (k := 0) (sc_b (sb_var (pv 4)))) (sae_cons (se_c (k := 0) sc_int) (sae_nil (k := 0)))))) (nomark _)) (ss_one (s_set (i := 5) nd rfl (.inl rfl) (se_list (.inl rfl) (by rfl) T.b_list (sl_imm (k := 0) (sb_var (pv 2)))))) ss_nil) (ss_cons (s_for .never rfl (si_list (se_ix (se_var (pv 0)) (sb_var (pv 4)) (fun _ _ => rfl))) (tg_name (i := 6) (pg_name nd rfl (.inl rfl))) (ss_cons (s_append (j := 5) (pv 5) (se_c (k := 0) (sc_b (sb_var (pv 6))))) (ss_one (s_if (st_cmp (o_eq hu) (sb_var (pv 1)) (sb_c (sc_tup (sae_cons (se_c (k := 0) (sc_b (sb_ix (sb_var (pv 6)) (sb_c sc_int) (fun _ _ => rfl)))) (sae_cons (se_c (k := 0) (sc_b (sb_ix (sb_var (pv 6)) (sb_c sc_int) (fun _ _ => rfl)))) (sae_nil (k := 0)))))) (nomark _)) (ss_one (s_set (i := 5) nd rfl (.inl rfl) (se_cat (sl_imm (k := 0) (sb_var (pv 5))) (sl_imm (k := 0) (sb_var (pv 2)))))) ss_nil))) (fg := [6])) (ss_one (s_append (j := 3) (pv 3) (se_move (k := 1) (pv 5))))))) (fg := [4, 5, 6])) (ss_one (s_ret (se_move (k := 2) (pv 3))))))
abbrev s__law_with_lay : Stmt := top 65
theorem sc__law_with_lay : FnScope ["_law_drawing", "_law_cell", "_law_names_here", "_law_one", "_law_two", "_law_rest", "_law_hand", "_law_spots_here", "_law_made", "_law_unders", "_law_spot"] ["_law_drawing", "_law_cell"] (defScope s__law_with_lay) := ⟨rfl, rfl, rfl, by decide +kernel, rfl, by decide +kernel, by decide +kernel⟩
theorem ok__law_with_lay {P : Program} {w : World} {K : PySem.W.Frag} {mg : Str → Option Value} {base : Heap} {κ : Str → Addr} (T : Txt K mg κ) (A : At K mg "_law_with_lay" s__law_with_lay) (C__law_names : Cal P w K mg base "_law_names" 1 1 1 F__law_names) (C__law_free : Cal P w K mg base "_law_free" 1 2 0 F__law_free) (C__law_mixed : Cal P w K mg base "_law_mixed" 1 1 0 F__law_mixed) (C__law_spots : Cal P w K mg base "_law_spots" 1 1 1 F__law_spots) (C__law_put : Cal P w K mg base "_law_put" 1 3 2 F__law_put) : Cal P w K mg base "_law_with_lay" 2 2 2 F__law_with_lay := by
  obtain ⟨f, fd, F, hm⟩ := A.ex
  refine ⟨f, fd, ["_law_drawing", "_law_cell"], hm, F.kp, F.binds (fun _ _ _ _ _ _ us hl => match us, hl with | [_, _], _ => rfl), def_ok (m := m__law_with_lay) F sc__law_with_lay rfl rfl fun cdv A outer s H E hr => ?_⟩
  have nd := sc__law_with_lay.nd
  have hu := hr.units
  have hu1 : (A.deeper (envOfC "_law_with_lay" (defScope s__law_with_lay) s.heap.objs.size f cdv)).units + 1 < cLine := by omega
  have hu65 : (A.deeper (envOfC "_law_with_lay" (defScope s__law_with_lay) s.heap.objs.size f cdv)).units + 65 < cLine := by have := hr.un; omega
  exact (ss_cons (s_set (i := 2) nd rfl (.inl rfl) (se_cal C__law_names (hr.mono (by decide)) (by rfl) (sab_cons (sb_var (pv 0)) sab_nil) (hl := (sab_len sab_len0)))) (ss_cons (s_set (i := 3) nd rfl (.inr rfl) (se_cal C__law_free (hr.mono (by decide)) (by rfl) (sab_cons (sb_var (pv 2)) (sab_cons (sb_var (pv 1)) sab_nil)) (hl := (sab_len (sab_len sab_len0))))) (ss_cons (s_set (i := 4) nd rfl (.inl rfl) (se_cal C__law_free (hr.mono (by decide)) (by rfl) (sab_cons (sb_e (se_cat (sl_imm (k := 0) (sb_var (pv 2))) (sl_imm (k := 0) (sb_lst (sab_cons (sb_var (pv 3)) sab_nil))))) (sab_cons (sb_c (sc_op o_fdv (sb_var (pv 1)) (sb_c sc_int))) sab_nil)) (hl := (sab_len (sab_len sab_len0))))) (ss_cons (s_set (i := 5) nd rfl (.inl rfl) (se_cal C__law_mixed (hr.mono (by decide)) (by rfl) (sab_cons (sb_var (pv 1)) sab_nil) (hl := (sab_len sab_len0)))) (ss_cons (s_set (i := 6) nd rfl (.inl rfl) (se_c (k := 0) (sc_op o_sub (sb_c sc_int) (sb_c (sc_op o_mul (sb_c sc_int) (sb_c (sc_op o_mod (sb_var (pv 5)) (sb_c sc_int)))))))) (ss_cons (s_set (i := 7) nd rfl (.inl rfl) (se_cal C__law_spots (hr.mono (by decide)) (by rfl) (sab_cons (sb_var (pv 0)) sab_nil) (hl := (sab_len sab_len0)))) (ss_cons (s_set (i := 8) nd rfl (.inl rfl) (se_cal C__law_put (hr.mono (by decide)) (by rfl) (sab_cons (sb_var (pv 0)) (sab_cons (sb_ix (sb_var (pv 7)) (sb_c (sc_op o_mod (sb_c (sc_op o_fdv (sb_var (pv 5)) (sb_c sc_int))) (sb_c (sc_len (by rfl) T.b_len (sb_var (pv 7)))))) (fun _ _ => rfl)) (sab_cons (sb_lst (sab_cons (sb_c (sc_tup (sae_cons (se_c (k := 0) (sc_b (sb_var (pv 3)))) (sae_cons (se_c (k := 0) sc_int) (sae_cons (se_c (k := 0) (sc_b (sb_var (pv 6)))) (sae_nil (k := 0))))))) (sab_cons (sb_c (sc_tup (sae_cons (se_c (k := 0) (sc_b (sb_var (pv 4)))) (sae_cons (se_c (k := 0) sc_int) (sae_cons (se_c (k := 0) (sc_neg (sb_var (pv 6)))) (sae_nil (k := 0))))))) sab_nil))) sab_nil))) (hl := (sab_len (sab_len (sab_len sab_len0)))))) (ss_cons (s_set (i := 9) nd rfl (.inl rfl) (se_lst (sae_cons (se_c (k := 0) (sc_tup (sae_cons (se_c (k := 0) (sc_b (sb_var (pv 3)))) (sae_cons (se_c (k := 0) sc_int) (sae_cons (se_c (k := 0) (sc_b (sb_var (pv 6)))) (sae_nil (k := 0))))))) (sae_cons (se_c (k := 0) (sc_tup (sae_cons (se_c (k := 0) (sc_b (sb_var (pv 4)))) (sae_cons (se_c (k := 0) sc_int) (sae_cons (se_c (k := 0) (sc_neg (sb_var (pv 6)))) (sae_nil (k := 0))))))) (sae_nil (k := 0)))))) (ss_cons (s_if (st_cmp (o_eq hu) (sb_c (sc_op o_mod (sb_c (sc_op o_fdv (sb_var (pv 5)) (sb_c sc_int))) (sb_c sc_int))) (sb_c sc_int) (nomark _)) (ss_one (s_set (i := 9) nd rfl (.inl rfl) (se_lst (sae_cons (se_c (k := 0) (sc_b (sb_ix (sb_var (pv 9)) (sb_c sc_int) (fun _ _ => rfl)))) (sae_cons (se_c (k := 0) (sc_b (sb_ix (sb_var (pv 9)) (sb_c sc_int) (fun _ _ => rfl)))) (sae_nil (k := 0))))))) ss_nil) (ss_cons (s_setLc [("_law_spot", 10)] (by rfl) nd rfl rfl (sw_true rfl rfl rfl (by decide +kernel)) (blkOk_by (by rfl)) (by rfl) (si_list (se_0 (se_cal C__law_spots (hr.mono (by decide)) (by rfl) (sab_cons (sb_var (pv 8)) sab_nil) (hl := (sab_len sab_len0))))) (fun _ _ _ _ _ => (tg_name (i := 10) (pg_name nd rfl (.inl rfl)))) tok_name (by decide) (fun _ _ _ _ _ => (spt_one (st_cmp (o_ne hu) (sb_var (pv 10)) (sb_c (sc_tup (sae_cons (se_c (k := 0) (sc_b (sb_var (pv 3)))) (sae_cons (se_c (k := 0) sc_int) (sae_nil (k := 0)))))) (nomark _)))) (fun _ _ _ _ _ => (se_c (k := 0) (sc_b (sb_var (pv 10)))))) (ss_one (s_ret (se_cal C__law_put (hr.mono (by decide)) (by rfl) (sab_cons (sb_var (pv 8)) (sab_cons (sb_ix (sb_var (pv 7)) (sb_c (sc_op o_mod (sb_c (sc_op o_fdv (sb_c (sc_op o_fdv (sb_var (pv 5)) (sb_c sc_int))) (sb_c sc_int))) (sb_c (sc_len (by rfl) T.b_len (sb_var (pv 7)))))) (fun _ _ => rfl)) (sab_cons (sb_var (pv 9)) sab_nil))) (hl := (sab_len (sab_len (sab_len sab_len0)))))))))))))))))
abbrev s__law_whole : Stmt := top 45
theorem sc__law_whole : FnScope ["_law_found"] ["_law_found"] (defScope s__law_whole) := ⟨rfl, rfl, rfl, by decide +kernel, rfl, by decide +kernel, by decide +kernel⟩
theorem ok__law_whole {P : Program} {w : World} {K : PySem.W.Frag} {mg : Str → Option Value} {base : Heap} {κ : Str → Addr} (T : Txt K mg κ) (A : At K mg "_law_whole" s__law_whole)  : Cal P w K mg base "_law_whole" 1 1 0 F__law_whole := by
  obtain ⟨f, fd, F, hm⟩ := A.ex
  refine ⟨f, fd, ["_law_found"], hm, F.kp, F.binds (fun _ _ _ _ _ _ us hl => match us, hl with | [_], _ => rfl), def_ok (m := m__law_whole) F sc__law_whole rfl rfl fun cdv A outer s H E hr => ?_⟩
  have nd := sc__law_whole.nd
  have hu := hr.units
  have hu1 : (A.deeper (envOfC "_law_whole" (defScope s__law_whole) s.heap.objs.size f cdv)).units + 1 < cLine := by omega
  have hu65 : (A.deeper (envOfC "_law_whole" (defScope s__law_whole) s.heap.objs.size f cdv)).units + 65 < cLine := by have := hr.un; omega
  exact (ss_one (s_ret (se_c (k := 0) (sc_and (sb_c (sc_isi (T := .int) (by rfl) T.b_isinstance (sb_var (pv 0)) (pe_tyD (by rfl) T.b_int (by decide +kernel)))) (sc_one (sc_not (sb_c (sc_isi (T := .bool) (by rfl) T.b_isinstance (sb_var (pv 0)) (pe_tyD (by rfl) T.b_bool (by decide +kernel))))))))))
abbrev s__law_wholes : Stmt := top 52
theorem sc__law_wholes : FnScope ["_law_found", "_law_due", "_law_part"] ["_law_found", "_law_due"] (defScope s__law_wholes) := ⟨rfl, rfl, rfl, by decide +kernel, rfl, by decide +kernel, by decide +kernel⟩
theorem ok__law_wholes {P : Program} {w : World} {K : PySem.W.Frag} {mg : Str → Option Value} {base : Heap} {κ : Str → Addr} (T : Txt K mg κ) (A : At K mg "_law_wholes" s__law_wholes) (C__law_whole : Cal P w K mg base "_law_whole" 1 1 0 F__law_whole) : Cal P w K mg base "_law_wholes" 2 2 0 F__law_wholes := by
  obtain ⟨f, fd, F, hm⟩ := A.ex
  refine ⟨f, fd, ["_law_found", "_law_due"], hm, F.kp, F.binds (fun _ _ _ _ _ _ us hl => match us, hl with | [_, _], _ => rfl), def_ok (m := m__law_wholes) F sc__law_wholes rfl rfl fun cdv A outer s H E hr => ?_⟩
  have nd := sc__law_wholes.nd
  have hu := hr.units
  have hu1 : (A.deeper (envOfC "_law_wholes" (defScope s__law_wholes) s.heap.objs.size f cdv)).units + 1 < cLine := by omega
  have hu65 : (A.deeper (envOfC "_law_wholes" (defScope s__law_wholes) s.heap.objs.size f cdv)).units + 65 < cLine := by have := hr.un; omega
  exact (ss_cons (s_if (st_w (sw_or (st_not (st_val (sb_c (sc_isi (T := .tuple) (by rfl) T.b_isinstance (sb_var (pv 0)) (pe_tyD (by rfl) T.b_tuple (by decide +kernel)))))) (sw_or1 (st_cmp (o_ne hu) (sb_c (sc_len (by rfl) T.b_len (sb_var (pv 0)))) (sb_c (sc_len (by rfl) T.b_len (sb_var (pv 1)))) (nomark _))))) (ss_one (s_ret (se_c (k := 0) sc_bl))) ss_nil) (ss_cons (s_for .never rfl (si_tup (se_c (k := 0) (sc_b (sb_var (pv 0))))) (tg_name (i := 2) (pg_name nd rfl (.inl rfl))) (ss_one (s_if (st_not (st_val (sb_e (se_cal C__law_whole (hr.mono (by decide)) (by rfl) (sab_cons (sb_var (pv 2)) sab_nil) (hl := (sab_len sab_len0)))))) (ss_one (s_ret (se_c (k := 0) sc_bl))) ss_nil)) (fg := [2])) (ss_one (s_ret (se_c (k := 0) (sc_cmp (o_eq hu) (sb_var (pv 0)) (sb_var (pv 1)) (nomark _)))))))
abbrev s__law_tells : Stmt := top 53
theorem sc__law_tells : FnScope ["_law_found", "_law_due", "_law_k"] ["_law_found", "_law_due"] (defScope s__law_tells) := ⟨rfl, rfl, rfl, by decide +kernel, rfl, by decide +kernel, by decide +kernel⟩
theorem ok__law_tells {P : Program} {w : World} {K : PySem.W.Frag} {mg : Str → Option Value} {base : Heap} {κ : Str → Addr} (T : Txt K mg κ) (A : At K mg "_law_tells" s__law_tells) (C__law_wholes : Cal P w K mg base "_law_wholes" 2 2 0 F__law_wholes) (C__law_whole : Cal P w K mg base "_law_whole" 1 1 0 F__law_whole) : Cal P w K mg base "_law_tells" 3 2 0 F__law_tells := by
  obtain ⟨f, fd, F, hm⟩ := A.ex
  refine ⟨f, fd, ["_law_found", "_law_due"], hm, F.kp, F.binds (fun _ _ _ _ _ _ us hl => match us, hl with | [_, _], _ => rfl), def_ok (m := m__law_tells) F sc__law_tells rfl rfl fun cdv A outer s H E hr => ?_⟩
  have nd := sc__law_tells.nd
  have hu := hr.units
  have hu1 : (A.deeper (envOfC "_law_tells" (defScope s__law_tells) s.heap.objs.size f cdv)).units + 1 < cLine := by omega
  have hu65 : (A.deeper (envOfC "_law_tells" (defScope s__law_tells) s.heap.objs.size f cdv)).units + 65 < cLine := by have := hr.un; omega
  exact (ss_cons (s_if (st_w (sw_or (st_not (st_val (sb_c (sc_isi (T := .tuple) (by rfl) T.b_isinstance (sb_var (pv 0)) (pe_tyD (by rfl) T.b_tuple (by decide +kernel)))))) (sw_or1 (st_cmp (o_ne hu) (sb_c (sc_len (by rfl) T.b_len (sb_var (pv 0)))) (sb_c (sc_len (by rfl) T.b_len (sb_var (pv 1)))) (nomark _))))) (ss_one (s_ret (se_c (k := 0) sc_bl))) ss_nil) (ss_cons (s_if (st_w (sw_or (st_not (st_val (sb_c (sc_isi (T := .str) (by rfl) T.b_isinstance (sb_ix (sb_var (pv 0)) (sb_c sc_int) (fun _ _ => rfl)) (pe_tyD (by rfl) T.b_str (by decide +kernel)))))) (sw_or1 (st_cmp (o_ne hu) (sb_ix (sb_var (pv 0)) (sb_c sc_int) (fun _ _ => rfl)) (sb_ix (sb_var (pv 1)) (sb_c sc_int) (fun _ _ => rfl)) (nomark _))))) (ss_one (s_ret (se_c (k := 0) sc_bl))) ss_nil) (ss_cons (s_for .never rfl (si_range2 (by rfl) T.b_range (sb_c sc_int) (sb_c (sc_len (by rfl) T.b_len (sb_var (pv 1))))) (tg_name (i := 2) (pg_name nd rfl (.inl rfl))) (ss_one (s_if (st_val (sb_c (sc_isi (T := .tuple) (by rfl) T.b_isinstance (sb_ix (sb_var (pv 1)) (sb_var (pv 2)) (fun _ _ => rfl)) (pe_tyD (by rfl) T.b_tuple (by decide +kernel))))) (ss_one (s_if (st_not (st_val (sb_e (se_cal C__law_wholes (hr.mono (by decide)) (by rfl) (sab_cons (sb_ix (sb_var (pv 0)) (sb_var (pv 2)) (fun _ _ => rfl)) (sab_cons (sb_ix (sb_var (pv 1)) (sb_var (pv 2)) (fun _ _ => rfl)) sab_nil)) (hl := (sab_len (sab_len sab_len0))))))) (ss_one (s_ret (se_c (k := 0) sc_bl))) ss_nil)) (ss_one (s_if (st_w (sw_or (st_not (st_val (sb_e (se_cal C__law_whole (hr.mono (by decide)) (by rfl) (sab_cons (sb_ix (sb_var (pv 0)) (sb_var (pv 2)) (fun _ _ => rfl)) sab_nil) (hl := (sab_len sab_len0)))))) (sw_or1 (st_cmp (o_ne hu) (sb_ix (sb_var (pv 0)) (sb_var (pv 2)) (fun _ _ => rfl)) (sb_ix (sb_var (pv 1)) (sb_var (pv 2)) (fun _ _ => rfl)) (nomark _))))) (ss_one (s_ret (se_c (k := 0) sc_bl))) ss_nil)))) (fg := [2])) (ss_one (s_ret (se_c (k := 0) sc_bl))))))
abbrev s__law_listed : Stmt := top 66
theorem sc__law_listed : FnScope ["_law_found", "_law_due", "_law_k"] ["_law_found", "_law_due"] (defScope s__law_listed) := ⟨rfl, rfl, rfl, by decide +kernel, rfl, by decide +kernel, by decide +kernel⟩
theorem ok__law_listed {P : Program} {w : World} {K : PySem.W.Frag} {mg : Str → Option Value} {base : Heap} {κ : Str → Addr} (T : Txt K mg κ) (A : At K mg "_law_listed" s__law_listed) (C__law_tells : Cal P w K mg base "_law_tells" 3 2 0 F__law_tells) : Cal P w K mg base "_law_listed" 4 2 0 F__law_listed := by
  obtain ⟨f, fd, F, hm⟩ := A.ex
  refine ⟨f, fd, ["_law_found", "_law_due"], hm, F.kp, F.binds (fun _ _ _ _ _ _ us hl => match us, hl with | [_, _], _ => rfl), def_ok (m := m__law_listed) F sc__law_listed rfl rfl fun cdv A outer s H E hr => ?_⟩
  have nd := sc__law_listed.nd
  have hu := hr.units
  have hu1 : (A.deeper (envOfC "_law_listed" (defScope s__law_listed) s.heap.objs.size f cdv)).units + 1 < cLine := by omega
  have hu65 : (A.deeper (envOfC "_law_listed" (defScope s__law_listed) s.heap.objs.size f cdv)).units + 65 < cLine := by have := hr.un; omega
  exact (ss_cons (s_if (st_w (sw_or (st_not (st_val (sb_c (sc_isi (T := .list) (by rfl) T.b_isinstance (sb_var (pv 0)) (pe_tyD (by rfl) T.b_list (by decide +kernel)))))) (sw_or1 (st_cmp (o_ne hu) (sb_c (sc_len (by rfl) T.b_len (sb_var (pv 0)))) (sb_c (sc_len (by rfl) T.b_len (sb_var (pv 1)))) (nomark _))))) (ss_one (s_ret (se_c (k := 0) sc_bl))) ss_nil) (ss_cons (s_for .never rfl (si_range1 (by rfl) T.b_range (sb_c (sc_len (by rfl) T.b_len (sb_var (pv 1))))) (tg_name (i := 2) (pg_name nd rfl (.inl rfl))) (ss_one (s_if (st_not (st_val (sb_e (se_cal C__law_tells (hr.mono (by decide)) (by rfl) (sab_cons (sb_ix (sb_var (pv 0)) (sb_var (pv 2)) (fun _ _ => rfl)) (sab_cons (sb_ix (sb_var (pv 1)) (sb_var (pv 2)) (fun _ _ => rfl)) sab_nil)) (hl := (sab_len (sab_len sab_len0))))))) (ss_one (s_ret (se_c (k := 0) sc_bl))) ss_nil)) (fg := [2])) (ss_one (s_ret (se_c (k := 0) sc_bl)))))
abbrev s_seated : Stmt := top 14
theorem sc_seated : FnScope ["row", "at"] ["row"] (defScope s_seated) := ⟨rfl, rfl, rfl, by decide +kernel, rfl, by decide +kernel, by decide +kernel⟩
theorem ok_seated {P : Program} {w : World} {K : PySem.W.Frag} {mg : Str → Option Value} {base : Heap} {κ : Str → Addr} (T : Txt K mg κ) (A : At K mg "seated" s_seated)  : Cal P w K mg base "seated" 1 1 1 F_seated := by
  obtain ⟨f, fd, F, hm⟩ := A.ex
  refine ⟨f, fd, ["row"], hm, F.kp, F.binds (fun _ _ _ _ _ _ us hl => match us, hl with | [_], _ => rfl), def_ok (m := m_seated) F sc_seated rfl rfl fun cdv A outer s H E hr => ?_⟩
  have nd := sc_seated.nd
  have hu := hr.units
  have hu1 : (A.deeper (envOfC "seated" (defScope s_seated) s.heap.objs.size f cdv)).units + 1 < cLine := by omega
  have hu65 : (A.deeper (envOfC "seated" (defScope s_seated) s.heap.objs.size f cdv)).units + 65 < cLine := by have := hr.un; omega
  exact (ss_cons (s_if (st_not (st_tru (sb_var (pv 0)))) (ss_one (s_ret (se_lst (sae_nil (k := 0))))) ss_nil) (ss_cons (s_set (i := 1) nd rfl (.inl rfl) (se_c (k := 0) (sc_index hu65 (sb_var (pv 0)) (sb_c (sc_min rfl hu65 (by rfl) T.b_min (sb_var (pv 0))))))) (ss_one (s_ret (se_cat (sl_imm (k := 0) (sb_e (se_list (.inl rfl) (by rfl) T.b_list (sl_imm (k := 0) (sb_e (se_slice (sl_imm (k := 0) (sb_var (pv 0))) (so_some (sb_var (pv 1))) so_none)))))) (sl_imm (k := 0) (sb_e (se_list (.inl rfl) (by rfl) T.b_list (sl_imm (k := 0) (sb_e (se_slice (sl_imm (k := 0) (sb_var (pv 0))) so_none (so_some (sb_var (pv 1))))))))))))))
abbrev s_hands_of : Stmt := top 15
theorem sc_hands_of : FnScope ["drawing", "hands", "row", "passing"] ["drawing"] (defScope s_hands_of) := ⟨rfl, rfl, rfl, by decide +kernel, rfl, by decide +kernel, by decide +kernel⟩
theorem ok_hands_of {P : Program} {w : World} {K : PySem.W.Frag} {mg : Str → Option Value} {base : Heap} {κ : Str → Addr} (T : Txt K mg κ) (A : At K mg "hands_of" s_hands_of)  : Cal P w K mg base "hands_of" 1 1 1 F_hands_of := by
  obtain ⟨f, fd, F, hm⟩ := A.ex
  refine ⟨f, fd, ["drawing"], hm, F.kp, F.binds (fun _ _ _ _ _ _ us hl => match us, hl with | [_], _ => rfl), def_ok (m := m_hands_of) F sc_hands_of rfl rfl fun cdv A outer s H E hr => ?_⟩
  have nd := sc_hands_of.nd
  have hu := hr.units
  have hu1 : (A.deeper (envOfC "hands_of" (defScope s_hands_of) s.heap.objs.size f cdv)).units + 1 < cLine := by omega
  have hu65 : (A.deeper (envOfC "hands_of" (defScope s_hands_of) s.heap.objs.size f cdv)).units + 65 < cLine := by have := hr.un; omega
  exact (ss_cons (s_set (i := 1) nd rfl (.inl rfl) (se_dnewK (k := 0))) (ss_cons (s_for .never rfl (si_list (se_var (pv 0))) (tg_name (i := 2) (pg_name nd rfl (.inl rfl))) (ss_one (s_for .never rfl (si_list (se_var (pv 2))) (tg_name (i := 3) (pg_name nd rfl (.inl rfl))) (ss_one (s_dput (j := 1) hu1 (pv 1) (sb_ix (sb_var (pv 3)) (sb_c sc_int) (fun _ _ => rfl)) (se_c (k := 0) (sc_b (sb_ix (sb_var (pv 3)) (sb_c sc_int) (fun _ _ => rfl)))))) (fg := [3]))) (fg := [2, 3])) (ss_one (s_ret (se_move (k := 1) (pv 1))))))
abbrev s_names_of : Stmt := top 16
theorem sc_names_of : FnScope ["drawing"] ["drawing"] (defScope s_names_of) := ⟨rfl, rfl, rfl, by decide +kernel, rfl, by decide +kernel, by decide +kernel⟩
theorem ok_names_of {P : Program} {w : World} {K : PySem.W.Frag} {mg : Str → Option Value} {base : Heap} {κ : Str → Addr} (T : Txt K mg κ) (A : At K mg "names_of" s_names_of) (C_hands_of : Cal P w K mg base "hands_of" 1 1 1 F_hands_of) : Cal P w K mg base "names_of" 2 1 1 F_names_of := by
  obtain ⟨f, fd, F, hm⟩ := A.ex
  refine ⟨f, fd, ["drawing"], hm, F.kp, F.binds (fun _ _ _ _ _ _ us hl => match us, hl with | [_], _ => rfl), def_ok (m := m_names_of) F sc_names_of rfl rfl fun cdv A outer s H E hr => ?_⟩
  have nd := sc_names_of.nd
  have hu := hr.units
  have hu1 : (A.deeper (envOfC "names_of" (defScope s_names_of) s.heap.objs.size f cdv)).units + 1 < cLine := by omega
  have hu65 : (A.deeper (envOfC "names_of" (defScope s_names_of) s.heap.objs.size f cdv)).units + 65 < cLine := by have := hr.un; omega
  exact (ss_one (s_ret (se_sortDI (k := 0) rfl (by rfl) T.b_sorted (sb_e (se_cal C_hands_of (hr.mono (by decide)) (by rfl) (sab_cons (sb_var (pv 0)) sab_nil) (hl := (sab_len sab_len0)))))))
abbrev s_look_at_new : Stmt := top 22
theorem sc_look_at_new : FnScope ["drawing", "fresh", "names", "at", "name"] ["drawing", "fresh"] (defScope s_look_at_new) := ⟨rfl, rfl, rfl, by decide +kernel, rfl, by decide +kernel, by decide +kernel⟩
theorem ok_look_at_new {P : Program} {w : World} {K : PySem.W.Frag} {mg : Str → Option Value} {base : Heap} {κ : Str → Addr} (T : Txt K mg κ) (A : At K mg "look_at_new" s_look_at_new) (C_names_of : Cal P w K mg base "names_of" 2 1 1 F_names_of) : Cal P w K mg base "look_at_new" 3 2 0 F_look_at_new := by
  obtain ⟨f, fd, F, hm⟩ := A.ex
  refine ⟨f, fd, ["drawing", "fresh"], hm, F.kp, F.binds (fun _ _ _ _ _ _ us hl => match us, hl with | [_, _], _ => rfl), def_ok (m := m_look_at_new) F sc_look_at_new rfl rfl fun cdv A outer s H E hr => ?_⟩
  have nd := sc_look_at_new.nd
  have hu := hr.units
  have hu1 : (A.deeper (envOfC "look_at_new" (defScope s_look_at_new) s.heap.objs.size f cdv)).units + 1 < cLine := by omega
  have hu65 : (A.deeper (envOfC "look_at_new" (defScope s_look_at_new) s.heap.objs.size f cdv)).units + 65 < cLine := by have := hr.un; omega
  exact (ss_cons (s_set (i := 2) nd rfl (.inl rfl) (se_cal C_names_of (hr.mono (by decide)) (by rfl) (sab_cons (sb_var (pv 0)) sab_nil) (hl := (sab_len sab_len0)))) (ss_cons (s_if (st_cmp (o_gt hu) (sb_c (sc_op o_add (sb_c (sc_len (by rfl) T.b_len (sb_var (pv 2)))) (sb_c (sc_len (by rfl) T.b_len (sb_var (pv 1)))))) (sb_c (sc_globI (by rfl) T.b_MOST_CROSSINGS)) (nomark _)) (ss_one s_no) ss_nil) (ss_one (s_for .never rfl (si_enum (by rfl) T.b_enumerate (se_var (pv 1))) (tg_tup rfl (tgs_cons (tg_name (i := 3) (pg_name nd rfl (.inl rfl))) (tgs_cons (tg_name (i := 4) (pg_name nd rfl (.inl rfl))) tgs_nil))) (ss_one (s_if (st_w (sw_or (st_cmp (o_in hu65) (sb_var (pv 4)) (sb_var (pv 2)) (by rfl)) (sw_or1 (st_cmp (o_in hu65) (sb_var (pv 4)) (sb_e (se_slice (sl_imm (k := 0) (sb_var (pv 1))) so_none (so_some (sb_var (pv 3))))) (by rfl))))) (ss_one s_no) ss_nil)) (fg := [3, 4])))))
abbrev s_put_behind : Stmt := top 20
theorem sc_put_behind : FnScope ["drawing", "spot", "passings", "made", "found", "at", "row", "longer", "passing"] ["drawing", "spot", "passings"] (defScope s_put_behind) := ⟨rfl, rfl, rfl, by decide +kernel, rfl, by decide +kernel, by decide +kernel⟩
theorem ok_put_behind {P : Program} {w : World} {K : PySem.W.Frag} {mg : Str → Option Value} {base : Heap} {κ : Str → Addr} (T : Txt K mg κ) (A : At K mg "put_behind" s_put_behind)  : Cal P w K mg base "put_behind" 1 3 2 F_put_behind := by
  obtain ⟨f, fd, F, hm⟩ := A.ex
  refine ⟨f, fd, ["drawing", "spot", "passings"], hm, F.kp, F.binds (fun _ _ _ _ _ _ us hl => match us, hl with | [_, _, _], _ => rfl), def_ok (m := m_put_behind) F sc_put_behind rfl rfl fun cdv A outer s H E hr => ?_⟩
  have nd := sc_put_behind.nd
  have hu := hr.units
  have hu1 : (A.deeper (envOfC "put_behind" (defScope s_put_behind) s.heap.objs.size f cdv)).units + 1 < cLine := by omega
  have hu65 : (A.deeper (envOfC "put_behind" (defScope s_put_behind) s.heap.objs.size f cdv)).units + 65 < cLine := by have := hr.un; omega
  exact (ss_cons (s_set (i := 3) nd rfl (.inl rfl) (se_lst (sae_nil (k := 1)))) (ss_cons (s_set (i := 4) nd rfl (.inl rfl) (se_c (k := 0) sc_bl)) (ss_cons (s_for .never rfl (si_enum (by rfl) T.b_enumerate (se_var (pv 0))) (tg_tup rfl (tgs_cons (tg_name (i := 5) (pg_name nd rfl (.inl rfl))) (tgs_cons (tg_name (i := 6) (pg_name nd rfl (.inl rfl))) tgs_nil))) (ss_cons (s_set (i := 7) nd rfl (.inl rfl) (se_lst (sae_nil (k := 0)))) (ss_cons (s_if (st_w (sw_and (st_not (st_tru (sb_var (pv 6)))) (sw_and1 (st_cmp (o_eq hu) (sb_var (pv 1)) (sb_c (sc_tup (sae_cons (se_c (k := 0) (sc_b (sb_var (pv 5)))) (sae_cons (se_c (k := 0) (sc_globI (by rfl) T.b_BARE)) (sae_nil (k := 0)))))) (nomark _))))) (ss_cons (s_extend (j := 7) (pv 7) (sl_imm (k := 0) (sb_var (pv 2)))) (ss_one (s_set (i := 4) nd rfl (.inl rfl) (se_c (k := 0) sc_bl)))) ss_nil) (ss_cons (s_for .never rfl (si_list (se_var (pv 6))) (tg_name (i := 8) (pg_name nd rfl (.inl rfl))) (ss_cons (s_append (j := 7) (pv 7) (se_c (k := 0) (sc_b (sb_var (pv 8))))) (ss_one (s_if (st_cmp (o_eq hu) (sb_c (sc_tup (sae_cons (se_c (k := 0) (sc_b (sb_ix (sb_var (pv 8)) (sb_c sc_int) (fun _ _ => rfl)))) (sae_cons (se_c (k := 0) (sc_b (sb_ix (sb_var (pv 8)) (sb_c sc_int) (fun _ _ => rfl)))) (sae_nil (k := 0)))))) (sb_var (pv 1)) (nomark _)) (ss_cons (s_extend (j := 7) (pv 7) (sl_imm (k := 0) (sb_var (pv 2)))) (ss_one (s_set (i := 4) nd rfl (.inl rfl) (se_c (k := 0) sc_bl)))) ss_nil))) (fg := [8])) (ss_one (s_append (j := 3) (pv 3) (se_move (k := 1) (pv 7))))))) (fg := [5, 6, 7, 8])) (ss_cons (s_if (st_not (st_val (sb_var (pv 4)))) (ss_one s_no) ss_nil) (ss_one (s_ret (se_move (k := 2) (pv 3))))))))
abbrev s_Curl_made : Stmt := inCls (top 32) 2
theorem sc_Curl_made : FnScope ["self", "drawing", "fresh"] ["self", "drawing"] (defScope s_Curl_made) := ⟨rfl, rfl, rfl, by decide +kernel, rfl, by decide +kernel, by decide +kernel⟩
theorem ok_Curl_made {P : Program} {w : World} {K : PySem.W.Frag} {mg : Str → Option Value} {base : Heap} {κ : Str → Addr} (T : Txt K mg κ) {C : Addr} (A : AtM K C "made" "Curl.made" s_Curl_made) (C_look_at_new : Cal P w K mg base "look_at_new" 3 2 0 F_look_at_new) (C_put_behind : Cal P w K mg base "put_behind" 1 3 2 F_put_behind) : MetC P w K mg base C "made" 4 2 2 (F_Curl_made κ) := by
  obtain ⟨f, fd, F, hm⟩ := A.ex
  refine ⟨f, fd, ["self", "drawing"], hm, F.binds (fun _ _ _ _ _ _ us hl => match us, hl with | [_, _], _ => rfl), def_ok (m := (m_Curl_made κ)) F sc_Curl_made rfl rfl fun cdv A outer s H E hr => ?_⟩
  have nd := sc_Curl_made.nd
  have hu := hr.units
  have hu1 : (A.deeper (envOfC "Curl.made" (defScope s_Curl_made) s.heap.objs.size f cdv)).units + 1 < cLine := by omega
  have hu65 : (A.deeper (envOfC "Curl.made" (defScope s_Curl_made) s.heap.objs.size f cdv)).units + 65 < cLine := by have := hr.un; omega
  exact (ss_cons (s_expr (se_cal C_look_at_new (hr.mono (by decide)) (by rfl) (sab_cons (sb_var (pv 1)) (sab_cons (sb_lst (sab_cons (sb_fld (cs := ["Curl"]) (f := "name") ⟨⟨T.o_Curl.is, T.a_Curl_name⟩, trivial⟩ (sb_var (pv 0))) sab_nil)) sab_nil)) (hl := (sab_len (sab_len sab_len0))))) (ss_cons (s_set (i := 2) nd rfl (.inl rfl) (se_lst (sae_cons (se_c (k := 0) (sc_tup (sae_cons (se_c (k := 0) (sc_b (sb_fld (cs := ["Curl"]) (f := "name") ⟨⟨T.o_Curl.is, T.a_Curl_name⟩, trivial⟩ (sb_var (pv 0))))) (sae_cons (se_c (k := 0) (sc_b (sb_fld (cs := ["Curl"]) (f := "first") ⟨⟨T.o_Curl.is, T.a_Curl_first⟩, trivial⟩ (sb_var (pv 0))))) (sae_cons (se_c (k := 0) (sc_b (sb_fld (cs := ["Curl"]) (f := "hand") ⟨⟨T.o_Curl.is, T.a_Curl_hand⟩, trivial⟩ (sb_var (pv 0))))) (sae_nil (k := 0))))))) (sae_cons (se_c (k := 0) (sc_tup (sae_cons (se_c (k := 0) (sc_b (sb_fld (cs := ["Curl"]) (f := "name") ⟨⟨T.o_Curl.is, T.a_Curl_name⟩, trivial⟩ (sb_var (pv 0))))) (sae_cons (se_c (k := 0) (sc_op o_sub (sb_c sc_int) (sb_fld (cs := ["Curl"]) (f := "first") ⟨⟨T.o_Curl.is, T.a_Curl_first⟩, trivial⟩ (sb_var (pv 0))))) (sae_cons (se_c (k := 0) (sc_b (sb_fld (cs := ["Curl"]) (f := "hand") ⟨⟨T.o_Curl.is, T.a_Curl_hand⟩, trivial⟩ (sb_var (pv 0))))) (sae_nil (k := 0))))))) (sae_nil (k := 0)))))) (ss_one (s_ret (se_cal C_put_behind (hr.mono (by decide)) (by rfl) (sab_cons (sb_var (pv 1)) (sab_cons (sb_fld (cs := ["Curl"]) (f := "spot") ⟨⟨T.o_Curl.is, T.a_Curl_spot⟩, trivial⟩ (sb_var (pv 0))) (sab_cons (sb_var (pv 2)) sab_nil))) (hl := (sab_len (sab_len (sab_len sab_len0)))))))))
abbrev s_Lay_made : Stmt := inCls (top 34) 2
theorem sc_Lay_made : FnScope ["self", "drawing", "overs", "unders", "laid"] ["self", "drawing"] (defScope s_Lay_made) := ⟨rfl, rfl, rfl, by decide +kernel, rfl, by decide +kernel, by decide +kernel⟩
theorem ok_Lay_made {P : Program} {w : World} {K : PySem.W.Frag} {mg : Str → Option Value} {base : Heap} {κ : Str → Addr} (T : Txt K mg κ) {C : Addr} (A : AtM K C "made" "Lay.made" s_Lay_made) (C_look_at_new : Cal P w K mg base "look_at_new" 3 2 0 F_look_at_new) (C_put_behind : Cal P w K mg base "put_behind" 1 3 2 F_put_behind) : MetC P w K mg base C "made" 4 2 2 (F_Lay_made κ) := by
  obtain ⟨f, fd, F, hm⟩ := A.ex
  refine ⟨f, fd, ["self", "drawing"], hm, F.binds (fun _ _ _ _ _ _ us hl => match us, hl with | [_, _], _ => rfl), def_ok (m := (m_Lay_made κ)) F sc_Lay_made rfl rfl fun cdv A outer s H E hr => ?_⟩
  have nd := sc_Lay_made.nd
  have hu := hr.units
  have hu1 : (A.deeper (envOfC "Lay.made" (defScope s_Lay_made) s.heap.objs.size f cdv)).units + 1 < cLine := by omega
  have hu65 : (A.deeper (envOfC "Lay.made" (defScope s_Lay_made) s.heap.objs.size f cdv)).units + 65 < cLine := by have := hr.un; omega
  exact (ss_cons (s_expr (se_cal C_look_at_new (hr.mono (by decide)) (by rfl) (sab_cons (sb_var (pv 1)) (sab_cons (sb_lst (sab_cons (sb_fld (cs := ["Lay"]) (f := "name") ⟨⟨T.o_Lay.is, T.a_Lay_name⟩, trivial⟩ (sb_var (pv 0))) (sab_cons (sb_fld (cs := ["Lay"]) (f := "second") ⟨⟨T.o_Lay.is, T.a_Lay_second⟩, trivial⟩ (sb_var (pv 0))) sab_nil))) sab_nil)) (hl := (sab_len (sab_len sab_len0))))) (ss_cons (s_set (i := 2) nd rfl (.inl rfl) (se_lst (sae_cons (se_c (k := 0) (sc_tup (sae_cons (se_c (k := 0) (sc_b (sb_fld (cs := ["Lay"]) (f := "name") ⟨⟨T.o_Lay.is, T.a_Lay_name⟩, trivial⟩ (sb_var (pv 0))))) (sae_cons (se_c (k := 0) (sc_globI (by rfl) T.b_OVER)) (sae_cons (se_c (k := 0) (sc_b (sb_fld (cs := ["Lay"]) (f := "hand") ⟨⟨T.o_Lay.is, T.a_Lay_hand⟩, trivial⟩ (sb_var (pv 0))))) (sae_nil (k := 0))))))) (sae_cons (se_c (k := 0) (sc_tup (sae_cons (se_c (k := 0) (sc_b (sb_fld (cs := ["Lay"]) (f := "second") ⟨⟨T.o_Lay.is, T.a_Lay_second⟩, trivial⟩ (sb_var (pv 0))))) (sae_cons (se_c (k := 0) (sc_globI (by rfl) T.b_OVER)) (sae_cons (se_c (k := 0) (sc_neg (sb_fld (cs := ["Lay"]) (f := "hand") ⟨⟨T.o_Lay.is, T.a_Lay_hand⟩, trivial⟩ (sb_var (pv 0))))) (sae_nil (k := 0))))))) (sae_nil (k := 0)))))) (ss_cons (s_set (i := 3) nd rfl (.inl rfl) (se_lst (sae_cons (se_c (k := 0) (sc_tup (sae_cons (se_c (k := 0) (sc_b (sb_fld (cs := ["Lay"]) (f := "name") ⟨⟨T.o_Lay.is, T.a_Lay_name⟩, trivial⟩ (sb_var (pv 0))))) (sae_cons (se_c (k := 0) (sc_globI (by rfl) T.b_UNDER)) (sae_cons (se_c (k := 0) (sc_b (sb_fld (cs := ["Lay"]) (f := "hand") ⟨⟨T.o_Lay.is, T.a_Lay_hand⟩, trivial⟩ (sb_var (pv 0))))) (sae_nil (k := 0))))))) (sae_cons (se_c (k := 0) (sc_tup (sae_cons (se_c (k := 0) (sc_b (sb_fld (cs := ["Lay"]) (f := "second") ⟨⟨T.o_Lay.is, T.a_Lay_second⟩, trivial⟩ (sb_var (pv 0))))) (sae_cons (se_c (k := 0) (sc_globI (by rfl) T.b_UNDER)) (sae_cons (se_c (k := 0) (sc_neg (sb_fld (cs := ["Lay"]) (f := "hand") ⟨⟨T.o_Lay.is, T.a_Lay_hand⟩, trivial⟩ (sb_var (pv 0))))) (sae_nil (k := 0))))))) (sae_nil (k := 0)))))) (ss_cons (s_if (st_cmp (o_eq hu) (sb_fld (cs := ["Lay"]) (f := "turned") ⟨⟨T.o_Lay.is, T.a_Lay_turned⟩, trivial⟩ (sb_var (pv 0))) (sb_c sc_int) (nomark _)) (ss_one (s_set (i := 3) nd rfl (.inl rfl) (se_lst (sae_cons (se_c (k := 0) (sc_b (sb_ix (sb_var (pv 3)) (sb_c sc_int) (fun _ _ => rfl)))) (sae_cons (se_c (k := 0) (sc_b (sb_ix (sb_var (pv 3)) (sb_c sc_int) (fun _ _ => rfl)))) (sae_nil (k := 0))))))) ss_nil) (ss_cons (s_set (i := 4) nd rfl (.inl rfl) (se_cal C_put_behind (hr.mono (by decide)) (by rfl) (sab_cons (sb_var (pv 1)) (sab_cons (sb_fld (cs := ["Lay"]) (f := "over") ⟨⟨T.o_Lay.is, T.a_Lay_over⟩, trivial⟩ (sb_var (pv 0))) (sab_cons (sb_var (pv 2)) sab_nil))) (hl := (sab_len (sab_len (sab_len sab_len0)))))) (ss_cons (s_if (st_cmp (o_eq hu) (sb_fld (cs := ["Lay"]) (f := "under") ⟨⟨T.o_Lay.is, T.a_Lay_under⟩, trivial⟩ (sb_var (pv 0))) (sb_c (sc_tup (sae_cons (se_c (k := 0) (sc_b (sb_fld (cs := ["Lay"]) (f := "name") ⟨⟨T.o_Lay.is, T.a_Lay_name⟩, trivial⟩ (sb_var (pv 0))))) (sae_cons (se_c (k := 0) (sc_globI (by rfl) T.b_OVER)) (sae_nil (k := 0)))))) (nomark _)) (ss_one s_no) ss_nil) (ss_one (s_ret (se_cal C_put_behind (hr.mono (by decide)) (by rfl) (sab_cons (sb_var (pv 4)) (sab_cons (sb_fld (cs := ["Lay"]) (f := "under") ⟨⟨T.o_Lay.is, T.a_Lay_under⟩, trivial⟩ (sb_var (pv 0))) (sab_cons (sb_var (pv 3)) sab_nil))) (hl := (sab_len (sab_len (sab_len sab_len0)))))))))))))
abbrev s_hand_of : Stmt := top 17
theorem sc_hand_of : FnScope ["drawing", "name", "hands"] ["drawing", "name"] (defScope s_hand_of) := ⟨rfl, rfl, rfl, by decide +kernel, rfl, by decide +kernel, by decide +kernel⟩
theorem ok_hand_of {P : Program} {w : World} {K : PySem.W.Frag} {mg : Str → Option Value} {base : Heap} {κ : Str → Addr} (T : Txt K mg κ) (A : At K mg "hand_of" s_hand_of) (C_hands_of : Cal P w K mg base "hands_of" 1 1 1 F_hands_of) : Cal P w K mg base "hand_of" 2 2 0 F_hand_of := by
  obtain ⟨f, fd, F, hm⟩ := A.ex
  refine ⟨f, fd, ["drawing", "name"], hm, F.kp, F.binds (fun _ _ _ _ _ _ us hl => match us, hl with | [_, _], _ => rfl), def_ok (m := m_hand_of) F sc_hand_of rfl rfl fun cdv A outer s H E hr => ?_⟩
  have nd := sc_hand_of.nd
  have hu := hr.units
  have hu1 : (A.deeper (envOfC "hand_of" (defScope s_hand_of) s.heap.objs.size f cdv)).units + 1 < cLine := by omega
  have hu65 : (A.deeper (envOfC "hand_of" (defScope s_hand_of) s.heap.objs.size f cdv)).units + 65 < cLine := by have := hr.un; omega
  exact (ss_cons (s_set (i := 2) nd rfl (.inl rfl) (se_cal C_hands_of (hr.mono (by decide)) (by rfl) (sab_cons (sb_var (pv 0)) sab_nil) (hl := (sab_len sab_len0)))) (ss_cons (s_if (st_dnotin hu1 (sb_var (pv 1)) (sb_var (pv 2))) (ss_one s_no) ss_nil) (ss_one (s_ret (se_c (k := 0) (sc_b (sb_dget hu1 (sb_var (pv 2)) (sb_var (pv 1)) (fun _ _ => rfl))))))))
abbrev s_look_at_old : Stmt := top 23
theorem sc_look_at_old : FnScope ["drawing", "names", "name"] ["drawing", "names"] (defScope s_look_at_old) := ⟨rfl, rfl, rfl, by decide +kernel, rfl, by decide +kernel, by decide +kernel⟩
theorem ok_look_at_old {P : Program} {w : World} {K : PySem.W.Frag} {mg : Str → Option Value} {base : Heap} {κ : Str → Addr} (T : Txt K mg κ) (A : At K mg "look_at_old" s_look_at_old) (C_hand_of : Cal P w K mg base "hand_of" 2 2 0 F_hand_of) : Cal P w K mg base "look_at_old" 3 2 0 F_look_at_old := by
  obtain ⟨f, fd, F, hm⟩ := A.ex
  refine ⟨f, fd, ["drawing", "names"], hm, F.kp, F.binds (fun _ _ _ _ _ _ us hl => match us, hl with | [_, _], _ => rfl), def_ok (m := m_look_at_old) F sc_look_at_old rfl rfl fun cdv A outer s H E hr => ?_⟩
  have nd := sc_look_at_old.nd
  have hu := hr.units
  have hu1 : (A.deeper (envOfC "look_at_old" (defScope s_look_at_old) s.heap.objs.size f cdv)).units + 1 < cLine := by omega
  have hu65 : (A.deeper (envOfC "look_at_old" (defScope s_look_at_old) s.heap.objs.size f cdv)).units + 65 < cLine := by have := hr.un; omega
  exact (ss_one (s_for .never rfl (si_list (se_var (pv 1))) (tg_name (i := 2) (pg_name nd rfl (.inl rfl))) (ss_one (s_expr (se_cal C_hand_of (hr.mono (by decide)) (by rfl) (sab_cons (sb_var (pv 0)) (sab_cons (sb_var (pv 2)) sab_nil)) (hl := (sab_len (sab_len sab_len0)))))) (fg := [2])))
abbrev s_side_by_side : Stmt := top 24
theorem sc_side_by_side : FnScope ["behind", "one", "other"] ["behind", "one", "other"] (defScope s_side_by_side) := ⟨rfl, rfl, rfl, by decide +kernel, rfl, by decide +kernel, by decide +kernel⟩
theorem ok_side_by_side {P : Program} {w : World} {K : PySem.W.Frag} {mg : Str → Option Value} {base : Heap} {κ : Str → Addr} (T : Txt K mg κ) (A : At K mg "side_by_side" s_side_by_side)  : Cal P w K mg base "side_by_side" 1 3 0 F_side_by_side := by
  obtain ⟨f, fd, F, hm⟩ := A.ex
  refine ⟨f, fd, ["behind", "one", "other"], hm, F.kp, F.binds (fun _ _ _ _ _ _ us hl => match us, hl with | [_, _, _], _ => rfl), def_ok (m := m_side_by_side) F sc_side_by_side rfl rfl fun cdv A outer s H E hr => ?_⟩
  have nd := sc_side_by_side.nd
  have hu := hr.units
  have hu1 : (A.deeper (envOfC "side_by_side" (defScope s_side_by_side) s.heap.objs.size f cdv)).units + 1 < cLine := by omega
  have hu65 : (A.deeper (envOfC "side_by_side" (defScope s_side_by_side) s.heap.objs.size f cdv)).units + 65 < cLine := by have := hr.un; omega
  exact (ss_one (s_ret (se_c (k := 0) (sc_or (sb_c (sc_cmp (o_eq hu) (sb_dget hu1 (sb_var (pv 0)) (sb_var (pv 1)) (fun _ _ => rfl)) (sb_var (pv 2)) (nomark _))) (sc_one (sc_cmp (o_eq hu) (sb_dget hu1 (sb_var (pv 0)) (sb_var (pv 2)) (fun _ _ => rfl)) (sb_var (pv 1)) (nomark _)))))))
abbrev s_parts : Stmt := top 27
theorem sc_parts : FnScope ["behind", "hands", "name", "second"] ["behind", "hands", "name", "second"] (defScope s_parts) := ⟨rfl, rfl, rfl, by decide +kernel, rfl, by decide +kernel, by decide +kernel⟩
theorem ok_parts {P : Program} {w : World} {K : PySem.W.Frag} {mg : Str → Option Value} {base : Heap} {κ : Str → Addr} (T : Txt K mg κ) (A : At K mg "parts" s_parts) (C_side_by_side : Cal P w K mg base "side_by_side" 1 3 0 F_side_by_side) : Cal P w K mg base "parts" 2 4 0 F_parts := by
  obtain ⟨f, fd, F, hm⟩ := A.ex
  refine ⟨f, fd, ["behind", "hands", "name", "second"], hm, F.kp, F.binds (fun _ _ _ _ _ _ us hl => match us, hl with | [_, _, _, _], _ => rfl), def_ok (m := m_parts) F sc_parts rfl rfl fun cdv A outer s H E hr => ?_⟩
  have nd := sc_parts.nd
  have hu := hr.units
  have hu1 : (A.deeper (envOfC "parts" (defScope s_parts) s.heap.objs.size f cdv)).units + 1 < cLine := by omega
  have hu65 : (A.deeper (envOfC "parts" (defScope s_parts) s.heap.objs.size f cdv)).units + 65 < cLine := by have := hr.un; omega
  exact (ss_cons (s_if (st_w (sw_or (st_cmp (o_eq hu) (sb_var (pv 2)) (sb_var (pv 3)) (nomark _)) (sw_or1 (st_cmp (o_eq hu) (sb_dget hu1 (sb_var (pv 1)) (sb_var (pv 2)) (fun _ _ => rfl)) (sb_dget hu1 (sb_var (pv 1)) (sb_var (pv 3)) (fun _ _ => rfl)) (nomark _))))) (ss_one (s_ret (se_c (k := 0) sc_bl))) ss_nil) (ss_cons (s_if (st_not (st_val (sb_e (se_cal C_side_by_side (hr.mono (by decide)) (by rfl) (sab_cons (sb_var (pv 0)) (sab_cons (sb_c (sc_tup (sae_cons (se_c (k := 0) (sc_b (sb_var (pv 2)))) (sae_cons (se_c (k := 0) (sc_globI (by rfl) T.b_OVER)) (sae_nil (k := 0)))))) (sab_cons (sb_c (sc_tup (sae_cons (se_c (k := 0) (sc_b (sb_var (pv 3)))) (sae_cons (se_c (k := 0) (sc_globI (by rfl) T.b_OVER)) (sae_nil (k := 0)))))) sab_nil))) (hl := (sab_len (sab_len (sab_len sab_len0)))))))) (ss_one (s_ret (se_c (k := 0) sc_bl))) ss_nil) (ss_one (s_ret (se_cal C_side_by_side (hr.mono (by decide)) (by rfl) (sab_cons (sb_var (pv 0)) (sab_cons (sb_c (sc_tup (sae_cons (se_c (k := 0) (sc_b (sb_var (pv 2)))) (sae_cons (se_c (k := 0) (sc_globI (by rfl) T.b_UNDER)) (sae_nil (k := 0)))))) (sab_cons (sb_c (sc_tup (sae_cons (se_c (k := 0) (sc_b (sb_var (pv 3)))) (sae_cons (se_c (k := 0) (sc_globI (by rfl) T.b_UNDER)) (sae_nil (k := 0)))))) sab_nil))) (hl := (sab_len (sab_len (sab_len sab_len0)))))))))
abbrev s_next_of : Stmt := top 18
theorem sc_next_of : FnScope ["drawing", "behind", "row", "at", "passing", "follower"] ["drawing"] (defScope s_next_of) := ⟨rfl, rfl, rfl, by decide +kernel, rfl, by decide +kernel, by decide +kernel⟩
theorem ok_next_of {P : Program} {w : World} {K : PySem.W.Frag} {mg : Str → Option Value} {base : Heap} {κ : Str → Addr} (T : Txt K mg κ) (A : At K mg "next_of" s_next_of)  : Cal P w K mg base "next_of" 1 1 1 F_next_of := by
  obtain ⟨f, fd, F, hm⟩ := A.ex
  refine ⟨f, fd, ["drawing"], hm, F.kp, F.binds (fun _ _ _ _ _ _ us hl => match us, hl with | [_], _ => rfl), def_ok (m := m_next_of) F sc_next_of rfl rfl fun cdv A outer s H E hr => ?_⟩
  have nd := sc_next_of.nd
  have hu := hr.units
  have hu1 : (A.deeper (envOfC "next_of" (defScope s_next_of) s.heap.objs.size f cdv)).units + 1 < cLine := by omega
  have hu65 : (A.deeper (envOfC "next_of" (defScope s_next_of) s.heap.objs.size f cdv)).units + 65 < cLine := by have := hr.un; omega
  exact (ss_cons (s_set (i := 1) nd rfl (.inl rfl) (se_dnewT (k := 0))) (ss_cons (s_for .never rfl (si_list (se_var (pv 0))) (tg_name (i := 2) (pg_name nd rfl (.inl rfl))) (ss_one (s_for .never rfl (si_enum (by rfl) T.b_enumerate (se_var (pv 2))) (tg_tup rfl (tgs_cons (tg_name (i := 3) (pg_name nd rfl (.inl rfl))) (tgs_cons (tg_name (i := 4) (pg_name nd rfl (.inl rfl))) tgs_nil))) (ss_cons (s_set (i := 5) nd rfl (.inl rfl) (se_c (k := 0) (sc_b (sb_ix (sb_var (pv 2)) (sb_c (sc_op o_mod (sb_c (sc_op o_add (sb_var (pv 3)) (sb_c sc_int))) (sb_c (sc_len (by rfl) T.b_len (sb_var (pv 2)))))) (fun _ _ => rfl))))) (ss_one (s_dput (j := 1) hu1 (pv 1) (sb_c (sc_tup (sae_cons (se_c (k := 0) (sc_b (sb_ix (sb_var (pv 4)) (sb_c sc_int) (fun _ _ => rfl)))) (sae_cons (se_c (k := 0) (sc_b (sb_ix (sb_var (pv 4)) (sb_c sc_int) (fun _ _ => rfl)))) (sae_nil (k := 0)))))) (se_c (k := 0) (sc_tup (sae_cons (se_c (k := 0) (sc_b (sb_ix (sb_var (pv 5)) (sb_c sc_int) (fun _ _ => rfl)))) (sae_cons (se_c (k := 0) (sc_b (sb_ix (sb_var (pv 5)) (sb_c sc_int) (fun _ _ => rfl)))) (sae_nil (k := 0))))))))) (fg := [3, 4, 5]))) (fg := [2, 3, 4, 5])) (ss_one (s_ret (se_move (k := 1) (pv 1))))))
abbrev s_Part_look : Stmt := inCls (top 33) 2
theorem sc_Part_look : FnScope ["self", "drawing"] ["self", "drawing"] (defScope s_Part_look) := ⟨rfl, rfl, rfl, by decide +kernel, rfl, by decide +kernel, by decide +kernel⟩
theorem ok_Part_look {P : Program} {w : World} {K : PySem.W.Frag} {mg : Str → Option Value} {base : Heap} {κ : Str → Addr} (T : Txt K mg κ) {C : Addr} (A : AtM K C "look" "Part.look" s_Part_look) (C_look_at_old : Cal P w K mg base "look_at_old" 3 2 0 F_look_at_old) (C_parts : Cal P w K mg base "parts" 2 4 0 F_parts) (C_next_of : Cal P w K mg base "next_of" 1 1 1 F_next_of) (C_hands_of : Cal P w K mg base "hands_of" 1 1 1 F_hands_of) : MetC P w K mg base C "look" 4 2 0 (F_Part_look κ) := by
  obtain ⟨f, fd, F, hm⟩ := A.ex
  refine ⟨f, fd, ["self", "drawing"], hm, F.binds (fun _ _ _ _ _ _ us hl => match us, hl with | [_, _], _ => rfl), def_ok (m := (m_Part_look κ)) F sc_Part_look rfl rfl fun cdv A outer s H E hr => ?_⟩
  have nd := sc_Part_look.nd
  have hu := hr.units
  have hu1 : (A.deeper (envOfC "Part.look" (defScope s_Part_look) s.heap.objs.size f cdv)).units + 1 < cLine := by omega
  have hu65 : (A.deeper (envOfC "Part.look" (defScope s_Part_look) s.heap.objs.size f cdv)).units + 65 < cLine := by have := hr.un; omega
  exact (ss_cons (s_expr (se_cal C_look_at_old (hr.mono (by decide)) (by rfl) (sab_cons (sb_var (pv 1)) (sab_cons (sb_lst (sab_cons (sb_fld (cs := ["Part"]) (f := "name") ⟨⟨T.o_Part.is, T.a_Part_name⟩, trivial⟩ (sb_var (pv 0))) (sab_cons (sb_fld (cs := ["Part"]) (f := "second") ⟨⟨T.o_Part.is, T.a_Part_second⟩, trivial⟩ (sb_var (pv 0))) sab_nil))) sab_nil)) (hl := (sab_len (sab_len sab_len0))))) (ss_one (s_if (st_not (st_val (sb_e (se_cal C_parts (hr.mono (by decide)) (by rfl) (sab_cons (sb_e (se_cal C_next_of (hr.mono (by decide)) (by rfl) (sab_cons (sb_var (pv 1)) sab_nil) (hl := (sab_len sab_len0)))) (sab_cons (sb_e (se_cal C_hands_of (hr.mono (by decide)) (by rfl) (sab_cons (sb_var (pv 1)) sab_nil) (hl := (sab_len sab_len0)))) (sab_cons (sb_fld (cs := ["Part"]) (f := "name") ⟨⟨T.o_Part.is, T.a_Part_name⟩, trivial⟩ (sb_var (pv 0))) (sab_cons (sb_fld (cs := ["Part"]) (f := "second") ⟨⟨T.o_Part.is, T.a_Part_second⟩, trivial⟩ (sb_var (pv 0))) sab_nil)))) (hl := (sab_len (sab_len (sab_len (sab_len sab_len0))))))))) (ss_one s_no) ss_nil)))
abbrev s_without : Stmt := top 21
theorem sc_without : FnScope ["drawing", "names", "made", "row", "passing"] ["drawing", "names"] (defScope s_without) := ⟨rfl, rfl, rfl, by decide +kernel, rfl, by decide +kernel, by decide +kernel⟩
theorem ok_without {P : Program} {w : World} {K : PySem.W.Frag} {mg : Str → Option Value} {base : Heap} {κ : Str → Addr} (T : Txt K mg κ) (A : At K mg "without" s_without)  : Cal P w K mg base "without" 1 2 2 F_without := by
  obtain ⟨f, fd, F, hm⟩ := A.ex
  refine ⟨f, fd, ["drawing", "names"], hm, F.kp, F.binds (fun _ _ _ _ _ _ us hl => match us, hl with | [_, _], _ => rfl), def_ok (m := m_without) F sc_without rfl rfl fun cdv A outer s H E hr => ?_⟩
  have nd := sc_without.nd
  have hu := hr.units
  have hu1 : (A.deeper (envOfC "without" (defScope s_without) s.heap.objs.size f cdv)).units + 1 < cLine := by omega
  have hu65 : (A.deeper (envOfC "without" (defScope s_without) s.heap.objs.size f cdv)).units + 65 < cLine := by have := hr.un; omega
  exact (ss_cons (s_set (i := 2) nd rfl (.inl rfl) (se_lst (sae_nil (k := 1)))) (ss_cons (s_for .never rfl (si_list (se_var (pv 0))) (tg_name (i := 3) (pg_name nd rfl (.inl rfl))) (ss_one (s_append (j := 2) (pv 2) (se_lc [("passing", 4)] (by rfl) nd (blkOk_by (by rfl)) (by rfl) (si_list (se_var (pv 3))) (fun _ _ _ _ _ => (tg_name (i := 4) (pg_name nd rfl (.inl rfl)))) tok_name (by decide) (fun _ _ _ _ _ => (spt_one (st_cmp (o_notIn hu65) (sb_ix (sb_var (pv 4)) (sb_c sc_int) (fun _ _ => rfl)) (sb_var (pv 1)) (by rfl)))) (fun _ _ _ _ _ => (se_c (k := 0) (sc_b (sb_var (pv 4)))))))) (fg := [3, 4])) (ss_one (s_ret (se_move (k := 2) (pv 2))))))
abbrev s_Part_made : Stmt := inCls (top 33) 3
theorem sc_Part_made : FnScope ["self", "drawing"] ["self", "drawing"] (defScope s_Part_made) := ⟨rfl, rfl, rfl, by decide +kernel, rfl, by decide +kernel, by decide +kernel⟩
theorem ok_Part_made {P : Program} {w : World} {K : PySem.W.Frag} {mg : Str → Option Value} {base : Heap} {κ : Str → Addr} (T : Txt K mg κ) {C : Addr} (A : AtM K C "made" "Part.made" s_Part_made) (C_Part__look : MetC P w K mg base (κ "Part") "look" 4 2 0 (F_Part_look κ)) (C_without : Cal P w K mg base "without" 1 2 2 F_without) : MetC P w K mg base C "made" 5 2 2 (F_Part_made κ) := by
  obtain ⟨f, fd, F, hm⟩ := A.ex
  refine ⟨f, fd, ["self", "drawing"], hm, F.binds (fun _ _ _ _ _ _ us hl => match us, hl with | [_, _], _ => rfl), def_ok (m := (m_Part_made κ)) F sc_Part_made rfl rfl fun cdv A outer s H E hr => ?_⟩
  have nd := sc_Part_made.nd
  have hu := hr.units
  have hu1 : (A.deeper (envOfC "Part.made" (defScope s_Part_made) s.heap.objs.size f cdv)).units + 1 < cLine := by omega
  have hu65 : (A.deeper (envOfC "Part.made" (defScope s_Part_made) s.heap.objs.size f cdv)).units + 65 < cLine := by have := hr.un; omega
  exact (ss_cons (s_expr (se_meth (t := [("Part", F_Part_look κ)]) ⟨⟨T.o_Part.is, _, hr.mono (by decide), C_Part__look⟩, trivial⟩ (sb_var (pv 0)) (sab_cons (sb_var (pv 1)) sab_nil) (sab_len sab_len0))) (ss_one (s_ret (se_cal C_without (hr.mono (by decide)) (by rfl) (sab_cons (sb_var (pv 1)) (sab_cons (sb_lst (sab_cons (sb_fld (cs := ["Part"]) (f := "name") ⟨⟨T.o_Part.is, T.a_Part_name⟩, trivial⟩ (sb_var (pv 0))) (sab_cons (sb_fld (cs := ["Part"]) (f := "second") ⟨⟨T.o_Part.is, T.a_Part_second⟩, trivial⟩ (sb_var (pv 0))) sab_nil))) sab_nil)) (hl := (sab_len (sab_len sab_len0)))))))
abbrev s_exchanged : Stmt := top 29
theorem sc_exchanged : FnScope ["drawing", "pairs", "hands", "partner", "one", "other", "made", "row", "changed", "passing", "spot"] ["drawing", "pairs"] (defScope s_exchanged) := ⟨rfl, rfl, rfl, by decide +kernel, rfl, by decide +kernel, by decide +kernel⟩
theorem ok_exchanged {P : Program} {w : World} {K : PySem.W.Frag} {mg : Str → Option Value} {base : Heap} {κ : Str → Addr} (T : Txt K mg κ) (A : At K mg "exchanged" s_exchanged) (C_hands_of : Cal P w K mg base "hands_of" 1 1 1 F_hands_of) : Cal P w K mg base "exchanged" 2 2 2 F_exchanged := by
  obtain ⟨f, fd, F, hm⟩ := A.ex
  refine ⟨f, fd, ["drawing", "pairs"], hm, F.kp, F.binds (fun _ _ _ _ _ _ us hl => match us, hl with | [_, _], _ => rfl), def_ok (m := m_exchanged) F sc_exchanged rfl rfl fun cdv A outer s H E hr => ?_⟩
  have nd := sc_exchanged.nd
  have hu := hr.units
  have hu1 : (A.deeper (envOfC "exchanged" (defScope s_exchanged) s.heap.objs.size f cdv)).units + 1 < cLine := by omega
  have hu65 : (A.deeper (envOfC "exchanged" (defScope s_exchanged) s.heap.objs.size f cdv)).units + 65 < cLine := by have := hr.un; omega
  exact (ss_cons (s_set (i := 2) nd rfl (.inl rfl) (se_cal C_hands_of (hr.mono (by decide)) (by rfl) (sab_cons (sb_var (pv 0)) sab_nil) (hl := (sab_len sab_len0)))) (ss_cons (s_set (i := 3) nd rfl (.inl rfl) (se_dnewT (k := 0))) (ss_cons (s_for .never rfl (si_list (se_var (pv 1))) (tg_tup rfl (tgs_cons (tg_name (i := 4) (pg_name nd rfl (.inl rfl))) (tgs_cons (tg_name (i := 5) (pg_name nd rfl (.inl rfl))) tgs_nil))) (ss_cons (s_dput (j := 3) hu1 (pv 3) (sb_var (pv 4)) (se_c (k := 0) (sc_b (sb_var (pv 5))))) (ss_one (s_dput (j := 3) hu1 (pv 3) (sb_var (pv 5)) (se_c (k := 0) (sc_b (sb_var (pv 4))))))) (fg := [4, 5])) (ss_cons (s_set (i := 6) nd rfl (.inl rfl) (se_lst (sae_nil (k := 1)))) (ss_cons (s_for .never rfl (si_list (se_var (pv 0))) (tg_name (i := 7) (pg_name nd rfl (.inl rfl))) (ss_cons (s_set (i := 8) nd rfl (.inl rfl) (se_lst (sae_nil (k := 0)))) (ss_cons (s_for .never rfl (si_list (se_var (pv 7))) (tg_name (i := 9) (pg_name nd rfl (.inl rfl))) (ss_cons (s_set (i := 10) nd rfl (.inl rfl) (se_c (k := 0) (sc_tup (sae_cons (se_c (k := 0) (sc_b (sb_ix (sb_var (pv 9)) (sb_c sc_int) (fun _ _ => rfl)))) (sae_cons (se_c (k := 0) (sc_b (sb_ix (sb_var (pv 9)) (sb_c sc_int) (fun _ _ => rfl)))) (sae_nil (k := 0))))))) (ss_cons (s_if (st_din hu1 (sb_var (pv 10)) (sb_var (pv 3))) (ss_one (s_set (i := 10) nd rfl (.inl rfl) (se_c (k := 0) (sc_b (sb_dget hu1 (sb_var (pv 3)) (sb_var (pv 10)) (fun _ _ => rfl)))))) ss_nil) (ss_one (s_append (j := 8) (pv 8) (se_c (k := 0) (sc_tup (sae_cons (se_c (k := 0) (sc_b (sb_ix (sb_var (pv 10)) (sb_c sc_int) (fun _ _ => rfl)))) (sae_cons (se_c (k := 0) (sc_b (sb_ix (sb_var (pv 10)) (sb_c sc_int) (fun _ _ => rfl)))) (sae_cons (se_c (k := 0) (sc_b (sb_dget hu1 (sb_var (pv 2)) (sb_ix (sb_var (pv 10)) (sb_c sc_int) (fun _ _ => rfl)) (fun _ _ => rfl)))) (sae_nil (k := 0))))))))))) (fg := [9, 10])) (ss_one (s_append (j := 6) (pv 6) (se_move (k := 1) (pv 8)))))) (fg := [7, 8, 9, 10])) (ss_one (s_ret (se_move (k := 2) (pv 6)))))))))
abbrev s_right_behind : Stmt := top 25
theorem sc_right_behind : FnScope ["behind", "one", "other", "way"] ["behind", "one", "other", "way"] (defScope s_right_behind) := ⟨rfl, rfl, rfl, by decide +kernel, rfl, by decide +kernel, by decide +kernel⟩
theorem ok_right_behind {P : Program} {w : World} {K : PySem.W.Frag} {mg : Str → Option Value} {base : Heap} {κ : Str → Addr} (T : Txt K mg κ) (A : At K mg "right_behind" s_right_behind)  : Cal P w K mg base "right_behind" 1 4 0 F_right_behind := by
  obtain ⟨f, fd, F, hm⟩ := A.ex
  refine ⟨f, fd, ["behind", "one", "other", "way"], hm, F.kp, F.binds (fun _ _ _ _ _ _ us hl => match us, hl with | [_, _, _, _], _ => rfl), def_ok (m := m_right_behind) F sc_right_behind rfl rfl fun cdv A outer s H E hr => ?_⟩
  have nd := sc_right_behind.nd
  have hu := hr.units
  have hu1 : (A.deeper (envOfC "right_behind" (defScope s_right_behind) s.heap.objs.size f cdv)).units + 1 < cLine := by omega
  have hu65 : (A.deeper (envOfC "right_behind" (defScope s_right_behind) s.heap.objs.size f cdv)).units + 65 < cLine := by have := hr.un; omega
  exact (ss_cons (s_if (st_cmp (o_eq hu) (sb_var (pv 3)) (sb_c sc_int) (nomark _)) (ss_one (s_ret (se_c (k := 0) (sc_cmp (o_eq hu) (sb_dget hu1 (sb_var (pv 0)) (sb_var (pv 1)) (fun _ _ => rfl)) (sb_var (pv 2)) (nomark _))))) ss_nil) (ss_one (s_ret (se_c (k := 0) (sc_cmp (o_eq hu) (sb_dget hu1 (sb_var (pv 0)) (sb_var (pv 2)) (fun _ _ => rfl)) (sb_var (pv 1)) (nomark _))))))
abbrev s_slides : Stmt := top 28
theorem sc_slides : FnScope ["behind", "hands", "names", "turn", "name", "second", "third"] ["behind", "hands", "names", "turn"] (defScope s_slides) := ⟨rfl, rfl, rfl, by decide +kernel, rfl, by decide +kernel, by decide +kernel⟩
theorem ok_slides {P : Program} {w : World} {K : PySem.W.Frag} {mg : Str → Option Value} {base : Heap} {κ : Str → Addr} (T : Txt K mg κ) (A : At K mg "slides" s_slides) (C_right_behind : Cal P w K mg base "right_behind" 1 4 0 F_right_behind) : Cal P w K mg base "slides" 2 4 0 F_slides := by
  obtain ⟨f, fd, F, hm⟩ := A.ex
  refine ⟨f, fd, ["behind", "hands", "names", "turn"], hm, F.kp, F.binds (fun _ _ _ _ _ _ us hl => match us, hl with | [_, _, _, _], _ => rfl), def_ok (m := m_slides) F sc_slides rfl rfl fun cdv A outer s H E hr => ?_⟩
  have nd := sc_slides.nd
  have hu := hr.units
  have hu1 : (A.deeper (envOfC "slides" (defScope s_slides) s.heap.objs.size f cdv)).units + 1 < cLine := by omega
  have hu65 : (A.deeper (envOfC "slides" (defScope s_slides) s.heap.objs.size f cdv)).units + 65 < cLine := by have := hr.un; omega
  exact (ss_cons (s_asg (tg_tupL rfl (tgs_cons (tg_name (i := 4) (pg_name nd rfl (.inl rfl))) (tgs_cons (tg_name (i := 5) (pg_name nd rfl (.inl rfl))) (tgs_cons (tg_name (i := 6) (pg_name nd rfl (.inl rfl))) tgs_nil)))) (se_var (pv 2))) (ss_cons (s_if (st_w (sw_or (st_cmp (o_eq hu) (sb_var (pv 4)) (sb_var (pv 5)) (nomark _)) (sw_or (st_cmp (o_eq hu) (sb_var (pv 4)) (sb_var (pv 6)) (nomark _)) (sw_or1 (st_cmp (o_eq hu) (sb_var (pv 5)) (sb_var (pv 6)) (nomark _)))))) (ss_one (s_ret (se_c (k := 0) sc_bl))) ss_nil) (ss_cons (s_if (st_not (st_val (sb_e (se_cal C_right_behind (hr.mono (by decide)) (by rfl) (sab_cons (sb_var (pv 0)) (sab_cons (sb_c (sc_tup (sae_cons (se_c (k := 0) (sc_b (sb_var (pv 4)))) (sae_cons (se_c (k := 0) (sc_globI (by rfl) T.b_OVER)) (sae_nil (k := 0)))))) (sab_cons (sb_c (sc_tup (sae_cons (se_c (k := 0) (sc_b (sb_var (pv 5)))) (sae_cons (se_c (k := 0) (sc_globI (by rfl) T.b_OVER)) (sae_nil (k := 0)))))) (sab_cons (sb_var (pv 3)) sab_nil)))) (hl := (sab_len (sab_len (sab_len (sab_len sab_len0))))))))) (ss_one (s_ret (se_c (k := 0) sc_bl))) ss_nil) (ss_cons (s_if (st_not (st_val (sb_e (se_cal C_right_behind (hr.mono (by decide)) (by rfl) (sab_cons (sb_var (pv 0)) (sab_cons (sb_c (sc_tup (sae_cons (se_c (k := 0) (sc_b (sb_var (pv 4)))) (sae_cons (se_c (k := 0) (sc_globI (by rfl) T.b_UNDER)) (sae_nil (k := 0)))))) (sab_cons (sb_c (sc_tup (sae_cons (se_c (k := 0) (sc_b (sb_var (pv 6)))) (sae_cons (se_c (k := 0) (sc_globI (by rfl) T.b_OVER)) (sae_nil (k := 0)))))) (sab_cons (sb_c (sc_op o_mul (sb_c (sc_op o_mul (sb_var (pv 3)) (sb_dget hu1 (sb_var (pv 1)) (sb_var (pv 5)) (fun _ _ => rfl)))) (sb_dget hu1 (sb_var (pv 1)) (sb_var (pv 6)) (fun _ _ => rfl)))) sab_nil)))) (hl := (sab_len (sab_len (sab_len (sab_len sab_len0))))))))) (ss_one (s_ret (se_c (k := 0) sc_bl))) ss_nil) (ss_one (s_ret (se_cal C_right_behind (hr.mono (by decide)) (by rfl) (sab_cons (sb_var (pv 0)) (sab_cons (sb_c (sc_tup (sae_cons (se_c (k := 0) (sc_b (sb_var (pv 5)))) (sae_cons (se_c (k := 0) (sc_globI (by rfl) T.b_UNDER)) (sae_nil (k := 0)))))) (sab_cons (sb_c (sc_tup (sae_cons (se_c (k := 0) (sc_b (sb_var (pv 6)))) (sae_cons (se_c (k := 0) (sc_globI (by rfl) T.b_UNDER)) (sae_nil (k := 0)))))) (sab_cons (sb_c (sc_op o_mul (sb_c (sc_op o_mul (sb_var (pv 3)) (sb_dget hu1 (sb_var (pv 1)) (sb_var (pv 4)) (fun _ _ => rfl)))) (sb_dget hu1 (sb_var (pv 1)) (sb_var (pv 6)) (fun _ _ => rfl)))) sab_nil)))) (hl := (sab_len (sab_len (sab_len (sab_len sab_len0))))))))))))
abbrev s_Slide_made : Stmt := inCls (top 35) 2
theorem sc_Slide_made : FnScope ["self", "drawing", "names", "top", "middle", "bottom"] ["self", "drawing"] (defScope s_Slide_made) := ⟨rfl, rfl, rfl, by decide +kernel, rfl, by decide +kernel, by decide +kernel⟩
theorem ok_Slide_made {P : Program} {w : World} {K : PySem.W.Frag} {mg : Str → Option Value} {base : Heap} {κ : Str → Addr} (T : Txt K mg κ) {C : Addr} (A : AtM K C "made" "Slide.made" s_Slide_made) (C_look_at_old : Cal P w K mg base "look_at_old" 3 2 0 F_look_at_old) (C_slides : Cal P w K mg base "slides" 2 4 0 F_slides) (C_next_of : Cal P w K mg base "next_of" 1 1 1 F_next_of) (C_hands_of : Cal P w K mg base "hands_of" 1 1 1 F_hands_of) (C_exchanged : Cal P w K mg base "exchanged" 2 2 2 F_exchanged) : MetC P w K mg base C "made" 4 2 2 (F_Slide_made κ) := by
  obtain ⟨f, fd, F, hm⟩ := A.ex
  refine ⟨f, fd, ["self", "drawing"], hm, F.binds (fun _ _ _ _ _ _ us hl => match us, hl with | [_, _], _ => rfl), def_ok (m := (m_Slide_made κ)) F sc_Slide_made rfl rfl fun cdv A outer s H E hr => ?_⟩
  have nd := sc_Slide_made.nd
  have hu := hr.units
  have hu1 : (A.deeper (envOfC "Slide.made" (defScope s_Slide_made) s.heap.objs.size f cdv)).units + 1 < cLine := by omega
  have hu65 : (A.deeper (envOfC "Slide.made" (defScope s_Slide_made) s.heap.objs.size f cdv)).units + 65 < cLine := by have := hr.un; omega
  exact (ss_cons (s_set (i := 2) nd rfl (.inl rfl) (se_lst (sae_cons (se_c (k := 0) (sc_b (sb_fld (cs := ["Slide"]) (f := "name") ⟨⟨T.o_Slide.is, T.a_Slide_name⟩, trivial⟩ (sb_var (pv 0))))) (sae_cons (se_c (k := 0) (sc_b (sb_fld (cs := ["Slide"]) (f := "second") ⟨⟨T.o_Slide.is, T.a_Slide_second⟩, trivial⟩ (sb_var (pv 0))))) (sae_cons (se_c (k := 0) (sc_b (sb_fld (cs := ["Slide"]) (f := "third") ⟨⟨T.o_Slide.is, T.a_Slide_third⟩, trivial⟩ (sb_var (pv 0))))) (sae_nil (k := 0))))))) (ss_cons (s_expr (se_cal C_look_at_old (hr.mono (by decide)) (by rfl) (sab_cons (sb_var (pv 1)) (sab_cons (sb_var (pv 2)) sab_nil)) (hl := (sab_len (sab_len sab_len0))))) (ss_cons (s_if (st_not (st_val (sb_e (se_cal C_slides (hr.mono (by decide)) (by rfl) (sab_cons (sb_e (se_cal C_next_of (hr.mono (by decide)) (by rfl) (sab_cons (sb_var (pv 1)) sab_nil) (hl := (sab_len sab_len0)))) (sab_cons (sb_e (se_cal C_hands_of (hr.mono (by decide)) (by rfl) (sab_cons (sb_var (pv 1)) sab_nil) (hl := (sab_len sab_len0)))) (sab_cons (sb_var (pv 2)) (sab_cons (sb_fld (cs := ["Slide"]) (f := "turn") ⟨⟨T.o_Slide.is, T.a_Slide_turn⟩, trivial⟩ (sb_var (pv 0))) sab_nil)))) (hl := (sab_len (sab_len (sab_len (sab_len sab_len0))))))))) (ss_one s_no) ss_nil) (ss_cons (s_set (i := 3) nd rfl (.inl rfl) (se_c (k := 0) (sc_tup (sae_cons (se_c (k := 0) (sc_tup (sae_cons (se_c (k := 0) (sc_b (sb_fld (cs := ["Slide"]) (f := "name") ⟨⟨T.o_Slide.is, T.a_Slide_name⟩, trivial⟩ (sb_var (pv 0))))) (sae_cons (se_c (k := 0) (sc_globI (by rfl) T.b_OVER)) (sae_nil (k := 0)))))) (sae_cons (se_c (k := 0) (sc_tup (sae_cons (se_c (k := 0) (sc_b (sb_fld (cs := ["Slide"]) (f := "second") ⟨⟨T.o_Slide.is, T.a_Slide_second⟩, trivial⟩ (sb_var (pv 0))))) (sae_cons (se_c (k := 0) (sc_globI (by rfl) T.b_OVER)) (sae_nil (k := 0)))))) (sae_nil (k := 0))))))) (ss_cons (s_set (i := 4) nd rfl (.inl rfl) (se_c (k := 0) (sc_tup (sae_cons (se_c (k := 0) (sc_tup (sae_cons (se_c (k := 0) (sc_b (sb_fld (cs := ["Slide"]) (f := "name") ⟨⟨T.o_Slide.is, T.a_Slide_name⟩, trivial⟩ (sb_var (pv 0))))) (sae_cons (se_c (k := 0) (sc_globI (by rfl) T.b_UNDER)) (sae_nil (k := 0)))))) (sae_cons (se_c (k := 0) (sc_tup (sae_cons (se_c (k := 0) (sc_b (sb_fld (cs := ["Slide"]) (f := "third") ⟨⟨T.o_Slide.is, T.a_Slide_third⟩, trivial⟩ (sb_var (pv 0))))) (sae_cons (se_c (k := 0) (sc_globI (by rfl) T.b_OVER)) (sae_nil (k := 0)))))) (sae_nil (k := 0))))))) (ss_cons (s_set (i := 5) nd rfl (.inl rfl) (se_c (k := 0) (sc_tup (sae_cons (se_c (k := 0) (sc_tup (sae_cons (se_c (k := 0) (sc_b (sb_fld (cs := ["Slide"]) (f := "second") ⟨⟨T.o_Slide.is, T.a_Slide_second⟩, trivial⟩ (sb_var (pv 0))))) (sae_cons (se_c (k := 0) (sc_globI (by rfl) T.b_UNDER)) (sae_nil (k := 0)))))) (sae_cons (se_c (k := 0) (sc_tup (sae_cons (se_c (k := 0) (sc_b (sb_fld (cs := ["Slide"]) (f := "third") ⟨⟨T.o_Slide.is, T.a_Slide_third⟩, trivial⟩ (sb_var (pv 0))))) (sae_cons (se_c (k := 0) (sc_globI (by rfl) T.b_UNDER)) (sae_nil (k := 0)))))) (sae_nil (k := 0))))))) (ss_one (s_ret (se_cal C_exchanged (hr.mono (by decide)) (by rfl) (sab_cons (sb_var (pv 1)) (sab_cons (sb_lst (sab_cons (sb_var (pv 3)) (sab_cons (sb_var (pv 4)) (sab_cons (sb_var (pv 5)) sab_nil)))) sab_nil)) (hl := (sab_len (sab_len sab_len0))))))))))))
abbrev s_uncurls : Stmt := top 26
theorem sc_uncurls : FnScope ["behind", "name"] ["behind", "name"] (defScope s_uncurls) := ⟨rfl, rfl, rfl, by decide +kernel, rfl, by decide +kernel, by decide +kernel⟩
theorem ok_uncurls {P : Program} {w : World} {K : PySem.W.Frag} {mg : Str → Option Value} {base : Heap} {κ : Str → Addr} (T : Txt K mg κ) (A : At K mg "uncurls" s_uncurls) (C_side_by_side : Cal P w K mg base "side_by_side" 1 3 0 F_side_by_side) : Cal P w K mg base "uncurls" 2 2 0 F_uncurls := by
  obtain ⟨f, fd, F, hm⟩ := A.ex
  refine ⟨f, fd, ["behind", "name"], hm, F.kp, F.binds (fun _ _ _ _ _ _ us hl => match us, hl with | [_, _], _ => rfl), def_ok (m := m_uncurls) F sc_uncurls rfl rfl fun cdv A outer s H E hr => ?_⟩
  have nd := sc_uncurls.nd
  have hu := hr.units
  have hu1 : (A.deeper (envOfC "uncurls" (defScope s_uncurls) s.heap.objs.size f cdv)).units + 1 < cLine := by omega
  have hu65 : (A.deeper (envOfC "uncurls" (defScope s_uncurls) s.heap.objs.size f cdv)).units + 65 < cLine := by have := hr.un; omega
  exact (ss_one (s_ret (se_cal C_side_by_side (hr.mono (by decide)) (by rfl) (sab_cons (sb_var (pv 0)) (sab_cons (sb_c (sc_tup (sae_cons (se_c (k := 0) (sc_b (sb_var (pv 1)))) (sae_cons (se_c (k := 0) (sc_globI (by rfl) T.b_OVER)) (sae_nil (k := 0)))))) (sab_cons (sb_c (sc_tup (sae_cons (se_c (k := 0) (sc_b (sb_var (pv 1)))) (sae_cons (se_c (k := 0) (sc_globI (by rfl) T.b_UNDER)) (sae_nil (k := 0)))))) sab_nil))) (hl := (sab_len (sab_len (sab_len sab_len0)))))))
abbrev s_Uncurl_look : Stmt := inCls (top 31) 2
theorem sc_Uncurl_look : FnScope ["self", "drawing"] ["self", "drawing"] (defScope s_Uncurl_look) := ⟨rfl, rfl, rfl, by decide +kernel, rfl, by decide +kernel, by decide +kernel⟩
theorem ok_Uncurl_look {P : Program} {w : World} {K : PySem.W.Frag} {mg : Str → Option Value} {base : Heap} {κ : Str → Addr} (T : Txt K mg κ) {C : Addr} (A : AtM K C "look" "Uncurl.look" s_Uncurl_look) (C_look_at_old : Cal P w K mg base "look_at_old" 3 2 0 F_look_at_old) (C_uncurls : Cal P w K mg base "uncurls" 2 2 0 F_uncurls) (C_next_of : Cal P w K mg base "next_of" 1 1 1 F_next_of) : MetC P w K mg base C "look" 4 2 0 (F_Uncurl_look κ) := by
  obtain ⟨f, fd, F, hm⟩ := A.ex
  refine ⟨f, fd, ["self", "drawing"], hm, F.binds (fun _ _ _ _ _ _ us hl => match us, hl with | [_, _], _ => rfl), def_ok (m := (m_Uncurl_look κ)) F sc_Uncurl_look rfl rfl fun cdv A outer s H E hr => ?_⟩
  have nd := sc_Uncurl_look.nd
  have hu := hr.units
  have hu1 : (A.deeper (envOfC "Uncurl.look" (defScope s_Uncurl_look) s.heap.objs.size f cdv)).units + 1 < cLine := by omega
  have hu65 : (A.deeper (envOfC "Uncurl.look" (defScope s_Uncurl_look) s.heap.objs.size f cdv)).units + 65 < cLine := by have := hr.un; omega
  exact (ss_cons (s_expr (se_cal C_look_at_old (hr.mono (by decide)) (by rfl) (sab_cons (sb_var (pv 1)) (sab_cons (sb_lst (sab_cons (sb_fld (cs := ["Uncurl"]) (f := "name") ⟨⟨T.o_Uncurl.is, T.a_Uncurl_name⟩, trivial⟩ (sb_var (pv 0))) sab_nil)) sab_nil)) (hl := (sab_len (sab_len sab_len0))))) (ss_one (s_if (st_not (st_val (sb_e (se_cal C_uncurls (hr.mono (by decide)) (by rfl) (sab_cons (sb_e (se_cal C_next_of (hr.mono (by decide)) (by rfl) (sab_cons (sb_var (pv 1)) sab_nil) (hl := (sab_len sab_len0)))) (sab_cons (sb_fld (cs := ["Uncurl"]) (f := "name") ⟨⟨T.o_Uncurl.is, T.a_Uncurl_name⟩, trivial⟩ (sb_var (pv 0))) sab_nil)) (hl := (sab_len (sab_len sab_len0))))))) (ss_one s_no) ss_nil)))
abbrev s_Uncurl_made : Stmt := inCls (top 31) 3
theorem sc_Uncurl_made : FnScope ["self", "drawing"] ["self", "drawing"] (defScope s_Uncurl_made) := ⟨rfl, rfl, rfl, by decide +kernel, rfl, by decide +kernel, by decide +kernel⟩
theorem ok_Uncurl_made {P : Program} {w : World} {K : PySem.W.Frag} {mg : Str → Option Value} {base : Heap} {κ : Str → Addr} (T : Txt K mg κ) {C : Addr} (A : AtM K C "made" "Uncurl.made" s_Uncurl_made) (C_Uncurl__look : MetC P w K mg base (κ "Uncurl") "look" 4 2 0 (F_Uncurl_look κ)) (C_without : Cal P w K mg base "without" 1 2 2 F_without) : MetC P w K mg base C "made" 5 2 2 (F_Uncurl_made κ) := by
  obtain ⟨f, fd, F, hm⟩ := A.ex
  refine ⟨f, fd, ["self", "drawing"], hm, F.binds (fun _ _ _ _ _ _ us hl => match us, hl with | [_, _], _ => rfl), def_ok (m := (m_Uncurl_made κ)) F sc_Uncurl_made rfl rfl fun cdv A outer s H E hr => ?_⟩
  have nd := sc_Uncurl_made.nd
  have hu := hr.units
  have hu1 : (A.deeper (envOfC "Uncurl.made" (defScope s_Uncurl_made) s.heap.objs.size f cdv)).units + 1 < cLine := by omega
  have hu65 : (A.deeper (envOfC "Uncurl.made" (defScope s_Uncurl_made) s.heap.objs.size f cdv)).units + 65 < cLine := by have := hr.un; omega
  exact (ss_cons (s_expr (se_meth (t := [("Uncurl", F_Uncurl_look κ)]) ⟨⟨T.o_Uncurl.is, _, hr.mono (by decide), C_Uncurl__look⟩, trivial⟩ (sb_var (pv 0)) (sab_cons (sb_var (pv 1)) sab_nil) (sab_len sab_len0))) (ss_one (s_ret (se_cal C_without (hr.mono (by decide)) (by rfl) (sab_cons (sb_var (pv 1)) (sab_cons (sb_lst (sab_cons (sb_fld (cs := ["Uncurl"]) (f := "name") ⟨⟨T.o_Uncurl.is, T.a_Uncurl_name⟩, trivial⟩ (sb_var (pv 0))) sab_nil)) sab_nil)) (hl := (sab_len (sab_len sab_len0)))))))
abbrev s_Move_done : Stmt := inCls (top 30) 2
theorem sc_Move_done : FnScope ["self", "drawing", "row"] ["self", "drawing"] (defScope s_Move_done) := ⟨rfl, rfl, rfl, by decide +kernel, rfl, by decide +kernel, by decide +kernel⟩
theorem ok_Move_done {P : Program} {w : World} {K : PySem.W.Frag} {mg : Str → Option Value} {base : Heap} {κ : Str → Addr} (T : Txt K mg κ) {C : Addr} (A : AtM K C "done" "Move.done" s_Move_done) (C_Uncurl__made : MetC P w K mg base (κ "Uncurl") "made" 5 2 2 (F_Uncurl_made κ)) (C_Slide__made : MetC P w K mg base (κ "Slide") "made" 4 2 2 (F_Slide_made κ)) (C_Part__made : MetC P w K mg base (κ "Part") "made" 5 2 2 (F_Part_made κ)) (C_Lay__made : MetC P w K mg base (κ "Lay") "made" 4 2 2 (F_Lay_made κ)) (C_Curl__made : MetC P w K mg base (κ "Curl") "made" 4 2 2 (F_Curl_made κ)) (C_seated : Cal P w K mg base "seated" 1 1 1 F_seated) : MetC P w K mg base C "done" 6 2 2 (F_Move_done κ) := by
  obtain ⟨f, fd, F, hm⟩ := A.ex
  refine ⟨f, fd, ["self", "drawing"], hm, F.binds (fun _ _ _ _ _ _ us hl => match us, hl with | [_, _], _ => rfl), def_ok (m := (m_Move_done κ)) F sc_Move_done rfl rfl fun cdv A outer s H E hr => ?_⟩
  have nd := sc_Move_done.nd
  have hu := hr.units
  have hu1 : (A.deeper (envOfC "Move.done" (defScope s_Move_done) s.heap.objs.size f cdv)).units + 1 < cLine := by omega
  have hu65 : (A.deeper (envOfC "Move.done" (defScope s_Move_done) s.heap.objs.size f cdv)).units + 65 < cLine := by have := hr.un; omega
  exact (ss_one (s_ret (se_lc [("row", 2)] (by rfl) nd (blkOk_by (by rfl)) (by rfl) (si_list (se_0 (se_meth (t := [("Curl", F_Curl_made κ), ("Lay", F_Lay_made κ), ("Part", F_Part_made κ), ("Slide", F_Slide_made κ), ("Uncurl", F_Uncurl_made κ)]) ⟨⟨T.o_Curl.is, _, hr.mono (by decide), C_Curl__made⟩, ⟨⟨T.o_Lay.is, _, hr.mono (by decide), C_Lay__made⟩, ⟨⟨T.o_Part.is, _, hr.mono (by decide), C_Part__made⟩, ⟨⟨T.o_Slide.is, _, hr.mono (by decide), C_Slide__made⟩, ⟨⟨T.o_Uncurl.is, _, hr.mono (by decide), C_Uncurl__made⟩, trivial⟩⟩⟩⟩⟩ (sb_var (pv 0)) (sab_cons (sb_var (pv 1)) sab_nil) (sab_len sab_len0)))) (fun _ _ _ _ _ => (tg_name (i := 2) (pg_name nd rfl (.inl rfl)))) tok_name (by decide) (fun _ _ _ _ _ => spt_nil) (fun _ _ _ _ _ => (se_cal C_seated (hr.mono (by decide)) (by rfl) (sab_cons (sb_var (pv 2)) sab_nil) (hl := (sab_len sab_len0)))))))
abbrev s_uncurls_of : Stmt := top 38
theorem sc_uncurls_of : FnScope ["behind", "names", "name"] ["behind", "names"] (defScope s_uncurls_of) := ⟨rfl, rfl, rfl, by decide +kernel, rfl, by decide +kernel, by decide +kernel⟩
theorem ok_uncurls_of {P : Program} {w : World} {K : PySem.W.Frag} {mg : Str → Option Value} {base : Heap} {κ : Str → Addr} (T : Txt K mg κ) (A : At K mg "uncurls_of" s_uncurls_of) (C_uncurls : Cal P w K mg base "uncurls" 2 2 0 F_uncurls) : Cal P w K mg base "uncurls_of" 3 2 1 F_uncurls_of := by
  obtain ⟨f, fd, F, hm⟩ := A.ex
  refine ⟨f, fd, ["behind", "names"], hm, F.kp, F.binds (fun _ _ _ _ _ _ us hl => match us, hl with | [_, _], _ => rfl), def_ok (m := m_uncurls_of) F sc_uncurls_of rfl rfl fun cdv A outer s H E hr => ?_⟩
  have nd := sc_uncurls_of.nd
  have hu := hr.units
  have hu1 : (A.deeper (envOfC "uncurls_of" (defScope s_uncurls_of) s.heap.objs.size f cdv)).units + 1 < cLine := by omega
  have hu65 : (A.deeper (envOfC "uncurls_of" (defScope s_uncurls_of) s.heap.objs.size f cdv)).units + 65 < cLine := by have := hr.un; omega
  exact (ss_one (s_ret (se_lc [("name", 2)] (by rfl) nd (blkOk_by (by rfl)) (by rfl) (si_list (se_var (pv 1))) (fun _ _ _ _ _ => (tg_name (i := 2) (pg_name nd rfl (.inl rfl)))) tok_name (by decide) (fun _ _ _ _ _ => (spt_one (st_val (sb_e (se_cal C_uncurls (hr.mono (by decide)) (by rfl) (sab_cons (sb_var (pv 0)) (sab_cons (sb_var (pv 2)) sab_nil)) (hl := (sab_len (sab_len sab_len0)))))))) (fun _ _ _ _ _ => (se_c (k := 0) (sc_tup (sae_cons (se_c (k := 0) sc_str) (sae_cons (se_c (k := 0) (sc_b (sb_var (pv 2)))) (sae_nil (k := 0))))))))))
abbrev s_parts_of : Stmt := top 39
theorem sc_parts_of : FnScope ["behind", "hands", "names", "found", "at", "name", "second"] ["behind", "hands", "names"] (defScope s_parts_of) := ⟨rfl, rfl, rfl, by decide +kernel, rfl, by decide +kernel, by decide +kernel⟩
theorem ok_parts_of {P : Program} {w : World} {K : PySem.W.Frag} {mg : Str → Option Value} {base : Heap} {κ : Str → Addr} (T : Txt K mg κ) (A : At K mg "parts_of" s_parts_of) (C_parts : Cal P w K mg base "parts" 2 4 0 F_parts) : Cal P w K mg base "parts_of" 3 3 1 F_parts_of := by
  obtain ⟨f, fd, F, hm⟩ := A.ex
  refine ⟨f, fd, ["behind", "hands", "names"], hm, F.kp, F.binds (fun _ _ _ _ _ _ us hl => match us, hl with | [_, _, _], _ => rfl), def_ok (m := m_parts_of) F sc_parts_of rfl rfl fun cdv A outer s H E hr => ?_⟩
  have nd := sc_parts_of.nd
  have hu := hr.units
  have hu1 : (A.deeper (envOfC "parts_of" (defScope s_parts_of) s.heap.objs.size f cdv)).units + 1 < cLine := by omega
  have hu65 : (A.deeper (envOfC "parts_of" (defScope s_parts_of) s.heap.objs.size f cdv)).units + 65 < cLine := by have := hr.un; omega
  exact (ss_cons (s_set (i := 3) nd rfl (.inl rfl) (se_lst (sae_nil (k := 0)))) (ss_cons (s_for .never rfl (si_enum (by rfl) T.b_enumerate (se_var (pv 2))) (tg_tup rfl (tgs_cons (tg_name (i := 4) (pg_name nd rfl (.inl rfl))) (tgs_cons (tg_name (i := 5) (pg_name nd rfl (.inl rfl))) tgs_nil))) (ss_one (s_for .never rfl (si_list (se_0 (se_slice (sl_imm (k := 0) (sb_var (pv 2))) (so_some (sb_c (sc_op o_add (sb_var (pv 4)) (sb_c sc_int)))) so_none))) (tg_name (i := 6) (pg_name nd rfl (.inl rfl))) (ss_one (s_if (st_val (sb_e (se_cal C_parts (hr.mono (by decide)) (by rfl) (sab_cons (sb_var (pv 0)) (sab_cons (sb_var (pv 1)) (sab_cons (sb_var (pv 5)) (sab_cons (sb_var (pv 6)) sab_nil)))) (hl := (sab_len (sab_len (sab_len (sab_len sab_len0)))))))) (ss_one (s_append (j := 3) (pv 3) (se_c (k := 0) (sc_tup (sae_cons (se_c (k := 0) sc_str) (sae_cons (se_c (k := 0) (sc_b (sb_var (pv 5)))) (sae_cons (se_c (k := 0) (sc_b (sb_var (pv 6)))) (sae_nil (k := 0))))))))) ss_nil)) (fg := [6]))) (fg := [4, 5, 6])) (ss_one (s_ret (se_move (k := 1) (pv 3))))))
abbrev s_slides_on : Stmt := top 40
theorem sc_slides_on : FnScope ["behind", "hands", "pair", "turn", "found", "third"] ["behind", "hands", "pair", "turn"] (defScope s_slides_on) := ⟨rfl, rfl, rfl, by decide +kernel, rfl, by decide +kernel, by decide +kernel⟩
theorem ok_slides_on {P : Program} {w : World} {K : PySem.W.Frag} {mg : Str → Option Value} {base : Heap} {κ : Str → Addr} (T : Txt K mg κ) (A : At K mg "slides_on" s_slides_on) (C_slides : Cal P w K mg base "slides" 2 4 0 F_slides) : Cal P w K mg base "slides_on" 3 4 1 F_slides_on := by
  obtain ⟨f, fd, F, hm⟩ := A.ex
  refine ⟨f, fd, ["behind", "hands", "pair", "turn"], hm, F.kp, F.binds (fun _ _ _ _ _ _ us hl => match us, hl with | [_, _, _, _], _ => rfl), def_ok (m := m_slides_on) F sc_slides_on rfl rfl fun cdv A outer s H E hr => ?_⟩
  have nd := sc_slides_on.nd
  have hu := hr.units
  have hu1 : (A.deeper (envOfC "slides_on" (defScope s_slides_on) s.heap.objs.size f cdv)).units + 1 < cLine := by omega
  have hu65 : (A.deeper (envOfC "slides_on" (defScope s_slides_on) s.heap.objs.size f cdv)).units + 65 < cLine := by have := hr.un; omega
  exact (ss_cons (s_set (i := 4) nd rfl (.inl rfl) (se_lst (sae_nil (k := 0)))) (ss_cons (s_for .never rfl (si_list (se_0 (se_sortDI (k := 0) rfl (by rfl) T.b_sorted (sb_var (pv 1))))) (tg_name (i := 5) (pg_name nd rfl (.inl rfl))) (ss_one (s_if (st_val (sb_e (se_cal C_slides (hr.mono (by decide)) (by rfl) (sab_cons (sb_var (pv 0)) (sab_cons (sb_var (pv 1)) (sab_cons (sb_lst (sab_cons (sb_ix (sb_var (pv 2)) (sb_c sc_int) (fun _ _ => rfl)) (sab_cons (sb_ix (sb_var (pv 2)) (sb_c sc_int) (fun _ _ => rfl)) (sab_cons (sb_var (pv 5)) sab_nil)))) (sab_cons (sb_var (pv 3)) sab_nil)))) (hl := (sab_len (sab_len (sab_len (sab_len sab_len0)))))))) (ss_one (s_append (j := 4) (pv 4) (se_c (k := 0) (sc_tup (sae_cons (se_c (k := 0) sc_str) (sae_cons (se_c (k := 0) (sc_b (sb_ix (sb_var (pv 2)) (sb_c sc_int) (fun _ _ => rfl)))) (sae_cons (se_c (k := 0) (sc_b (sb_ix (sb_var (pv 2)) (sb_c sc_int) (fun _ _ => rfl)))) (sae_cons (se_c (k := 0) (sc_b (sb_var (pv 5)))) (sae_cons (se_c (k := 0) (sc_b (sb_var (pv 3)))) (sae_nil (k := 0))))))))))) ss_nil)) (fg := [5])) (ss_one (s_ret (se_move (k := 1) (pv 4))))))
abbrev s_slides_of : Stmt := top 41
theorem sc_slides_of : FnScope ["behind", "hands", "names", "found", "name", "way_on"] ["behind", "hands", "names"] (defScope s_slides_of) := ⟨rfl, rfl, rfl, by decide +kernel, rfl, by decide +kernel, by decide +kernel⟩
theorem ok_slides_of {P : Program} {w : World} {K : PySem.W.Frag} {mg : Str → Option Value} {base : Heap} {κ : Str → Addr} (T : Txt K mg κ) (A : At K mg "slides_of" s_slides_of) (C_slides_on : Cal P w K mg base "slides_on" 3 4 1 F_slides_on) : Cal P w K mg base "slides_of" 4 3 1 F_slides_of := by
  obtain ⟨f, fd, F, hm⟩ := A.ex
  refine ⟨f, fd, ["behind", "hands", "names"], hm, F.kp, F.binds (fun _ _ _ _ _ _ us hl => match us, hl with | [_, _, _], _ => rfl), def_ok (m := m_slides_of) F sc_slides_of rfl rfl fun cdv A outer s H E hr => ?_⟩
  have nd := sc_slides_of.nd
  have hu := hr.units
  have hu1 : (A.deeper (envOfC "slides_of" (defScope s_slides_of) s.heap.objs.size f cdv)).units + 1 < cLine := by omega
  have hu65 : (A.deeper (envOfC "slides_of" (defScope s_slides_of) s.heap.objs.size f cdv)).units + 65 < cLine := by have := hr.un; omega
  exact (ss_cons (s_set (i := 3) nd rfl (.inl rfl) (se_lst (sae_nil (k := 0)))) (ss_cons (s_for .never rfl (si_list (se_var (pv 2))) (tg_name (i := 4) (pg_name nd rfl (.inl rfl))) (ss_cons (s_set (i := 5) nd rfl (.inl rfl) (se_c (k := 0) (sc_b (sb_dget hu1 (sb_var (pv 0)) (sb_c (sc_tup (sae_cons (se_c (k := 0) (sc_b (sb_var (pv 4)))) (sae_cons (se_c (k := 0) (sc_globI (by rfl) T.b_OVER)) (sae_nil (k := 0)))))) (fun _ _ => rfl))))) (ss_one (s_if (st_cmp (o_eq hu) (sb_ix (sb_var (pv 5)) (sb_c sc_int) (fun _ _ => rfl)) (sb_c (sc_globI (by rfl) T.b_OVER)) (nomark _)) (ss_cons (s_extend (j := 3) (pv 3) (sl_imm (k := 0) (sb_e (se_cal C_slides_on (hr.mono (by decide)) (by rfl) (sab_cons (sb_var (pv 0)) (sab_cons (sb_var (pv 1)) (sab_cons (sb_c (sc_tup (sae_cons (se_c (k := 0) (sc_b (sb_var (pv 4)))) (sae_cons (se_c (k := 0) (sc_b (sb_ix (sb_var (pv 5)) (sb_c sc_int) (fun _ _ => rfl)))) (sae_nil (k := 0)))))) (sab_cons (sb_c sc_int) sab_nil)))) (hl := (sab_len (sab_len (sab_len (sab_len sab_len0))))))))) (ss_one (s_extend (j := 3) (pv 3) (sl_imm (k := 0) (sb_e (se_cal C_slides_on (hr.mono (by decide)) (by rfl) (sab_cons (sb_var (pv 0)) (sab_cons (sb_var (pv 1)) (sab_cons (sb_c (sc_tup (sae_cons (se_c (k := 0) (sc_b (sb_ix (sb_var (pv 5)) (sb_c sc_int) (fun _ _ => rfl)))) (sae_cons (se_c (k := 0) (sc_b (sb_var (pv 4)))) (sae_nil (k := 0)))))) (sab_cons (sb_c (sc_neg (sb_c sc_int))) sab_nil)))) (hl := (sab_len (sab_len (sab_len (sab_len sab_len0))))))))))) ss_nil))) (fg := [4, 5])) (ss_one (s_ret (se_move (k := 1) (pv 3))))))
abbrev s_lessening : Stmt := top 42
theorem sc_lessening : FnScope ["drawing", "behind", "hands", "names", "found"] ["drawing"] (defScope s_lessening) := ⟨rfl, rfl, rfl, by decide +kernel, rfl, by decide +kernel, by decide +kernel⟩
theorem ok_lessening {P : Program} {w : World} {K : PySem.W.Frag} {mg : Str → Option Value} {base : Heap} {κ : Str → Addr} (T : Txt K mg κ) (A : At K mg "lessening" s_lessening) (C_next_of : Cal P w K mg base "next_of" 1 1 1 F_next_of) (C_hands_of : Cal P w K mg base "hands_of" 1 1 1 F_hands_of) (C_names_of : Cal P w K mg base "names_of" 2 1 1 F_names_of) (C_uncurls_of : Cal P w K mg base "uncurls_of" 3 2 1 F_uncurls_of) (C_parts_of : Cal P w K mg base "parts_of" 3 3 1 F_parts_of) (C_slides_of : Cal P w K mg base "slides_of" 4 3 1 F_slides_of) : Cal P w K mg base "lessening" 5 1 1 F_lessening := by
  obtain ⟨f, fd, F, hm⟩ := A.ex
  refine ⟨f, fd, ["drawing"], hm, F.kp, F.binds (fun _ _ _ _ _ _ us hl => match us, hl with | [_], _ => rfl), def_ok (m := m_lessening) F sc_lessening rfl rfl fun cdv A outer s H E hr => ?_⟩
  have nd := sc_lessening.nd
  have hu := hr.units
  have hu1 : (A.deeper (envOfC "lessening" (defScope s_lessening) s.heap.objs.size f cdv)).units + 1 < cLine := by omega
  have hu65 : (A.deeper (envOfC "lessening" (defScope s_lessening) s.heap.objs.size f cdv)).units + 65 < cLine := by have := hr.un; omega
  exact (ss_cons (s_set (i := 1) nd rfl (.inl rfl) (se_cal C_next_of (hr.mono (by decide)) (by rfl) (sab_cons (sb_var (pv 0)) sab_nil) (hl := (sab_len sab_len0)))) (ss_cons (s_set (i := 2) nd rfl (.inl rfl) (se_cal C_hands_of (hr.mono (by decide)) (by rfl) (sab_cons (sb_var (pv 0)) sab_nil) (hl := (sab_len sab_len0)))) (ss_cons (s_set (i := 3) nd rfl (.inl rfl) (se_cal C_names_of (hr.mono (by decide)) (by rfl) (sab_cons (sb_var (pv 0)) sab_nil) (hl := (sab_len sab_len0)))) (ss_cons (s_set (i := 4) nd rfl (.inl rfl) (se_cat (sl_imm (k := 0) (sb_e (se_cal C_uncurls_of (hr.mono (by decide)) (by rfl) (sab_cons (sb_var (pv 1)) (sab_cons (sb_var (pv 3)) sab_nil)) (hl := (sab_len (sab_len sab_len0)))))) (sl_imm (k := 0) (sb_e (se_cal C_parts_of (hr.mono (by decide)) (by rfl) (sab_cons (sb_var (pv 1)) (sab_cons (sb_var (pv 2)) (sab_cons (sb_var (pv 3)) sab_nil))) (hl := (sab_len (sab_len (sab_len sab_len0))))))))) (ss_one (s_ret (se_sortB (k := 0) hu65 (by rfl) T.b_sorted (sb_e (se_cat (sl_imm (k := 0) (sb_var (pv 4))) (sl_imm (k := 0) (sb_e (se_cal C_slides_of (hr.mono (by decide)) (by rfl) (sab_cons (sb_var (pv 1)) (sab_cons (sb_var (pv 2)) (sab_cons (sb_var (pv 3)) sab_nil))) (hl := (sab_len (sab_len (sab_len sab_len0))))))))))))))))
abbrev s_move_of : Stmt := top 36
theorem sc_move_of : FnScope ["told", "word"] ["told"] (defScope s_move_of) := ⟨rfl, rfl, rfl, by decide +kernel, rfl, by decide +kernel, by decide +kernel⟩
theorem ok_move_of {P : Program} {w : World} {K : PySem.W.Frag} {mg : Str → Option Value} {base : Heap} {κ : Str → Addr} (T : Txt K mg κ) (A : At K mg "move_of" s_move_of) (K_Uncurl : MkC P w K mg base (κ "Uncurl") 1 ["name"]) (K_Curl : MkC P w K mg base (κ "Curl") 1 ["name", "spot", "first", "hand"]) (K_Part : MkC P w K mg base (κ "Part") 1 ["name", "second"]) (K_Lay : MkC P w K mg base (κ "Lay") 1 ["name", "second", "over", "under", "turned", "hand"]) (K_Slide : MkC P w K mg base (κ "Slide") 1 ["name", "second", "third", "turn"]) : Cal P w K mg base "move_of" 3 1 0 (F_move_of κ) := by
  obtain ⟨f, fd, F, hm⟩ := A.ex
  refine ⟨f, fd, ["told"], hm, F.kp, F.binds (fun _ _ _ _ _ _ us hl => match us, hl with | [_], _ => rfl), def_ok (m := (m_move_of κ)) F sc_move_of rfl rfl fun cdv A outer s H E hr => ?_⟩
  have nd := sc_move_of.nd
  have hu := hr.units
  have hu1 : (A.deeper (envOfC "move_of" (defScope s_move_of) s.heap.objs.size f cdv)).units + 1 < cLine := by omega
  have hu65 : (A.deeper (envOfC "move_of" (defScope s_move_of) s.heap.objs.size f cdv)).units + 65 < cLine := by have := hr.un; omega
  exact (ss_cons (s_set (i := 1) nd rfl (.inl rfl) (se_c (k := 0) (sc_b (sb_ix (sb_var (pv 0)) (sb_c sc_int) (fun _ _ => rfl))))) (ss_cons (s_if (st_cmp (o_eq hu) (sb_var (pv 1)) (sb_c sc_str) (nomark _)) (ss_one (s_ret (se_c (k := 0) (sc_make K_Uncurl T.o_Uncurl (hr.mono (by decide)) (by rfl) (sab_cons (sb_ix (sb_var (pv 0)) (sb_c sc_int) (fun _ _ => rfl)) sab_nil))))) ss_nil) (ss_cons (s_if (st_cmp (o_eq hu) (sb_var (pv 1)) (sb_c sc_str) (nomark _)) (ss_one (s_ret (se_c (k := 0) (sc_make K_Curl T.o_Curl (hr.mono (by decide)) (by rfl) (sab_cons (sb_ix (sb_var (pv 0)) (sb_c sc_int) (fun _ _ => rfl)) (sab_cons (sb_ix (sb_var (pv 0)) (sb_c sc_int) (fun _ _ => rfl)) (sab_cons (sb_ix (sb_var (pv 0)) (sb_c sc_int) (fun _ _ => rfl)) (sab_cons (sb_ix (sb_var (pv 0)) (sb_c sc_int) (fun _ _ => rfl)) sab_nil)))))))) ss_nil) (ss_cons (s_if (st_cmp (o_eq hu) (sb_var (pv 1)) (sb_c sc_str) (nomark _)) (ss_one (s_ret (se_c (k := 0) (sc_make K_Part T.o_Part (hr.mono (by decide)) (by rfl) (sab_cons (sb_ix (sb_var (pv 0)) (sb_c sc_int) (fun _ _ => rfl)) (sab_cons (sb_ix (sb_var (pv 0)) (sb_c sc_int) (fun _ _ => rfl)) sab_nil)))))) ss_nil) (ss_cons (s_if (st_cmp (o_eq hu) (sb_var (pv 1)) (sb_c sc_str) (nomark _)) (ss_one (s_ret (se_c (k := 0) (sc_make K_Lay T.o_Lay (hr.mono (by decide)) (by rfl) (sab_cons (sb_ix (sb_var (pv 0)) (sb_c sc_int) (fun _ _ => rfl)) (sab_cons (sb_ix (sb_var (pv 0)) (sb_c sc_int) (fun _ _ => rfl)) (sab_cons (sb_ix (sb_var (pv 0)) (sb_c sc_int) (fun _ _ => rfl)) (sab_cons (sb_ix (sb_var (pv 0)) (sb_c sc_int) (fun _ _ => rfl)) (sab_cons (sb_ix (sb_var (pv 0)) (sb_c sc_int) (fun _ _ => rfl)) (sab_cons (sb_ix (sb_var (pv 0)) (sb_c sc_int) (fun _ _ => rfl)) sab_nil)))))))))) ss_nil) (ss_cons (s_if (st_cmp (o_eq hu) (sb_var (pv 1)) (sb_c sc_str) (nomark _)) (ss_one (s_ret (se_c (k := 0) (sc_make K_Slide T.o_Slide (hr.mono (by decide)) (by rfl) (sab_cons (sb_ix (sb_var (pv 0)) (sb_c sc_int) (fun _ _ => rfl)) (sab_cons (sb_ix (sb_var (pv 0)) (sb_c sc_int) (fun _ _ => rfl)) (sab_cons (sb_ix (sb_var (pv 0)) (sb_c sc_int) (fun _ _ => rfl)) (sab_cons (sb_ix (sb_var (pv 0)) (sb_c sc_int) (fun _ _ => rfl)) sab_nil)))))))) ss_nil) (ss_one s_no)))))))
abbrev s_law : Stmt := top 67
theorem sc_law : FnScope ["_law_script", "_law_drawing", "_law_k", "_law_way", "_law_names_here", "_law_cells", "_law_due", "_law_handed", "_law_told", "_law_made", "_law_row"] ["_law_script"] (defScope s_law) := ⟨rfl, rfl, rfl, by decide +kernel, rfl, by decide +kernel, by decide +kernel⟩
theorem body_law {P : Program} {w : World} {K : PySem.W.Frag} {mg : Str → Option Value} {base : Heap} {f : Addr} {cdv : Value} {A : Around} {outer : List PySem.Env} {s : Shared} {H : Hp} {E : XK} {κ : Str → Addr} (T : Txt K mg κ) (C__law_cell_at : Cal P w K mg base "_law_cell_at" 1 2 0 F__law_cell_at) (C__law_crossed : Cal P w K mg base "_law_crossed" 2 2 2 F__law_crossed) (C__law_names : Cal P w K mg base "_law_names" 1 1 1 F__law_names) (C__law_free : Cal P w K mg base "_law_free" 1 2 0 F__law_free) (C__law_three : Cal P w K mg base "_law_three" 3 4 2 F__law_three) (C__law_with_lay : Cal P w K mg base "_law_with_lay" 2 2 2 F__law_with_lay) (C__law_lessening : Cal P w K mg base "_law_lessening" 4 1 1 F__law_lessening) (C__law_listed : Cal P w K mg base "_law_listed" 4 2 0 F__law_listed) (C_lessening : Cal P w K mg base "lessening" 5 1 1 F_lessening) (C_move_of : Cal P w K mg base "move_of" 3 1 0 (F_move_of κ)) (C_Uncurl__done : MetC P w K mg base (κ "Uncurl") "done" 6 2 2 (F_Move_done κ)) (C_Slide__done : MetC P w K mg base (κ "Slide") "done" 6 2 2 (F_Move_done κ)) (C_Part__done : MetC P w K mg base (κ "Part") "done" 6 2 2 (F_Move_done κ)) (C_Lay__done : MetC P w K mg base (κ "Lay") "done" 6 2 2 (F_Move_done κ)) (C_Curl__done : MetC P w K mg base (κ "Curl") "done" 6 2 2 (F_Move_done κ)) (hr : Room 6 (A.deeper (envOfC "law" (defScope s_law) s.heap.objs.size f cdv))) : SS (cxOf CX0 P w K mg base ["_law_script", "_law_drawing", "_law_k", "_law_way", "_law_names_here", "_law_cells", "_law_due", "_law_handed", "_law_told", "_law_made", "_law_row"] "law" (defScope s_law) f cdv A outer s H E).nox 0 (defBody s_law) (m_law κ) := by
  have nd := sc_law.nd
  have hu := hr.units
  have hu1 : (A.deeper (envOfC "law" (defScope s_law) s.heap.objs.size f cdv)).units + 1 < cLine := by omega
  have hu65 : (A.deeper (envOfC "law" (defScope s_law) s.heap.objs.size f cdv)).units + 65 < cLine := by have := hr.un; omega
  exact (ss_cons (s_setLc [("_law_k", 2)] (by rfl) nd rfl rfl (sw_true rfl rfl rfl (by decide +kernel)) (blkOk_by (by rfl)) (by rfl) (si_range1 (by rfl) T.b_range (sb_c (sc_op o_add (sb_c sc_int) (sb_c (sc_op o_mod (sb_e (se_cal C__law_cell_at (hr.mono (by decide)) (by rfl) (sab_cons (sb_var (pv 0)) (sab_cons (sb_c sc_int) sab_nil)) (hl := (sab_len (sab_len sab_len0))))) (sb_c sc_int)))))) (fun _ _ _ _ _ => (tg_name (i := 2) (pg_name nd rfl (.inl rfl)))) tok_name (by decide) (fun _ _ _ _ _ => spt_nil) (fun _ _ _ _ _ => (se_lst (sae_nil (k := 0))))) (ss_cons (s_for .never rfl (si_range1 (by rfl) T.b_range (sb_c (sc_op o_mod (sb_e (se_cal C__law_cell_at (hr.mono (by decide)) (by rfl) (sab_cons (sb_var (pv 0)) (sab_cons (sb_c sc_int) sab_nil)) (hl := (sab_len (sab_len sab_len0))))) (sb_c sc_int)))) (tg_name (i := 2) (pg_name nd rfl (.inl rfl))) (ss_one (s_set (i := 1) nd rfl (.inl rfl) (se_cal C__law_crossed (hr.mono (by decide)) (by rfl) (sab_cons (sb_var (pv 1)) (sab_cons (sb_e (se_cal C__law_cell_at (hr.mono (by decide)) (by rfl) (sab_cons (sb_var (pv 0)) (sab_cons (sb_c (sc_op o_add (sb_c sc_int) (sb_var (pv 2)))) sab_nil)) (hl := (sab_len (sab_len sab_len0))))) sab_nil)) (hl := (sab_len (sab_len sab_len0)))))) (fg := [2])) (ss_cons (s_set (i := 3) nd rfl (.inl rfl) (se_c (k := 0) (sc_op o_mod (sb_e (se_cal C__law_cell_at (hr.mono (by decide)) (by rfl) (sab_cons (sb_var (pv 0)) (sab_cons (sb_c sc_int) sab_nil)) (hl := (sab_len (sab_len sab_len0))))) (sb_c sc_int)))) (ss_cons (s_if (st_cmp (o_eq hu) (sb_c (sc_op o_mod (sb_var (pv 3)) (sb_c sc_int))) (sb_c sc_int) (nomark _)) (ss_cons (s_set (i := 4) nd rfl (.inl rfl) (se_cal C__law_names (hr.mono (by decide)) (by rfl) (sab_cons (sb_var (pv 1)) sab_nil) (hl := (sab_len sab_len0)))) (ss_cons (s_for .never rfl (si_range1 (by rfl) T.b_range (sb_c sc_int)) (tg_name (i := 2) (pg_name nd rfl (.inl rfl))) (ss_one (s_append (j := 4) (pv 4) (se_cal C__law_free (hr.mono (by decide)) (by rfl) (sab_cons (sb_var (pv 4)) (sab_cons (sb_e (se_cal C__law_cell_at (hr.mono (by decide)) (by rfl) (sab_cons (sb_var (pv 0)) (sab_cons (sb_c (sc_op o_add (sb_c sc_int) (sb_var (pv 2)))) sab_nil)) (hl := (sab_len (sab_len sab_len0))))) sab_nil)) (hl := (sab_len (sab_len sab_len0)))))) (fg := [2])) (ss_cons (s_setLc [("_law_k", 2)] (by rfl) nd rfl rfl (sw_true rfl rfl rfl (by decide +kernel)) (blkOk_by (by rfl)) (by rfl) (si_range1 (by rfl) T.b_range (sb_c sc_int)) (fun _ _ _ _ _ => (tg_name (i := 2) (pg_name nd rfl (.inl rfl)))) tok_name (by decide) (fun _ _ _ _ _ => spt_nil) (fun _ _ _ _ _ => (se_cal C__law_cell_at (hr.mono (by decide)) (by rfl) (sab_cons (sb_var (pv 0)) (sab_cons (sb_c (sc_op o_add (sb_c sc_int) (sb_var (pv 2)))) sab_nil)) (hl := (sab_len (sab_len sab_len0)))))) (ss_one (s_set (i := 1) nd rfl (.inl rfl) (se_cal C__law_three (hr.mono (by decide)) (by rfl) (sab_cons (sb_var (pv 1)) (sab_cons (sb_e (se_slice (sl_imm (k := 0) (sb_var (pv 4))) (so_some (sb_c (sc_neg (sb_c sc_int)))) so_none)) (sab_cons (sb_c (sc_op o_mod (sb_e (se_cal C__law_cell_at (hr.mono (by decide)) (by rfl) (sab_cons (sb_var (pv 0)) (sab_cons (sb_c sc_int) sab_nil)) (hl := (sab_len (sab_len sab_len0))))) (sb_c sc_int))) (sab_cons (sb_var (pv 5)) sab_nil)))) (hl := (sab_len (sab_len (sab_len (sab_len sab_len0))))))))))) ss_nil) (ss_cons (s_if (st_w (sw_and (st_cmp (o_gt hu) (sb_var (pv 3)) (sb_c sc_int) (nomark _)) (sw_and1 (st_cmp (o_eq hu) (sb_c (sc_op o_mod (sb_c (sc_op o_fdv (sb_e (se_cal C__law_cell_at (hr.mono (by decide)) (by rfl) (sab_cons (sb_var (pv 0)) (sab_cons (sb_c sc_int) sab_nil)) (hl := (sab_len (sab_len sab_len0))))) (sb_c sc_int))) (sb_c sc_int))) (sb_c sc_int) (nomark _))))) (ss_one (s_set (i := 1) nd rfl (.inl rfl) (se_cal C__law_with_lay (hr.mono (by decide)) (by rfl) (sab_cons (sb_var (pv 1)) (sab_cons (sb_c (sc_op o_mod (sb_e (se_cal C__law_cell_at (hr.mono (by decide)) (by rfl) (sab_cons (sb_var (pv 0)) (sab_cons (sb_c sc_int) sab_nil)) (hl := (sab_len (sab_len sab_len0))))) (sb_c (sc_op o_pow (sb_c sc_int) (sb_c sc_int))))) sab_nil)) (hl := (sab_len (sab_len sab_len0)))))) ss_nil) (ss_cons (s_set (i := 6) nd rfl (.inl rfl) (se_cal C__law_lessening (hr.mono (by decide)) (by rfl) (sab_cons (sb_var (pv 1)) sab_nil) (hl := (sab_len sab_len0)))) (ss_cons (s1_fz (i := 1) (s_setLc [("_law_row", 10)] (by rfl) nd rfl rfl (sw_true rfl rfl rfl (by decide +kernel)) (blkOk_by (by rfl)) (by rfl) (si_list (se_var (pv 1))) (fun _ _ _ _ _ => (tg_name (i := 10) (pg_name nd rfl (.inl rfl)))) tok_name (by decide) (fun _ _ _ _ _ => spt_nil) (fun _ _ _ _ _ => (se_list (.inl rfl) (by rfl) T.b_list (sl_imm (k := 0) (sb_var (pv 10))))))) (ss_cons (s_if (st_not (st_val (sb_e (se_cal C__law_listed (hr.mono (by decide)) (by rfl) (sab_cons (sb_e (se_cal C_lessening (hr.mono (by decide)) (by rfl) (sab_cons (sb_var (pv 7)) sab_nil) (hl := (sab_len sab_len0)))) (sab_cons (sb_var (pv 6)) sab_nil)) (hl := (sab_len (sab_len sab_len0))))))) (ss_one (s_ret (se_c (k := 0) sc_bl))) ss_nil) (ss_cons (s1_fz (i := 6) (s_for .never rfl (si_list (se_var (pv 6))) (tg_name (i := 8) (pg_name nd rfl (.inl rfl))) (ss_cons (s_set (i := 9) nd rfl (.inl rfl) (se_meth (t := [("Curl", F_Move_done κ), ("Lay", F_Move_done κ), ("Part", F_Move_done κ), ("Slide", F_Move_done κ), ("Uncurl", F_Move_done κ)]) ⟨⟨T.o_Curl.is, _, hr.mono (by decide), C_Curl__done⟩, ⟨⟨T.o_Lay.is, _, hr.mono (by decide), C_Lay__done⟩, ⟨⟨T.o_Part.is, _, hr.mono (by decide), C_Part__done⟩, ⟨⟨T.o_Slide.is, _, hr.mono (by decide), C_Slide__done⟩, ⟨⟨T.o_Uncurl.is, _, hr.mono (by decide), C_Uncurl__done⟩, trivial⟩⟩⟩⟩⟩ (sb_e (se_cal C_move_of (hr.mono (by decide)) (by rfl) (sab_cons (sb_var (pv 8)) sab_nil) (hl := (sab_len sab_len0)))) (sab_cons (sb_var (pv 7)) sab_nil) (sab_len sab_len0))) (ss_one (s1_fz (i := 9) (s_if (st_cmp (o_gt hu) (sb_c (sc_sum rfl (by rfl) T.b_sum (sb_e (se_lc [("_law_row", 10)] (by rfl) nd (blkOk_by (by rfl)) (by rfl) (si_list (se_var (pv 9))) (fun _ _ _ _ _ => (tg_name (i := 10) (pg_name nd rfl (.inl rfl)))) tok_name (by decide) (fun _ _ _ _ _ => spt_nil) (fun _ _ _ _ _ => (se_c (k := 0) (sc_len (by rfl) T.b_len (sb_var (pv 10))))))))) (sb_c (sc_sum rfl (by rfl) T.b_sum (sb_e (se_lc [("_law_row", 10)] (by rfl) nd (blkOk_by (by rfl)) (by rfl) (si_list (se_var (pv 1))) (fun _ _ _ _ _ => (tg_name (i := 10) (pg_name nd rfl (.inl rfl)))) tok_name (by decide) (fun _ _ _ _ _ => spt_nil) (fun _ _ _ _ _ => (se_c (k := 0) (sc_len (by rfl) T.b_len (sb_var (pv 10))))))))) (nomark _)) (ss_one (s_ret (se_c (k := 0) sc_bl))) ss_nil)))) (fg := [8, 9, 10]))) (ss_one (s_ret (se_c (k := 0) (sc_and (sb_e (se_cal C__law_listed (hr.mono (by decide)) (by rfl) (sab_cons (sb_e (se_cal C_lessening (hr.mono (by decide)) (by rfl) (sab_cons (sb_var (pv 7)) sab_nil) (hl := (sab_len sab_len0)))) (sab_cons (sb_var (pv 6)) sab_nil)) (hl := (sab_len (sab_len sab_len0))))) (sc_one (sc_cmp (o_eq hu) (sb_var (pv 7)) (sb_var (pv 1)) (nomark _))))))))))))))))
abbrev s_Curl___init__ : Stmt := inCls (top 32) 0
theorem sc_Curl___init__ : FnScope ["self", "name", "spot", "first", "hand"] ["self", "name", "spot", "first", "hand"] (defScope s_Curl___init__) := ⟨rfl, rfl, rfl, by decide +kernel, rfl, by decide +kernel, by decide +kernel⟩
theorem ok_Curl___init__ {P : Program} {w : World} {K : PySem.W.Frag} {mg : Str → Option Value} {base : Heap} {κ : Str → Addr} (T : Txt K mg κ) (A : AtM K (κ "Curl") "__init__" "Curl.__init__" s_Curl___init__) (hy : PySem.W.makesIn K (κ "Curl") = true) (hx : PySem.W.keepIn K (.ref (κ "Curl")) = true) : MkC P w K mg base (κ "Curl") 1 ["name", "spot", "first", "hand"] := by
  obtain ⟨f, fd, F, hm⟩ := A.ex
  refine ⟨f, fd, ["self", "name", "spot", "first", "hand"], ⟨hy, hm.at_, hm.fn, hx⟩, F.binds (fun _ _ _ _ _ _ us hl => match us, hl with | [_, _, _, _, _], _ => rfl), F.ok sc_Curl___init__ (fun vs H Q E h => h.1) (fun cdv A outer s H vs Q E hr h => ?_)⟩
  obtain ⟨hl, x, dx, as, rfl, hx, q⟩ := h
  refine ⟨_, pss_sem, ?_⟩
  match as, hl with
  | [a1, a2, a3, a4], _ =>
    rw [← upd_same_id hx]
    refine wb_fldU (i := 1) (f := "name") (pv 0) (pv 1) (by rfl) [] rfl rfl T.o_Curl.is.cl T.a_Curl_name rfl (by decide) (by decide) ?_
    refine wb_fldU (i := 2) (f := "spot") (pv 0) (pv 2) (by rfl) ["name"] rfl rfl T.o_Curl.is.cl T.a_Curl_spot rfl (by decide) (by decide) ?_
    refine wb_fldU (i := 3) (f := "first") (pv 0) (pv 3) (by rfl) ["name", "spot"] rfl rfl T.o_Curl.is.cl T.a_Curl_first rfl (by decide) (by decide) ?_
    refine wb_fldU (i := 4) (f := "hand") (pv 0) (pv 4) (by rfl) ["name", "spot", "first"] rfl rfl T.o_Curl.is.cl T.a_Curl_hand rfl (by decide) (by decide) ?_
    exact wb_end q
abbrev s_Lay___init__ : Stmt := inCls (top 34) 0
theorem sc_Lay___init__ : FnScope ["self", "name", "second", "over", "under", "turned", "hand"] ["self", "name", "second", "over", "under", "turned", "hand"] (defScope s_Lay___init__) := ⟨rfl, rfl, rfl, by decide +kernel, rfl, by decide +kernel, by decide +kernel⟩
theorem ok_Lay___init__ {P : Program} {w : World} {K : PySem.W.Frag} {mg : Str → Option Value} {base : Heap} {κ : Str → Addr} (T : Txt K mg κ) (A : AtM K (κ "Lay") "__init__" "Lay.__init__" s_Lay___init__) (hy : PySem.W.makesIn K (κ "Lay") = true) (hx : PySem.W.keepIn K (.ref (κ "Lay")) = true) : MkC P w K mg base (κ "Lay") 1 ["name", "second", "over", "under", "turned", "hand"] := by
  obtain ⟨f, fd, F, hm⟩ := A.ex
  refine ⟨f, fd, ["self", "name", "second", "over", "under", "turned", "hand"], ⟨hy, hm.at_, hm.fn, hx⟩, F.binds (fun _ _ _ _ _ _ us hl => match us, hl with | [_, _, _, _, _, _, _], _ => rfl), F.ok sc_Lay___init__ (fun vs H Q E h => h.1) (fun cdv A outer s H vs Q E hr h => ?_)⟩
  obtain ⟨hl, x, dx, as, rfl, hx, q⟩ := h
  refine ⟨_, pss_sem, ?_⟩
  match as, hl with
  | [a1, a2, a3, a4, a5, a6], _ =>
    rw [← upd_same_id hx]
    refine wb_fldU (i := 1) (f := "name") (pv 0) (pv 1) (by rfl) [] rfl rfl T.o_Lay.is.cl T.a_Lay_name rfl (by decide) (by decide) ?_
    refine wb_fldU (i := 2) (f := "second") (pv 0) (pv 2) (by rfl) ["name"] rfl rfl T.o_Lay.is.cl T.a_Lay_second rfl (by decide) (by decide) ?_
    refine wb_fldU (i := 3) (f := "over") (pv 0) (pv 3) (by rfl) ["name", "second"] rfl rfl T.o_Lay.is.cl T.a_Lay_over rfl (by decide) (by decide) ?_
    refine wb_fldU (i := 4) (f := "under") (pv 0) (pv 4) (by rfl) ["name", "second", "over"] rfl rfl T.o_Lay.is.cl T.a_Lay_under rfl (by decide) (by decide) ?_
    refine wb_fldU (i := 5) (f := "turned") (pv 0) (pv 5) (by rfl) ["name", "second", "over", "under"] rfl rfl T.o_Lay.is.cl T.a_Lay_turned rfl (by decide) (by decide) ?_
    refine wb_fldU (i := 6) (f := "hand") (pv 0) (pv 6) (by rfl) ["name", "second", "over", "under", "turned"] rfl rfl T.o_Lay.is.cl T.a_Lay_hand rfl (by decide) (by decide) ?_
    exact wb_end q
abbrev s_Part___init__ : Stmt := inCls (top 33) 0
theorem sc_Part___init__ : FnScope ["self", "name", "second"] ["self", "name", "second"] (defScope s_Part___init__) := ⟨rfl, rfl, rfl, by decide +kernel, rfl, by decide +kernel, by decide +kernel⟩
theorem ok_Part___init__ {P : Program} {w : World} {K : PySem.W.Frag} {mg : Str → Option Value} {base : Heap} {κ : Str → Addr} (T : Txt K mg κ) (A : AtM K (κ "Part") "__init__" "Part.__init__" s_Part___init__) (hy : PySem.W.makesIn K (κ "Part") = true) (hx : PySem.W.keepIn K (.ref (κ "Part")) = true) : MkC P w K mg base (κ "Part") 1 ["name", "second"] := by
  obtain ⟨f, fd, F, hm⟩ := A.ex
  refine ⟨f, fd, ["self", "name", "second"], ⟨hy, hm.at_, hm.fn, hx⟩, F.binds (fun _ _ _ _ _ _ us hl => match us, hl with | [_, _, _], _ => rfl), F.ok sc_Part___init__ (fun vs H Q E h => h.1) (fun cdv A outer s H vs Q E hr h => ?_)⟩
  obtain ⟨hl, x, dx, as, rfl, hx, q⟩ := h
  refine ⟨_, pss_sem, ?_⟩
  match as, hl with
  | [a1, a2], _ =>
    rw [← upd_same_id hx]
    refine wb_fldU (i := 1) (f := "name") (pv 0) (pv 1) (by rfl) [] rfl rfl T.o_Part.is.cl T.a_Part_name rfl (by decide) (by decide) ?_
    refine wb_fldU (i := 2) (f := "second") (pv 0) (pv 2) (by rfl) ["name"] rfl rfl T.o_Part.is.cl T.a_Part_second rfl (by decide) (by decide) ?_
    exact wb_end q
abbrev s_Slide___init__ : Stmt := inCls (top 35) 0
theorem sc_Slide___init__ : FnScope ["self", "name", "second", "third", "turn"] ["self", "name", "second", "third", "turn"] (defScope s_Slide___init__) := ⟨rfl, rfl, rfl, by decide +kernel, rfl, by decide +kernel, by decide +kernel⟩
theorem ok_Slide___init__ {P : Program} {w : World} {K : PySem.W.Frag} {mg : Str → Option Value} {base : Heap} {κ : Str → Addr} (T : Txt K mg κ) (A : AtM K (κ "Slide") "__init__" "Slide.__init__" s_Slide___init__) (hy : PySem.W.makesIn K (κ "Slide") = true) (hx : PySem.W.keepIn K (.ref (κ "Slide")) = true) : MkC P w K mg base (κ "Slide") 1 ["name", "second", "third", "turn"] := by
  obtain ⟨f, fd, F, hm⟩ := A.ex
  refine ⟨f, fd, ["self", "name", "second", "third", "turn"], ⟨hy, hm.at_, hm.fn, hx⟩, F.binds (fun _ _ _ _ _ _ us hl => match us, hl with | [_, _, _, _, _], _ => rfl), F.ok sc_Slide___init__ (fun vs H Q E h => h.1) (fun cdv A outer s H vs Q E hr h => ?_)⟩
  obtain ⟨hl, x, dx, as, rfl, hx, q⟩ := h
  refine ⟨_, pss_sem, ?_⟩
  match as, hl with
  | [a1, a2, a3, a4], _ =>
    rw [← upd_same_id hx]
    refine wb_fldU (i := 1) (f := "name") (pv 0) (pv 1) (by rfl) [] rfl rfl T.o_Slide.is.cl T.a_Slide_name rfl (by decide) (by decide) ?_
    refine wb_fldU (i := 2) (f := "second") (pv 0) (pv 2) (by rfl) ["name"] rfl rfl T.o_Slide.is.cl T.a_Slide_second rfl (by decide) (by decide) ?_
    refine wb_fldU (i := 3) (f := "third") (pv 0) (pv 3) (by rfl) ["name", "second"] rfl rfl T.o_Slide.is.cl T.a_Slide_third rfl (by decide) (by decide) ?_
    refine wb_fldU (i := 4) (f := "turn") (pv 0) (pv 4) (by rfl) ["name", "second", "third"] rfl rfl T.o_Slide.is.cl T.a_Slide_turn rfl (by decide) (by decide) ?_
    exact wb_end q
abbrev s_Uncurl___init__ : Stmt := inCls (top 31) 0
theorem sc_Uncurl___init__ : FnScope ["self", "name"] ["self", "name"] (defScope s_Uncurl___init__) := ⟨rfl, rfl, rfl, by decide +kernel, rfl, by decide +kernel, by decide +kernel⟩
theorem ok_Uncurl___init__ {P : Program} {w : World} {K : PySem.W.Frag} {mg : Str → Option Value} {base : Heap} {κ : Str → Addr} (T : Txt K mg κ) (A : AtM K (κ "Uncurl") "__init__" "Uncurl.__init__" s_Uncurl___init__) (hy : PySem.W.makesIn K (κ "Uncurl") = true) (hx : PySem.W.keepIn K (.ref (κ "Uncurl")) = true) : MkC P w K mg base (κ "Uncurl") 1 ["name"] := by
  obtain ⟨f, fd, F, hm⟩ := A.ex
  refine ⟨f, fd, ["self", "name"], ⟨hy, hm.at_, hm.fn, hx⟩, F.binds (fun _ _ _ _ _ _ us hl => match us, hl with | [_, _], _ => rfl), F.ok sc_Uncurl___init__ (fun vs H Q E h => h.1) (fun cdv A outer s H vs Q E hr h => ?_)⟩
  obtain ⟨hl, x, dx, as, rfl, hx, q⟩ := h
  refine ⟨_, pss_sem, ?_⟩
  match as, hl with
  | [a1], _ =>
    rw [← upd_same_id hx]
    refine wb_fldU (i := 1) (f := "name") (pv 0) (pv 1) (by rfl) [] rfl rfl T.o_Uncurl.is.cl T.a_Uncurl_name rfl (by decide) (by decide) ?_
    exact wb_end q
theorem all_mk {l : PySem.W.OpenLaw} {w : World} {K : PySem.W.Frag} {h : Heap} {mg : Str → Option Value} {fa : Addr} (X : K.In h) (G : h.Ns mainGlobals mg) (hfa : mg "law" = some (.ref fa))
    {f0 : Addr} {oc0 : Value} {od0 an0 : Option Addr} {sl0 : Array (Option Value)} {kV0 dc0 pm0 cd0 ct0 : Value}
    (a0 : PySem.W.nsIn K mainGlobals "_law_next" = some (some (.ref f0))) (l0 : K.lookup f0 = some ⟨oc0, od0, .func (PySem.W.fnOf "_law_next" "_law_next" (defArgs s__law_next) (defBody s__law_next) (defScope s__law_next) .none kV0 dc0 pm0 an0 cd0 ct0), sl0⟩) (c0 : PySem.W.codeIn K cd0 "_law_next" = true) (k0 : PySem.W.keepIn K (.ref f0) = true)
    {f1 : Addr} {oc1 : Value} {od1 an1 : Option Addr} {sl1 : Array (Option Value)} {kV1 dc1 pm1 cd1 ct1 : Value}
    (a1 : PySem.W.nsIn K mainGlobals "_law_hands" = some (some (.ref f1))) (l1 : K.lookup f1 = some ⟨oc1, od1, .func (PySem.W.fnOf "_law_hands" "_law_hands" (defArgs s__law_hands) (defBody s__law_hands) (defScope s__law_hands) .none kV1 dc1 pm1 an1 cd1 ct1), sl1⟩) (c1 : PySem.W.codeIn K cd1 "_law_hands" = true) (k1 : PySem.W.keepIn K (.ref f1) = true)
    {f2 : Addr} {oc2 : Value} {od2 an2 : Option Addr} {sl2 : Array (Option Value)} {kV2 dc2 pm2 cd2 ct2 : Value}
    (a2 : PySem.W.nsIn K mainGlobals "_law_beside" = some (some (.ref f2))) (l2 : K.lookup f2 = some ⟨oc2, od2, .func (PySem.W.fnOf "_law_beside" "_law_beside" (defArgs s__law_beside) (defBody s__law_beside) (defScope s__law_beside) .none kV2 dc2 pm2 an2 cd2 ct2), sl2⟩) (c2 : PySem.W.codeIn K cd2 "_law_beside" = true) (k2 : PySem.W.keepIn K (.ref f2) = true)
    {f3 : Addr} {oc3 : Value} {od3 an3 : Option Addr} {sl3 : Array (Option Value)} {kV3 dc3 pm3 cd3 ct3 : Value}
    (a3 : PySem.W.nsIn K mainGlobals "_law_parts" = some (some (.ref f3))) (l3 : K.lookup f3 = some ⟨oc3, od3, .func (PySem.W.fnOf "_law_parts" "_law_parts" (defArgs s__law_parts) (defBody s__law_parts) (defScope s__law_parts) .none kV3 dc3 pm3 an3 cd3 ct3), sl3⟩) (c3 : PySem.W.codeIn K cd3 "_law_parts" = true) (k3 : PySem.W.keepIn K (.ref f3) = true)
    {f4 : Addr} {oc4 : Value} {od4 an4 : Option Addr} {sl4 : Array (Option Value)} {kV4 dc4 pm4 cd4 ct4 : Value}
    (a4 : PySem.W.nsIn K mainGlobals "_law_pairs_of" = some (some (.ref f4))) (l4 : K.lookup f4 = some ⟨oc4, od4, .func (PySem.W.fnOf "_law_pairs_of" "_law_pairs_of" (defArgs s__law_pairs_of) (defBody s__law_pairs_of) (defScope s__law_pairs_of) .none kV4 dc4 pm4 an4 cd4 ct4), sl4⟩) (c4 : PySem.W.codeIn K cd4 "_law_pairs_of" = true) (k4 : PySem.W.keepIn K (.ref f4) = true)
    {f5 : Addr} {oc5 : Value} {od5 an5 : Option Addr} {sl5 : Array (Option Value)} {kV5 dc5 pm5 cd5 ct5 : Value}
    (a5 : PySem.W.nsIn K mainGlobals "_law_pairs" = some (some (.ref f5))) (l5 : K.lookup f5 = some ⟨oc5, od5, .func (PySem.W.fnOf "_law_pairs" "_law_pairs" (defArgs s__law_pairs) (defBody s__law_pairs) (defScope s__law_pairs) .none kV5 dc5 pm5 an5 cd5 ct5), sl5⟩) (c5 : PySem.W.codeIn K cd5 "_law_pairs" = true) (k5 : PySem.W.keepIn K (.ref f5) = true)
    {f6 : Addr} {oc6 : Value} {od6 an6 : Option Addr} {sl6 : Array (Option Value)} {kV6 dc6 pm6 cd6 ct6 : Value}
    (a6 : PySem.W.nsIn K mainGlobals "_law_slides" = some (some (.ref f6))) (l6 : K.lookup f6 = some ⟨oc6, od6, .func (PySem.W.fnOf "_law_slides" "_law_slides" (defArgs s__law_slides) (defBody s__law_slides) (defScope s__law_slides) .none kV6 dc6 pm6 an6 cd6 ct6), sl6⟩) (c6 : PySem.W.codeIn K cd6 "_law_slides" = true) (k6 : PySem.W.keepIn K (.ref f6) = true)
    {f7 : Addr} {oc7 : Value} {od7 an7 : Option Addr} {sl7 : Array (Option Value)} {kV7 dc7 pm7 cd7 ct7 : Value}
    (a7 : PySem.W.nsIn K mainGlobals "_law_slides_of" = some (some (.ref f7))) (l7 : K.lookup f7 = some ⟨oc7, od7, .func (PySem.W.fnOf "_law_slides_of" "_law_slides_of" (defArgs s__law_slides_of) (defBody s__law_slides_of) (defScope s__law_slides_of) .none kV7 dc7 pm7 an7 cd7 ct7), sl7⟩) (c7 : PySem.W.codeIn K cd7 "_law_slides_of" = true) (k7 : PySem.W.keepIn K (.ref f7) = true)
    {f8 : Addr} {oc8 : Value} {od8 an8 : Option Addr} {sl8 : Array (Option Value)} {kV8 dc8 pm8 cd8 ct8 : Value}
    (a8 : PySem.W.nsIn K mainGlobals "_law_lessening" = some (some (.ref f8))) (l8 : K.lookup f8 = some ⟨oc8, od8, .func (PySem.W.fnOf "_law_lessening" "_law_lessening" (defArgs s__law_lessening) (defBody s__law_lessening) (defScope s__law_lessening) .none kV8 dc8 pm8 an8 cd8 ct8), sl8⟩) (c8 : PySem.W.codeIn K cd8 "_law_lessening" = true) (k8 : PySem.W.keepIn K (.ref f8) = true)
    {f9 : Addr} {oc9 : Value} {od9 an9 : Option Addr} {sl9 : Array (Option Value)} {kV9 dc9 pm9 cd9 ct9 : Value}
    (a9 : PySem.W.nsIn K mainGlobals "_law_free" = some (some (.ref f9))) (l9 : K.lookup f9 = some ⟨oc9, od9, .func (PySem.W.fnOf "_law_free" "_law_free" (defArgs s__law_free) (defBody s__law_free) (defScope s__law_free) .none kV9 dc9 pm9 an9 cd9 ct9), sl9⟩) (c9 : PySem.W.codeIn K cd9 "_law_free" = true) (k9 : PySem.W.keepIn K (.ref f9) = true)
    {f10 : Addr} {oc10 : Value} {od10 an10 : Option Addr} {sl10 : Array (Option Value)} {kV10 dc10 pm10 cd10 ct10 : Value}
    (a10 : PySem.W.nsIn K mainGlobals "_law_mixed" = some (some (.ref f10))) (l10 : K.lookup f10 = some ⟨oc10, od10, .func (PySem.W.fnOf "_law_mixed" "_law_mixed" (defArgs s__law_mixed) (defBody s__law_mixed) (defScope s__law_mixed) .none kV10 dc10 pm10 an10 cd10 ct10), sl10⟩) (c10 : PySem.W.codeIn K cd10 "_law_mixed" = true) (k10 : PySem.W.keepIn K (.ref f10) = true)
    {f11 : Addr} {oc11 : Value} {od11 an11 : Option Addr} {sl11 : Array (Option Value)} {kV11 dc11 pm11 cd11 ct11 : Value}
    (a11 : PySem.W.nsIn K mainGlobals "_law_names" = some (some (.ref f11))) (l11 : K.lookup f11 = some ⟨oc11, od11, .func (PySem.W.fnOf "_law_names" "_law_names" (defArgs s__law_names) (defBody s__law_names) (defScope s__law_names) .none kV11 dc11 pm11 an11 cd11 ct11), sl11⟩) (c11 : PySem.W.codeIn K cd11 "_law_names" = true) (k11 : PySem.W.keepIn K (.ref f11) = true)
    {f12 : Addr} {oc12 : Value} {od12 an12 : Option Addr} {sl12 : Array (Option Value)} {kV12 dc12 pm12 cd12 ct12 : Value}
    (a12 : PySem.W.nsIn K mainGlobals "_law_crossed" = some (some (.ref f12))) (l12 : K.lookup f12 = some ⟨oc12, od12, .func (PySem.W.fnOf "_law_crossed" "_law_crossed" (defArgs s__law_crossed) (defBody s__law_crossed) (defScope s__law_crossed) .none kV12 dc12 pm12 an12 cd12 ct12), sl12⟩) (c12 : PySem.W.codeIn K cd12 "_law_crossed" = true) (k12 : PySem.W.keepIn K (.ref f12) = true)
    {f13 : Addr} {oc13 : Value} {od13 an13 : Option Addr} {sl13 : Array (Option Value)} {kV13 dc13 pm13 cd13 ct13 : Value}
    (a13 : PySem.W.nsIn K mainGlobals "_law_cell_at" = some (some (.ref f13))) (l13 : K.lookup f13 = some ⟨oc13, od13, .func (PySem.W.fnOf "_law_cell_at" "_law_cell_at" (defArgs s__law_cell_at) (defBody s__law_cell_at) (defScope s__law_cell_at) .none kV13 dc13 pm13 an13 cd13 ct13), sl13⟩) (c13 : PySem.W.codeIn K cd13 "_law_cell_at" = true) (k13 : PySem.W.keepIn K (.ref f13) = true)
    {f14 : Addr} {oc14 : Value} {od14 an14 : Option Addr} {sl14 : Array (Option Value)} {kV14 dc14 pm14 cd14 ct14 : Value}
    (a14 : PySem.W.nsIn K mainGlobals "_law_block" = some (some (.ref f14))) (l14 : K.lookup f14 = some ⟨oc14, od14, .func (PySem.W.fnOf "_law_block" "_law_block" (defArgs s__law_block) (defBody s__law_block) (defScope s__law_block) .none kV14 dc14 pm14 an14 cd14 ct14), sl14⟩) (c14 : PySem.W.codeIn K cd14 "_law_block" = true) (k14 : PySem.W.keepIn K (.ref f14) = true)
    {f15 : Addr} {oc15 : Value} {od15 an15 : Option Addr} {sl15 : Array (Option Value)} {kV15 dc15 pm15 cd15 ct15 : Value}
    (a15 : PySem.W.nsIn K mainGlobals "_law_three" = some (some (.ref f15))) (l15 : K.lookup f15 = some ⟨oc15, od15, .func (PySem.W.fnOf "_law_three" "_law_three" (defArgs s__law_three) (defBody s__law_three) (defScope s__law_three) .none kV15 dc15 pm15 an15 cd15 ct15), sl15⟩) (c15 : PySem.W.codeIn K cd15 "_law_three" = true) (k15 : PySem.W.keepIn K (.ref f15) = true)
    {f16 : Addr} {oc16 : Value} {od16 an16 : Option Addr} {sl16 : Array (Option Value)} {kV16 dc16 pm16 cd16 ct16 : Value}
    (a16 : PySem.W.nsIn K mainGlobals "_law_spots" = some (some (.ref f16))) (l16 : K.lookup f16 = some ⟨oc16, od16, .func (PySem.W.fnOf "_law_spots" "_law_spots" (defArgs s__law_spots) (defBody s__law_spots) (defScope s__law_spots) .none kV16 dc16 pm16 an16 cd16 ct16), sl16⟩) (c16 : PySem.W.codeIn K cd16 "_law_spots" = true) (k16 : PySem.W.keepIn K (.ref f16) = true)
    {f17 : Addr} {oc17 : Value} {od17 an17 : Option Addr} {sl17 : Array (Option Value)} {kV17 dc17 pm17 cd17 ct17 : Value}
    (a17 : PySem.W.nsIn K mainGlobals "_law_put" = some (some (.ref f17))) (l17 : K.lookup f17 = some ⟨oc17, od17, .func (PySem.W.fnOf "_law_put" "_law_put" (defArgs s__law_put) (defBody s__law_put) (defScope s__law_put) .none kV17 dc17 pm17 an17 cd17 ct17), sl17⟩) (c17 : PySem.W.codeIn K cd17 "_law_put" = true) (k17 : PySem.W.keepIn K (.ref f17) = true)
    {f18 : Addr} {oc18 : Value} {od18 an18 : Option Addr} {sl18 : Array (Option Value)} {kV18 dc18 pm18 cd18 ct18 : Value}
    (a18 : PySem.W.nsIn K mainGlobals "_law_with_lay" = some (some (.ref f18))) (l18 : K.lookup f18 = some ⟨oc18, od18, .func (PySem.W.fnOf "_law_with_lay" "_law_with_lay" (defArgs s__law_with_lay) (defBody s__law_with_lay) (defScope s__law_with_lay) .none kV18 dc18 pm18 an18 cd18 ct18), sl18⟩) (c18 : PySem.W.codeIn K cd18 "_law_with_lay" = true) (k18 : PySem.W.keepIn K (.ref f18) = true)
    {f19 : Addr} {oc19 : Value} {od19 an19 : Option Addr} {sl19 : Array (Option Value)} {kV19 dc19 pm19 cd19 ct19 : Value}
    (a19 : PySem.W.nsIn K mainGlobals "_law_whole" = some (some (.ref f19))) (l19 : K.lookup f19 = some ⟨oc19, od19, .func (PySem.W.fnOf "_law_whole" "_law_whole" (defArgs s__law_whole) (defBody s__law_whole) (defScope s__law_whole) .none kV19 dc19 pm19 an19 cd19 ct19), sl19⟩) (c19 : PySem.W.codeIn K cd19 "_law_whole" = true) (k19 : PySem.W.keepIn K (.ref f19) = true)
    {f20 : Addr} {oc20 : Value} {od20 an20 : Option Addr} {sl20 : Array (Option Value)} {kV20 dc20 pm20 cd20 ct20 : Value}
    (a20 : PySem.W.nsIn K mainGlobals "_law_wholes" = some (some (.ref f20))) (l20 : K.lookup f20 = some ⟨oc20, od20, .func (PySem.W.fnOf "_law_wholes" "_law_wholes" (defArgs s__law_wholes) (defBody s__law_wholes) (defScope s__law_wholes) .none kV20 dc20 pm20 an20 cd20 ct20), sl20⟩) (c20 : PySem.W.codeIn K cd20 "_law_wholes" = true) (k20 : PySem.W.keepIn K (.ref f20) = true)
    {f21 : Addr} {oc21 : Value} {od21 an21 : Option Addr} {sl21 : Array (Option Value)} {kV21 dc21 pm21 cd21 ct21 : Value}
    (a21 : PySem.W.nsIn K mainGlobals "_law_tells" = some (some (.ref f21))) (l21 : K.lookup f21 = some ⟨oc21, od21, .func (PySem.W.fnOf "_law_tells" "_law_tells" (defArgs s__law_tells) (defBody s__law_tells) (defScope s__law_tells) .none kV21 dc21 pm21 an21 cd21 ct21), sl21⟩) (c21 : PySem.W.codeIn K cd21 "_law_tells" = true) (k21 : PySem.W.keepIn K (.ref f21) = true)
    {f22 : Addr} {oc22 : Value} {od22 an22 : Option Addr} {sl22 : Array (Option Value)} {kV22 dc22 pm22 cd22 ct22 : Value}
    (a22 : PySem.W.nsIn K mainGlobals "_law_listed" = some (some (.ref f22))) (l22 : K.lookup f22 = some ⟨oc22, od22, .func (PySem.W.fnOf "_law_listed" "_law_listed" (defArgs s__law_listed) (defBody s__law_listed) (defScope s__law_listed) .none kV22 dc22 pm22 an22 cd22 ct22), sl22⟩) (c22 : PySem.W.codeIn K cd22 "_law_listed" = true) (k22 : PySem.W.keepIn K (.ref f22) = true)
    {f23 : Addr} {oc23 : Value} {od23 an23 : Option Addr} {sl23 : Array (Option Value)} {kV23 dc23 pm23 cd23 ct23 : Value}
    (a23 : PySem.W.nsIn K mainGlobals "seated" = some (some (.ref f23))) (l23 : K.lookup f23 = some ⟨oc23, od23, .func (PySem.W.fnOf "seated" "seated" (defArgs s_seated) (defBody s_seated) (defScope s_seated) .none kV23 dc23 pm23 an23 cd23 ct23), sl23⟩) (c23 : PySem.W.codeIn K cd23 "seated" = true) (k23 : PySem.W.keepIn K (.ref f23) = true)
    {f24 : Addr} {oc24 : Value} {od24 an24 : Option Addr} {sl24 : Array (Option Value)} {kV24 dc24 pm24 cd24 ct24 : Value}
    (a24 : PySem.W.nsIn K mainGlobals "hands_of" = some (some (.ref f24))) (l24 : K.lookup f24 = some ⟨oc24, od24, .func (PySem.W.fnOf "hands_of" "hands_of" (defArgs s_hands_of) (defBody s_hands_of) (defScope s_hands_of) .none kV24 dc24 pm24 an24 cd24 ct24), sl24⟩) (c24 : PySem.W.codeIn K cd24 "hands_of" = true) (k24 : PySem.W.keepIn K (.ref f24) = true)
    {f25 : Addr} {oc25 : Value} {od25 an25 : Option Addr} {sl25 : Array (Option Value)} {kV25 dc25 pm25 cd25 ct25 : Value}
    (a25 : PySem.W.nsIn K mainGlobals "names_of" = some (some (.ref f25))) (l25 : K.lookup f25 = some ⟨oc25, od25, .func (PySem.W.fnOf "names_of" "names_of" (defArgs s_names_of) (defBody s_names_of) (defScope s_names_of) .none kV25 dc25 pm25 an25 cd25 ct25), sl25⟩) (c25 : PySem.W.codeIn K cd25 "names_of" = true) (k25 : PySem.W.keepIn K (.ref f25) = true)
    {f26 : Addr} {oc26 : Value} {od26 an26 : Option Addr} {sl26 : Array (Option Value)} {kV26 dc26 pm26 cd26 ct26 : Value}
    (a26 : PySem.W.nsIn K mainGlobals "look_at_new" = some (some (.ref f26))) (l26 : K.lookup f26 = some ⟨oc26, od26, .func (PySem.W.fnOf "look_at_new" "look_at_new" (defArgs s_look_at_new) (defBody s_look_at_new) (defScope s_look_at_new) .none kV26 dc26 pm26 an26 cd26 ct26), sl26⟩) (c26 : PySem.W.codeIn K cd26 "look_at_new" = true) (k26 : PySem.W.keepIn K (.ref f26) = true)
    {f27 : Addr} {oc27 : Value} {od27 an27 : Option Addr} {sl27 : Array (Option Value)} {kV27 dc27 pm27 cd27 ct27 : Value}
    (a27 : PySem.W.nsIn K mainGlobals "put_behind" = some (some (.ref f27))) (l27 : K.lookup f27 = some ⟨oc27, od27, .func (PySem.W.fnOf "put_behind" "put_behind" (defArgs s_put_behind) (defBody s_put_behind) (defScope s_put_behind) .none kV27 dc27 pm27 an27 cd27 ct27), sl27⟩) (c27 : PySem.W.codeIn K cd27 "put_behind" = true) (k27 : PySem.W.keepIn K (.ref f27) = true)
    {f28 : Addr} {oc28 : Value} {od28 an28 : Option Addr} {sl28 : Array (Option Value)} {kV28 dc28 pm28 cd28 ct28 : Value}
    (a28 : PySem.W.nsIn K mainGlobals "hand_of" = some (some (.ref f28))) (l28 : K.lookup f28 = some ⟨oc28, od28, .func (PySem.W.fnOf "hand_of" "hand_of" (defArgs s_hand_of) (defBody s_hand_of) (defScope s_hand_of) .none kV28 dc28 pm28 an28 cd28 ct28), sl28⟩) (c28 : PySem.W.codeIn K cd28 "hand_of" = true) (k28 : PySem.W.keepIn K (.ref f28) = true)
    {f29 : Addr} {oc29 : Value} {od29 an29 : Option Addr} {sl29 : Array (Option Value)} {kV29 dc29 pm29 cd29 ct29 : Value}
    (a29 : PySem.W.nsIn K mainGlobals "look_at_old" = some (some (.ref f29))) (l29 : K.lookup f29 = some ⟨oc29, od29, .func (PySem.W.fnOf "look_at_old" "look_at_old" (defArgs s_look_at_old) (defBody s_look_at_old) (defScope s_look_at_old) .none kV29 dc29 pm29 an29 cd29 ct29), sl29⟩) (c29 : PySem.W.codeIn K cd29 "look_at_old" = true) (k29 : PySem.W.keepIn K (.ref f29) = true)
    {f30 : Addr} {oc30 : Value} {od30 an30 : Option Addr} {sl30 : Array (Option Value)} {kV30 dc30 pm30 cd30 ct30 : Value}
    (a30 : PySem.W.nsIn K mainGlobals "side_by_side" = some (some (.ref f30))) (l30 : K.lookup f30 = some ⟨oc30, od30, .func (PySem.W.fnOf "side_by_side" "side_by_side" (defArgs s_side_by_side) (defBody s_side_by_side) (defScope s_side_by_side) .none kV30 dc30 pm30 an30 cd30 ct30), sl30⟩) (c30 : PySem.W.codeIn K cd30 "side_by_side" = true) (k30 : PySem.W.keepIn K (.ref f30) = true)
    {f31 : Addr} {oc31 : Value} {od31 an31 : Option Addr} {sl31 : Array (Option Value)} {kV31 dc31 pm31 cd31 ct31 : Value}
    (a31 : PySem.W.nsIn K mainGlobals "parts" = some (some (.ref f31))) (l31 : K.lookup f31 = some ⟨oc31, od31, .func (PySem.W.fnOf "parts" "parts" (defArgs s_parts) (defBody s_parts) (defScope s_parts) .none kV31 dc31 pm31 an31 cd31 ct31), sl31⟩) (c31 : PySem.W.codeIn K cd31 "parts" = true) (k31 : PySem.W.keepIn K (.ref f31) = true)
    {f32 : Addr} {oc32 : Value} {od32 an32 : Option Addr} {sl32 : Array (Option Value)} {kV32 dc32 pm32 cd32 ct32 : Value}
    (a32 : PySem.W.nsIn K mainGlobals "next_of" = some (some (.ref f32))) (l32 : K.lookup f32 = some ⟨oc32, od32, .func (PySem.W.fnOf "next_of" "next_of" (defArgs s_next_of) (defBody s_next_of) (defScope s_next_of) .none kV32 dc32 pm32 an32 cd32 ct32), sl32⟩) (c32 : PySem.W.codeIn K cd32 "next_of" = true) (k32 : PySem.W.keepIn K (.ref f32) = true)
    {f33 : Addr} {oc33 : Value} {od33 an33 : Option Addr} {sl33 : Array (Option Value)} {kV33 dc33 pm33 cd33 ct33 : Value}
    (a33 : PySem.W.nsIn K mainGlobals "without" = some (some (.ref f33))) (l33 : K.lookup f33 = some ⟨oc33, od33, .func (PySem.W.fnOf "without" "without" (defArgs s_without) (defBody s_without) (defScope s_without) .none kV33 dc33 pm33 an33 cd33 ct33), sl33⟩) (c33 : PySem.W.codeIn K cd33 "without" = true) (k33 : PySem.W.keepIn K (.ref f33) = true)
    {f34 : Addr} {oc34 : Value} {od34 an34 : Option Addr} {sl34 : Array (Option Value)} {kV34 dc34 pm34 cd34 ct34 : Value}
    (a34 : PySem.W.nsIn K mainGlobals "exchanged" = some (some (.ref f34))) (l34 : K.lookup f34 = some ⟨oc34, od34, .func (PySem.W.fnOf "exchanged" "exchanged" (defArgs s_exchanged) (defBody s_exchanged) (defScope s_exchanged) .none kV34 dc34 pm34 an34 cd34 ct34), sl34⟩) (c34 : PySem.W.codeIn K cd34 "exchanged" = true) (k34 : PySem.W.keepIn K (.ref f34) = true)
    {f35 : Addr} {oc35 : Value} {od35 an35 : Option Addr} {sl35 : Array (Option Value)} {kV35 dc35 pm35 cd35 ct35 : Value}
    (a35 : PySem.W.nsIn K mainGlobals "right_behind" = some (some (.ref f35))) (l35 : K.lookup f35 = some ⟨oc35, od35, .func (PySem.W.fnOf "right_behind" "right_behind" (defArgs s_right_behind) (defBody s_right_behind) (defScope s_right_behind) .none kV35 dc35 pm35 an35 cd35 ct35), sl35⟩) (c35 : PySem.W.codeIn K cd35 "right_behind" = true) (k35 : PySem.W.keepIn K (.ref f35) = true)
    {f36 : Addr} {oc36 : Value} {od36 an36 : Option Addr} {sl36 : Array (Option Value)} {kV36 dc36 pm36 cd36 ct36 : Value}
    (a36 : PySem.W.nsIn K mainGlobals "slides" = some (some (.ref f36))) (l36 : K.lookup f36 = some ⟨oc36, od36, .func (PySem.W.fnOf "slides" "slides" (defArgs s_slides) (defBody s_slides) (defScope s_slides) .none kV36 dc36 pm36 an36 cd36 ct36), sl36⟩) (c36 : PySem.W.codeIn K cd36 "slides" = true) (k36 : PySem.W.keepIn K (.ref f36) = true)
    {f37 : Addr} {oc37 : Value} {od37 an37 : Option Addr} {sl37 : Array (Option Value)} {kV37 dc37 pm37 cd37 ct37 : Value}
    (a37 : PySem.W.nsIn K mainGlobals "uncurls" = some (some (.ref f37))) (l37 : K.lookup f37 = some ⟨oc37, od37, .func (PySem.W.fnOf "uncurls" "uncurls" (defArgs s_uncurls) (defBody s_uncurls) (defScope s_uncurls) .none kV37 dc37 pm37 an37 cd37 ct37), sl37⟩) (c37 : PySem.W.codeIn K cd37 "uncurls" = true) (k37 : PySem.W.keepIn K (.ref f37) = true)
    {f38 : Addr} {oc38 : Value} {od38 an38 : Option Addr} {sl38 : Array (Option Value)} {kV38 dc38 pm38 cd38 ct38 : Value}
    (a38 : PySem.W.nsIn K mainGlobals "uncurls_of" = some (some (.ref f38))) (l38 : K.lookup f38 = some ⟨oc38, od38, .func (PySem.W.fnOf "uncurls_of" "uncurls_of" (defArgs s_uncurls_of) (defBody s_uncurls_of) (defScope s_uncurls_of) .none kV38 dc38 pm38 an38 cd38 ct38), sl38⟩) (c38 : PySem.W.codeIn K cd38 "uncurls_of" = true) (k38 : PySem.W.keepIn K (.ref f38) = true)
    {f39 : Addr} {oc39 : Value} {od39 an39 : Option Addr} {sl39 : Array (Option Value)} {kV39 dc39 pm39 cd39 ct39 : Value}
    (a39 : PySem.W.nsIn K mainGlobals "parts_of" = some (some (.ref f39))) (l39 : K.lookup f39 = some ⟨oc39, od39, .func (PySem.W.fnOf "parts_of" "parts_of" (defArgs s_parts_of) (defBody s_parts_of) (defScope s_parts_of) .none kV39 dc39 pm39 an39 cd39 ct39), sl39⟩) (c39 : PySem.W.codeIn K cd39 "parts_of" = true) (k39 : PySem.W.keepIn K (.ref f39) = true)
    {f40 : Addr} {oc40 : Value} {od40 an40 : Option Addr} {sl40 : Array (Option Value)} {kV40 dc40 pm40 cd40 ct40 : Value}
    (a40 : PySem.W.nsIn K mainGlobals "slides_on" = some (some (.ref f40))) (l40 : K.lookup f40 = some ⟨oc40, od40, .func (PySem.W.fnOf "slides_on" "slides_on" (defArgs s_slides_on) (defBody s_slides_on) (defScope s_slides_on) .none kV40 dc40 pm40 an40 cd40 ct40), sl40⟩) (c40 : PySem.W.codeIn K cd40 "slides_on" = true) (k40 : PySem.W.keepIn K (.ref f40) = true)
    {f41 : Addr} {oc41 : Value} {od41 an41 : Option Addr} {sl41 : Array (Option Value)} {kV41 dc41 pm41 cd41 ct41 : Value}
    (a41 : PySem.W.nsIn K mainGlobals "slides_of" = some (some (.ref f41))) (l41 : K.lookup f41 = some ⟨oc41, od41, .func (PySem.W.fnOf "slides_of" "slides_of" (defArgs s_slides_of) (defBody s_slides_of) (defScope s_slides_of) .none kV41 dc41 pm41 an41 cd41 ct41), sl41⟩) (c41 : PySem.W.codeIn K cd41 "slides_of" = true) (k41 : PySem.W.keepIn K (.ref f41) = true)
    {f42 : Addr} {oc42 : Value} {od42 an42 : Option Addr} {sl42 : Array (Option Value)} {kV42 dc42 pm42 cd42 ct42 : Value}
    (a42 : PySem.W.nsIn K mainGlobals "lessening" = some (some (.ref f42))) (l42 : K.lookup f42 = some ⟨oc42, od42, .func (PySem.W.fnOf "lessening" "lessening" (defArgs s_lessening) (defBody s_lessening) (defScope s_lessening) .none kV42 dc42 pm42 an42 cd42 ct42), sl42⟩) (c42 : PySem.W.codeIn K cd42 "lessening" = true) (k42 : PySem.W.keepIn K (.ref f42) = true)
    {f43 : Addr} {oc43 : Value} {od43 an43 : Option Addr} {sl43 : Array (Option Value)} {kV43 dc43 pm43 cd43 ct43 : Value}
    (a43 : PySem.W.nsIn K mainGlobals "move_of" = some (some (.ref f43))) (l43 : K.lookup f43 = some ⟨oc43, od43, .func (PySem.W.fnOf "move_of" "move_of" (defArgs s_move_of) (defBody s_move_of) (defScope s_move_of) .none kV43 dc43 pm43 an43 cd43 ct43), sl43⟩) (c43 : PySem.W.codeIn K cd43 "move_of" = true) (k43 : PySem.W.keepIn K (.ref f43) = true)
    {f44 : Addr} {oc44 : Value} {od44 an44 : Option Addr} {sl44 : Array (Option Value)} {kV44 dc44 pm44 cd44 ct44 : Value}
    (a44 : PySem.W.nsIn K mainGlobals "law" = some (some (.ref f44))) (l44 : K.lookup f44 = some ⟨oc44, od44, .func (PySem.W.fnOf "law" "law" (defArgs s_law) (defBody s_law) (defScope s_law) .none kV44 dc44 pm44 an44 cd44 ct44), sl44⟩) (c44 : PySem.W.codeIn K cd44 "law" = true) (k44 : PySem.W.keepIn K (.ref f44) = true)
    (z_bool : PySem.W.nsIn K mainGlobals "bool" = some none)
    (z_enumerate : PySem.W.nsIn K mainGlobals "enumerate" = some none)
    (z_int : PySem.W.nsIn K mainGlobals "int" = some none)
    (z_isinstance : PySem.W.nsIn K mainGlobals "isinstance" = some none)
    (z_len : PySem.W.nsIn K mainGlobals "len" = some none)
    (z_list : PySem.W.nsIn K mainGlobals "list" = some none)
    (z_min : PySem.W.nsIn K mainGlobals "min" = some none)
    (z_range : PySem.W.nsIn K mainGlobals "range" = some none)
    (z_sorted : PySem.W.nsIn K mainGlobals "sorted" = some none)
    (z_str : PySem.W.nsIn K mainGlobals "str" = some none)
    (z_sum : PySem.W.nsIn K mainGlobals "sum" = some none)
    (z_tuple : PySem.W.nsIn K mainGlobals "tuple" = some none)
    {tk_BARE : Tok} (z_BARE : PySem.W.nsIn K mainGlobals "BARE" = some (some (.int 2 tk_BARE)))
    {tk_MOST_CROSSINGS : Tok} (z_MOST_CROSSINGS : PySem.W.nsIn K mainGlobals "MOST_CROSSINGS" = some (some (.int 12 tk_MOST_CROSSINGS)))
    {tk_OVER : Tok} (z_OVER : PySem.W.nsIn K mainGlobals "OVER" = some (some (.int 0 tk_OVER)))
    {tk_UNDER : Tok} (z_UNDER : PySem.W.nsIn K mainGlobals "UNDER" = some (some (.int 1 tk_UNDER)))
    {cl_Curl : Addr} (z_Curl : PySem.W.nsIn K mainGlobals "Curl" = some (some (.ref cl_Curl))) (o_Curl : oclB K cl_Curl = true)
    {cl_Lay : Addr} (z_Lay : PySem.W.nsIn K mainGlobals "Lay" = some (some (.ref cl_Lay))) (o_Lay : oclB K cl_Lay = true)
    {cl_Part : Addr} (z_Part : PySem.W.nsIn K mainGlobals "Part" = some (some (.ref cl_Part))) (o_Part : oclB K cl_Part = true)
    {cl_Slide : Addr} (z_Slide : PySem.W.nsIn K mainGlobals "Slide" = some (some (.ref cl_Slide))) (o_Slide : oclB K cl_Slide = true)
    {cl_Uncurl : Addr} (z_Uncurl : PySem.W.nsIn K mainGlobals "Uncurl" = some (some (.ref cl_Uncurl))) (o_Uncurl : oclB K cl_Uncurl = true)
    (g_Curl_first : PySem.W.findIn K (.ref cl_Curl) "first" = some none)
    (g_Curl_hand : PySem.W.findIn K (.ref cl_Curl) "hand" = some none)
    (g_Curl_name : PySem.W.findIn K (.ref cl_Curl) "name" = some none)
    (g_Curl_spot : PySem.W.findIn K (.ref cl_Curl) "spot" = some none)
    (g_Lay_hand : PySem.W.findIn K (.ref cl_Lay) "hand" = some none)
    (g_Lay_name : PySem.W.findIn K (.ref cl_Lay) "name" = some none)
    (g_Lay_over : PySem.W.findIn K (.ref cl_Lay) "over" = some none)
    (g_Lay_second : PySem.W.findIn K (.ref cl_Lay) "second" = some none)
    (g_Lay_turned : PySem.W.findIn K (.ref cl_Lay) "turned" = some none)
    (g_Lay_under : PySem.W.findIn K (.ref cl_Lay) "under" = some none)
    (g_Part_name : PySem.W.findIn K (.ref cl_Part) "name" = some none)
    (g_Part_second : PySem.W.findIn K (.ref cl_Part) "second" = some none)
    (g_Slide_name : PySem.W.findIn K (.ref cl_Slide) "name" = some none)
    (g_Slide_second : PySem.W.findIn K (.ref cl_Slide) "second" = some none)
    (g_Slide_third : PySem.W.findIn K (.ref cl_Slide) "third" = some none)
    (g_Slide_turn : PySem.W.findIn K (.ref cl_Slide) "turn" = some none)
    (g_Uncurl_name : PySem.W.findIn K (.ref cl_Uncurl) "name" = some none)
    {fM0 : Addr} {ocM0 : Value} {odM0 anM0 : Option Addr} {slM0 : Array (Option Value)} {kVM0 dcM0 pmM0 cdM0 ctM0 : Value}
    (aM0 : PySem.W.findIn K (.ref cl_Curl) "done" = some (some (.ref fM0))) (lM0 : K.lookup fM0 = some ⟨ocM0, odM0, .func (PySem.W.fnOf "done" "Move.done" (defArgs s_Move_done) (defBody s_Move_done) (defScope s_Move_done) .none kVM0 dcM0 pmM0 anM0 cdM0 ctM0), slM0⟩) (cM0 : PySem.W.codeIn K cdM0 "Move.done" = true) (kM0 : PySem.W.keepIn K (.ref fM0) = true) (nM0 : PySem.W.isFn K (.ref fM0) = true)
    {fM1 : Addr} {ocM1 : Value} {odM1 anM1 : Option Addr} {slM1 : Array (Option Value)} {kVM1 dcM1 pmM1 cdM1 ctM1 : Value}
    (aM1 : PySem.W.findIn K (.ref cl_Curl) "made" = some (some (.ref fM1))) (lM1 : K.lookup fM1 = some ⟨ocM1, odM1, .func (PySem.W.fnOf "made" "Curl.made" (defArgs s_Curl_made) (defBody s_Curl_made) (defScope s_Curl_made) .none kVM1 dcM1 pmM1 anM1 cdM1 ctM1), slM1⟩) (cM1 : PySem.W.codeIn K cdM1 "Curl.made" = true) (kM1 : PySem.W.keepIn K (.ref fM1) = true) (nM1 : PySem.W.isFn K (.ref fM1) = true)
    {fM2 : Addr} {ocM2 : Value} {odM2 anM2 : Option Addr} {slM2 : Array (Option Value)} {kVM2 dcM2 pmM2 cdM2 ctM2 : Value}
    (aM2 : PySem.W.findIn K (.ref cl_Lay) "done" = some (some (.ref fM2))) (lM2 : K.lookup fM2 = some ⟨ocM2, odM2, .func (PySem.W.fnOf "done" "Move.done" (defArgs s_Move_done) (defBody s_Move_done) (defScope s_Move_done) .none kVM2 dcM2 pmM2 anM2 cdM2 ctM2), slM2⟩) (cM2 : PySem.W.codeIn K cdM2 "Move.done" = true) (kM2 : PySem.W.keepIn K (.ref fM2) = true) (nM2 : PySem.W.isFn K (.ref fM2) = true)
    {fM3 : Addr} {ocM3 : Value} {odM3 anM3 : Option Addr} {slM3 : Array (Option Value)} {kVM3 dcM3 pmM3 cdM3 ctM3 : Value}
    (aM3 : PySem.W.findIn K (.ref cl_Lay) "made" = some (some (.ref fM3))) (lM3 : K.lookup fM3 = some ⟨ocM3, odM3, .func (PySem.W.fnOf "made" "Lay.made" (defArgs s_Lay_made) (defBody s_Lay_made) (defScope s_Lay_made) .none kVM3 dcM3 pmM3 anM3 cdM3 ctM3), slM3⟩) (cM3 : PySem.W.codeIn K cdM3 "Lay.made" = true) (kM3 : PySem.W.keepIn K (.ref fM3) = true) (nM3 : PySem.W.isFn K (.ref fM3) = true)
    {fM4 : Addr} {ocM4 : Value} {odM4 anM4 : Option Addr} {slM4 : Array (Option Value)} {kVM4 dcM4 pmM4 cdM4 ctM4 : Value}
    (aM4 : PySem.W.findIn K (.ref cl_Part) "done" = some (some (.ref fM4))) (lM4 : K.lookup fM4 = some ⟨ocM4, odM4, .func (PySem.W.fnOf "done" "Move.done" (defArgs s_Move_done) (defBody s_Move_done) (defScope s_Move_done) .none kVM4 dcM4 pmM4 anM4 cdM4 ctM4), slM4⟩) (cM4 : PySem.W.codeIn K cdM4 "Move.done" = true) (kM4 : PySem.W.keepIn K (.ref fM4) = true) (nM4 : PySem.W.isFn K (.ref fM4) = true)
    {fM5 : Addr} {ocM5 : Value} {odM5 anM5 : Option Addr} {slM5 : Array (Option Value)} {kVM5 dcM5 pmM5 cdM5 ctM5 : Value}
    (aM5 : PySem.W.findIn K (.ref cl_Part) "look" = some (some (.ref fM5))) (lM5 : K.lookup fM5 = some ⟨ocM5, odM5, .func (PySem.W.fnOf "look" "Part.look" (defArgs s_Part_look) (defBody s_Part_look) (defScope s_Part_look) .none kVM5 dcM5 pmM5 anM5 cdM5 ctM5), slM5⟩) (cM5 : PySem.W.codeIn K cdM5 "Part.look" = true) (kM5 : PySem.W.keepIn K (.ref fM5) = true) (nM5 : PySem.W.isFn K (.ref fM5) = true)
    {fM6 : Addr} {ocM6 : Value} {odM6 anM6 : Option Addr} {slM6 : Array (Option Value)} {kVM6 dcM6 pmM6 cdM6 ctM6 : Value}
    (aM6 : PySem.W.findIn K (.ref cl_Part) "made" = some (some (.ref fM6))) (lM6 : K.lookup fM6 = some ⟨ocM6, odM6, .func (PySem.W.fnOf "made" "Part.made" (defArgs s_Part_made) (defBody s_Part_made) (defScope s_Part_made) .none kVM6 dcM6 pmM6 anM6 cdM6 ctM6), slM6⟩) (cM6 : PySem.W.codeIn K cdM6 "Part.made" = true) (kM6 : PySem.W.keepIn K (.ref fM6) = true) (nM6 : PySem.W.isFn K (.ref fM6) = true)
    {fM7 : Addr} {ocM7 : Value} {odM7 anM7 : Option Addr} {slM7 : Array (Option Value)} {kVM7 dcM7 pmM7 cdM7 ctM7 : Value}
    (aM7 : PySem.W.findIn K (.ref cl_Slide) "done" = some (some (.ref fM7))) (lM7 : K.lookup fM7 = some ⟨ocM7, odM7, .func (PySem.W.fnOf "done" "Move.done" (defArgs s_Move_done) (defBody s_Move_done) (defScope s_Move_done) .none kVM7 dcM7 pmM7 anM7 cdM7 ctM7), slM7⟩) (cM7 : PySem.W.codeIn K cdM7 "Move.done" = true) (kM7 : PySem.W.keepIn K (.ref fM7) = true) (nM7 : PySem.W.isFn K (.ref fM7) = true)
    {fM8 : Addr} {ocM8 : Value} {odM8 anM8 : Option Addr} {slM8 : Array (Option Value)} {kVM8 dcM8 pmM8 cdM8 ctM8 : Value}
    (aM8 : PySem.W.findIn K (.ref cl_Slide) "made" = some (some (.ref fM8))) (lM8 : K.lookup fM8 = some ⟨ocM8, odM8, .func (PySem.W.fnOf "made" "Slide.made" (defArgs s_Slide_made) (defBody s_Slide_made) (defScope s_Slide_made) .none kVM8 dcM8 pmM8 anM8 cdM8 ctM8), slM8⟩) (cM8 : PySem.W.codeIn K cdM8 "Slide.made" = true) (kM8 : PySem.W.keepIn K (.ref fM8) = true) (nM8 : PySem.W.isFn K (.ref fM8) = true)
    {fM9 : Addr} {ocM9 : Value} {odM9 anM9 : Option Addr} {slM9 : Array (Option Value)} {kVM9 dcM9 pmM9 cdM9 ctM9 : Value}
    (aM9 : PySem.W.findIn K (.ref cl_Uncurl) "done" = some (some (.ref fM9))) (lM9 : K.lookup fM9 = some ⟨ocM9, odM9, .func (PySem.W.fnOf "done" "Move.done" (defArgs s_Move_done) (defBody s_Move_done) (defScope s_Move_done) .none kVM9 dcM9 pmM9 anM9 cdM9 ctM9), slM9⟩) (cM9 : PySem.W.codeIn K cdM9 "Move.done" = true) (kM9 : PySem.W.keepIn K (.ref fM9) = true) (nM9 : PySem.W.isFn K (.ref fM9) = true)
    {fM10 : Addr} {ocM10 : Value} {odM10 anM10 : Option Addr} {slM10 : Array (Option Value)} {kVM10 dcM10 pmM10 cdM10 ctM10 : Value}
    (aM10 : PySem.W.findIn K (.ref cl_Uncurl) "look" = some (some (.ref fM10))) (lM10 : K.lookup fM10 = some ⟨ocM10, odM10, .func (PySem.W.fnOf "look" "Uncurl.look" (defArgs s_Uncurl_look) (defBody s_Uncurl_look) (defScope s_Uncurl_look) .none kVM10 dcM10 pmM10 anM10 cdM10 ctM10), slM10⟩) (cM10 : PySem.W.codeIn K cdM10 "Uncurl.look" = true) (kM10 : PySem.W.keepIn K (.ref fM10) = true) (nM10 : PySem.W.isFn K (.ref fM10) = true)
    {fM11 : Addr} {ocM11 : Value} {odM11 anM11 : Option Addr} {slM11 : Array (Option Value)} {kVM11 dcM11 pmM11 cdM11 ctM11 : Value}
    (aM11 : PySem.W.findIn K (.ref cl_Uncurl) "made" = some (some (.ref fM11))) (lM11 : K.lookup fM11 = some ⟨ocM11, odM11, .func (PySem.W.fnOf "made" "Uncurl.made" (defArgs s_Uncurl_made) (defBody s_Uncurl_made) (defScope s_Uncurl_made) .none kVM11 dcM11 pmM11 anM11 cdM11 ctM11), slM11⟩) (cM11 : PySem.W.codeIn K cdM11 "Uncurl.made" = true) (kM11 : PySem.W.keepIn K (.ref fM11) = true) (nM11 : PySem.W.isFn K (.ref fM11) = true)
    {fM12 : Addr} {ocM12 : Value} {odM12 anM12 : Option Addr} {slM12 : Array (Option Value)} {kVM12 dcM12 pmM12 cdM12 ctM12 : Value}
    (aM12 : PySem.W.findIn K (.ref cl_Curl) "__init__" = some (some (.ref fM12))) (lM12 : K.lookup fM12 = some ⟨ocM12, odM12, .func (PySem.W.fnOf "__init__" "Curl.__init__" (defArgs s_Curl___init__) (defBody s_Curl___init__) (defScope s_Curl___init__) .none kVM12 dcM12 pmM12 anM12 cdM12 ctM12), slM12⟩) (cM12 : PySem.W.codeIn K cdM12 "Curl.__init__" = true) (kM12 : PySem.W.keepIn K (.ref fM12) = true) (nM12 : PySem.W.isFn K (.ref fM12) = true)
    (y_Curl : PySem.W.makesIn K cl_Curl = true) (x_Curl : PySem.W.keepIn K (.ref cl_Curl) = true)
    {fM13 : Addr} {ocM13 : Value} {odM13 anM13 : Option Addr} {slM13 : Array (Option Value)} {kVM13 dcM13 pmM13 cdM13 ctM13 : Value}
    (aM13 : PySem.W.findIn K (.ref cl_Lay) "__init__" = some (some (.ref fM13))) (lM13 : K.lookup fM13 = some ⟨ocM13, odM13, .func (PySem.W.fnOf "__init__" "Lay.__init__" (defArgs s_Lay___init__) (defBody s_Lay___init__) (defScope s_Lay___init__) .none kVM13 dcM13 pmM13 anM13 cdM13 ctM13), slM13⟩) (cM13 : PySem.W.codeIn K cdM13 "Lay.__init__" = true) (kM13 : PySem.W.keepIn K (.ref fM13) = true) (nM13 : PySem.W.isFn K (.ref fM13) = true)
    (y_Lay : PySem.W.makesIn K cl_Lay = true) (x_Lay : PySem.W.keepIn K (.ref cl_Lay) = true)
    {fM14 : Addr} {ocM14 : Value} {odM14 anM14 : Option Addr} {slM14 : Array (Option Value)} {kVM14 dcM14 pmM14 cdM14 ctM14 : Value}
    (aM14 : PySem.W.findIn K (.ref cl_Part) "__init__" = some (some (.ref fM14))) (lM14 : K.lookup fM14 = some ⟨ocM14, odM14, .func (PySem.W.fnOf "__init__" "Part.__init__" (defArgs s_Part___init__) (defBody s_Part___init__) (defScope s_Part___init__) .none kVM14 dcM14 pmM14 anM14 cdM14 ctM14), slM14⟩) (cM14 : PySem.W.codeIn K cdM14 "Part.__init__" = true) (kM14 : PySem.W.keepIn K (.ref fM14) = true) (nM14 : PySem.W.isFn K (.ref fM14) = true)
    (y_Part : PySem.W.makesIn K cl_Part = true) (x_Part : PySem.W.keepIn K (.ref cl_Part) = true)
    {fM15 : Addr} {ocM15 : Value} {odM15 anM15 : Option Addr} {slM15 : Array (Option Value)} {kVM15 dcM15 pmM15 cdM15 ctM15 : Value}
    (aM15 : PySem.W.findIn K (.ref cl_Slide) "__init__" = some (some (.ref fM15))) (lM15 : K.lookup fM15 = some ⟨ocM15, odM15, .func (PySem.W.fnOf "__init__" "Slide.__init__" (defArgs s_Slide___init__) (defBody s_Slide___init__) (defScope s_Slide___init__) .none kVM15 dcM15 pmM15 anM15 cdM15 ctM15), slM15⟩) (cM15 : PySem.W.codeIn K cdM15 "Slide.__init__" = true) (kM15 : PySem.W.keepIn K (.ref fM15) = true) (nM15 : PySem.W.isFn K (.ref fM15) = true)
    (y_Slide : PySem.W.makesIn K cl_Slide = true) (x_Slide : PySem.W.keepIn K (.ref cl_Slide) = true)
    {fM16 : Addr} {ocM16 : Value} {odM16 anM16 : Option Addr} {slM16 : Array (Option Value)} {kVM16 dcM16 pmM16 cdM16 ctM16 : Value}
    (aM16 : PySem.W.findIn K (.ref cl_Uncurl) "__init__" = some (some (.ref fM16))) (lM16 : K.lookup fM16 = some ⟨ocM16, odM16, .func (PySem.W.fnOf "__init__" "Uncurl.__init__" (defArgs s_Uncurl___init__) (defBody s_Uncurl___init__) (defScope s_Uncurl___init__) .none kVM16 dcM16 pmM16 anM16 cdM16 ctM16), slM16⟩) (cM16 : PySem.W.codeIn K cdM16 "Uncurl.__init__" = true) (kM16 : PySem.W.keepIn K (.ref fM16) = true) (nM16 : PySem.W.isFn K (.ref fM16) = true)
    (y_Uncurl : PySem.W.makesIn K cl_Uncurl = true) (x_Uncurl : PySem.W.keepIn K (.ref cl_Uncurl) = true)
    : ∃ fd : FuncData, (∀ (s : Shared) (v : Value), BindsTo s fd ⟨[v], []⟩ [("_law_script", v)]) ∧ ∀ base : Heap, K.In base → base.Ns mainGlobals mg → FnOk l.prog w K mg base CX0 7 fa fd ["_law_script"] (spF 0 1 (F_law (kOf K))) := by
  have e := hfa.symm.trans (PySem.W.mg_of X G a44)
  cases e
  have T : Txt K mg (kOf K) := ⟨PySem.W.mg_none_of X G z_bool, PySem.W.mg_none_of X G z_enumerate, PySem.W.mg_none_of X G z_int, PySem.W.mg_none_of X G z_isinstance, PySem.W.mg_none_of X G z_len, PySem.W.mg_none_of X G z_list, PySem.W.mg_none_of X G z_min, PySem.W.mg_none_of X G z_range, PySem.W.mg_none_of X G z_sorted, PySem.W.mg_none_of X G z_str, PySem.W.mg_none_of X G z_sum, PySem.W.mg_none_of X G z_tuple, ⟨_, PySem.W.mg_of X G z_BARE⟩, ⟨_, PySem.W.mg_of X G z_MOST_CROSSINGS⟩, ⟨_, PySem.W.mg_of X G z_OVER⟩, ⟨_, PySem.W.mg_of X G z_UNDER⟩, ocl_of X G z_Curl o_Curl, ocl_of X G z_Lay o_Lay, ocl_of X G z_Part o_Part, ocl_of X G z_Slide o_Slide, ocl_of X G z_Uncurl o_Uncurl, by rw [kOf_eq z_Curl]; exact g_Curl_first, by rw [kOf_eq z_Curl]; exact g_Curl_hand, by rw [kOf_eq z_Curl]; exact g_Curl_name, by rw [kOf_eq z_Curl]; exact g_Curl_spot, by rw [kOf_eq z_Lay]; exact g_Lay_hand, by rw [kOf_eq z_Lay]; exact g_Lay_name, by rw [kOf_eq z_Lay]; exact g_Lay_over, by rw [kOf_eq z_Lay]; exact g_Lay_second, by rw [kOf_eq z_Lay]; exact g_Lay_turned, by rw [kOf_eq z_Lay]; exact g_Lay_under, by rw [kOf_eq z_Part]; exact g_Part_name, by rw [kOf_eq z_Part]; exact g_Part_second, by rw [kOf_eq z_Slide]; exact g_Slide_name, by rw [kOf_eq z_Slide]; exact g_Slide_second, by rw [kOf_eq z_Slide]; exact g_Slide_third, by rw [kOf_eq z_Slide]; exact g_Slide_turn, by rw [kOf_eq z_Uncurl]; exact g_Uncurl_name⟩
  refine ⟨PySem.W.fnOf "law" "law" (defArgs s_law) (defBody s_law) (defScope s_law) .none kV44 dc44 pm44 an44 cd44 ct44, fun s v => .of_eq rfl, fun base _ _ => ?_⟩
  have K_Curl := ok_Curl___init__ (P := l.prog) (w := w) (base := base) T (AtM.mk' (by rw [kOf_eq z_Curl]; exact aM12) lM12 cM12 kM12 nM12) (by rw [kOf_eq z_Curl]; exact y_Curl) (by rw [kOf_eq z_Curl]; exact x_Curl)
  have K_Lay := ok_Lay___init__ (P := l.prog) (w := w) (base := base) T (AtM.mk' (by rw [kOf_eq z_Lay]; exact aM13) lM13 cM13 kM13 nM13) (by rw [kOf_eq z_Lay]; exact y_Lay) (by rw [kOf_eq z_Lay]; exact x_Lay)
  have K_Part := ok_Part___init__ (P := l.prog) (w := w) (base := base) T (AtM.mk' (by rw [kOf_eq z_Part]; exact aM14) lM14 cM14 kM14 nM14) (by rw [kOf_eq z_Part]; exact y_Part) (by rw [kOf_eq z_Part]; exact x_Part)
  have K_Slide := ok_Slide___init__ (P := l.prog) (w := w) (base := base) T (AtM.mk' (by rw [kOf_eq z_Slide]; exact aM15) lM15 cM15 kM15 nM15) (by rw [kOf_eq z_Slide]; exact y_Slide) (by rw [kOf_eq z_Slide]; exact x_Slide)
  have K_Uncurl := ok_Uncurl___init__ (P := l.prog) (w := w) (base := base) T (AtM.mk' (by rw [kOf_eq z_Uncurl]; exact aM16) lM16 cM16 kM16 nM16) (by rw [kOf_eq z_Uncurl]; exact y_Uncurl) (by rw [kOf_eq z_Uncurl]; exact x_Uncurl)
  have C__law_next := ok__law_next (P := l.prog) (w := w) (base := base) T (At.mk' X G a0 l0 c0 k0)
  have C__law_hands := ok__law_hands (P := l.prog) (w := w) (base := base) T (At.mk' X G a1 l1 c1 k1)
  have C__law_beside := ok__law_beside (P := l.prog) (w := w) (base := base) T (At.mk' X G a2 l2 c2 k2)
  have C__law_parts := ok__law_parts (P := l.prog) (w := w) (base := base) T (At.mk' X G a3 l3 c3 k3) C__law_beside
  have C__law_pairs_of := ok__law_pairs_of (P := l.prog) (w := w) (base := base) T (At.mk' X G a4 l4 c4 k4) C__law_parts
  have C__law_pairs := ok__law_pairs (P := l.prog) (w := w) (base := base) T (At.mk' X G a5 l5 c5 k5)
  have C__law_slides := ok__law_slides (P := l.prog) (w := w) (base := base) T (At.mk' X G a6 l6 c6 k6) C__law_pairs
  have C__law_slides_of := ok__law_slides_of (P := l.prog) (w := w) (base := base) T (At.mk' X G a7 l7 c7 k7) C__law_beside C__law_slides
  have C__law_lessening := ok__law_lessening (P := l.prog) (w := w) (base := base) T (At.mk' X G a8 l8 c8 k8) C__law_next C__law_hands C__law_pairs_of C__law_slides_of C__law_beside
  have C__law_free := ok__law_free (P := l.prog) (w := w) (base := base) T (At.mk' X G a9 l9 c9 k9)
  have C__law_mixed := ok__law_mixed (P := l.prog) (w := w) (base := base) T (At.mk' X G a10 l10 c10 k10)
  have C__law_names := ok__law_names (P := l.prog) (w := w) (base := base) T (At.mk' X G a11 l11 c11 k11)
  have C__law_crossed := ok__law_crossed (P := l.prog) (w := w) (base := base) T (At.mk' X G a12 l12 c12 k12) C__law_free C__law_names C__law_mixed
  have C__law_cell_at := ok__law_cell_at (P := l.prog) (w := w) (base := base) T (At.mk' X G a13 l13 c13 k13)
  have C__law_block := ok__law_block (P := l.prog) (w := w) (base := base) T (At.mk' X G a14 l14 c14 k14) C__law_mixed
  have C__law_three := ok__law_three (P := l.prog) (w := w) (base := base) T (At.mk' X G a15 l15 c15 k15) C__law_block
  have C__law_spots := ok__law_spots (P := l.prog) (w := w) (base := base) T (At.mk' X G a16 l16 c16 k16)
  have C__law_put := ok__law_put (P := l.prog) (w := w) (base := base) T (At.mk' X G a17 l17 c17 k17)
  have C__law_with_lay := ok__law_with_lay (P := l.prog) (w := w) (base := base) T (At.mk' X G a18 l18 c18 k18) C__law_names C__law_free C__law_mixed C__law_spots C__law_put
  have C__law_whole := ok__law_whole (P := l.prog) (w := w) (base := base) T (At.mk' X G a19 l19 c19 k19)
  have C__law_wholes := ok__law_wholes (P := l.prog) (w := w) (base := base) T (At.mk' X G a20 l20 c20 k20) C__law_whole
  have C__law_tells := ok__law_tells (P := l.prog) (w := w) (base := base) T (At.mk' X G a21 l21 c21 k21) C__law_wholes C__law_whole
  have C__law_listed := ok__law_listed (P := l.prog) (w := w) (base := base) T (At.mk' X G a22 l22 c22 k22) C__law_tells
  have C_seated := ok_seated (P := l.prog) (w := w) (base := base) T (At.mk' X G a23 l23 c23 k23)
  have C_hands_of := ok_hands_of (P := l.prog) (w := w) (base := base) T (At.mk' X G a24 l24 c24 k24)
  have C_names_of := ok_names_of (P := l.prog) (w := w) (base := base) T (At.mk' X G a25 l25 c25 k25) C_hands_of
  have C_look_at_new := ok_look_at_new (P := l.prog) (w := w) (base := base) T (At.mk' X G a26 l26 c26 k26) C_names_of
  have C_put_behind := ok_put_behind (P := l.prog) (w := w) (base := base) T (At.mk' X G a27 l27 c27 k27)
  have C_Curl__made := ok_Curl_made (P := l.prog) (w := w) (base := base) (C := kOf K "Curl") T (AtM.mk' (by rw [kOf_eq z_Curl]; exact aM1) lM1 cM1 kM1 nM1) C_look_at_new C_put_behind
  have C_Lay__made := ok_Lay_made (P := l.prog) (w := w) (base := base) (C := kOf K "Lay") T (AtM.mk' (by rw [kOf_eq z_Lay]; exact aM3) lM3 cM3 kM3 nM3) C_look_at_new C_put_behind
  have C_hand_of := ok_hand_of (P := l.prog) (w := w) (base := base) T (At.mk' X G a28 l28 c28 k28) C_hands_of
  have C_look_at_old := ok_look_at_old (P := l.prog) (w := w) (base := base) T (At.mk' X G a29 l29 c29 k29) C_hand_of
  have C_side_by_side := ok_side_by_side (P := l.prog) (w := w) (base := base) T (At.mk' X G a30 l30 c30 k30)
  have C_parts := ok_parts (P := l.prog) (w := w) (base := base) T (At.mk' X G a31 l31 c31 k31) C_side_by_side
  have C_next_of := ok_next_of (P := l.prog) (w := w) (base := base) T (At.mk' X G a32 l32 c32 k32)
  have C_Part__look := ok_Part_look (P := l.prog) (w := w) (base := base) (C := kOf K "Part") T (AtM.mk' (by rw [kOf_eq z_Part]; exact aM5) lM5 cM5 kM5 nM5) C_look_at_old C_parts C_next_of C_hands_of
  have C_without := ok_without (P := l.prog) (w := w) (base := base) T (At.mk' X G a33 l33 c33 k33)
  have C_Part__made := ok_Part_made (P := l.prog) (w := w) (base := base) (C := kOf K "Part") T (AtM.mk' (by rw [kOf_eq z_Part]; exact aM6) lM6 cM6 kM6 nM6) C_Part__look C_without
  have C_exchanged := ok_exchanged (P := l.prog) (w := w) (base := base) T (At.mk' X G a34 l34 c34 k34) C_hands_of
  have C_right_behind := ok_right_behind (P := l.prog) (w := w) (base := base) T (At.mk' X G a35 l35 c35 k35)
  have C_slides := ok_slides (P := l.prog) (w := w) (base := base) T (At.mk' X G a36 l36 c36 k36) C_right_behind
  have C_Slide__made := ok_Slide_made (P := l.prog) (w := w) (base := base) (C := kOf K "Slide") T (AtM.mk' (by rw [kOf_eq z_Slide]; exact aM8) lM8 cM8 kM8 nM8) C_look_at_old C_slides C_next_of C_hands_of C_exchanged
  have C_uncurls := ok_uncurls (P := l.prog) (w := w) (base := base) T (At.mk' X G a37 l37 c37 k37) C_side_by_side
  have C_Uncurl__look := ok_Uncurl_look (P := l.prog) (w := w) (base := base) (C := kOf K "Uncurl") T (AtM.mk' (by rw [kOf_eq z_Uncurl]; exact aM10) lM10 cM10 kM10 nM10) C_look_at_old C_uncurls C_next_of
  have C_Uncurl__made := ok_Uncurl_made (P := l.prog) (w := w) (base := base) (C := kOf K "Uncurl") T (AtM.mk' (by rw [kOf_eq z_Uncurl]; exact aM11) lM11 cM11 kM11 nM11) C_Uncurl__look C_without
  have C_Curl__done := ok_Move_done (P := l.prog) (w := w) (base := base) (C := kOf K "Curl") T (AtM.mk' (by rw [kOf_eq z_Curl]; exact aM0) lM0 cM0 kM0 nM0) C_Uncurl__made C_Slide__made C_Part__made C_Lay__made C_Curl__made C_seated
  have C_Lay__done := ok_Move_done (P := l.prog) (w := w) (base := base) (C := kOf K "Lay") T (AtM.mk' (by rw [kOf_eq z_Lay]; exact aM2) lM2 cM2 kM2 nM2) C_Uncurl__made C_Slide__made C_Part__made C_Lay__made C_Curl__made C_seated
  have C_Part__done := ok_Move_done (P := l.prog) (w := w) (base := base) (C := kOf K "Part") T (AtM.mk' (by rw [kOf_eq z_Part]; exact aM4) lM4 cM4 kM4 nM4) C_Uncurl__made C_Slide__made C_Part__made C_Lay__made C_Curl__made C_seated
  have C_Slide__done := ok_Move_done (P := l.prog) (w := w) (base := base) (C := kOf K "Slide") T (AtM.mk' (by rw [kOf_eq z_Slide]; exact aM7) lM7 cM7 kM7 nM7) C_Uncurl__made C_Slide__made C_Part__made C_Lay__made C_Curl__made C_seated
  have C_Uncurl__done := ok_Move_done (P := l.prog) (w := w) (base := base) (C := kOf K "Uncurl") T (AtM.mk' (by rw [kOf_eq z_Uncurl]; exact aM9) lM9 cM9 kM9 nM9) C_Uncurl__made C_Slide__made C_Part__made C_Lay__made C_Curl__made C_seated
  have C_uncurls_of := ok_uncurls_of (P := l.prog) (w := w) (base := base) T (At.mk' X G a38 l38 c38 k38) C_uncurls
  have C_parts_of := ok_parts_of (P := l.prog) (w := w) (base := base) T (At.mk' X G a39 l39 c39 k39) C_parts
  have C_slides_on := ok_slides_on (P := l.prog) (w := w) (base := base) T (At.mk' X G a40 l40 c40 k40) C_slides
  have C_slides_of := ok_slides_of (P := l.prog) (w := w) (base := base) T (At.mk' X G a41 l41 c41 k41) C_slides_on
  have C_lessening := ok_lessening (P := l.prog) (w := w) (base := base) T (At.mk' X G a42 l42 c42 k42) C_next_of C_hands_of C_names_of C_uncurls_of C_parts_of C_slides_of
  have C_move_of := ok_move_of (P := l.prog) (w := w) (base := base) T (At.mk' X G a43 l43 c43 k43) K_Uncurl K_Curl K_Part K_Lay K_Slide
  have A : At K mg "law" s_law := At.mk' X G a44 l44 c44 k44
  have F := fun_mk (st := s_law) l44 c44 k44
  refine def_ok (m := (m_law (kOf K))) F sc_law rfl rfl fun cdv A outer s H E hr => ?_
  exact body_law T C__law_cell_at C__law_crossed C__law_names C__law_free C__law_three C__law_with_lay C__law_lessening C__law_listed C_lessening C_move_of C_Uncurl__done C_Slide__done C_Part__done C_Lay__done C_Curl__done hr

end L_k27
open PySem PySem.W PyProof.Rows
set_option maxRecDepth 100000 in
set_option maxHeartbeats 0 in
theorem PySem.Challenge.cw_knotwise_k27_lessening_holds : PySem.Challenge.rw_knotwise_k27_lessening.Holds := by
  w_on; o_law; k_head; (case hw => w_witness2)
  k_fill
  refine Mir.walk_mirX (l := PySem.Challenge.rw_knotwise_k27_lessening) (k := 7) (x := "_law_script") (F := L_k27.F_law) rfl rfl ⟨rfl, by decide, by decide⟩ (fun w h Y => PySem.W.kIn_of Y) (fun w => by first | rfl | decide +kernel) L_k27.law_true ?F
  case F =>
    intro w mg fa h KX G hmg
    refine' L_k27.all_mk KX G hmg ?a0 ?l0 ?c0 ?k0 ?a1 ?l1 ?c1 ?k1 ?a2 ?l2 ?c2 ?k2 ?a3 ?l3 ?c3 ?k3 ?a4 ?l4 ?c4 ?k4 ?a5 ?l5 ?c5 ?k5 ?a6 ?l6 ?c6 ?k6 ?a7 ?l7 ?c7 ?k7 ?a8 ?l8 ?c8 ?k8 ?a9 ?l9 ?c9 ?k9 ?a10 ?l10 ?c10 ?k10 ?a11 ?l11 ?c11 ?k11 ?a12 ?l12 ?c12 ?k12 ?a13 ?l13 ?c13 ?k13 ?a14 ?l14 ?c14 ?k14 ?a15 ?l15 ?c15 ?k15 ?a16 ?l16 ?c16 ?k16 ?a17 ?l17 ?c17 ?k17 ?a18 ?l18 ?c18 ?k18 ?a19 ?l19 ?c19 ?k19 ?a20 ?l20 ?c20 ?k20 ?a21 ?l21 ?c21 ?k21 ?a22 ?l22 ?c22 ?k22 ?a23 ?l23 ?c23 ?k23 ?a24 ?l24 ?c24 ?k24 ?a25 ?l25 ?c25 ?k25 ?a26 ?l26 ?c26 ?k26 ?a27 ?l27 ?c27 ?k27 ?a28 ?l28 ?c28 ?k28 ?a29 ?l29 ?c29 ?k29 ?a30 ?l30 ?c30 ?k30 ?a31 ?l31 ?c31 ?k31 ?a32 ?l32 ?c32 ?k32 ?a33 ?l33 ?c33 ?k33 ?a34 ?l34 ?c34 ?k34 ?a35 ?l35 ?c35 ?k35 ?a36 ?l36 ?c36 ?k36 ?a37 ?l37 ?c37 ?k37 ?a38 ?l38 ?c38 ?k38 ?a39 ?l39 ?c39 ?k39 ?a40 ?l40 ?c40 ?k40 ?a41 ?l41 ?c41 ?k41 ?a42 ?l42 ?c42 ?k42 ?a43 ?l43 ?c43 ?k43 ?a44 ?l44 ?c44 ?k44 ?z_bool ?z_enumerate ?z_int ?z_isinstance ?z_len ?z_list ?z_min ?z_range ?z_sorted ?z_str ?z_sum ?z_tuple ?z_BARE ?z_MOST_CROSSINGS ?z_OVER ?z_UNDER ?z_Curl ?o_Curl ?z_Lay ?o_Lay ?z_Part ?o_Part ?z_Slide ?o_Slide ?z_Uncurl ?o_Uncurl ?g_Curl_first ?g_Curl_hand ?g_Curl_name ?g_Curl_spot ?g_Lay_hand ?g_Lay_name ?g_Lay_over ?g_Lay_second ?g_Lay_turned ?g_Lay_under ?g_Part_name ?g_Part_second ?g_Slide_name ?g_Slide_second ?g_Slide_third ?g_Slide_turn ?g_Uncurl_name ?aM0 ?lM0 ?cM0 ?kM0 ?nM0 ?aM1 ?lM1 ?cM1 ?kM1 ?nM1 ?aM2 ?lM2 ?cM2 ?kM2 ?nM2 ?aM3 ?lM3 ?cM3 ?kM3 ?nM3 ?aM4 ?lM4 ?cM4 ?kM4 ?nM4 ?aM5 ?lM5 ?cM5 ?kM5 ?nM5 ?aM6 ?lM6 ?cM6 ?kM6 ?nM6 ?aM7 ?lM7 ?cM7 ?kM7 ?nM7 ?aM8 ?lM8 ?cM8 ?kM8 ?nM8 ?aM9 ?lM9 ?cM9 ?kM9 ?nM9 ?aM10 ?lM10 ?cM10 ?kM10 ?nM10 ?aM11 ?lM11 ?cM11 ?kM11 ?nM11 ?aM12 ?lM12 ?cM12 ?kM12 ?nM12 ?y_Curl ?x_Curl ?aM13 ?lM13 ?cM13 ?kM13 ?nM13 ?y_Lay ?x_Lay ?aM14 ?lM14 ?cM14 ?kM14 ?nM14 ?y_Part ?x_Part ?aM15 ?lM15 ?cM15 ?kM15 ?nM15 ?y_Slide ?x_Slide ?aM16 ?lM16 ?cM16 ?kM16 ?nM16 ?y_Uncurl ?x_Uncurl
    (case a0 => k_is)
    (case l0 => k_is)
    (case c0 => k_is)
    (case k0 => k_is)
    (case a1 => k_is)
    (case l1 => k_is)
    (case c1 => k_is)
    (case k1 => k_is)
    (case a2 => k_is)
    (case l2 => k_is)
    (case c2 => k_is)
    (case k2 => k_is)
    (case a3 => k_is)
    (case l3 => k_is)
    (case c3 => k_is)
    (case k3 => k_is)
    (case a4 => k_is)
    (case l4 => k_is)
    (case c4 => k_is)
    (case k4 => k_is)
    (case a5 => k_is)
    (case l5 => k_is)
    (case c5 => k_is)
    (case k5 => k_is)
    (case a6 => k_is)
    (case l6 => k_is)
    (case c6 => k_is)
    (case k6 => k_is)
    (case a7 => k_is)
    (case l7 => k_is)
    (case c7 => k_is)
    (case k7 => k_is)
    (case a8 => k_is)
    (case l8 => k_is)
    (case c8 => k_is)
    (case k8 => k_is)
    (case a9 => k_is)
    (case l9 => k_is)
    (case c9 => k_is)
    (case k9 => k_is)
    (case a10 => k_is)
    (case l10 => k_is)
    (case c10 => k_is)
    (case k10 => k_is)
    (case a11 => k_is)
    (case l11 => k_is)
    (case c11 => k_is)
    (case k11 => k_is)
    (case a12 => k_is)
    (case l12 => k_is)
    (case c12 => k_is)
    (case k12 => k_is)
    (case a13 => k_is)
    (case l13 => k_is)
    (case c13 => k_is)
    (case k13 => k_is)
    (case a14 => k_is)
    (case l14 => k_is)
    (case c14 => k_is)
    (case k14 => k_is)
    (case a15 => k_is)
    (case l15 => k_is)
    (case c15 => k_is)
    (case k15 => k_is)
    (case a16 => k_is)
    (case l16 => k_is)
    (case c16 => k_is)
    (case k16 => k_is)
    (case a17 => k_is)
    (case l17 => k_is)
    (case c17 => k_is)
    (case k17 => k_is)
    (case a18 => k_is)
    (case l18 => k_is)
    (case c18 => k_is)
    (case k18 => k_is)
    (case a19 => k_is)
    (case l19 => k_is)
    (case c19 => k_is)
    (case k19 => k_is)
    (case a20 => k_is)
    (case l20 => k_is)
    (case c20 => k_is)
    (case k20 => k_is)
    (case a21 => k_is)
    (case l21 => k_is)
    (case c21 => k_is)
    (case k21 => k_is)
    (case a22 => k_is)
    (case l22 => k_is)
    (case c22 => k_is)
    (case k22 => k_is)
    (case a23 => k_is)
    (case l23 => k_is)
    (case c23 => k_is)
    (case k23 => k_is)
    (case a24 => k_is)
    (case l24 => k_is)
    (case c24 => k_is)
    (case k24 => k_is)
    (case a25 => k_is)
    (case l25 => k_is)
    (case c25 => k_is)
    (case k25 => k_is)
    (case a26 => k_is)
    (case l26 => k_is)
    (case c26 => k_is)
    (case k26 => k_is)
    (case a27 => k_is)
    (case l27 => k_is)
    (case c27 => k_is)
    (case k27 => k_is)
    (case a28 => k_is)
    (case l28 => k_is)
    (case c28 => k_is)
    (case k28 => k_is)
    (case a29 => k_is)
    (case l29 => k_is)
    (case c29 => k_is)
    (case k29 => k_is)
    (case a30 => k_is)
    (case l30 => k_is)
    (case c30 => k_is)
    (case k30 => k_is)
    (case a31 => k_is)
    (case l31 => k_is)
    (case c31 => k_is)
    (case k31 => k_is)
    (case a32 => k_is)
    (case l32 => k_is)
    (case c32 => k_is)
    (case k32 => k_is)
    (case a33 => k_is)
    (case l33 => k_is)
    (case c33 => k_is)
    (case k33 => k_is)
    (case a34 => k_is)
    (case l34 => k_is)
    (case c34 => k_is)
    (case k34 => k_is)
    (case a35 => k_is)
    (case l35 => k_is)
    (case c35 => k_is)
    (case k35 => k_is)
    (case a36 => k_is)
    (case l36 => k_is)
    (case c36 => k_is)
    (case k36 => k_is)
    (case a37 => k_is)
    (case l37 => k_is)
    (case c37 => k_is)
    (case k37 => k_is)
    (case a38 => k_is)
    (case l38 => k_is)
    (case c38 => k_is)
    (case k38 => k_is)
    (case a39 => k_is)
    (case l39 => k_is)
    (case c39 => k_is)
    (case k39 => k_is)
    (case a40 => k_is)
    (case l40 => k_is)
    (case c40 => k_is)
    (case k40 => k_is)
    (case a41 => k_is)
    (case l41 => k_is)
    (case c41 => k_is)
    (case k41 => k_is)
    (case a42 => k_is)
    (case l42 => k_is)
    (case c42 => k_is)
    (case k42 => k_is)
    (case a43 => k_is)
    (case l43 => k_is)
    (case c43 => k_is)
    (case k43 => k_is)
    (case a44 => k_is)
    (case l44 => k_is)
    (case c44 => k_is)
    (case k44 => k_is)
    (case z_bool => k_is)
    (case z_enumerate => k_is)
    (case z_int => k_is)
    (case z_isinstance => k_is)
    (case z_len => k_is)
    (case z_list => k_is)
    (case z_min => k_is)
    (case z_range => k_is)
    (case z_sorted => k_is)
    (case z_str => k_is)
    (case z_sum => k_is)
    (case z_tuple => k_is)
    (case z_BARE => k_is)
    (case z_MOST_CROSSINGS => k_is)
    (case z_OVER => k_is)
    (case z_UNDER => k_is)
    (case z_Curl => k_is)
    (case o_Curl => first | k_is | kernel_rfl)
    (case z_Lay => k_is)
    (case o_Lay => first | k_is | kernel_rfl)
    (case z_Part => k_is)
    (case o_Part => first | k_is | kernel_rfl)
    (case z_Slide => k_is)
    (case o_Slide => first | k_is | kernel_rfl)
    (case z_Uncurl => k_is)
    (case o_Uncurl => first | k_is | kernel_rfl)
    (case g_Curl_first => k_is)
    (case g_Curl_hand => k_is)
    (case g_Curl_name => k_is)
    (case g_Curl_spot => k_is)
    (case g_Lay_hand => k_is)
    (case g_Lay_name => k_is)
    (case g_Lay_over => k_is)
    (case g_Lay_second => k_is)
    (case g_Lay_turned => k_is)
    (case g_Lay_under => k_is)
    (case g_Part_name => k_is)
    (case g_Part_second => k_is)
    (case g_Slide_name => k_is)
    (case g_Slide_second => k_is)
    (case g_Slide_third => k_is)
    (case g_Slide_turn => k_is)
    (case g_Uncurl_name => k_is)
    (case aM0 => k_is)
    (case lM0 => k_is)
    (case cM0 => k_is)
    (case kM0 => k_is)
    (case nM0 => k_is)
    (case aM1 => k_is)
    (case lM1 => k_is)
    (case cM1 => k_is)
    (case kM1 => k_is)
    (case nM1 => k_is)
    (case aM2 => k_is)
    (case lM2 => k_is)
    (case cM2 => k_is)
    (case kM2 => k_is)
    (case nM2 => k_is)
    (case aM3 => k_is)
    (case lM3 => k_is)
    (case cM3 => k_is)
    (case kM3 => k_is)
    (case nM3 => k_is)
    (case aM4 => k_is)
    (case lM4 => k_is)
    (case cM4 => k_is)
    (case kM4 => k_is)
    (case nM4 => k_is)
    (case aM5 => k_is)
    (case lM5 => k_is)
    (case cM5 => k_is)
    (case kM5 => k_is)
    (case nM5 => k_is)
    (case aM6 => k_is)
    (case lM6 => k_is)
    (case cM6 => k_is)
    (case kM6 => k_is)
    (case nM6 => k_is)
    (case aM7 => k_is)
    (case lM7 => k_is)
    (case cM7 => k_is)
    (case kM7 => k_is)
    (case nM7 => k_is)
    (case aM8 => k_is)
    (case lM8 => k_is)
    (case cM8 => k_is)
    (case kM8 => k_is)
    (case nM8 => k_is)
    (case aM9 => k_is)
    (case lM9 => k_is)
    (case cM9 => k_is)
    (case kM9 => k_is)
    (case nM9 => k_is)
    (case aM10 => k_is)
    (case lM10 => k_is)
    (case cM10 => k_is)
    (case kM10 => k_is)
    (case nM10 => k_is)
    (case aM11 => k_is)
    (case lM11 => k_is)
    (case cM11 => k_is)
    (case kM11 => k_is)
    (case nM11 => k_is)
    (case aM12 => k_is)
    (case lM12 => k_is)
    (case cM12 => k_is)
    (case kM12 => k_is)
    (case nM12 => k_is)
    (case y_Curl => k_is)
    (case x_Curl => k_is)
    (case aM13 => k_is)
    (case lM13 => k_is)
    (case cM13 => k_is)
    (case kM13 => k_is)
    (case nM13 => k_is)
    (case y_Lay => k_is)
    (case x_Lay => k_is)
    (case aM14 => k_is)
    (case lM14 => k_is)
    (case cM14 => k_is)
    (case kM14 => k_is)
    (case nM14 => k_is)
    (case y_Part => k_is)
    (case x_Part => k_is)
    (case aM15 => k_is)
    (case lM15 => k_is)
    (case cM15 => k_is)
    (case kM15 => k_is)
    (case nM15 => k_is)
    (case y_Slide => k_is)
    (case x_Slide => k_is)
    (case aM16 => k_is)
    (case lM16 => k_is)
    (case cM16 => k_is)
    (case kM16 => k_is)
    (case nM16 => k_is)
    (case y_Uncurl => k_is)
    (case x_Uncurl => k_is)
