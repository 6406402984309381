import PyProof.Rows.All
import Wide.All
import OpenK.AllK
import Wide.FinOn
import KE.DataFind
import HandS.ForMost
import HandS.Walk
import HandS.Wide
import HandS.Deep
import HandS.IsInst
import HandS.Flow
import HandS.Rev
import HandS.Conv
import HandS.TupLen
import HandS.More
import HandS.SortInts
import HandS.SetFor
import HandS.TupSets
import HandS.SetKeys
import HandS.Records
import HandS.Rev
import HandS.RevTup
import PyProof.ListNew
import KE.SortData
import KE.DataCmp
import KE.DataMinMax
import HandS.More
import KE.KDictWalk
import KE.KDictSum
import HandS.Strs
import HandS.DictEq
import PyProof.P3Eq
import HandS.Keys
import KE.KDictCopyH
import HandS.TupSets
import HandS.Exc
import HandS.ExcOwn
import HandS.WordsExc
import HandS.TryOnly
import KE.KExcIs
import HandS.ExcField
import HandS.ExcInit
import KE.KeyNested
import KE.KDictDisplayH
import HandS.WordsDict
import PyProof.SetRoads
import HandS.Finally
import HandS.Replace
import HandS.Text
import PySem.Challenge.RW_knotwise_k49_whole_linking_kept
set_option maxHeartbeats 0
set_option Elab.async false
set_option linter.all false
set_option maxRecDepth 100000
set_option autoImplicit false
namespace Mir
open PySem PySem.Spec L2

/-! ### data -/
inductive D where
  | non | bl (b : Bool) | int (i : Int) | str (x : Str)
  | lst (xs : List D) | tup (xs : List D)
  | dk (ks : List Key) (ds : List D) | dt (ks : List (List Key)) (ds : List D)
  | ob (c : Str) (C : Addr) (ns : List Str) (ds : List D) | exn (c : Str) (C : Addr) (ns : List Str) (ds : List D)
  | dn (ks : List NestedKey) (ds : List D)
mutual
/-- a key's data -/
def kN : NestedKey → D
  | .none => .non | .num i => .int i | .text x => .str x | .tup ks => .tup (kNs ks)
def kNs : List NestedKey → List D
  | [] => []
  | k :: ks => kN k :: kNs ks
end
/-- an exception's object at a -/
def ExH (cls : Value) (d : Option Addr) (a : Addr) : HO := .ext fun h => ∃ oe vs, h.get? a = some oe ∧ Zc cls d oe ∧ oe.data = .fields vs
/-! a key whose hash is the same in all worlds: no texts in it -/
mutual
def plainK : NestedKey → Bool
  | .none => true | .num _ => true | .text _ => false | .tup ks => plainKs ks
def plainKs : List NestedKey → Bool
  | [] => true
  | k :: ks => plainK k && plainKs ks
end
/-- the dict at a: its keys, their addresses, its values -/
def DnH (a : Addr) (es : List (NestedKey × Addr × V)) : HO := .ext fun h => es.length ≤ sizeLine ∧ (a == sysModules) = false ∧ ∃ (xs : List (NestedKey × Addr × Value)) (o : Obj) (des : Array DictEntry) (ep : Nat),
  Paired (fun (p : NestedKey × Addr × V) (q : NestedKey × Addr × Value) => p.1 = q.1 ∧ p.2.1 = q.2.1 ∧ RelV p.2.2 q.2.2) es xs ∧ h.get? a = some o ∧ o.ExactDict ∧ o.data = .dict des ep ∧ ∀ w : World, des.toList = xs.map (fun x => (⟨x.1.hash w, .ref x.2.1, x.2.2⟩ : DictEntry))
/-- what is asked of such a dict's keys -/
def NkOk (hs ks : List NestedKey) : Prop := hs = ks ∧ ks.Nodup ∧ ∀ k ∈ ks, k.depth ≤ 8 ∧ plainK k = true
/-- what is shared wherever it stands -/
def isIm : HO → Bool
  | .tup _ => true
  | .ins _ _ _ => true
  | _ => false

mutual
def D.imm : D → Bool
  | .non => true | .bl _ => true | .int _ => true | .str _ => true
  | .lst _ => false | .tup xs => immAll xs | .dk _ _ => false | .dt _ _ => false
  | .ob _ _ _ ds => immAll ds | .exn _ _ _ _ => false | .dn _ _ => false
def immAll : List D → Bool
  | [] => true
  | d :: ds => d.imm && immAll ds
end
theorem immAll_iff : ∀ {ds : List D}, immAll ds = true ↔ ∀ d ∈ ds, d.imm = true
  | [] => by simp [immAll]
  | d :: ds => by simp [immAll, immAll_iff (ds := ds)]

/-! ### what a value stands for, over a heap of what is shared -/
mutual
inductive Rp (G : Hp) : V → D → Prop
  | non : Rp G .non .non
  | bl (b : Bool) : Rp G (.bl b) (.bl b)
  | int (i : Int) : Rp G (.int i) (.int i)
  | str (x : Str) : Rp G (.str x) (.str x)
  | lst {a : Addr} {vs : List V} {ds : List D} : G a = some (.lst vs) → RpAll G vs ds → Rp G (.ref a) (.lst ds)
  | tup {a : Addr} {vs : List V} {ds : List D} : G a = some (.tup vs) → RpAll G vs ds → Rp G (.ref a) (.tup ds)
  | dk {a : Addr} {kvs : List (Key × V)} {ks : List Key} {ds : List D} : G a = some (.dK kvs) → kvs.map (·.1) = ks → RpAll G (kvs.map (·.2)) ds → Rp G (.ref a) (.dk ks ds)
  | dt {a : Addr} {kvs : List (List Key × V)} {ks : List (List Key)} {ds : List D} : G a = some (.dT kvs) → kvs.map (·.1) = ks → RpAll G (kvs.map (·.2)) ds → Rp G (.ref a) (.dt ks ds)
  | ob {a C dx : Addr} {kvs : List (Str × V)} {ns : List Str} {ds : List D} {c : Str} : G a = some (.ins C dx kvs) → kvs.map (·.1) = ns → RpAll G (kvs.map (·.2)) ds → Rp G (.ref a) (.ob c C ns ds)
  | exn0 {a C : Addr} {c : Str} : G a = some (ExH (.ref C) none a) → Rp G (.ref a) (.exn c C [] [])
  | exn {a C dx : Addr} {kvs : List (Str × V)} {ns : List Str} {ds : List D} {c : Str} : G a = some (ExH (.ref C) (some dx) a) → G dx = some (.xd kvs) → kvs.map (·.1) = ns → RpAll G (kvs.map (·.2)) ds → Rp G (.ref a) (.exn c C ns ds)
  | dn {a : Addr} {es : List (NestedKey × Addr × V)} {ks : List NestedKey} {ds : List D} : G a = some (DnH a es) → NkOk (es.map (·.1)) ks → RpAll G (es.map fun e => V.ref e.2.1) (kNs ks) → RpAll G (es.map (·.2.2)) ds → Rp G (.ref a) (.dn ks ds)
inductive RpAll (G : Hp) : List V → List D → Prop
  | nil : RpAll G [] []
  | cons {v : V} {vs : List V} {d : D} {ds : List D} : Rp G v d → RpAll G vs ds → RpAll G (v :: vs) (d :: ds)
end

mutual
theorem Rp.mono {G G' : Hp} (k : ∀ a o, G a = some o → G' a = some o) : ∀ {v : V} {d : D}, Rp G v d → Rp G' v d
  | _, _, .non => .non
  | _, _, .bl b => .bl b
  | _, _, .int i => .int i
  | _, _, .str x => .str x
  | _, _, .lst h r => .lst (k _ _ h) (RpAll.mono k r)
  | _, _, .tup h r => .tup (k _ _ h) (RpAll.mono k r)
  | _, _, .dk h e r => .dk (k _ _ h) e (RpAll.mono k r)
  | _, _, .dt h e r => .dt (k _ _ h) e (RpAll.mono k r)
  | _, _, .ob h e r => .ob (k _ _ h) e (RpAll.mono k r)
  | _, _, .exn0 h => .exn0 (k _ _ h)
  | _, _, .exn h1 h2 e r => .exn (k _ _ h1) (k _ _ h2) e (RpAll.mono k r)
  | _, _, .dn h n q r => .dn (k _ _ h) n (RpAll.mono k q) (RpAll.mono k r)
theorem RpAll.mono {G G' : Hp} (k : ∀ a o, G a = some o → G' a = some o) : ∀ {vs : List V} {ds : List D}, RpAll G vs ds → RpAll G' vs ds
  | _, _, .nil => .nil
  | _, _, .cons h r => .cons (Rp.mono k h) (RpAll.mono k r)
end
/-! the tuples are the same in both heaps: what holds no list, no dict stands in both -/
mutual
theorem Rp.immTo {G G' : Hp} (k : ∀ a u, isIm u = true → G a = some u → G' a = some u) : ∀ {v : V} {d : D}, Rp G v d → d.imm = true → Rp G' v d
  | _, _, .non, _ => .non
  | _, _, .bl b, _ => .bl b
  | _, _, .int i, _ => .int i
  | _, _, .str x, _ => .str x
  | _, _, .lst _ _, h => by simp [D.imm] at h
  | _, _, .tup h r, e => .tup (k _ _ rfl h) (RpAll.immTo k r (by simpa [D.imm] using e))
  | _, _, .dk _ _ _, h => by simp [D.imm] at h
  | _, _, .dt _ _ _, h => by simp [D.imm] at h
  | _, _, .ob h e1 r, e => .ob (k _ _ rfl h) e1 (RpAll.immTo k r (by simpa [D.imm] using e))
  | _, _, .exn0 _, h => by simp [D.imm] at h
  | _, _, .exn _ _ _ _, h => by simp [D.imm] at h
  | _, _, .dn _ _ _ _, h => by simp [D.imm] at h
theorem RpAll.immTo {G G' : Hp} (k : ∀ a u, isIm u = true → G a = some u → G' a = some u) : ∀ {vs : List V} {ds : List D}, RpAll G vs ds → immAll ds = true → RpAll G' vs ds
  | _, _, .nil, _ => .nil
  | _, _, .cons h r, e => by
    rw [immAll, Bool.and_eq_true] at e
    exact .cons (Rp.immTo k h e.1) (RpAll.immTo k r e.2)
end
theorem RpAll.length {G : Hp} : ∀ {vs : List V} {ds : List D}, RpAll G vs ds → vs.length = ds.length
  | _, _, .nil => rfl
  | _, _, .cons _ r => by simp [r.length]
theorem RpAll.get {G : Hp} : ∀ {vs : List V} {ds : List D} {i : Nat} {d : D}, RpAll G vs ds → ds[i]? = some d → ∃ v, vs[i]? = some v ∧ Rp G v d
  | _, _, _, _, .nil, e => by simp at e
  | _, _, 0, _, .cons h _, e => by simp at e; subst e; exact ⟨_, rfl, h⟩
  | _, _, i + 1, d, .cons _ r, e => by
    obtain ⟨v, h1, h2⟩ := RpAll.get (i := i) (d := d) r (by simpa using e)
    exact ⟨v, by simpa using h1, h2⟩
theorem RpAll.get' {G : Hp} : ∀ {vs : List V} {ds : List D} {i : Nat} {v : V}, RpAll G vs ds → vs[i]? = some v → ∃ d, ds[i]? = some d ∧ Rp G v d
  | _, _, _, _, .nil, e => by simp at e
  | _, _, 0, _, .cons h _, e => by simp at e; subst e; exact ⟨_, rfl, h⟩
  | _, _, i + 1, d, .cons _ r, e => by
    obtain ⟨v, h1, h2⟩ := RpAll.get' (i := i) (v := d) r (by simpa using e)
    exact ⟨v, by simpa using h1, h2⟩
theorem RpAll.append {G : Hp} : ∀ {vs ws : List V} {ds es : List D}, RpAll G vs ds → RpAll G ws es → RpAll G (vs ++ ws) (ds ++ es)
  | _, _, _, _, .nil, s => s
  | _, _, _, _, .cons h r, s => .cons h (RpAll.append r s)
theorem RpAll.take {G : Hp} : ∀ {vs : List V} {ds : List D} (n : Nat), RpAll G vs ds → RpAll G (vs.take n) (ds.take n)
  | _, _, 0, _ => .nil
  | _, _, _ + 1, .nil => .nil
  | _, _, n + 1, .cons h r => .cons h (RpAll.take n r)
theorem RpAll.drop {G : Hp} : ∀ {vs : List V} {ds : List D} (n : Nat), RpAll G vs ds → RpAll G (vs.drop n) (ds.drop n)
  | _, _, 0, r => r
  | _, _, _ + 1, .nil => .nil
  | _, _, n + 1, .cons _ r => RpAll.drop n r
theorem RpAll.set {G : Hp} : ∀ {vs : List V} {ds : List D} (i : Nat) {v : V} {d : D}, RpAll G vs ds → Rp G v d → RpAll G (vs.set i v) (ds.set i d)
  | _, _, _, _, _, .nil, _ => .nil
  | _, _, 0, _, _, .cons _ r, h => .cons h r
  | _, _, i + 1, _, _, .cons q r, h => .cons q (RpAll.set i r h)

/-- a heap without its locks -/
def unf : HO → HO
  | .frz _ u => u
  | o => o
def view (H : Hp) : Hp := fun a => (H a).map unf
theorem view_rd {H : Hp} {a : Addr} {u : HO} (h : view H a = some u) : Rd H a u := by
  unfold view at h
  cases e : H a with
  | none => rw [e] at h; cases h
  | some o =>
    rw [e] at h
    have q : unf o = u := Option.some.inj h
    cases o with
    | frz ob w => exact .inr ⟨ob, by rw [e]; exact congrArg some (congrArg _ q)⟩
    | _ => exact .inl (by rw [e]; exact congrArg some q)
theorem view_ext {H H' : Hp} (k : ∀ a o, H a = some o → H' a = some o) : ∀ a o, view H a = some o → view H' a = some o := fun a o h => by
  unfold view at h ⊢
  cases e : H a with
  | none => rw [e] at h; cases h
  | some u => rw [e] at h; rw [k a u e]; exact h

/-! ### what is owned: Od k: the lists and dicts of the first k levels stand at the addresses of the footprint and nowhere else -/
mutual
inductive Od (G H : Hp) : Nat → List Addr → V → D → Prop
  | sh {k : Nat} {v : V} {d : D} : (k = 0 ∨ d.imm = true) → Rp G v d → Od G H k [] v d
  | lst {k : Nat} {a : Addr} {vs : List V} {ds : List D} {f : List Addr} : H a = some (.lst vs) → OdAll G H k f vs ds → Od G H (k + 1) (a :: f) (.ref a) (.lst ds)
  | tup {k : Nat} {a : Addr} {vs : List V} {ds : List D} {f : List Addr} : H a = some (.tup vs) → OdAll G H k f vs ds → Od G H (k + 1) f (.ref a) (.tup ds)
  | dk {k : Nat} {a : Addr} {kvs : List (Key × V)} {ks : List Key} {ds : List D} {f : List Addr} : H a = some (.dK kvs) → kvs.map (·.1) = ks → OdAll G H k f (kvs.map (·.2)) ds → Od G H (k + 1) (a :: f) (.ref a) (.dk ks ds)
  | dt {k : Nat} {a : Addr} {kvs : List (List Key × V)} {ks : List (List Key)} {ds : List D} {f : List Addr} : H a = some (.dT kvs) → kvs.map (·.1) = ks → OdAll G H k f (kvs.map (·.2)) ds → Od G H (k + 1) (a :: f) (.ref a) (.dt ks ds)
  | dn {k : Nat} {a : Addr} {es : List (NestedKey × Addr × V)} {ks : List NestedKey} {ds : List D} {f : List Addr} : H a = some (DnH a es) → NkOk (es.map (·.1)) ks → RpAll G (es.map fun e => V.ref e.2.1) (kNs ks) → OdAll G H k f (es.map (·.2.2)) ds → Od G H (k + 1) (a :: f) (.ref a) (.dn ks ds)
inductive OdAll (G H : Hp) : Nat → List Addr → List V → List D → Prop
  | nil {k : Nat} : OdAll G H k [] [] []
  | cons {k : Nat} {f g : List Addr} {v : V} {vs : List V} {d : D} {ds : List D} : Od G H k f v d → OdAll G H k g vs ds → OdAll G H k (f ++ g) (v :: vs) (d :: ds)
end
end Mir

namespace Mir
open PySem PySem.Spec L2

mutual
theorem Od.frame {G G' H H' : Hp} (hG : ∀ a u, G a = some u → G' a = some u) : ∀ {k : Nat} {f : List Addr} {v : V} {d : D}, (∀ a u, H a = some u → (a ∈ f ∨ ∃ xs, u = .tup xs) → H' a = some u) → Od G H k f v d → Od G' H' k f v d
  | _, _, _, _, _, .sh h r => .sh h (r.mono hG)
  | _, _, _, _, hH, .lst h r => .lst (hH _ _ h (.inl List.mem_cons_self)) (OdAll.frame hG (fun a u e q => hH a u e (q.imp (List.mem_cons_of_mem _) id)) r)
  | _, _, _, _, hH, .tup h r => .tup (hH _ _ h (.inr ⟨_, rfl⟩)) (OdAll.frame hG hH r)
  | _, _, _, _, hH, .dk h e r => .dk (hH _ _ h (.inl List.mem_cons_self)) e (OdAll.frame hG (fun a u e q => hH a u e (q.imp (List.mem_cons_of_mem _) id)) r)
  | _, _, _, _, hH, .dt h e r => .dt (hH _ _ h (.inl List.mem_cons_self)) e (OdAll.frame hG (fun a u e q => hH a u e (q.imp (List.mem_cons_of_mem _) id)) r)
  | _, _, _, _, hH, .dn h n q r => .dn (hH _ _ h (.inl List.mem_cons_self)) n (q.mono hG) (OdAll.frame hG (fun a u e q => hH a u e (q.imp (List.mem_cons_of_mem _) id)) r)
theorem OdAll.frame {G G' H H' : Hp} (hG : ∀ a u, G a = some u → G' a = some u) : ∀ {k : Nat} {f : List Addr} {vs : List V} {ds : List D}, (∀ a u, H a = some u → (a ∈ f ∨ ∃ xs, u = .tup xs) → H' a = some u) → OdAll G H k f vs ds → OdAll G' H' k f vs ds
  | _, _, _, _, _, .nil => .nil
  | _, _, _, _, hH, .cons h r => .cons (Od.frame hG (fun a u e q => hH a u e (q.imp (List.mem_append_left _) id)) h) (OdAll.frame hG (fun a u e q => hH a u e (q.imp (List.mem_append_right _) id)) r)
end
mutual
theorem Od.frozen {G G' H : Hp} (hG : ∀ a u, G a = some u → G' a = some u) (hT : ∀ a xs, H a = some (.tup xs) → G' a = some (.tup xs)) : ∀ {k : Nat} {f : List Addr} {v : V} {d : D}, (∀ a u, H a = some u → a ∈ f → G' a = some u) → Od G H k f v d → Rp G' v d
  | _, _, _, _, _, .sh _ r => r.mono hG
  | _, _, _, _, hH, .lst h r => .lst (hH _ _ h List.mem_cons_self) (OdAll.frozen hG hT (fun a u e q => hH a u e (List.mem_cons_of_mem _ q)) r)
  | _, _, _, _, hH, .tup h r => .tup (hT _ _ h) (OdAll.frozen hG hT hH r)
  | _, _, _, _, hH, .dk h e r => .dk (hH _ _ h List.mem_cons_self) e (OdAll.frozen hG hT (fun a u e q => hH a u e (List.mem_cons_of_mem _ q)) r)
  | _, _, _, _, hH, .dt h e r => .dt (hH _ _ h List.mem_cons_self) e (OdAll.frozen hG hT (fun a u e q => hH a u e (List.mem_cons_of_mem _ q)) r)
  | _, _, _, _, hH, .dn h n q r => .dn (hH _ _ h List.mem_cons_self) n (q.mono hG) (OdAll.frozen hG hT (fun a u e q => hH a u e (List.mem_cons_of_mem _ q)) r)
theorem OdAll.frozen {G G' H : Hp} (hG : ∀ a u, G a = some u → G' a = some u) (hT : ∀ a xs, H a = some (.tup xs) → G' a = some (.tup xs)) : ∀ {k : Nat} {f : List Addr} {vs : List V} {ds : List D}, (∀ a u, H a = some u → a ∈ f → G' a = some u) → OdAll G H k f vs ds → RpAll G' vs ds
  | _, _, _, _, _, .nil => .nil
  | _, _, _, _, hH, .cons h r => .cons (Od.frozen hG hT (fun a u e q => hH a u e (List.mem_append_left _ q)) h) (OdAll.frozen hG hT (fun a u e q => hH a u e (List.mem_append_right _ q)) r)
end
/-- what is owned is a list or a dict -/
def isMu : HO → Prop
  | .lst _ => True
  | .dK _ => True
  | .dT _ => True
  | .ext _ => True
  | _ => False
theorem im_mu {u : HO} (h : isIm u = true) (m : isMu u) : False := by cases u <;> first | exact m.elim | cases h
theorem isMu.unf {u : HO} (h : isMu u) : unf u = u := by cases u <;> first | rfl | exact h.elim
mutual
theorem Od.mu {G H : Hp} : ∀ {k : Nat} {f : List Addr} {v : V} {d : D}, Od G H k f v d → ∀ p ∈ f, ∃ u, H p = some u ∧ isMu u
  | _, _, _, _, .sh _ _, p, hp => by cases hp
  | _, _, _, _, .lst h r, p, hp => by
    rcases List.mem_cons.mp hp with rfl | hp
    · exact ⟨_, h, trivial⟩
    · exact OdAll.mu r p hp
  | _, _, _, _, .tup h r, p, hp => OdAll.mu r p hp
  | _, _, _, _, .dk h _ r, p, hp => by
    rcases List.mem_cons.mp hp with rfl | hp
    · exact ⟨_, h, trivial⟩
    · exact OdAll.mu r p hp
  | _, _, _, _, .dt h _ r, p, hp => by
    rcases List.mem_cons.mp hp with rfl | hp
    · exact ⟨_, h, trivial⟩
    · exact OdAll.mu r p hp
  | _, _, _, _, .dn h _ _ r, p, hp => by
    rcases List.mem_cons.mp hp with rfl | hp
    · exact ⟨_, h, trivial⟩
    · exact OdAll.mu r p hp
theorem OdAll.mu {G H : Hp} : ∀ {k : Nat} {f : List Addr} {vs : List V} {ds : List D}, OdAll G H k f vs ds → ∀ p ∈ f, ∃ u, H p = some u ∧ isMu u
  | _, _, _, _, .nil, p, hp => by cases hp
  | _, _, _, _, .cons h r, p, hp => by
    rcases List.mem_append.mp hp with hp | hp
    · exact Od.mu h p hp
    · exact OdAll.mu r p hp
end
/-- a level's zero owns nothing -/
theorem Od.zero {G H : Hp} {f : List Addr} {v : V} {d : D} (h : Od G H 0 f v d) : f = [] ∧ Rp G v d := by
  cases h with
  | sh _ r => exact ⟨rfl, r⟩
theorem Od.of {G H : Hp} {v : V} {d : D} (r : Rp G v d) : Od G H 0 [] v d := .sh (.inl rfl) r
theorem Od.im {G H : Hp} {k : Nat} {v : V} {d : D} (r : Rp G v d) (h : d.imm = true) : Od G H k [] v d := .sh (.inr h) r

abbrev Hold := V × Nat × D
inductive HoldAll (G H : Hp) : List Hold → List Addr → Prop
  | nil : HoldAll G H [] []
  | cons {v : V} {k : Nat} {d : D} {hs : List Hold} {f g : List Addr} : Od G H k f v d → HoldAll G H hs g → HoldAll G H ((v, k, d) :: hs) (f ++ g)
theorem HoldAll.perm {G H : Hp} {hs hs' : List Hold} (p : hs.Perm hs') : ∀ {fp}, HoldAll G H hs fp → ∃ fp', HoldAll G H hs' fp' ∧ fp.Perm fp' := by
  induction p with
  | nil => intro fp h; exact ⟨fp, h, List.Perm.refl _⟩
  | cons x _ ih =>
    intro fp h
    cases h with
    | cons h1 h2 =>
      obtain ⟨g, h3, q⟩ := ih h2
      exact ⟨_, .cons h1 h3, List.Perm.append_left _ q⟩
  | swap x y l =>
    intro fp h
    cases h with
    | cons h1 h2 =>
      cases h2 with
      | @cons _ _ _ _ f2 g2 h2 h3 =>
        refine ⟨_, .cons h2 (.cons h1 h3), ?_⟩
        rw [← List.append_assoc, ← List.append_assoc]
        exact List.Perm.append_right _ List.perm_append_comm
  | trans _ _ ih1 ih2 =>
    intro fp h
    obtain ⟨g, h1, q1⟩ := ih1 h
    obtain ⟨g', h2, q2⟩ := ih2 h1
    exact ⟨g', h2, q1.trans q2⟩
theorem HoldAll.frame {G G' H H' : Hp} (hG : ∀ a u, G a = some u → G' a = some u) : ∀ {hs : List Hold} {fp : List Addr}, (∀ a u, H a = some u → (a ∈ fp ∨ ∃ xs, u = .tup xs) → H' a = some u) → HoldAll G H hs fp → HoldAll G' H' hs fp
  | _, _, _, .nil => .nil
  | _, _, hH, .cons h r => .cons (h.frame hG (fun a u e q => hH a u e (q.imp (List.mem_append_left _) id))) (HoldAll.frame hG (fun a u e q => hH a u e (q.imp (List.mem_append_right _) id)) r)
theorem HoldAll.mu {G H : Hp} : ∀ {hs : List Hold} {fp : List Addr}, HoldAll G H hs fp → ∀ p ∈ fp, ∃ u, H p = some u ∧ isMu u
  | _, _, .nil, p, hp => by cases hp
  | _, _, .cons h r, p, hp => (List.mem_append.mp hp).elim (Od.mu h p) (HoldAll.mu r p)
/-- all of one level -/
def lev (k : Nat) (vs : List V) (ds : List D) : List Hold := List.zipWith (fun v d => (v, k, d)) vs ds
theorem HoldAll.ofAll {G H : Hp} : ∀ {k : Nat} {f : List Addr} {vs : List V} {ds : List D} {hs : List Hold} {g : List Addr}, OdAll G H k f vs ds → HoldAll G H hs g → HoldAll G H (lev k vs ds ++ hs) (f ++ g)
  | _, _, _, _, _, _, .nil, s => s
  | _, _, _, _, _, _, .cons h r, s => by
    rw [List.append_assoc]
    exact HoldAll.cons h (HoldAll.ofAll r s)
theorem HoldAll.toAll {G H : Hp} : ∀ {k : Nat} {vs : List V} {ds : List D} {hs : List Hold} {fp : List Addr}, vs.length = ds.length → HoldAll G H (lev k vs ds ++ hs) fp → ∃ f g, fp = f ++ g ∧ OdAll G H k f vs ds ∧ HoldAll G H hs g
  | _, [], [], _, fp, _, h => ⟨[], fp, rfl, .nil, h⟩
  | _, [], _ :: _, _, _, e, _ => by simp at e
  | _, _ :: _, [], _, _, e, _ => by simp at e
  | k, v :: vs, d :: ds, hs, fp, e, h => by
    have h' : HoldAll G H ((v, k, d) :: (lev k vs ds ++ hs)) fp := h
    cases h' with
    | cons h1 h2 =>
      obtain ⟨f, g, rfl, h3, h4⟩ := HoldAll.toAll (by simpa using e) h2
      exact ⟨_, g, (List.append_assoc _ _ _).symm, .cons h1 h3, h4⟩

theorem set_self {α : Type} : ∀ {l : List α} {i : Nat} {x : α}, l[i]? = some x → l.set i x = l
  | [], _, _, h => by simp at h
  | y :: l, 0, x, h => by simp at h; subst h; rfl
  | y :: l, i + 1, x, h => congrArg (List.cons y) (set_self (l := l) (by simpa using h))
abbrev Env := List (Option (Nat × D))
def slots : Env → St → List Hold
  | some (k, d) :: e, some v :: s => (v, k, d) :: slots e s
  | some _ :: e, none :: s => slots e s
  | none :: e, _ :: s => slots e s
  | _, _ => []
theorem slots_take : ∀ {env : Env} {σ : St} {i : Nat} {k : Nat} {d : D} {v : V}, env[i]? = some (some (k, d)) → σ[i]? = some (some v) → (slots env σ).Perm ((v, k, d) :: slots (env.set i none) σ)
  | some _ :: e, some w :: s, 0, _, _, _, h1, h2 => by
    simp at h1 h2
    subst h1 h2
    exact List.Perm.refl _
  | some (k', d') :: e, some w :: s, i + 1, k, d, v, h1, h2 => by
    have ih := slots_take (env := e) (σ := s) (i := i) (by simpa using h1) (by simpa using h2)
    exact (List.Perm.cons _ ih).trans (List.Perm.swap _ _ _)
  | some _ :: e, none :: s, i + 1, k, d, v, h1, h2 => slots_take (env := e) (σ := s) (i := i) (by simpa using h1) (by simpa using h2)
  | none :: e, x :: s, i + 1, k, d, v, h1, h2 => by
    have ih := slots_take (env := e) (σ := s) (i := i) (by simpa using h1) (by simpa using h2)
    cases x <;> exact ih
  | none :: e, x :: s, 0, k, d, v, h1, h2 => by simp at h1
  | some _ :: e, none :: s, 0, k, d, v, h1, h2 => by simp at h2
  | [], _, _, _, _, _, h1, _ => by simp at h1
  | _ :: _, [], _, _, _, _, _, h2 => by simp at h2
theorem slots_none : ∀ {env : Env} {σ : St} {i : Nat} {x : Option V}, env[i]? = some none → slots env (σ.set i x) = slots env σ
  | none :: e, y :: s, 0, x, h => by cases x <;> cases y <;> rfl
  | some (k, d) :: e, y :: s, i + 1, x, h => by
    have ih := slots_none (env := e) (σ := s) (i := i) (x := x) (by simpa using h)
    cases y with
    | none => exact ih
    | some v => exact congrArg (List.cons _) ih
  | none :: e, y :: s, i + 1, x, h => by
    have ih := slots_none (env := e) (σ := s) (i := i) (x := x) (by simpa using h)
    cases y <;> exact ih
  | some _ :: e, y :: s, 0, x, h => by simp at h
  | [], _, _, _, h => by simp at h
  | some _ :: _, [], _, _, h => rfl
  | none :: _, [], _, _, h => rfl
/-- the slots of an env that is weaker -/
theorem slots_drop : ∀ {env : Env} {σ : St} (i : Nat), ∃ l, (slots env σ).Perm (l ++ slots (env.set i none) σ)
  | [], _, i => ⟨[], by simp⟩
  | x :: e, [], i => ⟨[], by cases i <;> cases x <;> exact List.Perm.refl _⟩
  | none :: e, y :: s, 0 => ⟨[], by cases y <;> exact List.Perm.refl _⟩
  | some (k, d) :: e, none :: s, 0 => ⟨[], List.Perm.refl _⟩
  | some (k, d) :: e, some v :: s, 0 => ⟨[(v, k, d)], List.Perm.refl _⟩
  | none :: e, y :: s, i + 1 => by
    obtain ⟨l, h⟩ := slots_drop (env := e) (σ := s) i
    exact ⟨l, by cases y <;> exact h⟩
  | some (k, d) :: e, none :: s, i + 1 => by
    obtain ⟨l, h⟩ := slots_drop (env := e) (σ := s) i
    exact ⟨l, h⟩
  | some (k, d) :: e, some v :: s, i + 1 => by
    obtain ⟨l, h⟩ := slots_drop (env := e) (σ := s) i
    exact ⟨l, (List.Perm.cons _ h).trans List.perm_middle.symm⟩

/-- where a def began: the heap, what was shared in it -/
structure Bs where
  h : Hp
  g : Hp
instance : CoeFun Bs (fun _ => Hp) := ⟨Bs.h⟩
structure Good (B : Bs) (G H : Hp) : Prop where
  bs : ∀ a o, B a = some o → H a = some o
  g0 : ∀ a, B a ≠ none → G a = B.g a
  gs : ∀ a u, G a = some u → view H a = some u
  gt : ∀ a u, isIm u = true → view H a = some u → G a = some u
  nf : ∀ a u, isIm u = true → view H a = some u → H a = some u
structure EnvOk (B : Bs) (H : Hp) (env : Env) (σ : St) (tm : List Hold) : Prop where
  ex : ∃ G fp, Good B G H ∧ HoldAll G H (slots env σ ++ tm) fp ∧ fp.Nodup ∧ ∀ p ∈ fp, B p = none ∧ G p = none
  len : env.length = σ.length
  has : ∀ (i : Nat) kd, env[i]? = some (some kd) → ∃ v, σ[i]? = some (some v)

section
variable {B : Bs} {H : Hp} {env : Env} {σ : St} {tm tm' : List Hold}
theorem EnvOk.perm (h : EnvOk B H env σ tm) (p : tm.Perm tm') : EnvOk B H env σ tm' := by
  obtain ⟨⟨G, fp, g, hs, nd, hp⟩, h2, h3⟩ := h
  obtain ⟨fp', hs', q⟩ := hs.perm (List.Perm.append_left _ p)
  exact ⟨⟨G, fp', g, hs', q.nodup_iff.mp nd, fun p hm => hp p (q.mem_iff.mpr hm)⟩, h2, h3⟩
/-- what is held no longer -/
theorem EnvOk.less {l : List Hold} (h : EnvOk B H env σ (l ++ tm)) : EnvOk B H env σ tm := by
  obtain ⟨⟨G, fp, g, hs, nd, hp⟩, h2, h3⟩ := h
  obtain ⟨fp', hs', q⟩ := hs.perm (hs' := l ++ (slots env σ ++ tm)) (by
    rw [← List.append_assoc, ← List.append_assoc]
    exact List.Perm.append_right _ List.perm_append_comm)
  have cut : ∀ (l : List Hold) {fp : List Addr}, HoldAll G H (l ++ (slots env σ ++ tm)) fp → ∃ f g, fp = f ++ g ∧ HoldAll G H (slots env σ ++ tm) g := by
    intro l
    induction l with
    | nil => intro fp h; exact ⟨[], fp, rfl, h⟩
    | cons x l ih =>
      intro fp h
      cases h with
      | cons h1 h2 =>
        obtain ⟨f, g, rfl, h3⟩ := ih h2
        exact ⟨_, g, (List.append_assoc _ _ _).symm, h3⟩
  obtain ⟨f, g', rfl, h4⟩ := cut l hs'
  have nd' := q.nodup_iff.mp nd
  exact ⟨⟨G, g', g, h4, (List.nodup_append.mp nd').2.1, fun p hm => hp p (q.mem_iff.mpr (List.mem_append_right _ hm))⟩, h2, h3⟩
theorem EnvOk.tail {x : Hold} (h : EnvOk B H env σ (x :: tm)) : EnvOk B H env σ tm := EnvOk.less (l := [x]) h
theorem EnvOk.swap {x y : Hold} (h : EnvOk B H env σ (x :: y :: tm)) : EnvOk B H env σ (y :: x :: tm) := h.perm (List.Perm.swap _ _ _)
/-- a slot's content goes to the hand -/
theorem EnvOk.move {i k : Nat} {d : D} {v : V} (h : EnvOk B H env σ tm) (e : env[i]? = some (some (k, d))) (s : σ[i]? = some (some v)) : EnvOk B H (env.set i none) σ ((v, k, d) :: tm) := by
  obtain ⟨⟨G, fp, g, hs, nd, hp⟩, h2, h3⟩ := h
  obtain ⟨fp', hs', q⟩ := hs.perm (hs' := slots (env.set i none) σ ++ (v, k, d) :: tm) (((slots_take e s).append_right _).trans List.perm_middle.symm)
  refine ⟨⟨G, fp', g, hs', q.nodup_iff.mp nd, fun p hm => hp p (q.mem_iff.mpr hm)⟩, by simpa using h2, fun j kd e' => ?_⟩
  by_cases ej : i = j
  · subst ej
    rw [List.getElem?_set_self (List.getElem?_eq_some_iff.mp e).1] at e'
    cases e'
  · rw [List.getElem?_set_ne ej] at e'
    exact h3 j kd e'
theorem EnvOk.forget (h : EnvOk B H env σ tm) (i : Nat) : EnvOk B H (env.set i none) σ tm := by
  obtain ⟨l, q⟩ := slots_drop (env := env) (σ := σ) i
  obtain ⟨⟨G, fp, g, hs, nd, hp⟩, h2, h3⟩ := h
  obtain ⟨fp', hs', q'⟩ := hs.perm (hs' := slots (env.set i none) σ ++ (l ++ tm)) (by
    refine (q.append_right _).trans ?_
    rw [← List.append_assoc]
    exact List.Perm.append_right _ List.perm_append_comm)
  have h' : EnvOk B H (env.set i none) σ (l ++ tm) := by
    refine ⟨⟨G, fp', g, hs', q'.nodup_iff.mp nd, fun p hm => hp p (q'.mem_iff.mpr hm)⟩, by simpa using h2, fun j kd e' => ?_⟩
    by_cases ej : i = j
    · subst ej
      rw [List.getElem?_set] at e'
      simp at e'
    · rw [List.getElem?_set_ne ej] at e'
      exact h3 j kd e'
  exact h'.less
def clear : Env → List Nat → Env
  | env, [] => env
  | env, i :: is => clear (env.set i none) is
theorem EnvOk.clear : ∀ {env : Env} (is : List Nat), EnvOk B H env σ tm → EnvOk B H (clear env is) σ tm
  | _, [], h => h
  | _, i :: is, h => EnvOk.clear is (h.forget i)
/-- .. and to a slot -/
theorem EnvOk.store {i k : Nat} {d : D} {v : V} (h : EnvOk B H env σ ((v, k, d) :: tm)) (hi : i < env.length) : EnvOk B H (env.set i (some (k, d))) (σ.set i (some v)) tm := by
  have h1 := h.forget i
  obtain ⟨⟨G, fp, g, hs, nd, hp⟩, h2, h3⟩ := h1
  have e1 : (env.set i none)[i]? = some none := List.getElem?_set_self hi
  have e2 : (env.set i (some (k, d)))[i]? = some (some (k, d)) := List.getElem?_set_self hi
  have hσ : i < σ.length := by rw [← h.len]; exact hi
  have e3 : (σ.set i (some v))[i]? = some (some v) := List.getElem?_set_self hσ
  have q := slots_take e2 e3
  rw [List.set_set, slots_none e1] at q
  obtain ⟨fp', hs', q'⟩ := hs.perm (hs' := slots (env.set i (some (k, d))) (σ.set i (some v)) ++ tm) (List.perm_middle.trans (q.symm.append_right _))
  refine ⟨⟨G, fp', g, hs', q'.nodup_iff.mp nd, fun p hm => hp p (q'.mem_iff.mpr hm)⟩, by simpa using h.len, fun j kd e' => ?_⟩
  by_cases ej : i = j
  · subst ej
    exact ⟨v, e3⟩
  · rw [List.getElem?_set_ne ej] at e'
    rw [List.getElem?_set_ne ej]
    exact h.has j kd e'
/-- σ may change where env knows nothing -/
theorem EnvOk.blank {i : Nat} {x : Option V} (h : EnvOk B H env σ tm) (e : env[i]? = some none) : EnvOk B H env (σ.set i x) tm := by
  obtain ⟨⟨G, fp, g, hs, nd, hp⟩, h2, h3⟩ := h
  refine ⟨⟨G, fp, g, by rw [slots_none e]; exact hs, nd, hp⟩, by simpa using h2, fun j kd e' => ?_⟩
  by_cases ej : i = j
  · subst ej
    rw [e] at e'
    cases e'
  · rw [List.getElem?_set_ne ej]
    exact h3 j kd e'
theorem Good.rp {G : Hp} (g : Good B G H) {k : Nat} {f : List Addr} {v : V} {d : D} (h : Od G H k f v d) (hf : ∀ p ∈ f, ∃ u, H p = some u ∧ isMu u) : Rp (view H) v d := by
  refine h.frozen g.gs (fun a xs e => by unfold view; rw [e]; rfl) fun a u e m => ?_
  obtain ⟨u', e', m'⟩ := hf a m
  rw [e] at e'
  cases e'
  unfold view
  rw [e]
  exact congrArg some m'.unf
/-- the first thing in the hand may be read -/
theorem EnvOk.rp {k : Nat} {d : D} {v : V} (h : EnvOk B H env σ ((v, k, d) :: tm)) : Rp (view H) v d := by
  obtain ⟨⟨G, fp, g, hs, nd, hp⟩, h2, h3⟩ := h
  obtain ⟨fp', hs', q⟩ := hs.perm (hs' := (v, k, d) :: (slots env σ ++ tm)) List.perm_middle
  cases hs' with
  | cons h1 _ => exact g.rp h1 h1.mu
theorem EnvOk.slot {i k : Nat} {d : D} (h : EnvOk B H env σ tm) (e : env[i]? = some (some (k, d))) : ∃ v, σ[i]? = some (some v) ∧ Rp (view H) v d := by
  obtain ⟨v, hv⟩ := h.has i _ e
  exact ⟨v, hv, (h.move e hv).rp⟩
/-- what is shared may be held twice -/
theorem EnvOk.dup {d : D} {v : V} (h : EnvOk B H env σ ((v, 0, d) :: tm)) : EnvOk B H env σ ((v, 0, d) :: (v, 0, d) :: tm) := by
  obtain ⟨⟨G, fp, g, hs, nd, hp⟩, h2, h3⟩ := h
  obtain ⟨fp', hs', q⟩ := hs.perm (hs' := (v, 0, d) :: (slots env σ ++ tm)) List.perm_middle
  cases hs' with
  | @cons _ _ _ _ f1 g1 h1 h4 =>
    obtain ⟨rfl, r⟩ := h1.zero
    obtain ⟨fp2, hs2, q2⟩ := (HoldAll.cons (Od.of (H := H) r) (HoldAll.cons h1 h4)).perm (hs' := slots env σ ++ (v, 0, d) :: (v, 0, d) :: tm) ((List.Perm.cons _ List.perm_middle.symm).trans List.perm_middle.symm)
    simp only [List.nil_append] at q q2
    have q3 := q.trans q2
    exact ⟨⟨G, fp2, g, hs2, q3.nodup_iff.mp nd, fun p hm => hp p (q3.mem_iff.mpr hm)⟩, h2, h3⟩
/-- a thing that may be read and holds no list and no dict -/
theorem EnvOk.imm {k : Nat} {d : D} {v : V} (h : EnvOk B H env σ tm) (r : Rp (view H) v d) (hd : d.imm = true) : EnvOk B H env σ ((v, k, d) :: tm) := by
  obtain ⟨⟨G, fp, g, hs, nd, hp⟩, h2, h3⟩ := h
  have r' : Rp G v d := r.immTo g.gt hd
  obtain ⟨fp2, hs2, q2⟩ := (HoldAll.cons (Od.im (H := H) (k := k) r' hd) hs).perm (hs' := slots env σ ++ (v, k, d) :: tm) List.perm_middle.symm
  simp only [List.nil_append] at q2
  exact ⟨⟨G, fp2, g, hs2, q2.nodup_iff.mp nd, fun p hm => hp p (q2.mem_iff.mpr hm)⟩, h2, h3⟩
/-- a slot that is shared -/
theorem EnvOk.slot0 {i : Nat} {d : D} (h : EnvOk B H env σ tm) (e : env[i]? = some (some (0, d))) : ∃ v, σ[i]? = some (some v) ∧ EnvOk B H env σ ((v, 0, d) :: tm) := by
  obtain ⟨v, hv⟩ := h.has i _ e
  refine ⟨v, hv, ?_⟩
  have hi : i < env.length := (List.getElem?_eq_some_iff.mp e).1
  have h1 := ((h.move e hv).dup).store (i := i) (by simpa using hi)
  have e1 : (env.set i none).set i (some (0, d)) = env := by
    rw [List.set_set]
    exact set_self e
  have e2 : σ.set i (some v) = σ := set_self hv
  rw [e1, e2] at h1
  exact h1
/-- G and H grow, what is owned stays -/
theorem EnvOk.grow {H' : Hp} (h : EnvOk B H env σ tm) (hH : ∀ a u, H a = some u → H' a = some u) (hB : ∀ a, H a = none → B a = none)
    (more : List Hold) (mk : ∀ G, Good B G H → ∃ G' f, (∀ a u, G a = some u → G' a = some u) ∧ (∀ a, H a ≠ none → G' a = G a) ∧ Good B G' H' ∧ HoldAll G' H' more f ∧ f.Nodup ∧ ∀ p ∈ f, H p = none ∧ G' p = none) : EnvOk B H' env σ (more ++ tm) := by
  obtain ⟨⟨G, fp, g, hs, nd, hp⟩, h2, h3⟩ := h
  obtain ⟨G', f, g1, g2, g3, g4, g5, g6⟩ := mk G g
  have hs' : HoldAll G' H' (slots env σ ++ tm) fp := hs.frame g1 fun a u e _ => hH a u e
  have app : ∀ {l : List Hold} {f : List Addr} {m : List Hold} {g : List Addr}, HoldAll G' H' l f → HoldAll G' H' m g → HoldAll G' H' (l ++ m) (f ++ g) := by
    intro l
    induction l with
    | nil => intro f m g a b; cases a; exact b
    | cons x l ih =>
      intro f m g a b
      cases a with
      | cons a1 a2 =>
        rw [List.append_assoc]
        exact .cons a1 (ih a2 b)
  obtain ⟨fp2, hs2, q2⟩ := (app g4 hs').perm (hs' := slots env σ ++ (more ++ tm)) (by
    rw [← List.append_assoc, ← List.append_assoc]
    exact List.Perm.append_right _ List.perm_append_comm)
  have mu := hs.mu
  have nd2 : (f ++ fp).Nodup := List.nodup_append.mpr ⟨g5, nd, fun a ha b hb e => by
    subst e
    obtain ⟨u, e, _⟩ := mu a hb
    rw [(g6 a ha).1] at e
    cases e⟩
  refine ⟨⟨G', fp2, g3, hs2, q2.nodup_iff.mp nd2, fun p hm => ?_⟩, h2, h3⟩
  rcases List.mem_append.mp (q2.mem_iff.mpr hm) with hm | hm
  · exact ⟨hB p (g6 p hm).1, (g6 p hm).2⟩
  · obtain ⟨u, e, _⟩ := mu p hm
    exact ⟨(hp p hm).1, by rw [g2 p (by rw [e]; simp)]; exact (hp p hm).2⟩
theorem EnvOk.bnone (h : EnvOk B H env σ tm) : ∀ a, H a = none → B a = none := fun a e => by
  obtain ⟨⟨G, fp, g, _⟩, _⟩ := h
  cases q : B a with
  | none => rfl
  | some o => rw [g.bs a o q] at e; cases e
theorem view_none {H : Hp} {a : Addr} (h : H a = none) : view H a = none := by unfold view; rw [h]; rfl
theorem view_upd {H : Hp} {p : Addr} {o : HO} : view (upd H p o) = upd (view H) p (unf o) := by
  funext a
  unfold view upd
  by_cases e : a = p
  · rw [if_pos e, if_pos e]; rfl
  · rw [if_neg e, if_neg e]
theorem up_keep {H : Hp} {p : Addr} {o : HO} (hp : H p = none) : ∀ a u, H a = some u → upd H p o a = some u := fun a u e => by
  rw [upd_ne (ne_of_none e hp)]; exact e
theorem Good.gnone {G : Hp} (g : Good B G H) {p : Addr} (hp : H p = none) : G p = none := by
  cases q : G p with
  | none => rfl
  | some u => rw [← g.gs p u q, view_none hp] 
/-- a new list or dict at p; its items go with it -/
theorem Good.newMu {G : Hp} (g : Good B G H) {p : Addr} {o : HO} (hp : H p = none) (hu : unf o = o) (ho : isIm o = false) : Good B G (upd H p o) where
  g0 := g.g0
  bs := fun a u e => up_keep hp a u (g.bs a u e)
  gs := fun a u e => by
    rw [view_upd, hu]
    exact up_keep (view_none hp) a u (g.gs a u e)
  gt := fun a xs im e => by
    rw [view_upd, hu] at e
    by_cases q : a = p
    · subst q
      rw [upd_same] at e
      rw [Option.some.inj e, im] at ho; cases ho
    · rw [upd_ne q] at e
      exact g.gt a xs im e
  nf := fun a xs im e => by
    rw [view_upd, hu] at e
    by_cases q : a = p
    · subst q
      rw [upd_same] at e
      rw [Option.some.inj e, im] at ho; cases ho
    · rw [upd_ne q] at e ⊢
      exact g.nf a xs im e
theorem Good.newSh {G : Hp} (g : Good B G H) {p : Addr} {o : HO} (hp : H p = none) (hu : unf o = o) : Good B (upd G p o) (upd H p o) where
  g0 := fun a e => by
    have : a ≠ p := fun z => by
      subst z
      cases q : B a with
      | none => exact e q
      | some u => rw [g.bs a u q] at hp; cases hp
    rw [upd_ne this]
    exact g.g0 a e
  bs := fun a u e => up_keep hp a u (g.bs a u e)
  gs := fun a u e => by
    rw [view_upd, hu]
    by_cases q : a = p
    · subst q
      rw [upd_same] at e ⊢
      exact e
    · rw [upd_ne q] at e ⊢
      exact g.gs a u e
  gt := fun a xs im e => by
    rw [view_upd, hu] at e
    by_cases q : a = p
    · subst q
      rw [upd_same] at e ⊢
      exact e
    · rw [upd_ne q] at e ⊢
      exact g.gt a xs im e
  nf := fun a xs im e => by
    rw [view_upd, hu] at e
    by_cases q : a = p
    · subst q
      rw [upd_same] at e ⊢
      exact e
    · rw [upd_ne q] at e ⊢
      exact g.nf a xs im e
theorem EnvOk.tupAt {a : Addr} {xs : List V} (h : EnvOk B H env σ tm) (e : view H a = some (.tup xs)) : H a = some (.tup xs) := by
  obtain ⟨⟨G, fp, g, _⟩, _⟩ := h
  exact g.nf a _ rfl e
theorem EnvOk.imAt {a : Addr} {u : HO} (h : EnvOk B H env σ tm) (im : isIm u = true) (e : view H a = some u) : H a = some u := by
  obtain ⟨⟨G, fp, g, _⟩, _⟩ := h
  exact g.nf a _ im e
/-- the hand's first things, taken apart -/
theorem EnvOk.apart {l : List Hold} (h : EnvOk B H env σ (l ++ tm)) : ∃ G f g, Good B G H ∧ HoldAll G H l f ∧ HoldAll G H (slots env σ ++ tm) g ∧ (f ++ g).Nodup ∧ (∀ p ∈ f ++ g, B p = none ∧ G p = none) := by
  obtain ⟨⟨G, fp, g, hs, nd, hp⟩, h2, h3⟩ := h
  obtain ⟨fp', hs', q⟩ := hs.perm (hs' := l ++ (slots env σ ++ tm)) (by
    rw [← List.append_assoc, ← List.append_assoc]
    exact List.Perm.append_right _ List.perm_append_comm)
  have cut : ∀ (l : List Hold) {fp : List Addr}, HoldAll G H (l ++ (slots env σ ++ tm)) fp → ∃ f g, fp = f ++ g ∧ HoldAll G H l f ∧ HoldAll G H (slots env σ ++ tm) g := by
    intro l
    induction l with
    | nil => intro fp h; exact ⟨[], fp, rfl, .nil, h⟩
    | cons x l ih =>
      intro fp h
      cases h with
      | cons h1 h2 =>
        obtain ⟨f, g, rfl, h3, h4⟩ := ih h2
        exact ⟨_, g, (List.append_assoc _ _ _).symm, .cons h1 h3, h4⟩
  obtain ⟨f, g', rfl, h4, h5⟩ := cut l hs'
  exact ⟨G, f, g', g, h4, h5, q.nodup_iff.mp nd, fun p hm => hp p (q.mem_iff.mpr hm)⟩
/-- .. and put together -/
theorem EnvOk.join {G : Hp} {l : List Hold} {f g : List Addr} (h2 : env.length = σ.length) (h3 : ∀ (i : Nat) kd, env[i]? = some (some kd) → ∃ v, σ[i]? = some (some v)) (hg : Good B G H) (hl : HoldAll G H l f) (hr : HoldAll G H (slots env σ ++ tm) g) (nd : (f ++ g).Nodup) (hp : ∀ p ∈ f ++ g, B p = none ∧ G p = none) : EnvOk B H env σ (l ++ tm) := by
  have app : ∀ {l : List Hold} {f : List Addr} {m : List Hold} {g : List Addr}, HoldAll G H l f → HoldAll G H m g → HoldAll G H (l ++ m) (f ++ g) := by
    intro l
    induction l with
    | nil => intro f m g a b; cases a; exact b
    | cons x l ih =>
      intro f m g a b
      cases a with
      | cons a1 a2 =>
        rw [List.append_assoc]
        exact .cons a1 (ih a2 b)
  obtain ⟨fp2, hs2, q2⟩ := (app hl hr).perm (hs' := slots env σ ++ (l ++ tm)) (by
    rw [← List.append_assoc, ← List.append_assoc]
    exact List.Perm.append_right _ List.perm_append_comm)
  exact ⟨⟨G, fp2, hg, hs2, q2.nodup_iff.mp nd, fun p hm => hp p (q2.mem_iff.mpr hm)⟩, h2, h3⟩
/-- what is owned becomes shared -/
theorem EnvOk.freeze {k : Nat} {d : D} {v : V} (h : EnvOk B H env σ ((v, k, d) :: tm)) : EnvOk B H env σ ((v, 0, d) :: tm) := by
  have h2 := h.len
  have h3 := h.has
  obtain ⟨G, f, g, hg, hl, hr, nd, hp⟩ := EnvOk.apart (l := [(v, k, d)]) h
  cases hl with
  | @cons _ _ _ _ f1 g1 h1 hn =>
    cases hn
    rw [List.append_nil] at nd hp
    have m1 := h1.mu
    obtain ⟨nd1, nd2, nd3⟩ := List.nodup_append.mp nd
    let G' : Hp := fun a => if a ∈ f1 then H a else G a
    have out : ∀ a, a ∉ f1 → G' a = G a := fun a ha => if_neg ha
    have inn : ∀ a, a ∈ f1 → G' a = H a := fun a ha => if_pos ha
    have e1 : ∀ a u, G a = some u → G' a = some u := fun a u e => by
      by_cases q : a ∈ f1
      · rw [(hp a (List.mem_append_left _ q)).2] at e; cases e
      · rw [out a q]; exact e
    have hg' : Good B G' H := ⟨hg.bs, fun a e => by
      rw [out a fun q => e (hp a (List.mem_append_left _ q)).1]
      exact hg.g0 a e, fun a u e => by
      by_cases q : a ∈ f1
      · rw [inn a q] at e
        obtain ⟨u', e', m'⟩ := m1 a q
        rw [e] at e'; cases e'
        unfold view; rw [e]; exact congrArg some m'.unf
      · rw [out a q] at e; exact hg.gs a u e, fun a xs im e => by
      by_cases q : a ∈ f1
      · obtain ⟨u', e', m'⟩ := m1 a q
        unfold view at e; rw [e'] at e
        have e2 : unf u' = xs := Option.some.inj e
        rw [m'.unf] at e2
        rw [e2] at m'
        exact (im_mu im m').elim
      · rw [out a q]; exact hg.gt a xs im e, hg.nf⟩
    have r : Rp G' v d := h1.frozen e1 (fun a xs e => hg'.gt a _ rfl (by unfold view; rw [e]; rfl)) fun a u e m => by rw [inn a m]; exact e
    refine EnvOk.join (l := [(v, 0, d)]) (G := G') (f := []) (g := g) h2 h3 hg' (HoldAll.cons (f := []) (g := []) (.of r) .nil) (hr.frame e1 fun _ _ e _ => e) nd2 fun p hm => ?_
    have hm' : p ∈ g := hm
    refine ⟨(hp p (List.mem_append_right _ hm')).1, ?_⟩
    rw [out p fun q => nd3 p q p hm' rfl]
    exact (hp p (List.mem_append_right _ hm')).2
end
end Mir

namespace Mir
open PySem PySem.Spec L2

section
variable {B : Bs} {H : Hp} {env : Env} {σ : St} {tm tm' : List Hold} {k : Nat} {vs : List V} {ds : List D} {p : Addr}
theorem EnvOk.newMu {o : HO} {d : D} (h : EnvOk B H env σ (lev k vs ds ++ tm)) (hl : vs.length = ds.length) (hp : H p = none) (hu : unf o = o) (ho : isIm o = false)
    (mk : ∀ (G H' : Hp) (f : List Addr), Good B G H → H' p = some o → OdAll G H' k f vs ds → Od G H' (k + 1) (p :: f) (.ref p) d) : EnvOk B (upd H p o) env σ ((.ref p, k + 1, d) :: tm) := by
  have h2 := h.len
  have h3 := h.has
  have hb := h.bnone p hp
  obtain ⟨G, f, g, hg, hf, hr, nd, hq⟩ := h.apart
  have hfm := hf.mu
  have hrm := hr.mu
  have hf' : HoldAll G H (lev k vs ds ++ []) f := by rw [List.append_nil]; exact hf
  obtain ⟨f1, f2, e, ha, hn⟩ := HoldAll.toAll hl hf'
  cases hn
  rw [List.append_nil] at e
  subst e
  have hH : ∀ a u, H a = some u → upd H p o a = some u := up_keep hp
  have hgp := hg.gnone hp
  refine EnvOk.join (l := [(.ref p, k + 1, d)]) (G := G) (f := (p :: f) ++ []) (g := g) h2 h3 (hg.newMu hp hu ho) (.cons (mk _ _ _ hg upd_same (ha.frame (fun _ _ e => e) fun a u e _ => hH a u e)) .nil) (hr.frame (fun _ _ e => e) fun a u e _ => hH a u e) ?_ ?_
  · rw [List.append_nil, List.cons_append]
    refine List.nodup_cons.mpr ⟨fun m => ?_, nd⟩
    rcases List.mem_append.mp m with m | m
    · obtain ⟨u, e, _⟩ := hfm p m; rw [hp] at e; cases e
    · obtain ⟨u, e, _⟩ := hrm p m; rw [hp] at e; cases e
  · rw [List.append_nil, List.cons_append]
    intro q m
    rcases List.mem_cons.mp m with rfl | m
    · exact ⟨hb, hgp⟩
    · exact hq q m
theorem EnvOk.newLst (h : EnvOk B H env σ (lev k vs ds ++ tm)) (hl : vs.length = ds.length) (hp : H p = none) : EnvOk B (upd H p (.lst vs)) env σ ((.ref p, k + 1, .lst ds) :: tm) :=
  h.newMu hl hp rfl rfl fun _ _ _ _ e r => .lst e r
theorem EnvOk.newDk {kvs : List (Key × V)} {ks : List Key} (h : EnvOk B H env σ (lev k (kvs.map (·.2)) ds ++ tm)) (hl : kvs.length = ds.length) (hk : kvs.map (·.1) = ks) (hp : H p = none) : EnvOk B (upd H p (.dK kvs)) env σ ((.ref p, k + 1, .dk ks ds) :: tm) :=
  h.newMu (by simpa using hl) hp rfl rfl fun _ _ _ _ e r => .dk e hk r
theorem EnvOk.newDt {kvs : List (List Key × V)} {ks : List (List Key)} (h : EnvOk B H env σ (lev k (kvs.map (·.2)) ds ++ tm)) (hl : kvs.length = ds.length) (hk : kvs.map (·.1) = ks) (hp : H p = none) : EnvOk B (upd H p (.dT kvs)) env σ ((.ref p, k + 1, .dt ks ds) :: tm) :=
  h.newMu (by simpa using hl) hp rfl rfl fun _ _ _ _ e r => .dt e hk r
mutual
theorem kN_imm : ∀ k : NestedKey, (kN k).imm = true
  | .none => rfl | .num _ => rfl | .text _ => rfl
  | .tup ks => by rw [kN, D.imm]; exact kNs_imm ks
theorem kNs_imm : ∀ ks : List NestedKey, immAll (kNs ks) = true
  | [] => rfl
  | k :: ks => by rw [kNs, immAll, kN_imm k, kNs_imm ks]; rfl
end
theorem EnvOk.newTup (h : EnvOk B H env σ (lev k vs ds ++ tm)) (hl : vs.length = ds.length) (hp : H p = none) : EnvOk B (upd H p (.tup vs)) env σ ((.ref p, k + 1, .tup ds) :: tm) := by
  have h2 := h.len
  have h3 := h.has
  obtain ⟨G, f, g, hg, hf, hr, nd, hq⟩ := h.apart
  have hfm := hf.mu
  have hrm := hr.mu
  have hf' : HoldAll G H (lev k vs ds ++ []) f := by rw [List.append_nil]; exact hf
  obtain ⟨f1, f2, e, ha, hn⟩ := HoldAll.toAll hl hf'
  cases hn
  rw [List.append_nil] at e
  subst e
  have hH : ∀ a u, H a = some u → upd H p (.tup vs) a = some u := up_keep hp
  have hgp := hg.gnone hp
  have hG : ∀ a u, G a = some u → upd G p (.tup vs) a = some u := up_keep hgp
  refine EnvOk.join (l := [(.ref p, k + 1, .tup ds)]) (G := upd G p (.tup vs)) (f := f ++ []) (g := g) h2 h3 (hg.newSh hp rfl) (.cons (.tup upd_same (ha.frame hG fun a u e _ => hH a u e)) .nil) (hr.frame hG fun a u e _ => hH a u e) ?_ ?_
  · rw [List.append_nil]; exact nd
  · rw [List.append_nil]
    intro q m
    refine ⟨(hq q m).1, ?_⟩
    have qp : q ≠ p := fun z => by
      subst z
      rcases List.mem_append.mp m with m | m
      · obtain ⟨u, e, _⟩ := hfm q m; rw [hp] at e; cases e
      · obtain ⟨u, e, _⟩ := hrm q m; rw [hp] at e; cases e
    rw [upd_ne qp]
    exact (hq q m).2
/-- the heap without p -/
def del (H : Hp) (p : Addr) : Hp := fun a => if a = p then none else H a
theorem del_self {H : Hp} {p : Addr} : del H p p = none := if_pos rfl
theorem del_ne {H : Hp} {p a : Addr} (h : a ≠ p) : del H p a = H a := if_neg h
theorem upd_del {H : Hp} {p : Addr} {o : HO} : upd (del H p) p o = upd H p o := by
  funext a
  unfold upd
  by_cases e : a = p
  · rw [if_pos e, if_pos e]
  · rw [if_neg e, if_neg e]; exact del_ne e
/-- what is owned is taken out of the heap, its items go to the hand -/
theorem EnvOk.takeMu {d : D} (h : EnvOk B H env σ ((.ref p, k + 1, d) :: tm)) (im : d.imm = false) (nt : ∀ xs, d ≠ .tup xs) (nn : ∀ ks ds, d ≠ .dn ks ds) :
    ∃ o vs ds, H p = some o ∧ vs.length = ds.length ∧ ((o = .lst vs ∧ d = .lst ds) ∨ (∃ kvs, o = .dK kvs ∧ d = .dk (kvs.map (·.1)) ds ∧ vs = kvs.map (·.2)) ∨ (∃ kvs, o = .dT kvs ∧ d = .dt (kvs.map (·.1)) ds ∧ vs = kvs.map (·.2))) ∧ EnvOk B (del H p) env σ (lev k vs ds ++ tm) := by
  have h2 := h.len
  have h3 := h.has
  obtain ⟨G, f, g, hg, hf, hr, nd, hq⟩ := EnvOk.apart (l := [(.ref p, k + 1, d)]) h
  have fin : ∀ {f1 : List Addr} {vs : List V} {ds : List D} {o : HO}, f = p :: f1 → H p = some o → (∀ xs, o ≠ .tup xs) → OdAll G H k f1 vs ds → EnvOk B (del H p) env σ (lev k vs ds ++ tm) := fun {f1 vs ds o} ef hp hnt ha => by
    subst ef
    rw [List.cons_append] at nd hq
    obtain ⟨nd1, nd2⟩ := List.nodup_cons.mp nd
    have hH : ∀ {l : List Addr}, p ∉ l → ∀ a u, H a = some u → (a ∈ l ∨ ∃ xs, u = .tup xs) → del H p a = some u := fun {l} hl a u e q => by
      have : a ≠ p := fun z => by
        subst z
        rcases q with q | ⟨xs, q⟩
        · exact hl q
        · rw [hp] at e; cases e; exact hnt xs q
      rw [del_ne this]; exact e
    have hgp : G p = none := (hq p List.mem_cons_self).2
    have hbp : B p = none := (hq p List.mem_cons_self).1
    have np : ∀ {F : Hp} {a : Addr} {u : HO}, F p = none → F a = some u → a ≠ p := fun n e z => by subst z; rw [n] at e; cases e
    have hg' : Good B G (del H p) := ⟨fun a o e => by rw [del_ne (np hbp e)]; exact hg.bs a o e, hg.g0, fun a u e => by
      have := hg.gs a u e
      unfold view at this ⊢
      rw [del_ne (np hgp e)]; exact this, fun a xs im e => by
      unfold view at e
      by_cases q : a = p
      · subst q; rw [del_self] at e; cases e
      · rw [del_ne q] at e; exact hg.gt a xs im e, fun a xs im e => by
      unfold view at e
      by_cases q : a = p
      · subst q; rw [del_self] at e; cases e
      · rw [del_ne q] at e ⊢; exact hg.nf a xs im e⟩
    have hv : HoldAll G (del H p) (lev k vs ds ++ []) (f1 ++ []) := HoldAll.ofAll (ha.frame (fun _ _ e => e) (hH fun m => nd1 (List.mem_append_left _ m))) .nil
    rw [List.append_nil, List.append_nil] at hv
    exact EnvOk.join h2 h3 hg' hv (hr.frame (fun _ _ e => e) (hH fun m => nd1 (List.mem_append_right _ m))) nd2 fun q m => hq q (List.mem_cons_of_mem _ m)
  cases hf with
  | @cons _ _ _ _ f1 g1 h1 hn =>
    cases hn
    rw [List.append_nil] at fin
    have len : ∀ {k : Nat} {f : List Addr} {vs : List V} {ds : List D}, OdAll G H k f vs ds → vs.length = ds.length := fun {k f vs ds} r => by
      induction vs generalizing ds f with
      | nil => cases r; rfl
      | cons v vs ih => cases r with | cons _ r => simp [ih r]
    cases h1 with
    | sh hz r => rcases hz with hz | hz
                 · cases hz
                 · rw [im] at hz; cases hz
    | lst e r => exact ⟨_, _, _, e, len r, .inl ⟨rfl, rfl⟩, fin rfl e (fun _ z => nomatch z) r⟩
    | tup e r => exact absurd rfl (nt _)
    | dn => exact absurd rfl (nn _ _)
    | dk e ek r =>
      subst ek
      exact ⟨_, _, _, e, len r, .inr (.inl ⟨_, rfl, rfl, rfl⟩), fin rfl e (fun _ z => nomatch z) r⟩
    | dt e ek r =>
      subst ek
      exact ⟨_, _, _, e, len r, .inr (.inr ⟨_, rfl, rfl, rfl⟩), fin rfl e (fun _ z => nomatch z) r⟩
theorem EnvOk.takeLst (h : EnvOk B H env σ ((.ref p, k + 1, .lst ds) :: tm)) : ∃ vs, H p = some (.lst vs) ∧ vs.length = ds.length ∧ EnvOk B (del H p) env σ (lev k vs ds ++ tm) := by
  obtain ⟨o, vs, ds', hp, hl, q, h'⟩ := h.takeMu rfl (fun _ z => nomatch z) (fun _ _ z => nomatch z)
  rcases q with ⟨rfl, e⟩ | ⟨kvs, rfl, e, rfl⟩ | ⟨kvs, rfl, e, rfl⟩
  · cases e; exact ⟨vs, hp, hl, h'⟩
  · cases e
  · cases e
theorem EnvOk.takeDk {ks : List Key} (h : EnvOk B H env σ ((.ref p, k + 1, .dk ks ds) :: tm)) : ∃ kvs, H p = some (.dK kvs) ∧ kvs.map (·.1) = ks ∧ kvs.length = ds.length ∧ EnvOk B (del H p) env σ (lev k (kvs.map (·.2)) ds ++ tm) := by
  obtain ⟨o, vs, ds', hp, hl, q, h'⟩ := h.takeMu rfl (fun _ z => nomatch z) (fun _ _ z => nomatch z)
  rcases q with ⟨rfl, e⟩ | ⟨kvs, rfl, e, rfl⟩ | ⟨kvs, rfl, e, rfl⟩
  · cases e
  · cases e; exact ⟨kvs, hp, rfl, by simpa using hl, h'⟩
  · cases e
theorem EnvOk.takeDt {ks : List (List Key)} (h : EnvOk B H env σ ((.ref p, k + 1, .dt ks ds) :: tm)) : ∃ kvs, H p = some (.dT kvs) ∧ kvs.map (·.1) = ks ∧ kvs.length = ds.length ∧ EnvOk B (del H p) env σ (lev k (kvs.map (·.2)) ds ++ tm) := by
  obtain ⟨o, vs, ds', hp, hl, q, h'⟩ := h.takeMu rfl (fun _ z => nomatch z) (fun _ _ z => nomatch z)
  rcases q with ⟨rfl, e⟩ | ⟨kvs, rfl, e, rfl⟩ | ⟨kvs, rfl, e, rfl⟩
  · cases e
  · cases e
  · cases e; exact ⟨kvs, hp, rfl, by simpa using hl, h'⟩
/-- an owned thing stands at an address -/
theorem EnvOk.isRef {v : V} {d : D} (h : EnvOk B H env σ ((v, k, d) :: tm)) (im : d.imm = false) : ∃ p, v = .ref p := by
  have r := h.rp
  cases r with
  | lst => exact ⟨_, rfl⟩
  | tup => exact ⟨_, rfl⟩
  | dk => exact ⟨_, rfl⟩
  | dt => exact ⟨_, rfl⟩
  | ob => exact ⟨_, rfl⟩
  | exn0 => exact ⟨_, rfl⟩
  | exn => exact ⟨_, rfl⟩
  | dn => exact ⟨_, rfl⟩
  | _ => simp [D.imm] at im
theorem lev_append {k : Nat} : ∀ {vs : List V} {ds : List D} (ws : List V) (es : List D), vs.length = ds.length → lev k (vs ++ ws) (ds ++ es) = lev k vs ds ++ lev k ws es
  | [], [], _, _, _ => rfl
  | [], _ :: _, _, _, e => by simp at e
  | _ :: _, [], _, _, e => by simp at e
  | v :: vs, d :: ds, ws, es, e => congrArg (List.cons _) (lev_append (vs := vs) (ds := ds) ws es (by simpa using e))
/-- all that can be read of shared things -/
theorem EnvOk.levs {vs : List V} {ds : List D} (h : EnvOk B H env σ tm) (r : RpAll (view H) vs ds) (hi : immAll ds = true) {k : Nat} : EnvOk B H env σ (lev k vs ds ++ tm) := by
  induction r using RpAll.rec (motive_1 := fun _ _ _ => True) with
  | nil => exact h
  | cons hr _ _ ih =>
    rw [immAll, Bool.and_eq_true] at hi
    exact (ih hi.2).imm hr hi.1
  | _ => trivial
/-- the items of a shared list, tuple are shared -/
theorem EnvOk.items {d : D} {v : V} (h : EnvOk B H env σ ((v, 0, d) :: tm)) : ∀ {ds : List D}, (d = .lst ds ∨ d = .tup ds ∨ (∃ ks, d = .dk ks ds) ∨ ∃ ks, d = .dt ks ds) → ∃ (p : Addr) (o : HO) (vs : List V), v = .ref p ∧ view H p = some o ∧ vs.length = ds.length ∧
    (d = .lst ds → o = .lst vs) ∧ (d = .tup ds → o = .tup vs) ∧ (∀ ks, d = .dk ks ds → ∃ kvs, o = .dK kvs ∧ kvs.map (·.1) = ks ∧ vs = kvs.map (·.2)) ∧ (∀ ks, d = .dt ks ds → ∃ kvs, o = .dT kvs ∧ kvs.map (·.1) = ks ∧ vs = kvs.map (·.2)) ∧ RpAll (view H) vs ds ∧ EnvOk B H env σ (lev 0 vs ds ++ (v, 0, d) :: tm) := by
  intro ds hd
  have h2 := h.len
  have h3 := h.has
  obtain ⟨G, f, g, hg, hf, hr, nd, hq⟩ := EnvOk.apart (l := [(v, 0, d)]) h
  cases hf with
  | @cons _ _ _ _ f1 g1 h1 hn =>
    cases hn
    obtain ⟨rfl, r⟩ := h1.zero
    have fin : ∀ {vs : List V}, RpAll G vs ds → EnvOk B H env σ (lev 0 vs ds ++ (v, 0, d) :: tm) := fun {vs} ra => by
      have hv : HoldAll G H (lev 0 vs ds ++ [(v, 0, d)]) [] := by
        clear hd
        induction ra using RpAll.rec (motive_1 := fun _ _ _ => True) with
        | nil => exact HoldAll.cons (f := []) (g := []) (.of r) .nil
        | cons hr _ _ ih => exact HoldAll.cons (f := []) (g := []) (.of hr) ih
        | _ => trivial
      have := EnvOk.join (l := lev 0 vs ds ++ [(v, 0, d)]) (f := []) h2 h3 hg hv hr nd hq
      rw [List.append_assoc] at this
      exact this
    cases r with
    | lst e ra =>
      rcases hd with q | q | ⟨_, q⟩ | ⟨_, q⟩ <;> cases q
      exact ⟨_, _, _, rfl, hg.gs _ _ e, ra.length, fun _ => rfl, (fun q => nomatch q), (fun _ q => nomatch q), (fun _ q => nomatch q), ra.mono hg.gs, fin ra⟩
    | tup e ra =>
      rcases hd with q | q | ⟨_, q⟩ | ⟨_, q⟩ <;> cases q
      exact ⟨_, _, _, rfl, hg.gs _ _ e, ra.length, (fun q => nomatch q), fun _ => rfl, (fun _ q => nomatch q), (fun _ q => nomatch q), ra.mono hg.gs, fin ra⟩
    | dk e ek ra =>
      rcases hd with q | q | ⟨_, q⟩ | ⟨_, q⟩ <;> cases q
      exact ⟨_, _, _, rfl, hg.gs _ _ e, ra.length, (fun q => nomatch q), (fun q => nomatch q), (fun ks q => by cases q; exact ⟨_, rfl, ek, rfl⟩), (fun _ q => nomatch q), ra.mono hg.gs, fin ra⟩
    | dt e ek ra =>
      rcases hd with q | q | ⟨_, q⟩ | ⟨_, q⟩ <;> cases q
      exact ⟨_, _, _, rfl, hg.gs _ _ e, ra.length, (fun q => nomatch q), (fun q => nomatch q), (fun _ q => nomatch q), (fun ks q => by cases q; exact ⟨_, rfl, ek, rfl⟩), ra.mono hg.gs, fin ra⟩
    | _ => rcases hd with q | q | ⟨_, q⟩ | ⟨_, q⟩ <;> cases q
end
end Mir

namespace Mir
open PySem PySem.Spec L2

/-! ### results -/
inductive Res (α : Type) where
  | ok (a : α) | exc (c : Str) (ns : List Str) (as : List D) | bad
def Res.bind {α β : Type} : Res α → (α → Res β) → Res β
  | .ok a, f => f a
  | .exc c ns as, _ => .exc c ns as
  | .bad, _ => .bad
instance : Monad Res where
  pure := .ok
  bind := Res.bind
theorem bind_ok {α β : Type} {x : Res α} {f : α → Res β} {b : β} (h : (x >>= f) = .ok b) : ∃ a, x = .ok a ∧ f a = .ok b := by
  cases x with
  | ok a => exact ⟨a, rfl, h⟩
  | exc c ns as => cases h
  | bad => cases h
@[simp] theorem ok_bind {α β : Type} (a : α) (f : α → Res β) : (Res.ok a >>= f) = f a := rfl
@[simp] theorem pure_ok {α : Type} (a : α) : (pure a : Res α) = .ok a := rfl
/-- a guard -/
def chk (b : Bool) : Res Unit := if b then .ok () else .bad
theorem chk_ok {b : Bool} {u : Unit} (h : chk b = .ok u) : b = true := by
  cases b with
  | true => rfl
  | false => cases h
@[simp] theorem chk_true : chk true = .ok () := rfl
inductive Ctl where
  | nx (e : Env) | bk (e : Env) | ct (e : Env) | rt (d : D)

def Ext (H H' : Hp) : Prop := ∀ a o, H a = some o → H' a = some o
theorem Ext.refl (H : Hp) : Ext H H := fun _ _ h => h
theorem Ext.trans {H H1 H2 : Hp} (a : Ext H H1) (b : Ext H1 H2) : Ext H H2 := fun c o h => b c o (a c o h)
theorem Ext.upd {H : Hp} {p : Addr} {o : HO} (h : H p = none) : Ext H (upd H p o) := up_keep h
theorem Ext.rp {H H' : Hp} (h : Ext H H') {v : V} {d : D} (r : Rp (view H) v d) : Rp (view H') v d := r.mono (view_ext h)
theorem Ext.rpAll {H H' : Hp} (h : Ext H H') {v : List V} {d : List D} (r : RpAll (view H) v d) : RpAll (view H') v d := r.mono (view_ext h)

/-! ### the readings by meaning -/
def wE (X : Cx) (e : Expr) : TE := fun σ H Q => ∀ (pins : List (Addr × Obj)) (s : Shared), Inv X pins σ H s → wpAny (model X.prog X.w) X.A (eval e X.env) (EP X pins σ Q) X.xe s
theorem pe_sem {X : Cx} {e : Expr} : PE X e (wE X e) := ⟨fun pins s _ _ _ I h => h pins s I⟩
theorem wE_of {X : Cx} {e : Expr} {t : TE} (h : PE X e t) {σ : St} {H : Hp} {Q : VK} (ht : t σ H Q) : wE X e σ H Q := fun pins s I => h.run pins s σ H Q I ht
def wT (X : Cx) (e : Expr) : TT := fun σ H Q => ∀ (pins : List (Addr × Obj)) (s : Shared), Inv X pins σ H s → wpAny (model X.prog X.w) X.A (isTrue e X.env (eval e X.env)) (TP X pins σ Q) X.xe s
theorem pt_sem {X : Cx} {e : Expr} : PT X e (wT X e) := ⟨fun pins s _ _ _ I h => h pins s I⟩
theorem wT_of {X : Cx} {e : Expr} {t : TT} (h : PT X e t) {σ : St} {H : Hp} {Q : Bool → Hp → Prop} (ht : t σ H Q) : wT X e σ H Q := fun pins s I => h.run pins s σ H Q I ht
def wW (X : Cx) (e : Expr) : TT := fun σ H Q => ∀ (whole : Sem Value) (pins : List (Addr × Obj)) (s : Shared), Inv X pins σ H s → wpAny (model X.prog X.w) X.A (isTrue e X.env whole) (TP X pins σ Q) X.xe s
theorem pw_sem {X : Cx} {e : Expr} : PW X e (wW X e) := ⟨fun w pins s _ _ _ I h => h w pins s I⟩
theorem wW_of {X : Cx} {e : Expr} {t : TT} (h : PW X e t) {σ : St} {H : Hp} {Q : Bool → Hp → Prop} (ht : t σ H Q) : wW X e σ H Q := fun w pins s I => h.run w pins s σ H Q I ht
def wA (X : Cx) (es : List Expr) : TA := fun σ H Q => ∀ (pos : Pos) (pins : List (Addr × Obj)) (s : Shared), Inv X pins σ H s → wpAny (model X.prog X.w) X.A (spliced (backTo pos (starEach es X.env))) (AP X pins σ Q) X.xe s
theorem pa_sem {X : Cx} {e : List Expr} : PA X e (wA X e) := ⟨fun p pins s _ _ _ I h => h p pins s I⟩
theorem wA_of {X : Cx} {e : List Expr} {t : TA} (h : PA X e t) {σ : St} {H : Hp} {Q : List V → Hp → Prop} (ht : t σ H Q) : wA X e σ H Q := fun p pins s I => h.run p pins s σ H Q I ht
def wS (X : Cx) (st : Stmt) : TS := fun D σ H => ∀ (pins : List (Addr × Obj)) (s : Shared), Inv X pins σ H s → wpAny (model X.prog X.w) X.A (exec st X.env) (SP X pins D) X.xe s
theorem ps_sem {X : Cx} {e : Stmt} : PS X e (wS X e) := ⟨fun pins s _ _ _ I h => h pins s I⟩
theorem wS_of {X : Cx} {e : Stmt} {t : TS} (h : PS X e t) {σ : St} {H : Hp} {D : Ends} (ht : t D σ H) : wS X e D σ H := fun pins s I => h.run pins s σ H D I ht
def wB (X : Cx) (st : List Stmt) : TS := fun D σ H => ∀ (pins : List (Addr × Obj)) (s : Shared), Inv X pins σ H s → wpAny (model X.prog X.w) X.A (execs st X.env) (SP X pins D) X.xe s
theorem pss_sem {X : Cx} {e : List Stmt} : PSs X e (wB X e) := ⟨fun pins s _ _ _ I h => h pins s I⟩
theorem wB_of {X : Cx} {e : List Stmt} {t : TS} (h : PSs X e t) {σ : St} {H : Hp} {D : Ends} (ht : t D σ H) : wB X e D σ H := fun pins s I => h.run pins s σ H D I ht

/-! ### the judgements: an expression's worth by its mirror m -/
/-- its value is handed on, owned to the level k; the slots cs are given away -/
def SE (X : Cx) (k : Nat) (cs : List Nat) (e : Expr) (m : Env → Res D) : Prop := ∀ (B : Bs) (H : Hp) (env : Env) (σ : St) (tm : List Hold) (d : D) (Q : VK), EnvOk B H env σ tm → m env = .ok d →
  (∀ v H', Ext H H' → EnvOk B H' (clear env cs) σ ((v, k, d) :: tm) → Q v H') → wE X e σ H Q
/-- its value may be read -/
def SB (X : Cx) (e : Expr) (m : Env → Res D) : Prop := ∀ (B : Bs) (H : Hp) (env : Env) (σ : St) (tm : List Hold) (d : D) (Q : VK), EnvOk B H env σ tm → m env = .ok d →
  (∀ v H', Ext H H' → EnvOk B H' env σ tm → Rp (view H') v d → Q v H') → wE X e σ H Q
/-- .. and holds no list, no dict -/
def SC (X : Cx) (e : Expr) (m : Env → Res D) : Prop := ∀ (B : Bs) (H : Hp) (env : Env) (σ : St) (tm : List Hold) (d : D) (Q : VK), EnvOk B H env σ tm → m env = .ok d →
  (∀ v H', Ext H H' → EnvOk B H' env σ tm → Rp (view H') v d → d.imm = true → Q v H') → wE X e σ H Q
/-- a test -/
def ST (X : Cx) (e : Expr) (m : Env → Res Bool) : Prop := ∀ (B : Bs) (H : Hp) (env : Env) (σ : St) (tm : List Hold) (b : Bool) (Q : Bool → Hp → Prop), EnvOk B H env σ tm → m env = .ok b →
  (∀ H', Ext H H' → EnvOk B H' env σ tm → Q b H') → wT X e σ H Q
def SW (X : Cx) (e : Expr) (m : Env → Res Bool) : Prop := ∀ (B : Bs) (H : Hp) (env : Env) (σ : St) (tm : List Hold) (b : Bool) (Q : Bool → Hp → Prop), EnvOk B H env σ tm → m env = .ok b →
  (∀ H', Ext H H' → EnvOk B H' env σ tm → Q b H') → wW X e σ H Q
/-- arguments that may be read -/
def SAB (X : Cx) (es : List Expr) (m : Env → Res (List D)) : Prop := ∀ (B : Bs) (H : Hp) (env : Env) (σ : St) (tm : List Hold) (ds : List D) (Q : List V → Hp → Prop), EnvOk B H env σ tm → m env = .ok ds →
  (∀ vs H', Ext H H' → EnvOk B H' env σ tm → RpAll (view H') vs ds → Q vs H') → wA X es σ H Q
/-- items that are handed on -/
def SAE (X : Cx) (k : Nat) (cs : List Nat) (es : List Expr) (m : Env → Res (List D)) : Prop := ∀ (B : Bs) (H : Hp) (env : Env) (σ : St) (tm : List Hold) (ds : List D) (Q : List V → Hp → Prop), EnvOk B H env σ tm → m env = .ok ds →
  (∀ vs H', Ext H H' → vs.length = ds.length → EnvOk B H' (clear env cs) σ (lev k vs ds ++ tm) → Q vs H') → wA X es σ H Q

section
variable {X : Cx} {e a b : Expr} {m ma mb : Env → Res D} {k : Nat} {cs : List Nat} {pos : Pos}
theorem sb_c (h : SC X e m) : SB X e m := fun B H env σ tm d Q ok hm q => h B H env σ tm d Q ok hm fun v H' x ok' r _ => q v H' x ok' r
theorem se_c (h : SC X e m) : SE X k [] e m := fun B H env σ tm d Q ok hm q => h B H env σ tm d Q ok hm fun v H' x ok' r i => q v H' x (ok'.imm r i)
theorem sb_e (h : SE X k [] e m) : SB X e m := fun B H env σ tm d Q ok hm q => h B H env σ tm d Q ok hm fun v H' x ok' => q v H' x ok'.tail ok'.rp
/-- what is read and holds no list, no dict -/
def mImm (m : Env → Res D) : Env → Res D := fun env => m env >>= fun d => if d.imm then .ok d else .bad
theorem sc_b (h : SB X e m) : SC X e (mImm m) := fun B H env σ tm d Q ok hm q => by
  obtain ⟨d', h1, h2⟩ := bind_ok hm
  by_cases hi : d'.imm = true
  · rw [if_pos hi] at h2
    cases h2
    exact h B H env σ tm d Q ok h1 fun v H' x ok' r => q v H' x ok' r hi
  · rw [if_neg hi] at h2; cases h2
theorem se_0 (h : SE X k cs e m) : SE X 0 cs e m := fun B H env σ tm d Q ok hm q => h B H env σ tm d Q ok hm fun v H' x ok' => q v H' x ok'.freeze

/-! ### names -/
def mVar (i : Nat) : Env → Res D := fun env => match env[i]? with
  | some (some (_, d)) => .ok d
  | _ => .bad
def mVarK (i k : Nat) : Env → Res D := fun env => match env[i]? with
  | some (some (j, d)) => if j = k then .ok d else .bad
  | _ => .bad
theorem sb_var {i : Nat} (h : PE X e (tVar i)) : SB X e (mVar i) := fun B H env σ tm d Q ok hm q => by
  unfold mVar at hm
  split at hm
  · rename_i j d' e1
    cases hm
    obtain ⟨v, hv, r⟩ := ok.slot e1
    exact wE_of h ⟨v, hv, q v H (Ext.refl H) ok r⟩
  · cases hm
theorem se_var {i : Nat} (h : PE X e (tVar i)) : SE X 0 [] e (mVarK i 0) := fun B H env σ tm d Q ok hm q => by
  unfold mVarK at hm
  split at hm
  · rename_i j d' e1
    split at hm
    · rename_i ej
      subst ej
      cases hm
      obtain ⟨v, hv, ok'⟩ := ok.slot0 e1
      exact wE_of h ⟨v, hv, q v H (Ext.refl H) ok'⟩
    · cases hm
  · cases hm
/-- a slot's content is given away -/
theorem se_move {i : Nat} (h : PE X e (tVar i)) : SE X k [i] e (mVarK i k) := fun B H env σ tm d Q ok hm q => by
  unfold mVarK at hm
  split at hm
  · rename_i j d' e1
    split at hm
    · rename_i ej
      subst ej
      cases hm
      obtain ⟨v, hv, r⟩ := ok.slot e1
      exact wE_of h ⟨v, hv, q v H (Ext.refl H) (ok.move e1 hv)⟩
    · cases hm
  · cases hm

/-! ### constants -/
def mC (d : D) : Env → Res D := fun _ => .ok d
theorem sc_of {d : D} {v : V} (h : PE X e (tC v)) (r : ∀ G, Rp G v d) (hi : d.imm = true) : SC X e (mC d) := fun B H env σ tm d' Q ok hm q => by
  cases hm
  exact wE_of h (q v H (Ext.refl H) ok (r _) hi)
theorem sc_int {i : Int} {j pos} : SC X (.Constant (.int i) j pos) (mC (.int i)) := sc_of pe_int (fun _ => .int i) rfl
theorem sc_bl {i : Bool} {j pos} : SC X (.Constant (.bool i) j pos) (mC (.bl i)) := sc_of pe_bl (fun _ => .bl i) rfl
theorem sc_non {j pos} : SC X (.Constant .none j pos) (mC .non) := sc_of pe_non (fun _ => .non) rfl
theorem sc_str {i : Str} {j pos} : SC X (.Constant (.str i) j pos) (mC (.str i)) := sc_of pe_str (fun _ => .str i) rfl

/-! ### operators on values -/
def OpC (X : Cx) (f : Value → Value → Sem Value) (g : D → D → Res D) : Prop := ∃ r : R2, OpR X f r ∧ ∀ (x y : V) (dx dy d : D) (H : Hp) (Q : VK), Rp (view H) x dx → Rp (view H) y dy → g dx dy = .ok d →
  (∀ v, Rp (view H) v d → d.imm = true → Q v H) → r x y H Q
def mOp (g : D → D → Res D) (ma mb : Env → Res D) : Env → Res D := fun env => ma env >>= fun x => mb env >>= fun y => g x y
theorem two {g : D → D → Res D} {env : Env} {d : D} (h : mOp g ma mb env = .ok d) : ∃ x y, ma env = .ok x ∧ mb env = .ok y ∧ g x y = .ok d := by
  obtain ⟨x, h1, h2⟩ := bind_ok h
  obtain ⟨y, h3, h4⟩ := bind_ok h2
  exact ⟨x, y, h1, h3, h4⟩
theorem sb2 (ha : SB X a ma) (hb : SB X b mb) {B : Bs} {H : Hp} {env : Env} {σ : St} {tm : List Hold} {x y : D} (ok : EnvOk B H env σ tm) (hx : ma env = .ok x) (hy : mb env = .ok y) {R : V → V → Hp → Prop}
    (q : ∀ v u H', Ext H H' → EnvOk B H' env σ tm → Rp (view H') v x → Rp (view H') u y → R v u H') : wE X a σ H fun v H1 => wE X b σ H1 fun u H2 => R v u H2 :=
  ha B H env σ tm x _ ok hx fun v H1 x1 ok1 r1 => hb B H1 env σ tm y _ ok1 hy fun u H2 x2 ok2 r2 => q v u H2 (x1.trans x2) ok2 (x2.rp r1) r2
theorem sc_op {op : Operator} {g : D → D → Res D} (ho : OpC X (binaryOp op) g) (ha : SB X a ma) (hb : SB X b mb) : SC X (.BinOp a op b pos) (mOp g ma mb) := fun B H env σ tm d Q ok hm q => by
  obtain ⟨x, y, hx, hy, hg⟩ := two hm
  obtain ⟨r, hr, hq⟩ := ho
  exact wE_of (pe_op hr pe_sem pe_sem) (sb2 ha hb ok hx hy fun v u H' x' ok' r1 r2 => hq v u _ _ _ H' Q r1 r2 hg fun z rz iz => q z H' x' ok' rz iz)
theorem sc_cmp {op : CmpOp} {g : D → D → Res D} (ho : OpC X (compareOp op) g) (ha : SB X a ma) (hb : SB X b mb) (hm : behindInMarks op b = false) : SC X (.Compare a [op] [b] pos) (mOp g ma mb) := fun B H env σ tm d Q ok hm' q => by
  obtain ⟨x, y, hx, hy, hg⟩ := two hm'
  obtain ⟨r, hr, hq⟩ := ho
  exact wE_of (pe_cmpR hr pe_sem pe_sem hm) (sb2 ha hb ok hx hy fun v u H' x' ok' r1 r2 => hq v u _ _ _ H' Q r1 r2 hg fun z rz iz => q z H' x' ok' rz iz)
def toB : D → Res Bool
  | .bl b => .ok b
  | _ => .bad
def mTb (m : Env → Res D) : Env → Res Bool := fun env => m env >>= toB
theorem toB_ok {d : D} {b : Bool} (h : toB d = .ok b) : d = .bl b := by
  cases d with
  | bl c => cases h; rfl
  | _ => cases h
theorem st_cmp {op : CmpOp} {g : D → D → Res D} (ho : OpC X (compareOp op) g) (ha : SB X a ma) (hb : SB X b mb) (hm : behindInMarks op b = false) : ST X (.Compare a [op] [b] pos) (mTb (mOp g ma mb)) := fun B H env σ tm d Q ok hm' q => by
  obtain ⟨z, hz, hd⟩ := bind_ok hm'
  have hd' := toB_ok hd
  subst hd'
  obtain ⟨x, y, hx, hy, hg⟩ := two hz
  obtain ⟨r, hr, hq⟩ := ho
  refine wT_of (pt_cmpR hr pe_sem pe_sem hm) (sb2 ha hb ok hx hy fun v u H' x' ok' r1 r2 => hq v u _ _ _ H' _ r1 r2 hg fun z rz iz => ?_)
  cases rz
  exact ⟨_, rfl, q H' x' ok'⟩
/-- a value True or False as a test -/
theorem st_val (h : SB X e m) (he : ∀ whole, isTrue e X.env whole = (do let v ← whole; standAt e.pos; holding [v] (truthy v)) := by intro _; rfl) : ST X e (mTb m) := fun B H env σ tm d Q ok hm' q => by
  obtain ⟨z, hz, hd⟩ := bind_ok hm'
  have hd' := toB_ok hd
  subst hd'
  refine wT_of (pt_val pe_sem he) (h B H env σ tm _ _ ok hz fun v H' x ok' r => ?_)
  cases r
  exact ⟨_, rfl, q H' x ok'⟩

/-! ### unary -/
def mUn (g : D → Res D) (m : Env → Res D) : Env → Res D := fun env => m env >>= g
def gNeg : D → Res D
  | .int i => .ok (.int (-i))
  | _ => .bad
theorem sc_neg (ha : SB X a ma) : SC X (.UnaryOp .USub a pos) (mUn gNeg ma) := fun B H env σ tm d Q ok hm q => by
  obtain ⟨x, hx, hg⟩ := bind_ok hm
  refine wE_of (pe_un un_neg pe_sem) (ha B H env σ tm x _ ok hx fun v H' x' ok' r => ?_)
  cases r with
  | int i => cases hg; exact ⟨i, rfl, q _ H' x' ok' (.int _) rfl⟩
  | _ => cases hg
/-! ### and, or, not -/
def mNotB (m : Env → Res Bool) : Env → Res Bool := fun env => m env >>= fun b => .ok (!b)
def mAndB (m n : Env → Res Bool) : Env → Res Bool := fun env => m env >>= fun b => if b then n env else .ok false
def mOrB (m n : Env → Res Bool) : Env → Res Bool := fun env => m env >>= fun b => if b then .ok true else n env
variable {ta tb : Env → Res Bool} {rest : List Expr}
theorem st_not (ha : ST X a ta) : ST X (.UnaryOp .Not a pos) (mNotB ta) := fun B H env σ tm d Q ok hm q => by
  obtain ⟨x, hx, hg⟩ := bind_ok hm
  cases hg
  exact wT_of (pt_not pt_sem) (ha B H env σ tm x _ ok hx fun H' x' ok' => q H' x' ok')
theorem sw_and1 (ha : ST X a ta) : SW X (.BoolOp .And [a] pos) ta := fun B H env σ tm d Q ok hm q => wW_of (pw_and1 pt_sem) (ha B H env σ tm d Q ok hm q)
theorem sw_or1 (ha : ST X a ta) : SW X (.BoolOp .Or [a] pos) ta := fun B H env σ tm d Q ok hm q => wW_of (pw_or1 pt_sem) (ha B H env σ tm d Q ok hm q)
theorem sw_and (ha : ST X a ta) (hb : SW X (.BoolOp .And (b :: rest) pos) tb) : SW X (.BoolOp .And (a :: b :: rest) pos) (mAndB ta tb) := fun B H env σ tm d Q ok hm q => by
  obtain ⟨x, hx, hg⟩ := bind_ok hm
  refine wW_of (pw_and pt_sem pw_sem) (ha B H env σ tm x _ ok hx fun H1 x1 ok1 => ?_)
  cases x with
  | true => exact hb B H1 env σ tm d Q ok1 hg fun H2 x2 ok2 => q H2 (x1.trans x2) ok2
  | false => cases hg; exact q H1 x1 ok1
theorem sw_or (ha : ST X a ta) (hb : SW X (.BoolOp .Or (b :: rest) pos) tb) : SW X (.BoolOp .Or (a :: b :: rest) pos) (mOrB ta tb) := fun B H env σ tm d Q ok hm q => by
  obtain ⟨x, hx, hg⟩ := bind_ok hm
  refine wW_of (pw_or pt_sem pw_sem) (ha B H env σ tm x _ ok hx fun H1 x1 ok1 => ?_)
  cases x with
  | false => exact hb B H1 env σ tm d Q ok1 hg fun H2 x2 ok2 => q H2 (x1.trans x2) ok2
  | true => cases hg; exact q H1 x1 ok1
theorem st_w (h : SW X e ta) : ST X e ta := fun B H env σ tm d Q ok hm q pins s I => h B H env σ tm d Q ok hm q _ pins s I
/-- .. as values -/
def mAndV (ma mb : Env → Res D) : Env → Res D := fun env => ma env >>= fun x => toB x >>= fun b => if b then mb env else .ok (.bl false)
def mOrV (ma mb : Env → Res D) : Env → Res D := fun env => ma env >>= fun x => toB x >>= fun b => if b then .ok (.bl true) else mb env
theorem sc_one {op} (h : SC X a ma) : SC X (.BoolOp op [a] pos) ma := fun B H env σ tm d Q ok hm q => wE_of (pe_one pe_sem) (h B H env σ tm d Q ok hm q)
theorem sc_and (ha : SB X a ma) (hb : SC X (.BoolOp .And (b :: rest) pos) mb) : SC X (.BoolOp .And (a :: b :: rest) pos) (mAndV ma mb) := fun B H env σ tm d Q ok hm q => by
  obtain ⟨x, hx, hg⟩ := bind_ok hm
  obtain ⟨c, hc, hg⟩ := bind_ok hg
  have := toB_ok hc
  subst this
  refine wE_of (pe_and pe_sem pe_sem) (ha B H env σ tm _ _ ok hx fun v H1 x1 ok1 r1 => ?_)
  cases r1
  refine ⟨c, rfl, ?_⟩
  cases c with
  | true => rw [if_pos rfl]; exact hb B H1 env σ tm d Q ok1 hg fun v H2 x2 ok2 => q v H2 (x1.trans x2) ok2
  | false => cases hg; exact q _ H1 x1 ok1 (.bl false) rfl
theorem sc_or (ha : SB X a ma) (hb : SC X (.BoolOp .Or (b :: rest) pos) mb) : SC X (.BoolOp .Or (a :: b :: rest) pos) (mOrV ma mb) := fun B H env σ tm d Q ok hm q => by
  obtain ⟨x, hx, hg⟩ := bind_ok hm
  obtain ⟨c, hc, hg⟩ := bind_ok hg
  have := toB_ok hc
  subst this
  refine wE_of (pe_or pe_sem pe_sem) (ha B H env σ tm _ _ ok hx fun v H1 x1 ok1 r1 => ?_)
  cases r1
  refine ⟨c, rfl, ?_⟩
  cases c with
  | false => exact hb B H1 env σ tm d Q ok1 hg fun v H2 x2 ok2 => q v H2 (x1.trans x2) ok2
  | true => cases hg; exact q _ H1 x1 ok1 (.bl true) rfl
/-- not e as a value -/
def mNotV (m : Env → Res D) : Env → Res D := fun env => m env >>= fun x => toB x >>= fun b => .ok (.bl (!b))
theorem sc_not (ha : SB X a ma) : SC X (.UnaryOp .Not a pos) (mNotV ma) := fun B H env σ tm d Q ok hm q => by
  obtain ⟨x, hx, hg⟩ := bind_ok hm
  obtain ⟨c, hc, hg⟩ := bind_ok hg
  have := toB_ok hc
  subst this
  cases hg
  refine wE_of (pe_not pe_sem) (ha B H env σ tm _ _ ok hx fun v H1 x1 ok1 r1 => ?_)
  cases r1
  exact ⟨c, rfl, q _ H1 x1 ok1 (.bl _) rfl⟩
/-- a if t else b -/
def mIf {α : Type} (t : Env → Res Bool) (ma mb : Env → Res α) : Env → Res α := fun env => t env >>= fun c => if c then ma env else mb env
/-! ### arguments, displays -/
def mNilA : Env → Res (List D) := fun _ => .ok []
def mConsA (m : Env → Res D) (n : Env → Res (List D)) : Env → Res (List D) := fun env => m env >>= fun x => n env >>= fun xs => .ok (x :: xs)
theorem sab_nil : SAB X [] mNilA := fun B H env σ tm ds Q ok hm q => by
  cases hm
  exact wA_of pa_nil (q [] H (Ext.refl H) ok .nil)
theorem sab_cons {es : List Expr} {ms : Env → Res (List D)} (he : SB X e m) (hs : SAB X es ms) (hst : starEach (e :: es) X.env = (false, eval e X.env) :: starEach es X.env := by rfl) : SAB X (e :: es) (mConsA m ms) := fun B H env σ tm ds Q ok hm q => by
  obtain ⟨x, hx, hg⟩ := bind_ok hm
  obtain ⟨xs, hxs, hg⟩ := bind_ok hg
  cases hg
  refine wA_of (pa_cons pe_sem pa_sem hst) (he B H env σ tm x _ ok hx fun v H1 x1 ok1 r1 => hs B H1 env σ tm xs _ ok1 hxs fun vs H2 x2 ok2 r2 => ?_)
  exact q _ H2 (x1.trans x2) ok2 (.cons (x2.rp r1) r2)
/-- items: the mirror of what stands behind sees the slots that are left -/
def mConsE (m : Env → Res D) (cs : List Nat) (n : Env → Res (List D)) : Env → Res (List D) := fun env => m env >>= fun x => n (clear env cs) >>= fun xs => .ok (x :: xs)
theorem clear_app : ∀ (env : Env) (cs cs' : List Nat), clear (clear env cs) cs' = clear env (cs ++ cs')
  | _, [], _ => rfl
  | env, c :: cs, cs' => clear_app (env.set c none) cs cs'
theorem sae_nil : SAE X k [] [] mNilA := fun B H env σ tm ds Q ok hm q => by
  cases hm
  exact wA_of pa_nil (q [] H (Ext.refl H) rfl ok)
theorem sae_cons {es : List Expr} {cs' : List Nat} {ms : Env → Res (List D)} (he : SE X k cs e m) (hs : SAE X k cs' es ms) (hst : starEach (e :: es) X.env = (false, eval e X.env) :: starEach es X.env := by rfl) : SAE X k (cs ++ cs') (e :: es) (mConsE m cs ms) := fun B H env σ tm ds Q ok hm q => by
  obtain ⟨x, hx, hg⟩ := bind_ok hm
  obtain ⟨xs, hxs, hg⟩ := bind_ok hg
  cases hg
  refine wA_of (pa_cons pe_sem pa_sem hst) (he B H env σ tm x _ ok hx fun v H1 x1 ok1 => hs B H1 (clear env cs) σ _ xs _ ok1 hxs fun vs H2 x2 hl ok2 => ?_)
  refine q _ H2 (x1.trans x2) (by simp [hl]) ?_
  rw [← clear_app]
  exact ok2.perm (List.perm_middle (l₁ := lev k vs xs) (a := (v, k, x)) (l₂ := tm))
def mTup (n : Env → Res (List D)) : Env → Res D := fun env => n env >>= fun xs => if xs.length ≤ sizeLine then .ok (.tup xs) else .bad
def mLst (n : Env → Res (List D)) : Env → Res D := fun env => n env >>= fun xs => if xs.length ≤ sizeLine then .ok (.lst xs) else .bad
theorem se_tup {es : List Expr} {ms : Env → Res (List D)} {x1} (hs : SAE X k cs es ms) : SE X (k + 1) cs (.Tuple es x1 pos) (mTup ms) := fun B H env σ tm d Q ok hm q => by
  obtain ⟨xs, hx, hg⟩ := bind_ok hm
  by_cases hl : xs.length ≤ sizeLine
  · rw [if_pos hl] at hg
    cases hg
    refine wE_of (pe_tup pa_sem) (hs B H env σ tm xs _ ok hx fun vs H1 x1 e1 ok1 => ⟨by rw [e1]; exact hl, fun p hp => ?_⟩)
    exact q _ _ (x1.trans (Ext.upd hp)) (ok1.newTup e1 hp)
  · rw [if_neg hl] at hg; cases hg
theorem se_lst {es : List Expr} {ms : Env → Res (List D)} (hs : SAE X k cs es ms) : SE X (k + 1) cs (.List es pos) (mLst ms) := fun B H env σ tm d Q ok hm q => by
  obtain ⟨xs, hx, hg⟩ := bind_ok hm
  by_cases hl : xs.length ≤ sizeLine
  · rw [if_pos hl] at hg
    cases hg
    refine wE_of (pe_lst pa_sem) (hs B H env σ tm xs _ ok hx fun vs H1 x1 e1 ok1 => ⟨by rw [e1]; exact hl, fun p hp => ?_⟩)
    exact q _ _ (x1.trans (Ext.upd hp)) (ok1.newLst e1 hp)
  · rw [if_neg hl] at hg; cases hg
/-- a tuple of things that hold no list, no dict -/
theorem sc_tup {es : List Expr} {ms : Env → Res (List D)} {x1} (hs : SAE X 0 [] es ms) : SC X (.Tuple es x1 pos) (mImm (mTup ms)) := sc_b (sb_e (se_0 (se_tup hs)))
end
end Mir

namespace Mir
open PySem PySem.Spec L2

/-! ### as the library's data -/
mutual
def D.py : D → PyData
  | .non => .none | .bl b => .bool b | .int i => .int i | .str x => .str x
  | .lst xs => .list (pyAll xs) | .tup xs => .tuple (pyAll xs) | .dk _ _ => .dict [] | .dt _ _ => .dict []
  | .ob _ _ _ _ => .dict [] | .exn _ _ _ _ => .dict [] | .dn _ _ => .dict []
def pyAll : List D → List PyData
  | [] => []
  | d :: ds => d.py :: pyAll ds
end
theorem pyAll_map : ∀ ds : List D, pyAll ds = ds.map D.py
  | [] => rfl
  | d :: ds => by rw [pyAll, pyAll_map ds]; rfl
mutual
theorem Rp.dp {K : PySem.W.Frag} {H : Hp} : ∀ {v : V} {d : D}, Rp (view H) v d → PyData.canLay0 d.py = true → Dp K H v d.py
  | _, _, .non, _ => .non
  | _, _, .bl b, _ => .bl b
  | _, _, .int i, _ => .int i
  | _, _, .str x, _ => .str x
  | _, _, .lst h r, e => .lst (.inl (view_rd h)) (RpAll.dp r (by simpa [D.py, PyData.canLay0] using e))
  | _, _, .tup h r, e => .tup (.inl (view_rd h)) (RpAll.dp r (by simpa [D.py, PyData.canLay0] using e))
  | _, _, .dk _ _ _, e => by simp [D.py, PyData.canLay0] at e
  | _, _, .dt _ _ _, e => by simp [D.py, PyData.canLay0] at e
  | _, _, .ob _ _ _, e => by simp [D.py, PyData.canLay0] at e
  | _, _, .exn0 _, e => by simp [D.py, PyData.canLay0] at e
  | _, _, .exn _ _ _ _, e => by simp [D.py, PyData.canLay0] at e
  | _, _, .dn _ _ _ _, e => by simp [D.py, PyData.canLay0] at e
theorem RpAll.dp {K : PySem.W.Frag} {H : Hp} : ∀ {v : List V} {d : List D}, RpAll (view H) v d → PyData.canLayAll0 (pyAll d) = true → DpAll K H v (pyAll d)
  | _, _, .nil, _ => .nil
  | _, _, .cons h r, e => by
    rw [pyAll, PyData.canLayAll0, Bool.and_eq_true] at e
    exact .cons (Rp.dp h e.1) (RpAll.dp r e.2)
end
theorem shaped_lay {d : PyData} (h : SeqAt.shaped d = true) : PyData.canLay0 d = true := by
  unfold SeqAt.shaped at h
  rw [Bool.and_eq_true] at h
  exact h.1

/-! ### arithmetic -/
def gAdd : D → D → Res D
  | .int i, .int j => .ok (.int (i + j))
  | .str a, .str b => if a.length + b.length ≤ sizeLine then .ok (.str (a ++ b)) else .bad
  | _, _ => .bad
def gSub : D → D → Res D
  | .int i, .int j => .ok (.int (i - j))
  | _, _ => .bad
def mulOk (i j : Int) : Bool := (decide (-(2 ^ 64) < i) && decide (i < 2 ^ 64)) || (decide (-(2 ^ 64) < j) && decide (j < 2 ^ 64)) || decide (i.natAbs.log2 + j.natAbs.log2 < 1000000)
def gMul : D → D → Res D
  | .int i, .int j => if mulOk i j then .ok (.int (i * j)) else .bad
  | _, _ => .bad
def gMod : D → D → Res D
  | .int i, .int j => if 0 < j then .ok (.int (i % j)) else .bad
  | _, _ => .bad
def gFdv : D → D → Res D
  | .int i, .int j => if 0 < j ∧ j.natAbs.log2 < 9000 then .ok (.int (i / j)) else .bad
  | _, _ => .bad
section
variable {X : Cx}
theorem op_i {f : Value → Value → Sem Value} {C : Int → Int → Prop} {g : Int → Int → Int} {gg : D → D → Res D} (ho : OpR X f (rI C fun i j => .int (g i j)))
    (hg : ∀ x y d, gg x y = .ok d → ∃ i j, x = .int i ∧ y = .int j ∧ C i j ∧ d = .int (g i j)) : OpC X f gg := ⟨_, ho, fun x y dx dy d H Q rx ry e q => by
  obtain ⟨i, j, rfl, rfl, c, rfl⟩ := hg _ _ _ e
  cases rx
  cases ry
  exact ⟨i, j, rfl, rfl, c, q _ (.int _) rfl⟩⟩
theorem o_sub : OpC X (binaryOp .Sub) gSub := by
  refine ⟨_, op_sub, fun x y dx dy d H Q rx ry e q => ?_⟩
  unfold gSub at e
  split at e
  · cases e; cases rx; cases ry; exact ⟨_, _, rfl, rfl, q _ (.int _) rfl⟩
  · cases e
theorem o_mul : OpC X (binaryOp .Mult) gMul := by
  have h1 : OpR X (binaryOp .Mult) (fun x y H Q => (rI CMul fun i j => .int (i * j)) x y H Q ∨ (rI CMulW fun i j => .int (i * j)) x y H Q) := fun pins s σ H x y v u Q I rx ry h => h.elim (fun h => op_mul pins s σ H x y v u Q I rx ry h) fun h => op_mulW pins s σ H x y v u Q I rx ry h
  refine ⟨_, h1, fun x y dx dy d H Q rx ry e q => ?_⟩
  unfold gMul at e
  split at e
  · rename_i i j
    split at e
    · rename_i hm
      cases e; cases rx; cases ry
      unfold mulOk at hm
      rw [Bool.or_eq_true, Bool.or_eq_true, Bool.and_eq_true, Bool.and_eq_true] at hm
      simp only [decide_eq_true_eq] at hm
      rcases hm with (hm | hm) | hm
      · exact .inl ⟨_, _, rfl, rfl, .inl hm, q _ (.int _) rfl⟩
      · exact .inl ⟨_, _, rfl, rfl, .inr hm, q _ (.int _) rfl⟩
      · exact .inr ⟨_, _, rfl, rfl, hm, q _ (.int _) rfl⟩
    · cases e
  · cases e
theorem o_mod : OpC X (binaryOp .Mod) gMod := op_i op_mod fun x y d h => by
  unfold gMod at h
  split at h
  · split at h
    · rename_i hj; cases h; exact ⟨_, _, rfl, rfl, hj, rfl⟩
    · cases h
  · cases h
theorem o_fdv : OpC X (binaryOp .FloorDiv) gFdv := op_i op_fdivW fun x y d h => by
  unfold gFdv at h
  split at h
  · split at h
    · rename_i hj; cases h; exact ⟨_, _, rfl, rfl, hj, rfl⟩
    · cases h
  · cases h
theorem o_add : OpC X (binaryOp .Add) gAdd := by
  have h1 : OpR X (binaryOp .Add) (fun x y H Q => (rI0 fun i j => .int (i + j)) x y H Q ∨ (∃ i j, x = .str i ∧ y = .str j ∧ i.length + j.length ≤ sizeLine ∧ Q (.str (i ++ j)) H)) := fun pins s σ H x y v u Q I rx ry h => h.elim (fun h => op_add pins s σ H x y v u Q I rx ry h) fun h => op_add_str pins s σ H x y v u Q I rx ry h
  refine ⟨_, h1, fun x y dx dy d H Q rx ry e q => ?_⟩
  unfold gAdd at e
  split at e
  · cases e; cases rx; cases ry
    exact .inl ⟨_, _, rfl, rfl, q _ (.int _) rfl⟩
  · split at e
    · rename_i hl
      cases e; cases rx; cases ry
      exact .inr ⟨_, _, rfl, rfl, hl, q _ (.str _) rfl⟩
    · cases e
  · cases e

/-! ### comparisons -/
def shp (d : D) : Bool := SeqAt.shaped d.py
def gEq (x y : D) : Res D := if shp x && shp y then .ok (.bl (PyData.eqv x.py y.py)) else .bad
def gNe (x y : D) : Res D := if shp x && shp y then .ok (.bl (!PyData.eqv x.py y.py)) else .bad
theorem o_eq (hu : X.A.units + 64 < cLine) : OpC X (compareOp .Eq) gEq := by
  refine ⟨_, op_eqD hu, fun x y dx dy d H Q rx ry e q => ?_⟩
  unfold gEq at e
  split at e
  · rename_i hs
    rw [Bool.and_eq_true] at hs
    cases e
    exact ⟨_, _, rx.dp (shaped_lay hs.1), ry.dp (shaped_lay hs.2), hs.1, hs.2, q _ (.bl _) rfl⟩
  · cases e
theorem o_ne (hu : X.A.units + 64 < cLine) : OpC X (compareOp .NotEq) gNe := by
  refine ⟨_, op_neD hu, fun x y dx dy d H Q rx ry e q => ?_⟩
  unfold gNe at e
  split at e
  · rename_i hs
    rw [Bool.and_eq_true] at hs
    cases e
    exact ⟨_, _, rx.dp (shaped_lay hs.1), ry.dp (shaped_lay hs.2), hs.1, hs.2, q _ (.bl _) rfl⟩
  · cases e
/-- what may be set in order -/
def ordOk (x y : D) : Bool := shp x && shp y && PySem.W.alike x.py y.py && (match x with | .non => false | _ => true) && decide (min x.py.depth y.py.depth ≤ 60)
def gLt : D → D → Res D
  | .int i, .int j => .ok (.bl (decide (i < j)))
  | x, y => if ordOk x y then .ok (.bl (PySem.W.dataLt x.py y.py)) else .bad
def gGt : D → D → Res D
  | .int i, .int j => .ok (.bl (decide (j < i)))
  | x, y => if ordOk x y then .ok (.bl (PySem.W.dataLt y.py x.py)) else .bad
def gLe : D → D → Res D
  | .int i, .int j => .ok (.bl (decide (i ≤ j)))
  | x, y => if ordOk x y then .ok (.bl (!PySem.W.dataLt y.py x.py)) else .bad
def gGe : D → D → Res D
  | .int i, .int j => .ok (.bl (decide (j ≤ i)))
  | x, y => if ordOk x y then .ok (.bl (!PySem.W.dataLt x.py y.py)) else .bad
def rOrd (K : PySem.W.Frag) (f : PyData → PyData → Bool) : R2 := fun x y H Q => ∃ d e, Dp K H x d ∧ Dp K H y e ∧ PySem.W.alike d e = true ∧ d ≠ .none ∧ min d.depth e.depth ≤ 60 ∧ Q (.bl (f d e)) H
theorem op_ord {op : CmpOp} {f : PyData → PyData → Bool} (hu : X.A.units + 64 < cLine)
    (rule : ∀ {a b : Value} {da db : PyData} {as bs : List Addr} {s : Shared} {Q : Value → Shared → Prop}, Reads s.heap a da as → Reads s.heap b db bs → PySem.W.alike da db = true → da ≠ .none → X.A.units + min da.depth db.depth < cLine → Q (.bool (f da db)) s → wpAny (model X.prog X.w) X.A (compareOp op a b) Q X.xe s) : OpR X (compareOp op) (rOrd X.K f) := by
  intro pins s σ H x y v u Q I rx ry h
  obtain ⟨d, e, hd, he, ha, hn, hm, q⟩ := h
  obtain ⟨as, r1⟩ := Dp.reads I d x v hd rx
  obtain ⟨bs, r2⟩ := Dp.reads I e y u he ry
  exact rule r1 r2 ha hn (by omega) ⟨.bl _, H, I, rfl, q⟩
theorem ord_ok {x y : D} {H : Hp} {K : PySem.W.Frag} {v u : V} (h : ordOk x y = true) (rx : Rp (view H) v x) (ry : Rp (view H) u y) : Dp K H v x.py ∧ Dp K H u y.py ∧ PySem.W.alike x.py y.py = true ∧ x.py ≠ .none ∧ min x.py.depth y.py.depth ≤ 60 := by
  unfold ordOk at h
  simp only [Bool.and_eq_true, decide_eq_true_eq] at h
  obtain ⟨⟨⟨⟨h1, h2⟩, h3⟩, h4⟩, h5⟩ := h
  refine ⟨rx.dp (shaped_lay h1), ry.dp (shaped_lay h2), h3, ?_, h5⟩
  cases x <;> simp [D.py] at h4 ⊢
theorem o_ord {op : CmpOp} {f : PyData → PyData → Bool} {p : Int → Int → Bool} {g : D → D → Res D} (h1 : OpR X (compareOp op) (rI0 fun i j => .bl (p i j))) (h2 : OpR X (compareOp op) (rOrd X.K f))
    (hg : ∀ x y d, g x y = .ok d → (∃ i j, x = .int i ∧ y = .int j ∧ d = .bl (p i j)) ∨ (ordOk x y = true ∧ d = .bl (f x.py y.py))) : OpC X (compareOp op) g := by
  have h3 : OpR X (compareOp op) (fun x y H Q => (rI0 fun i j => .bl (p i j)) x y H Q ∨ rOrd X.K f x y H Q) := fun pins s σ H x y v u Q I rx ry h => h.elim (fun h => h1 pins s σ H x y v u Q I rx ry h) fun h => h2 pins s σ H x y v u Q I rx ry h
  refine ⟨_, h3, fun x y dx dy d H Q rx ry e q => ?_⟩
  rcases hg _ _ _ e with ⟨i, j, rfl, rfl, rfl⟩ | ⟨ho, rfl⟩
  · cases rx; cases ry
    exact .inl ⟨_, _, rfl, rfl, q _ (.bl _) rfl⟩
  · obtain ⟨a1, a2, a3, a4, a5⟩ := ord_ok (K := X.K) ho rx ry
    exact .inr ⟨_, _, a1, a2, a3, a4, a5, q _ (.bl _) rfl⟩
theorem o_lt (hu : X.A.units + 64 < cLine) : OpC X (compareOp .Lt) gLt := o_ord op_lt (op_ord (f := fun d e => PySem.W.dataLt d e) hu fun r1 r2 a n u q => PySem.W.lt_data r1 r2 a n u q) fun x y d h => by
  unfold gLt at h
  split at h
  · cases h; exact .inl ⟨_, _, rfl, rfl, rfl⟩
  · split at h
    · rename_i ho; cases h; exact .inr ⟨ho, rfl⟩
    · cases h
theorem o_gt (hu : X.A.units + 64 < cLine) : OpC X (compareOp .Gt) gGt := o_ord op_gt (op_ord (f := fun d e => PySem.W.dataLt e d) hu fun r1 r2 a n u q => PySem.W.gt_data r1 r2 a n u q) fun x y d h => by
  unfold gGt at h
  split at h
  · cases h; exact .inl ⟨_, _, rfl, rfl, rfl⟩
  · split at h
    · rename_i ho; cases h; exact .inr ⟨ho, rfl⟩
    · cases h
/-- is None -/
def gIsN : D → Res D := fun d => .ok (.bl (match d with | .non => true | _ => false))
def gNotN : D → Res D := fun d => .ok (.bl (match d with | .non => false | _ => true))
variable {a b e : Expr} {ma mb m : Env → Res D} {pos : Pos} {k : Nat}
theorem st_notN {j pos'} (ha : SB X a ma) : ST X (.Compare a [.IsNot] [.Constant .none j pos'] pos) (mTb (mUn gNotN ma)) := fun B H env σ tm d Q ok hm q => by
  obtain ⟨z, hz, hd⟩ := bind_ok hm
  obtain ⟨x, hx, hg⟩ := bind_ok hz
  cases hg
  cases hd
  refine wT_of (pt_cmp (pc_notN pe_sem)) (ha B H env σ tm x _ ok hx fun v H1 x1 ok1 r1 => ?_)
  cases r1 <;> exact ⟨_, rfl, q H1 x1 ok1⟩

/-! ### truth -/
def gTru : D → Res Bool
  | .non => .ok false
  | .bl b => .ok b
  | .int i => .ok (i != 0)
  | .str z => if z.length ≤ sizeLine then .ok ((z.length : Int) != 0) else .bad
  | .lst xs => .ok (!xs.isEmpty)
  | .tup xs => .ok (!xs.isEmpty)
  | _ => .bad
theorem empty_len {α β : Type} {xs : List α} {ys : List β} (h : xs.length = ys.length) : (!xs.isEmpty) = !ys.isEmpty := by
  cases xs <;> cases ys <;> simp_all
theorem st_tru (ha : SB X a ma) (he : ∀ whole, isTrue a X.env whole = (do let v ← whole; standAt a.pos; holding [v] (truthy v)) := by intro _; rfl) : ST X a (fun env => ma env >>= gTru) := fun B H env σ tm d Q ok hm q => by
  obtain ⟨x, hx, hg⟩ := bind_ok hm
  refine wT_of (pt_truth pe_sem he) (ha B H env σ tm x _ ok hx fun v H1 x1 ok1 r1 => ?_)
  cases r1 with
  | non => cases hg; exact ⟨_, rfl, q H1 x1 ok1⟩
  | bl => cases hg; exact ⟨_, rfl, q H1 x1 ok1⟩
  | int => cases hg; exact ⟨_, rfl, q H1 x1 ok1⟩
  | str z =>
    unfold gTru at hg
    split at hg <;> first | cases hg | skip
    all_goals first | (rename_i e; cases e) | skip
    all_goals first | (split at hg; (rename_i hl; cases hg; exact ⟨_, ⟨hl, rfl⟩, q H1 x1 ok1⟩); cases hg) | skip
  | lst h r =>
    cases hg
    exact ⟨_, .inl ⟨_, .inl (view_rd h), (empty_len r.length).symm⟩, q H1 x1 ok1⟩
  | tup h r =>
    cases hg
    exact ⟨_, .inr (.inl ⟨_, .inl (view_rd h), (empty_len r.length).symm⟩), q H1 x1 ok1⟩
  | dk => cases hg
  | dt => cases hg
  | ob => cases hg
  | exn0 => cases hg
  | dn => cases hg
  | exn => cases hg

/-! ### subscripts -/
def gIx : D → D → Res D
  | .lst xs, .int i => match atI xs i with | some d => .ok d | none => .bad
  | .tup xs, .int i => match atI xs i with | some d => .ok d | none => .bad
  | .str z, .int i => if z.length ≤ sizeLine then (match atI z.cps.toList i with | some c => .ok (.str ⟨#[c]⟩) | none => .bad) else .bad
  | _, _ => .bad
theorem atI_rp {G : Hp} {vs : List V} {ds : List D} {i : Int} {d : D} (r : RpAll G vs ds) (h : atI ds i = some d) : ∃ v, atI vs i = some v ∧ Rp G v d := by
  unfold atI at h ⊢
  rw [r.length]
  cases e : ixN ds.length i with
  | none => rw [e] at h; cases h
  | some j =>
    rw [e] at h
    exact r.get (show ds[j]? = some d from h)
theorem sb_ix (ha : SB X a ma) (hb : SB X b mb) (hs : PlainIx b) : SB X (.Subscript a b pos) (mOp gIx ma mb) := fun B H env σ tm d Q ok hm q => by
  obtain ⟨x, y, hx, hy, hg⟩ := two hm
  refine wE_of (pe_ix ix_seq pe_sem pe_sem hs) (sb2 ha hb ok hx hy fun v u H' x' ok' r1 r2 => ?_)
  unfold gIx at hg
  split at hg
  · cases r1 with
    | lst h r =>
      cases r2
      split at hg
      · rename_i d' he
        cases hg
        obtain ⟨z, hz, rz⟩ := atI_rp r he
        exact .inl ⟨_, _, _, _, rfl, rfl, .inl (view_rd h), hz, q z H' x' ok' rz⟩
      · cases hg
  · cases r1 with
    | tup h r =>
      cases r2
      split at hg
      · rename_i d' he
        cases hg
        obtain ⟨z, hz, rz⟩ := atI_rp r he
        exact .inr (.inl ⟨_, _, _, _, rfl, rfl, .inl (view_rd h), hz, q z H' x' ok' rz⟩)
      · cases hg
  · cases r1
    cases r2
    split at hg
    · rename_i hl
      split at hg
      · rename_i c he
        cases hg
        exact .inr (.inr ⟨_, _, c, rfl, rfl, hl, he, q _ H' x' ok' (.str _)⟩)
      · cases hg
    · cases hg
  · cases hg
theorem lev_get {vs : List V} {ds : List D} {k i : Nat} {v : V} {d : D} (h1 : vs[i]? = some v) (h2 : ds[i]? = some d) : ∃ l, (lev k vs ds).Perm ((v, k, d) :: l) := by
  have : (v, k, d) ∈ lev k vs ds := by
    unfold lev
    rw [List.mem_iff_getElem?]
    exact ⟨i, by rw [List.getElem?_zipWith, h1, h2]⟩
  obtain ⟨l1, l2, e⟩ := List.append_of_mem this
  exact ⟨l1 ++ l2, by rw [e]; exact List.perm_middle⟩
theorem atI_some {α : Type} {xs : List α} {i : Int} {x : α} (h : atI xs i = some x) : ∃ j, ixN xs.length i = some j ∧ xs[j]? = some x := by
  unfold atI at h
  cases e : ixN xs.length i with
  | none => rw [e] at h; cases h
  | some j => rw [e] at h; exact ⟨j, rfl, h⟩
/-- a shared thing's item is shared -/
theorem se_ix (ha : SE X 0 [] a ma) (hb : SB X b mb) (hs : PlainIx b) : SE X 0 [] (.Subscript a b pos) (mOp gIx ma mb) := fun B H env σ tm d Q ok hm q => by
  obtain ⟨x, y, hx, hy, hg⟩ := two hm
  refine wE_of (pe_ix ix_seq pe_sem pe_sem hs) (ha B H env σ tm x _ ok hx fun v H1 x1 ok1 => hb B H1 env σ _ y _ ok1 hy fun u H2 x2 ok2 r2 => ?_)
  have fin : ∀ {ds : List D} {i : Int}, (x = .lst ds ∨ x = .tup ds) → y = .int i → atI ds i = some d → (rIx X.K) v u H2 Q := fun {ds i} hxx hyy he => by
    subst hyy
    cases r2
    obtain ⟨p, o, vs, ev, hp, hl, f1, f2, _, _, ra, ok3⟩ := ok2.items (ds := ds) (hxx.imp id .inl)
    obtain ⟨j, hj, hd⟩ := atI_some he
    obtain ⟨z, hz, rz⟩ := ra.get hd
    have hz' : atI vs i = some z := by
      unfold atI
      rw [hl, hj]
      exact hz
    obtain ⟨l, hp'⟩ := lev_get (k := 0) hz hd
    have ok4 : EnvOk B H2 env σ ((z, 0, d) :: tm) := by
      refine EnvOk.less (l := l ++ [(v, 0, x)]) (ok3.perm ((hp'.append_right _).trans ?_))
      have e : (l ++ [(v, 0, x)]) ++ (z, 0, d) :: tm = l ++ (v, 0, x) :: (z, 0, d) :: tm := by simp
      rw [e]
      have e2 : (z, 0, d) :: l ++ (v, 0, x) :: tm = (z, 0, d) :: ((l ++ [(v, 0, x)]) ++ tm) := by simp
      rw [e2]
      refine List.perm_middle.symm.trans ?_
      rw [e]
    have ext := x1.trans x2
    subst ev
    rcases hxx with e | e
    · have := f1 e
      subst this
      exact .inl ⟨_, _, _, _, rfl, rfl, .inl (view_rd hp), hz', q z H2 ext ok4⟩
    · have := f2 e
      subst this
      exact .inr (.inl ⟨_, _, _, _, rfl, rfl, .inl (view_rd hp), hz', q z H2 ext ok4⟩)
  unfold gIx at hg
  split at hg
  · split at hg
    · rename_i he; cases hg; exact fin (.inl rfl) rfl he
    · cases hg
  · split at hg
    · rename_i he; cases hg; exact fin (.inr rfl) rfl he
    · cases hg
  · split at hg
    · rename_i hl
      split at hg
      · rename_i c he
        cases hg
        have r1 := ok2.rp
        cases r1
        cases r2
        exact .inr (.inr ⟨_, _, c, rfl, rfl, hl, he, q _ H2 (x1.trans x2) (ok2.tail.imm (.str _) rfl)⟩)
      · cases hg
    · cases hg
  · cases hg
end
end Mir

namespace Mir
open PySem PySem.Spec L2

def wG (X : Cx) (tg : Expr) : TG := fun v σ H Q => ∀ (pins : List (Addr × Obj)) (s : Shared) (u : Value), Inv X pins σ H s → RelV v u → wpAny (model X.prog X.w) X.A (assign tg X.env u) (fun _ s' => ∃ σ' H', Inv X pins σ' H' s' ∧ Q σ' H') X.xe s
theorem pg_sem {X : Cx} {tg : Expr} : PG X tg (wG X tg) := ⟨fun pins s σ H v u Q I r h => h pins s u I r⟩
theorem wG_of {X : Cx} {tg : Expr} {t : TG} (h : PG X tg t) {v : V} {σ : St} {H : Hp} {Q : St → Hp → Prop} (ht : t v σ H Q) : wG X tg v σ H Q := fun pins s u I r => h.run pins s σ H v u Q I r ht
def wGs (X : Cx) (ts : List Expr) : TGs := fun vs σ H Q => ∀ (pins : List (Addr × Obj)) (s : Shared) (us : List Value), Inv X pins σ H s → Vals vs us → wpAny (model X.prog X.w) X.A (assignInOrder ((assignEach ts X.env).map (·.2)) us) (fun _ s' => ∃ σ' H', Inv X pins σ' H' s' ∧ Q σ' H') X.xe s
theorem pgs_sem {X : Cx} {tg : List Expr} : PGs X tg (wGs X tg) := ⟨fun pins s σ H v u Q I r h => h pins s u I r⟩
theorem wGs_of {X : Cx} {tg : List Expr} {t : TGs} (h : PGs X tg t) {v : List V} {σ : St} {H : Hp} {Q : St → Hp → Prop} (ht : t v σ H Q) : wGs X tg v σ H Q := fun pins s u I r => h.run pins s σ H v u Q I r ht
def wI (X : Cx) (tg it : Expr) : TI := fun σ H R => ∀ (pins : List (Addr × Obj)) (s : Shared), Inv X pins σ H s → wpAny (model X.prog X.w) X.A (eval it X.env) (fun v s1 => wpAny (model X.prog X.w) X.A (pyIter v) (PIE X pins σ tg R) X.xe s1) X.xe s
theorem pi_sem {X : Cx} {tg it : Expr} : PI X tg it (wI X tg it) := ⟨fun pins s σ H R I h => h pins s I⟩
theorem wI_of {X : Cx} {tg it : Expr} {t : TI} (h : PI X tg it t) {σ : St} {H : Hp} {R : It → Hp → Prop} (ht : t σ H R) : wI X tg it σ H R := fun pins s I => h.run pins s σ H R I ht

/-- a target: what stands in the hand goes into the slots -/
def Off (is : List Nat) (σ σ' : St) : Prop := σ'.length = σ.length ∧ ∀ j, j ∉ is → σ'[j]? = σ[j]?
def STg (X : Cx) (tg : Expr) (is : List Nat) (m : Nat → D → Env → Res Env) : Prop := ∀ (k : Nat) (B : Bs) (H : Hp) (env : Env) (σ : St) (tm : List Hold) (d : D) (v : V) (env' : Env) (Q : St → Hp → Prop), EnvOk B H env σ ((v, k, d) :: tm) → m k d env = .ok env' →
  (∀ σ', Off is σ σ' → EnvOk B H env' σ' tm → Q σ' H) → wG X tg v σ H Q
def STgs (X : Cx) (ts : List Expr) (is : List Nat) (m : Nat → List D → Env → Res Env) : Prop := ∀ (k : Nat) (B : Bs) (H : Hp) (env : Env) (σ : St) (tm : List Hold) (ds : List D) (vs : List V) (env' : Env) (Q : St → Hp → Prop), vs.length = ds.length → EnvOk B H env σ (lev k vs ds ++ tm) → m k ds env = .ok env' →
  (∀ σ', Off is σ σ' → EnvOk B H env' σ' tm → Q σ' H) → wGs X ts vs σ H Q
def tName (i : Nat) : Nat → D → Env → Res Env := fun k d env => if i < env.length then .ok (env.set i (some (k, d))) else .bad
theorem tg_name {X : Cx} {tg : Expr} {i : Nat} (h : PG X tg (gName i)) : STg X tg [i] (tName i) := fun k B H env σ tm d v env' Q ok hm q => by
  unfold tName at hm
  split at hm
  · rename_i hi
    cases hm
    exact wG_of h (q _ ⟨by simp, fun j hj => by rw [List.getElem?_set_ne (fun z => hj (by simp [z]))]⟩ (ok.store hi))
  · cases hm
def tNil : Nat → List D → Env → Res Env := fun _ ds env => match ds with
  | [] => .ok env
  | _ => .bad
def tCons (t : Nat → D → Env → Res Env) (u : Nat → List D → Env → Res Env) : Nat → List D → Env → Res Env := fun k ds env => match ds with
  | d :: r => t k d env >>= fun e => u k r e
  | _ => .bad
section
variable {X : Cx} {e a b tg it : Expr} {m ma mb : Env → Res D} {k : Nat} {cs : List Nat} {pos : Pos}
theorem tgs_nil : STgs X [] [] tNil := fun k B H env σ tm ds vs env' Q hl ok hm q => by
  unfold tNil at hm
  split at hm
  · cases hm
    have : vs = [] := List.length_eq_zero_iff.mp hl
    subst this
    exact wGs_of pgs_nil ⟨rfl, q σ ⟨rfl, fun _ _ => rfl⟩ ok⟩
  · cases hm
theorem tgs_cons {es : List Expr} {t : Nat → D → Env → Res Env} {u : Nat → List D → Env → Res Env} {is js : List Nat} (h1 : STg X e is t) (h2 : STgs X es js u)
    (hs : (assignEach (e :: es) X.env).map (·.2) = assign e X.env :: (assignEach es X.env).map (·.2) := by rfl) : STgs X (e :: es) (is ++ js) (tCons t u) := fun k B H env σ tm ds vs env' Q hl ok hm q => by
  unfold tCons at hm
  split at hm
  · rename_i d r
    obtain ⟨e1, h3, h4⟩ := bind_ok hm
    cases vs with
    | nil => simp at hl
    | cons v vr =>
      have ok' : EnvOk B H env σ ((v, k, d) :: (lev k vr r ++ tm)) := ok
      exact wGs_of (pgs_cons pg_sem pgs_sem hs) ⟨v, vr, rfl, h1 k B H env σ _ d v e1 _ ok' h3 fun σ' o1 ok2 => h2 k B H e1 σ' tm r vr env' Q (by simpa using hl) ok2 h4 fun σ2 o2 ok3 => q σ2 ⟨o2.1.trans o1.1, fun j hj => (o2.2 j fun z => hj (List.mem_append_right _ z)).trans (o1.2 j fun z => hj (List.mem_append_left _ z))⟩ ok3⟩
  · cases hm
/-- a tuple, taken apart -/
def tTupT (n : Nat) (u : Nat → List D → Env → Res Env) : Nat → D → Env → Res Env := fun k d env => match d with
  | .tup ds => if ds.length = n then u (k - 1) ds env else .bad
  | _ => .bad
theorem EnvOk.opTup {B : Bs} {H : Hp} {env : Env} {σ : St} {tm : List Hold} {v : V} {ds : List D} (h : EnvOk B H env σ ((v, k, .tup ds) :: tm)) : ∃ p vs, v = .ref p ∧ view H p = some (.tup vs) ∧ vs.length = ds.length ∧ EnvOk B H env σ (lev (k - 1) vs ds ++ tm) := by
  have h2 := h.len
  have h3 := h.has
  obtain ⟨G, f, g, hg, hf, hr, nd, hq⟩ := EnvOk.apart (l := [(v, k, D.tup ds)]) h
  cases hf with
  | @cons _ _ _ _ f1 g1 h1 hn =>
    cases hn
    rw [List.append_nil] at nd hq
    cases h1 with
    | sh hz r =>
      cases r with
      | @tup a0 vs0 _ e ra =>
        refine ⟨_, _, rfl, hg.gs _ _ e, ra.length, ?_⟩
        have hv : HoldAll G H (lev (k - 1) vs0 ds) [] := by
          have hz' : k - 1 = 0 ∨ immAll ds = true := hz.imp (fun z => by omega) fun z => by simpa [D.imm] using z
          clear hz hq nd e h
          induction ra using RpAll.rec (motive_1 := fun _ _ _ => True) with
          | nil => exact .nil
          | @cons v' vs' d' ds' hr' _ _ ih =>
            have a1 : k - 1 = 0 ∨ d'.imm = true := hz'.imp id fun z => by rw [immAll, Bool.and_eq_true] at z; exact z.1
            have a2 : k - 1 = 0 ∨ immAll ds' = true := hz'.imp id fun z => by rw [immAll, Bool.and_eq_true] at z; exact z.2
            exact HoldAll.cons (f := []) (g := []) (.sh a1 hr') (ih a2)
          | _ => trivial
        exact EnvOk.join h2 h3 hg hv hr nd hq
    | @tup k' a vs _ _ e ra =>
      refine ⟨_, vs, rfl, by unfold view; rw [e]; rfl, ?_, ?_⟩
      · have len : ∀ {k : Nat} {f : List Addr} {vs : List V} {ds : List D}, OdAll G H k f vs ds → vs.length = ds.length := fun {k f vs ds} r => by
          induction vs generalizing ds f with
          | nil => cases r; rfl
          | cons v vs ih => cases r with | cons _ r => simp [ih r]
        exact len ra
      · have hv : HoldAll G H (lev k' vs ds ++ []) (f1 ++ []) := HoldAll.ofAll ra .nil
        rw [List.append_nil, List.append_nil] at hv
        exact EnvOk.join h2 h3 hg hv hr nd hq
theorem tg_tup {es : List Expr} {j : Nat} {n : Nat} {u : Nat → List D → Env → Res Env} {is : List Nat} (hc : X.calm = true) (h : STgs X es is u) (hn : (assignEach es X.env).length = n := by rfl) (hst : (assignEach es X.env).findIdx? (·.1) = none := by rfl) : STg X (.Tuple es j pos) is (tTupT n u) := fun k B H env σ tm d v env' Q ok hm q => by
  unfold tTupT at hm
  split at hm
  · rename_i ds
    split at hm
    · rename_i hl
      obtain ⟨p, vs, rfl, hp, hvl, ok2⟩ := ok.opTup
      exact wG_of (pg_tup hc pgs_sem hn hst) ⟨p, vs, rfl, .inl (view_rd hp), hvl.trans hl, h (k - 1) B H env σ tm ds vs env' Q hvl ok2 hm q⟩
    · cases hm
  · cases hm

/-! ### statements -/
def Post (kr : Nat) (B : Bs) (tm : List Hold) (D : Ends) : Ctl → Prop
  | .nx e => ∀ σ' H', EnvOk B H' e σ' tm → D.nx σ' H'
  | .bk e => ∀ σ' H', EnvOk B H' e σ' tm → D.bk σ' H'
  | .ct e => ∀ σ' H', EnvOk B H' e σ' tm → D.ct σ' H'
  | .rt d => ∀ v H', EnvOk B H' [] [] ((v, kr, d) :: tm) → D.rt v H'
def S1 (X : Cx) (kr : Nat) (st : Stmt) (m : Env → Res Ctl) : Prop := ∀ (B : Bs) (H : Hp) (env : Env) (σ : St) (tm : List Hold) (D : Ends) (r : Ctl), EnvOk B H env σ tm → m env = .ok r → Post kr B tm D r → wS X st D σ H
def SS (X : Cx) (kr : Nat) (ss : List Stmt) (m : Env → Res Ctl) : Prop := ∀ (B : Bs) (H : Hp) (env : Env) (σ : St) (tm : List Hold) (D : Ends) (r : Ctl), EnvOk B H env σ tm → m env = .ok r → Post kr B tm D r → wB X ss D σ H
variable {kr : Nat} {st : Stmt} {ss : List Stmt} {m1 m2 : Env → Res Ctl}
def mSkip : Env → Res Ctl := fun env => .ok (.nx env)
def mSeq (m n : Env → Res Ctl) : Env → Res Ctl := fun env => m env >>= fun c => match c with
  | .nx e => n e
  | c => .ok c
theorem ss_nil : SS X kr [] mSkip := fun B H env σ tm D r ok hm p => by
  cases hm
  exact wB_of pss_nil (p σ H ok)
theorem ss_cons (h1 : S1 X kr st m1) (h2 : SS X kr ss m2) : SS X kr (st :: ss) (mSeq m1 m2) := fun B H env σ tm D r ok hm p => by
  obtain ⟨c, hc, hd⟩ := bind_ok hm
  refine wB_of (pss_cons ps_sem pss_sem) (h1 B H env σ tm { D with nx := wB X ss D } c ok hc ?_)
  cases c with
  | nx e => exact fun σ' H' ok' => h2 B H' e σ' tm D r ok' hd p
  | bk e => cases hd; exact p
  | ct e => cases hd; exact p
  | rt d => cases hd; exact p
theorem ss_one (h1 : S1 X kr st m1) : SS X kr [st] m1 := fun B H env σ tm D r ok hm p => wB_of (pss_one ps_sem) (h1 B H env σ tm D r ok hm p)
/-- something is forgotten ahead of a block -/
def mForget (is : List Nat) (m : Env → Res Ctl) : Env → Res Ctl := fun env => m (clear env is)
/-- a slot is shared from here on -/
def fz (i : Nat) (env : Env) : Env := match env[i]? with
  | some (some (_, d)) => env.set i (some (0, d))
  | _ => env
theorem EnvOk.fz {B : Bs} {H : Hp} {env : Env} {σ : St} {tm : List Hold} (h : EnvOk B H env σ tm) (i : Nat) : EnvOk B H (fz i env) σ tm := by
  unfold Mir.fz
  split
  · rename_i k d e
    obtain ⟨v, hv⟩ := h.has i _ e
    have hi : i < env.length := (List.getElem?_eq_some_iff.mp e).1
    have h1 := ((h.move e hv).freeze).store (i := i) (by simpa using hi)
    rw [List.set_set, set_self hv] at h1
    exact h1
  · exact h
def mFz (i : Nat) (m : Env → Res Ctl) : Env → Res Ctl := fun env => m (fz i env)
theorem ss_fz {i : Nat} (h : SS X kr ss m1) : SS X kr ss (mFz i m1) := fun B H env σ tm D r ok hm p => h B H _ σ tm D r (ok.fz i) hm p
theorem s1_fz {i : Nat} (h : S1 X kr st m1) : S1 X kr st (mFz i m1) := fun B H env σ tm D r ok hm p => h B H _ σ tm D r (ok.fz i) hm p

def mSet (i k : Nat) (cs : List Nat) (m : Env → Res D) : Env → Res Ctl := fun env => m env >>= fun d => tName i k d (clear env cs) >>= fun e => .ok (.nx e)
theorem s_set {i : Nat} {x : Str} {pos' : Pos} (hN : X.N.Nodup) (hi : X.N[i]? = some x) (hx : Loc X.env.scope x) (he : SE X k cs e m) (hs : swapsWith e (some (.Name x pos')) pos.line X.env = pure false := by rfl)
    (hf : X.fn x = true ∨ X.env.scope.names.lookup x = some .local := by first | exact .inl rfl | exact .inr rfl | assumption) : S1 X kr (.Assign [.Name x pos'] e pos) (mSet i k cs m) := fun B H env σ tm D r ok hm p => by
  obtain ⟨d, hd, h2⟩ := bind_ok hm
  obtain ⟨e', h3, h4⟩ := bind_ok h2
  cases h4
  unfold tName at h3
  split at h3
  · rename_i hl
    cases h3
    exact wS_of (ps_set hN hi hx pe_sem hs hf) (he B H env σ tm d _ ok hd fun v H' x' ok' => p _ _ (ok'.store hl))
  · cases h3
/-- any target -/
def mAsg (t : Nat → D → Env → Res Env) (k : Nat) (cs : List Nat) (m : Env → Res D) : Env → Res Ctl := fun env => m env >>= fun d => t k d (clear env cs) >>= fun e => .ok (.nx e)
theorem s_asg {t : Nat → D → Env → Res Env} {is : List Nat} (hg : STg X tg is t) (he : SE X k cs e m) (hs : swapsWithSole [tg] e pos.line X.env = pure false := by rfl) (hw : swappedStores [tg] e X.env = pure none := by rfl)
    (h1 : (assignEach [tg] X.env).map (·.2) = [assign tg X.env] := by rfl) : S1 X kr (.Assign [tg] e pos) (mAsg t k cs m) := fun B H env σ tm D r ok hm p => by
  obtain ⟨d, hd, h2⟩ := bind_ok hm
  obtain ⟨e', h3, h4⟩ := bind_ok h2
  cases h4
  exact wS_of (ps_asg pe_sem pg_sem hs hw h1) (he B H env σ tm d _ ok hd fun v H' x' ok' => hg k B H' _ σ tm d v e' _ ok' h3 fun σ2 _ ok2 => p σ2 H' ok2)
theorem EnvOk.noSlots {B : Bs} {H : Hp} {env : Env} {σ : St} {tm : List Hold} (h : EnvOk B H env σ tm) : EnvOk B H [] [] tm := by
  obtain ⟨⟨G, fp, g, hs, nd, hp⟩, h2, h3⟩ := h
  have h' : EnvOk B H [] [] (slots env σ ++ tm) := ⟨⟨G, fp, g, hs, nd, hp⟩, rfl, fun i kd e => by simp at e⟩
  exact h'.less
def mRet (m : Env → Res D) : Env → Res Ctl := fun env => m env >>= fun d => .ok (.rt d)
theorem s_ret (he : SE X kr cs e m) : S1 X kr (.Return (some e) pos) (mRet m) := fun B H env σ tm D r ok hm p => by
  obtain ⟨d, hd, h2⟩ := bind_ok hm
  cases h2
  exact wS_of (ps_ret pe_sem) (he B H env σ tm d _ ok hd fun v H' x' ok' => p v H' ok'.noSlots)
theorem s_if {c : Expr} {as bs : List Stmt} {t : Env → Res Bool} (hc : ST X c t) (ha : SS X kr as m1) (hb : SS X kr bs m2) : S1 X kr (.If c as bs pos) (mIf t m1 m2) := fun B H env σ tm D r ok hm p => by
  obtain ⟨b, hb', h2⟩ := bind_ok hm
  refine wS_of (ps_if pt_sem pss_sem pss_sem) (hc B H env σ tm b _ ok hb' fun H' x' ok' => ?_)
  cases b with
  | true => rw [if_pos rfl] at h2 ⊢; exact ha B H' env σ tm D r ok' h2 p
  | false => exact hb B H' env σ tm D r ok' h2 p
/-- what the proof never comes to -/
def mNo {α : Type} : Env → Res α := fun _ => .bad
theorem s_no : S1 X kr st mNo := fun B H env σ tm D r ok hm p => by cases hm
/-! ### for -/
/-- what an iterator gives, while what it leans on is held -/
def Yields (B : Bs) (J : It) (ex : List Hold) (ds : List D) : Prop := ∀ (i : Nat) (H : Hp) (env : Env) (σ : St) (tm : List Hold), EnvOk B H env σ (ex ++ tm) → (i = ds.length → J.stop i H) ∧ (i < ds.length → J.go i H ∧
  ∀ x H', J.yld i H x H' → ∃ d, ds[i]? = some d ∧ Ext H H' ∧ EnvOk B H' env σ ((x, 0, d) :: (ex ++ tm)))
def SI (X : Cx) (tg it : Expr) (m : Env → Res (List D)) : Prop := ∀ (B : Bs) (H : Hp) (env : Env) (σ : St) (tm : List Hold) (ds : List D) (R : It → Hp → Prop), EnvOk B H env σ tm → m env = .ok ds →
  (∀ J H' ex, Ext H H' → EnvOk B H' env σ (ex ++ tm) → Yields B J ex ds → R J H') → wI X tg it σ H R
def loop (t : Nat → D → Env → Res Env) (body : Env → Res Ctl) (fg : List Nat) : List D → Env → Res Ctl
  | [], env => .ok (.nx env)
  | x :: xs, env => t 0 x env >>= fun e1 => body e1 >>= fun c => match c with
    | .nx e => loop t body fg xs (clear e fg)
    | .ct e => loop t body fg xs (clear e fg)
    | .bk e => .ok (.nx (clear e fg))
    | .rt d => .ok (.rt d)
def mFor (m : Env → Res (List D)) (t : Nat → D → Env → Res Env) (body : Env → Res Ctl) (fg : List Nat) : Env → Res Ctl := fun env => m env >>= fun ds => loop t body fg ds env
theorem s_for {body : List Stmt} {mi : Env → Res (List D)} {t : Nat → D → Env → Res Env} {fg : List Nat} (hp : PassesOwn (model X.prog X.w) X.A X.env X.xe) (hc : X.calm = true) (hi : SI X tg it mi) {is : List Nat} (hg : STg X tg is t) (hb : SS X kr body m1)
    (hs : ∀ x, foldedSetIterable it X.env x = pure x := by intro _; rfl) : S1 X kr (.For tg it body [] pos) (mFor mi t m1 fg) := fun B H env σ tm D r ok hm p => by
  obtain ⟨ds, hd, hl⟩ := bind_ok hm
  refine wS_of (ps_for hp hc pi_sem pg_sem pss_sem hs) (hi B H env σ tm ds _ ok hd fun J H1 ex x1 ok1 Y => ?_)
  refine ⟨fun i m σ H => m = ds.length - i ∧ i ≤ ds.length ∧ ∃ env, EnvOk B H env σ (ex ++ tm) ∧ loop t m1 fg (ds.drop i) env = .ok r, ⟨ds.length, by simp, Nat.zero_le _, env, ok1, by simpa using hl⟩, ?_⟩
  rintro i n σ2 H2 ⟨rfl, hi2, env2, ok2, hr⟩
  obtain ⟨y1, y2⟩ := Y i H2 env2 σ2 tm ok2
  by_cases hlt : i < ds.length
  · obtain ⟨go, yl⟩ := y2 hlt
    refine .inr ⟨go, fun σ' H' => i + 1 ≤ ds.length ∧ ∃ env, EnvOk B H' env σ' (ex ++ tm) ∧ loop t m1 fg (ds.drop (i + 1)) env = .ok r, fun σ' H' ⟨h1, h2⟩ => ⟨ds.length - (i + 1), by omega, rfl, h1, h2⟩, fun x H3 hy => ?_⟩
    obtain ⟨d, hd2, x3, ok3⟩ := yl x H3 hy
    have hdr : ds.drop i = d :: ds.drop (i + 1) := by
      obtain ⟨h1, h2⟩ := List.getElem?_eq_some_iff.mp hd2
      rw [← h2]
      exact List.drop_eq_getElem_cons h1
    rw [hdr] at hr
    obtain ⟨e1, h3, h4⟩ := bind_ok hr
    obtain ⟨c, h5, h6⟩ := bind_ok h4
    refine hg 0 B H3 env2 σ2 (ex ++ tm) d x e1 _ ok3 h3 fun σ4 _ ok4 => ?_
    refine hb B H3 e1 σ4 (ex ++ tm) _ c ok4 h5 ?_
    cases c with
    | nx e => exact fun σ5 H5 ok5 => ⟨hlt, _, ok5.clear fg, h6⟩
    | ct e => exact fun σ5 H5 ok5 => ⟨hlt, _, ok5.clear fg, h6⟩
    | bk e =>
      cases h6
      exact fun σ5 H5 ok5 => p σ5 H5 ((ok5.clear fg).less)
    | rt d' =>
      cases h6
      refine fun v H5 ok5 => p v H5 (EnvOk.less (l := ex) (ok5.perm ?_))
      exact List.perm_middle.symm
  · have ei : i = ds.length := by omega
    refine .inl ⟨y1 ei, ?_⟩
    rw [ei, List.drop_length] at hr
    cases hr
    exact p σ2 H2 ok2.less

/-! ### iterators -/
def items : D → Res (List D)
  | .lst xs => .ok xs
  | .tup xs => .ok xs
  | _ => .bad
def itemsL : D → Res (List D)
  | .lst xs => .ok xs
  | _ => .bad
def itemsT : D → Res (List D)
  | .tup xs => .ok xs
  | _ => .bad
theorem EnvOk.item {B : Bs} {H : Hp} {env : Env} {σ : St} {tm : List Hold} {v x : V} {d y : D} {ds : List D} {vs : List V} {p : Addr} {i : Nat} (h : EnvOk B H env σ ((v, 0, d) :: tm)) (hd : d = .lst ds ∨ d = .tup ds) (ev : v = .ref p) (hp : view H p = some (.lst vs) ∨ view H p = some (.tup vs)) (hx : vs[i]? = some x) (hy : ds[i]? = some y) :
    EnvOk B H env σ ((x, 0, y) :: (v, 0, d) :: tm) := by
  obtain ⟨q, o, ws, ev', hq, hl, f1, f2, _, _, ra, ok⟩ := h.items (ds := ds) (hd.imp id .inl)
  rw [ev] at ev'
  cases ev'
  have ew : ws = vs := by
    rcases hd with rfl | rfl
    · rw [f1 rfl] at hq
      rcases hp with hp | hp <;> rw [hq] at hp <;> cases hp
      rfl
    · rw [f2 rfl] at hq
      rcases hp with hp | hp <;> rw [hq] at hp <;> cases hp
      rfl
  subst ew
  obtain ⟨l, hp'⟩ := lev_get (k := 0) hx hy
  refine EnvOk.less (l := l) (ok.perm ((hp'.append_right _).trans ?_))
  exact (List.perm_middle (l₁ := l) (a := (x, 0, y)) (l₂ := (v, 0, d) :: tm)).symm
theorem si_list (he : SE X 0 [] it m) : SI X tg it (fun env => m env >>= itemsL) := fun B H env σ tm ds R ok hm q => by
  obtain ⟨d, hd, h2⟩ := bind_ok hm
  unfold itemsL at h2
  split at h2
  · rename_i xs
    cases h2
    refine wI_of (pi_list pe_sem) (he B H env σ tm _ _ ok hd fun v H1 x1 ok1 => ?_)
    have r := ok1.rp
    cases r with
    | @lst a vs _ hv ra =>
      refine ⟨a, rfl, ⟨_, .inl (view_rd hv)⟩, q _ H1 [(.ref a, 0, .lst ds)] x1 ok1 fun i H2 env2 σ2 tm2 ok2 => ?_⟩
      have r2 := EnvOk.rp ok2
      cases r2 with
      | @lst _ ws _ hw rb =>
        have hs : SqL X.K H2 a ws := .inl (view_rd hw)
        refine ⟨fun ei => ⟨ws, hs, by have := rb.length; omega⟩, fun hi => ?_⟩
        obtain ⟨x, hx, rx⟩ := rb.get (List.getElem?_eq_getElem hi)
        refine ⟨⟨ws, x, hs, hx⟩, fun y H3 hy => ?_⟩
        obtain ⟨rfl, hy⟩ := hy
        have ey : y = x := Option.some.inj ((hy ws hs).symm.trans hx)
        subst ey
        exact ⟨_, List.getElem?_eq_getElem hi, Ext.refl _, EnvOk.item ok2 (.inl rfl) rfl (.inl hw) hx (List.getElem?_eq_getElem hi)⟩
  · cases h2
def intsD (lo : Int) (n : Nat) : List D := (List.range n).map fun i => .int (lo + (i : Nat))
def rangeOk (i : Int) : Bool := decide (-(2 ^ 62) ≤ i) && decide (i < 2 ^ 62)
def gRng1 : D → Res (List D)
  | .int j => if rangeOk j then .ok (intsD 0 j.toNat) else .bad
  | _ => .bad
theorem rangeOk_iff {i : Int} : rangeOk i = true ↔ -(2 ^ 62) ≤ i ∧ i < 2 ^ 62 := by
  unfold rangeOk
  rw [Bool.and_eq_true, decide_eq_true_eq, decide_eq_true_eq]
theorem yields_range {B : Bs} {lo : Int} {n : Nat} : Yields B (Itr lo n) [] (intsD lo n) := fun i H env σ tm ok => by
  have hl : (intsD lo n).length = n := by unfold intsD; simp
  rw [hl]
  refine ⟨fun e => Nat.le_of_eq e.symm, fun hi => ⟨hi, fun x H' hy => ?_⟩⟩
  obtain ⟨rfl, rfl⟩ := hy
  refine ⟨.int (lo + i), ?_, Ext.refl _, ok.imm (.int _) rfl⟩
  unfold intsD
  rw [List.getElem?_map, List.getElem?_range hi]
  rfl
theorem si_range1 {p : Pos} (hg : Gl X "range") (hm : X.mg "range" = none) (ha : SB X a ma) (hs : starEach [a] X.env = [(false, eval a X.env)] := by rfl) : SI X tg (.Call (.Name "range" p) [a] [] pos) (fun env => ma env >>= gRng1) := fun B H env σ tm ds R ok hm' q => by
  obtain ⟨d, hd, h2⟩ := bind_ok hm'
  unfold gRng1 at h2
  split at h2
  · split at h2
    · rename_i hr
      cases h2
      obtain ⟨r1, r2⟩ := rangeOk_iff.mp hr
      refine wI_of (pi_range1 hg hm (pa_cons pe_sem pa_nil (by rw [hs]; rfl)) hs) (ha B H env σ tm _ _ ok hd fun v H1 x1 ok1 rv => ?_)
      cases rv
      exact ⟨_, rfl, r1, r2, q _ H1 [] x1 ok1 yields_range⟩
    · cases h2
  · cases h2
end
end Mir

namespace Mir
open PySem PySem.Spec L2

theorem slots_cong : ∀ {env : Env} {σ σ' : St}, σ'.length = σ.length → (∀ (j : Nat) kd, env[j]? = some (some kd) → σ'[j]? = σ[j]?) → slots env σ' = slots env σ
  | [], σ, σ', _, _ => by cases σ <;> cases σ' <;> rfl
  | x :: e, [], [], _, _ => rfl
  | x :: e, [], _ :: _, h, _ => by simp at h
  | x :: e, _ :: _, [], h, _ => by simp at h
  | none :: e, y :: s, y' :: s', hl, h => by
    have ih := slots_cong (env := e) (σ := s) (σ' := s') (by simpa using hl) (fun j kd hj => by simpa using h (j + 1) kd (by simpa using hj))
    cases y <;> cases y' <;> exact ih
  | some kd :: e, y :: s, y' :: s', hl, h => by
    have ih := slots_cong (env := e) (σ := s) (σ' := s') (by simpa using hl) (fun j kd hj => by simpa using h (j + 1) kd (by simpa using hj))
    have e0 : y' = y := by simpa using h 0 kd rfl
    subst e0
    obtain ⟨k, d⟩ := kd
    cases y' with
    | none => exact ih
    | some v => exact congrArg (List.cons _) ih
theorem EnvOk.cong {B : Bs} {H : Hp} {env : Env} {σ σ' : St} {tm : List Hold} (h : EnvOk B H env σ tm) (hl : σ'.length = σ.length) (hs : ∀ (j : Nat) kd, env[j]? = some (some kd) → σ'[j]? = σ[j]?) : EnvOk B H env σ' tm := by
  obtain ⟨⟨G, fp, g, hh, nd, hp⟩, h2, h3⟩ := h
  exact ⟨⟨G, fp, g, by rw [slots_cong hl hs]; exact hh, nd, hp⟩, h2.trans hl.symm, fun i kd e => by rw [hs i kd e]; exact h3 i kd e⟩
theorem wipe_len : ∀ (σ : St) (vs : List Nat), (wipe σ vs).length = σ.length
  | _, [] => rfl
  | σ, v :: vs => by unfold wipe; rw [List.length_set, wipe_len σ vs]
theorem wipe_get : ∀ (σ : St) (vs : List Nat) (j : Nat), (wipe σ vs)[j]? = if j ∈ vs then (σ[j]?).map (fun _ => none) else σ[j]?
  | σ, [], j => by simp [wipe]
  | σ, v :: vs, j => by
    unfold wipe
    rw [List.getElem?_set]
    by_cases e : v = j
    · subst e
      rw [if_pos rfl, if_pos List.mem_cons_self, wipe_len]
      by_cases h : v < σ.length
      · rw [if_pos h, List.getElem?_eq_getElem h]; rfl
      · rw [if_neg h, List.getElem?_eq_none (by omega)]; rfl
    · rw [if_neg e, wipe_get σ vs j]
      have : (j ∈ v :: vs) ↔ j ∈ vs := by simp [Ne.symm e]
      by_cases h : j ∈ vs
      · rw [if_pos h, if_pos (this.mpr h)]
      · rw [if_neg h, if_neg fun z => h (this.mp z)]
theorem clear_get : ∀ (is : List Nat) (env : Env) (j : Nat), (clear env is)[j]? = if j ∈ is then (env[j]?).map (fun _ => none) else env[j]?
  | [], env, j => by simp [clear]
  | i :: is, env, j => by
    unfold clear
    rw [clear_get is, List.getElem?_set]
    by_cases e : i = j
    · subst e
      rw [if_pos rfl, if_pos List.mem_cons_self]
      by_cases h : i < env.length
      · rw [if_pos h, List.getElem?_eq_getElem h]
        split <;> rfl
      · rw [if_neg h, List.getElem?_eq_none (by omega)]
        split <;> rfl
    · rw [if_neg e]
      have : (j ∈ i :: is) ↔ j ∈ is := by simp [Ne.symm e]
      by_cases h : j ∈ is
      · rw [if_pos h, if_pos (this.mpr h)]
      · rw [if_neg h, if_neg fun z => h (this.mp z)]
/-- a target's mirror changes just its slots -/
def TgOk (is : List Nat) (t : Nat → D → Env → Res Env) : Prop := ∀ k d env env', t k d env = .ok env' → env'.length = env.length ∧ ∀ j, j ∉ is → env'[j]? = env[j]?
theorem tok_name {i : Nat} : TgOk [i] (tName i) := fun k d env env' h => by
  unfold tName at h
  split at h
  · cases h
    exact ⟨by simp, fun j hj => by rw [List.getElem?_set_ne (fun z => hj (by simp [z]))]⟩
  · cases h
theorem wipe_off {σ σ' : St} {vs is : List Nat} (o : Off is (wipe σ vs) σ') (hs : ∀ i ∈ is, i ∈ vs) : wipe σ' vs = wipe σ vs := by
  refine List.ext_getElem? fun j => ?_
  rw [wipe_get, wipe_get]
  have hl : σ'.length = σ.length := o.1.trans (wipe_len σ vs)
  by_cases h : j ∈ vs
  · rw [if_pos h, if_pos h]
    by_cases hj : j < σ.length
    · rw [List.getElem?_eq_getElem hj, List.getElem?_eq_getElem (by omega)]; rfl
    · rw [List.getElem?_eq_none (by omega), List.getElem?_eq_none (by omega)]
  · rw [if_neg h, if_neg h, o.2 j fun z => h (hs j z), wipe_get, if_neg h]

/-! ### list comprehensions -/
section
variable {X : Cx} {e a b tg it elt : Expr} {m ma mb me : Env → Res D} {k : Nat} {cs : List Nat} {pos : Pos}
def SPT (X : Cx) (ifs : List Expr) (m : Env → Res Bool) : Prop := ∀ (B : Bs) (H : Hp) (env : Env) (σ : St) (tm : List Hold) (b : Bool) (Q : Bool → Hp → Prop), EnvOk B H env σ tm → m env = .ok b → (∀ H', Ext H H' → EnvOk B H' env σ tm → Q b H') →
  ∀ (pins : List (Addr × Obj)) (s : Shared), Inv X pins σ H s → wpAny (model X.prog X.w) X.A (forIn ifs true fun c r => if r = true then do let ok ← isTrue c X.env (eval c X.env); pure (ForInStep.yield ok) else pure (ForInStep.yield r)) (TP X pins σ Q) X.xe s
theorem spt_nil : SPT X [] (fun _ => .ok true) := fun B H env σ tm b Q ok hm q pins s I => by
  cases hm
  exact pts_nil.run pins s σ H Q I (q H (Ext.refl H) ok)
theorem spt_one {c : Expr} {t : Env → Res Bool} (h : ST X c t) : SPT X [c] t := fun B H env σ tm b Q ok hm q pins s I => (pts_one pt_sem).run pins s σ H Q I (h B H env σ tm b Q ok hm q)
def lcLoop (t : Nat → D → Env → Res Env) (mt : Env → Res Bool) (me : Env → Res D) (env : Env) : List D → Res (List D)
  | [] => .ok []
  | x :: xs => t 0 x env >>= fun e1 => mt e1 >>= fun b => if b then me e1 >>= fun y => lcLoop t mt me env xs >>= fun ys => .ok (y :: ys) else lcLoop t mt me env xs
/-- the comprehension's own slots hold nothing -/
def noOwn (own : List Nat) (env : Env) : Bool := own.all fun i => match env[i]? with
  | some none => true
  | _ => false
def mLc (mi : Env → Res (List D)) (t : Nat → D → Env → Res Env) (mt : Env → Res Bool) (me : Env → Res D) (own : List Nat) : Env → Res D := fun env =>
  chk (noOwn own env) >>= fun _ => mi env >>= fun ds => lcLoop t mt me env ds >>= fun ys => if ys.length ≤ sizeLine then .ok (.lst ys) else .bad
theorem noOwn_iff {own : List Nat} {env : Env} (h : noOwn own env = true) : ∀ i ∈ own, env[i]? = some none := fun i hi => by
  unfold noOwn at h
  have := List.all_eq_true.mp h i hi
  cases q : env[i]? with
  | none => rw [q] at this; cases this
  | some x =>
    cases x with
    | none => rfl
    | some y => rw [q] at this; cases this
abbrev Blk (X : Cx) (scope : Scope) (P : Cx → Prop) : Prop := ∀ (s : Shared) (H : Hp) (C : Addr) (cl : List (Str × Addr)) (fp : List Addr), P (X.blk s H scope (compEnvC scope cl C X.env) fp)
/-- the reading of the comprehension, at its mirror -/
theorem lc_read {wi : TI} {B : Bs} {H : Hp} {env : Env} {σ : St} {tm : List Hold} {own is : List Nat} {scope : Scope} {ifs : List Expr} {mi : Env → Res (List D)} {t : Nat → D → Env → Res Env} {mt : Env → Res Bool} {d : D} {Q : VK}
    (hi : ∀ (ds : List D) (R : It → Hp → Prop), mi env = .ok ds → (∀ J H' ex, Ext H H' → EnvOk B H' env σ (ex ++ tm) → Yields B J ex ds → R J H') → wi σ H R) (hg : Blk X scope fun Y => STg Y tg is t) (htg : TgOk is t) (his : ∀ i ∈ is, i ∈ own) (ht : Blk X scope fun Y => SPT Y ifs mt) (he : Blk X scope fun Y => SE Y k [] elt me) (ok : EnvOk B H env σ tm) (hm : mLc mi t mt me own env = .ok d)
    (q : ∀ v H', Ext H H' → EnvOk B H' env σ ((v, k + 1, d) :: tm) → Q v H') :
    tLc wi (fun v σ H Q => Blk X scope fun Y => wG Y tg v σ H Q) (fun σ H Q => Blk X scope fun Y => ∀ (pins : List (Addr × Obj)) (s : Shared), Inv Y pins σ H s → wpAny (model Y.prog Y.w) Y.A (forIn ifs true fun c r => if r = true then do let ok ← isTrue c Y.env (eval c Y.env); pure (ForInStep.yield ok) else pure (ForInStep.yield r)) (TP Y pins σ Q) Y.xe s)
      (fun σ H Q => Blk X scope fun Y => wE Y elt σ H Q) own σ H Q := by
  obtain ⟨u, hc, h2⟩ := bind_ok hm
  have hno := noOwn_iff (chk_ok hc)
  obtain ⟨ds, hds, h3⟩ := bind_ok h2
  obtain ⟨ys, hys, h4⟩ := bind_ok h3
  by_cases hl : ys.length ≤ sizeLine
  · rw [if_pos hl] at h4
    cases h4
    have offOwn : ∀ (j : Nat) kd, env[j]? = some (some kd) → j ∉ own := fun j kd e z => by rw [hno j z] at e; cases e
    refine hi ds _ hds fun J H1 ex x1 ok1 Y L hD => ?_
    have ok1' : EnvOk B H1 env (wipe σ own) (ex ++ tm) := ok1.cong (wipe_len _ _) fun j kd e => by rw [wipe_get, if_neg (offOwn j kd e)]
    have ok2 : EnvOk B (upd H1 L (.lst [])) env (wipe σ own) ((.ref L, k + 1, .lst []) :: (ex ++ tm)) := EnvOk.newLst (vs := []) (ds := []) ok1' rfl hD
    refine ⟨fun i m H' => m = ds.length - i ∧ i ≤ ds.length ∧ Ext H1 (del H' L) ∧ ∃ acc rest, ys = acc ++ rest ∧ lcLoop t mt me env (ds.drop i) = .ok rest ∧ EnvOk B H' env (wipe σ own) ((.ref L, k + 1, .lst acc) :: (ex ++ tm)), ⟨ds.length, by simp, Nat.zero_le _, fun a o e => ?_, [], ys, rfl, by simpa using hys, ok2⟩, ?_⟩
    · rw [del_ne (ne_of_none e hD), upd_ne (ne_of_none e hD)]; exact e
    rintro i n H2 ⟨rfl, hi2, x2, acc, rest, ey, hr, ok3⟩
    have swp : ∀ {H : Hp} {x : Hold}, EnvOk B H env (wipe σ own) (x :: (ex ++ tm)) → EnvOk B H env (wipe σ own) (ex ++ x :: tm) := fun h => h.perm List.perm_middle.symm
    obtain ⟨y1, y2⟩ := Y i H2 env (wipe σ own) _ (swp ok3)
    by_cases hlt : i < ds.length
    · obtain ⟨go, yl⟩ := y2 hlt
      refine .inr ⟨go, fun H' => i + 1 ≤ ds.length ∧ Ext H1 (del H' L) ∧ ∃ acc rest, ys = acc ++ rest ∧ lcLoop t mt me env (ds.drop (i + 1)) = .ok rest ∧ EnvOk B H' env (wipe σ own) ((.ref L, k + 1, .lst acc) :: (ex ++ tm)), fun H' ⟨h1, h2, h3⟩ => ⟨ds.length - (i + 1), by omega, rfl, h1, h2, h3⟩, fun x H3 hy => ?_⟩
      obtain ⟨d, hd2, x3, ok4⟩ := yl x H3 hy
      have hdr : ds.drop i = d :: ds.drop (i + 1) := by
        obtain ⟨h1, h2⟩ := List.getElem?_eq_some_iff.mp hd2
        rw [← h2]
        exact List.drop_eq_getElem_cons h1
      rw [hdr] at hr
      obtain ⟨e1, g1, hr⟩ := bind_ok hr
      obtain ⟨b, g2, hr⟩ := bind_ok hr
      have xd : ∀ {Ha Hb : Hp}, Ext Ha Hb → Ext H1 (del Ha L) → Ext H1 (del Hb L) := fun {Ha Hb} p r a o e => by
        have ha : a ≠ L := ne_of_none e hD
        have := r a o e
        rw [del_ne ha] at this ⊢
        exact p a o this
      intro sX HX CX clX fpX
      refine hg sX HX CX clX fpX 0 B H3 env (wipe σ own) (ex ++ (V.ref L, k + 1, D.lst acc) :: tm) d x e1 _ ok4 g1 fun σ4 o4 ok5 => ⟨wipe_off o4 his, ?_⟩
      intro sY HY CY clY fpY pins s I
      refine ht sY HY CY clY fpY B H3 e1 σ4 (ex ++ (V.ref L, k + 1, D.lst acc) :: tm) b _ ok5 g2 (fun H5 x5 ok6 => ?_) pins s I
      -- back to the frame's env
      obtain ⟨tl, tk⟩ := htg _ _ _ _ g1
      have ec : clear e1 own = env := List.ext_getElem? fun j => by
        rw [clear_get]
        by_cases h : j ∈ own
        · rw [if_pos h, hno j h]
          have hj : j < env.length := (List.getElem?_eq_some_iff.mp (hno j h)).1
          rw [List.getElem?_eq_getElem (by omega)]; rfl
        · rw [if_neg h, tk j fun z => h (his j z)]
      have back : ∀ {H : Hp} {tm : List Hold}, EnvOk B H e1 σ4 tm → EnvOk B H env (wipe σ own) tm := fun {H tm} h => by
        have h1 := h.clear own
        rw [ec] at h1
        exact h1.cong (by rw [o4.1]) fun j kd e => (o4.2 j fun z => offOwn j kd e (his j z)).symm
      cases b with
      | false =>
        refine (show i + 1 ≤ ds.length ∧ _ from ⟨hlt, xd (x3.trans x5) x2, acc, rest, ey, hr, (back ok6).perm List.perm_middle⟩)
      | true =>
        rw [if_pos rfl] at hr ⊢
        obtain ⟨y, g3, hr⟩ := bind_ok hr
        obtain ⟨rest', g4, hr⟩ := bind_ok hr
        cases hr
        intro sZ HZ CZ clZ fpZ
        refine he sZ HZ CZ clZ fpZ B H5 e1 σ4 (ex ++ (V.ref L, k + 1, D.lst acc) :: tm) y _ ok6 g3 fun v H6 x6 ok7 => ?_
        have ok8 : EnvOk B H6 env (wipe σ own) ((V.ref L, k + 1, D.lst acc) :: (v, k, y) :: (ex ++ tm)) := by
          have h1 : EnvOk B H6 env (wipe σ own) ((v, k, y) :: (ex ++ (V.ref L, k + 1, D.lst acc) :: tm)) := back ok7
          refine h1.perm ?_
          refine (List.Perm.cons _ (List.perm_middle (l₁ := ex) (a := (V.ref L, k + 1, D.lst acc)) (l₂ := tm))).trans (List.Perm.swap _ _ _)
        obtain ⟨vs, hL, hvl, ok9⟩ := ok8.takeLst
        have ok10 : EnvOk B (del H6 L) env (wipe σ own) (lev k (vs ++ [v]) (acc ++ [y]) ++ (ex ++ tm)) := by
          rw [lev_append [v] [y] hvl, List.append_assoc]
          exact ok9
        have ok11 := ok10.newLst (p := L) (by simp [hvl]) del_self
        rw [upd_del] at ok11
        refine ⟨vs, hL, ?_, hlt, fun a o e => ?_, acc ++ [y], rest', by rw [ey, List.append_assoc]; rfl, g4, ok11⟩
        · have : acc.length + (rest'.length + 1) ≤ sizeLine := by rw [ey] at hl; simpa using hl
          omega
        · have ha : a ≠ L := ne_of_none e hD
          have := xd (x3.trans (x5.trans x6)) x2 a o e
          rw [del_ne ha] at this ⊢
          rw [upd_ne ha]; exact this
    · have ei : i = ds.length := by omega
      refine .inl ⟨y1 ei, ?_⟩
      rw [ei, List.drop_length] at hr
      cases hr
      rw [List.append_nil] at ey
      subst ey
      refine q _ _ (fun a o e => ?_) ?_
      · have e1 := x1 a o e
        have := x2 a o e1
        rw [del_ne (ne_of_none e1 hD)] at this
        exact this
      · have ok5 := ok3.cong (σ' := σ) (wipe_len _ _).symm fun j kd e => by rw [wipe_get, if_neg (offOwn j kd e)]
        exact EnvOk.less (l := ex) (ok5.perm List.perm_middle.symm)
  · rw [if_neg hl] at h4; cases h4
theorem se_lc {own is : List Nat} {scope : Scope} {ifs : List Expr} {mi : Env → Res (List D)} {t : Nat → D → Env → Res Env} {mt : Env → Res Bool} (ow : List (Str × Nat)) (hc : X.calm = true) (hN : X.N.Nodup) (ok : BlkOk X.N X.env.scope scope ow) (eo : ow.map (·.2) = own)
    (hi : SI X tg it mi) (hg : Blk X scope fun Y => STg Y tg is t) (htg : TgOk is t) (his : ∀ i ∈ is, i ∈ own) (ht : Blk X scope fun Y => SPT Y ifs mt) (he : Blk X scope fun Y => SE Y k [] elt me)
    (hs : ∀ x, foldedSetIterable it X.env x = pure x := by intro _; rfl) : SE X (k + 1) [] (.ListComp elt [⟨tg, it, ifs, 0⟩] scope pos) (mLc mi t mt me own) := fun B H env σ tm d Q ok1 hm q => by
  subst eo
  exact wE_of (pe_lc hc hN pi_sem ok (fun s H C cl fp => ⟨fun pins s' σ H' v u Q I r h => h s H C cl fp pins s' u I r⟩) (fun s H C cl fp => ⟨fun pins s' σ H' Q I h => h s H C cl fp pins s' I⟩) (fun s H C cl fp => ⟨fun pins s' σ H' Q I h => h s H C cl fp pins s' I⟩) hs) (lc_read (fun ds R h q => hi B H env σ tm ds R ok1 h q) hg htg his ht he ok1 hm q)
/-- name = [..] -/
theorem s_setLc {kr : Nat} {i : Nat} {y : Str} {py : Pos} {spos : Pos} {own is : List Nat} {scope : Scope} {ifs : List Expr} {mi : Env → Res (List D)} {t : Nat → D → Env → Res Env} {mt : Env → Res Bool} (ow : List (Str × Nat)) (hc : X.calm = true) (hN : X.N.Nodup) (hy : X.N[i]? = some y) (hyl : X.env.scope.names.lookup y = some .local)
    (hsw : swapsWith (.ListComp elt [⟨tg, it, ifs, 0⟩] scope pos) (some (.Name y py)) spos.line X.env = pure true) (ok : BlkOk X.N X.env.scope scope ow) (eo : ow.map (·.2) = own)
    (hi : SI X tg it mi) (hg : Blk X scope fun Y => STg Y tg is t) (htg : TgOk is t) (his : ∀ i ∈ is, i ∈ own) (ht : Blk X scope fun Y => SPT Y ifs mt) (he : Blk X scope fun Y => SE Y k [] elt me)
    (hs : ∀ x, foldedSetIterable it X.env x = pure x := by intro _; rfl) : S1 X kr (.Assign [.Name y py] (.ListComp elt [⟨tg, it, ifs, 0⟩] scope pos) spos) (mSet i (k + 1) [] (mLc mi t mt me own)) := fun B H env σ tm D r ok1 hm p => by
  subst eo
  obtain ⟨d, hd, h2⟩ := bind_ok hm
  obtain ⟨e', h3, h4⟩ := bind_ok h2
  cases h4
  unfold tName at h3
  split at h3
  · rename_i hl
    cases h3
    exact wS_of (ps_setLc hc hN hy hyl hsw pi_sem ok (fun s H C cl fp => ⟨fun pins s' σ H' v u Q I r h => h s H C cl fp pins s' u I r⟩) (fun s H C cl fp => ⟨fun pins s' σ H' Q I h => h s H C cl fp pins s' I⟩) (fun s H C cl fp => ⟨fun pins s' σ H' Q I h => h s H C cl fp pins s' I⟩) hs) (lc_read (fun ds R h q => hi B H env σ tm ds R ok1 h q) hg htg his ht he ok1 hd fun v H' x' ok' => p _ _ (ok'.store hl))
  · cases h3
end
end Mir

namespace Mir
open PySem PySem.Spec L2

section
variable {X : Cx}
theorem lstR {X : Cx} {pins : List (Addr × Obj)} {σ : St} {H : Hp} {s : Shared} {l : Addr} {xs : List V} (I : Inv X pins σ H s) (hH : Rd H l (.lst xs)) : xs.length ≤ sizeLine ∧ ∃ (its : List Value) (n : Nat), Vals xs its ∧ xs.length = its.length ∧ s.heap.get? l = some { cls := .type "list", data := .seq its.toArray n } := by
  obtain ⟨z, its, n, r, e⟩ := hH.ok I.hok
  exact ⟨z, its, n, r, r.length, e⟩
def rCatR : R2 := fun x y H Q => ∃ l b xs zs, x = .ref l ∧ y = .ref b ∧ Rd H l (.lst xs) ∧ Rd H b (.lst zs) ∧ xs.length + zs.length ≤ sizeLine ∧ ∀ p, H p = none → Q (.ref p) (upd H p (.lst (xs ++ zs)))
theorem op_catR : OpR X (binaryOp .Add) rCatR := by
  intro pins s σ H x y v u Q I rx ry h
  obtain ⟨l, b, xs, zs, rfl, rfl, hH, hB, hz, q⟩ := h
  cases rx
  cases ry
  obtain ⟨z, its, n, r, hl, e⟩ := lstR I hH
  obtain ⟨z2, its2, n2, r2, hl2, e2⟩ := lstR I hB
  refine PySem.P.add_list e e2 ?_ (by rw [List.size_toArray, List.size_toArray]; omega)
  have ea : its.toArray ++ its2.toArray = (its ++ its2).toArray := by simp
  rw [ea]
  exact ⟨.ref _, _, I.lnew (t' := s.toks) (r.append r2) (by rw [List.length_append]; omega), rfl, q _ I.fresh⟩
def rExtR : V → List V → Hp → VK → Prop := fun x vs H Q => ∃ l b xs zs, x = .ref l ∧ vs = [.ref b] ∧ H l = some (.lst xs) ∧ Rd H b (.lst zs) ∧ xs.length + zs.length ≤ sizeLine ∧ Q .non (upd H l (.lst (xs ++ zs)))
theorem mt_extR : MtM X "list.extend" rExtR := by
  intro pins s σ H x vs v us Q I rx rv h
  obtain ⟨l, b, xs, zs, rfl, rfl, hH, hB, hz, q⟩ := h
  cases rx
  obtain ⟨u, rfl, ru⟩ := rv.one
  cases ru
  obtain ⟨z, its, n, r, hl, e⟩ := I.lstM hH
  obtain ⟨z2, its2, n2, r2, hl2, e2⟩ := lstR I hB
  have hsz : its.toArray.size + its2.toArray.size ≤ sizeLine := by rw [List.size_toArray, List.size_toArray]; omega
  have hlong : ¬ (!its.toArray.isEmpty && Builtin.List.listTooLong (its.toArray.size + its2.toArray.size)) = true := by
    rw [notLongL hsz, Bool.and_false]
    exact Bool.false_ne_true
  refine call_meets F.slot_list_extend ⟨_, e, rfl⟩ F.entry_list_extend (F.args_list_extend_2 _ _)
    (AutoSeq1.list_extend_list_list_0 l its.toArray n b its2.toArray n2 hlong (by rw [List.size_toArray]; omega) (by omega)) ⟨e, e2, ?_⟩
  refine ⟨.non, _, I.lset (its' := its ++ its2) hH e (by simp) (r.append r2) ?_, rfl, q⟩
  rw [List.length_append]
  omega
end

/-! ### lists that are read as a whole: their items go to new lists -/
def Sel (vs : List V) (ds : List D) (ws : List V) (es : List D) : Prop := ws.length = es.length ∧ ∀ (i : Nat) w e, ws[i]? = some w → es[i]? = some e → ∃ j : Nat, vs[j]? = some w ∧ ds[j]? = some e
def Pick (k : Nat) (B : Bs) (H : Hp) (ex : List Hold) (vs : List V) (ds : List D) : Prop := ∀ (H' : Hp) (env : Env) (σ : St) (tm : List Hold), Ext H H' → EnvOk B H' env σ (ex ++ tm) → ∀ ws es, Sel vs ds ws es → EnvOk B H' env σ (lev k ws es ++ (ex ++ tm))
theorem Sel.tail {vs : List V} {ds : List D} {w : V} {e : D} {ws : List V} {es : List D} (h : Sel vs ds (w :: ws) (e :: es)) : Sel vs ds ws es := ⟨by simpa using h.1, fun i w' e' h1 h2 => h.2 (i + 1) w' e' (by simpa using h1) (by simpa using h2)⟩
theorem pick_imm {k : Nat} {B : Bs} {H : Hp} {vs : List V} {ds : List D} (r : RpAll (view H) vs ds) (hi : immAll ds = true) : Pick k B H [] vs ds := fun H' env σ tm x ok ws es => by
  have r' := x.rpAll r
  induction ws generalizing es with
  | nil => intro s; cases es with
    | nil => exact ok
    | cons => exact absurd s.1 (by simp)
  | cons w ws ih =>
    intro s
    cases es with
    | nil => exact absurd s.1 (by simp)
    | cons e es =>
      obtain ⟨j, h1, h2⟩ := s.2 0 w e rfl rfl
      obtain ⟨d, h3, h4⟩ := r'.get' h1
      rw [h2] at h3
      cases h3
      exact (ih es s.tail).imm h4 (immAll_iff.mp hi e (List.mem_of_getElem? h2))
/-- c: a list, a tuple -/
def SL (X : Cx) (k : Nat) (c : List V → HO) (e : Expr) (m : Env → Res (List D)) : Prop := ∀ (B : Bs) (H : Hp) (env : Env) (σ : St) (tm : List Hold) (ds : List D) (Q : VK), EnvOk B H env σ tm → m env = .ok ds →
  (∀ p vs H' ex, Ext H H' → view H' p = some (c vs) → vs.length = ds.length → RpAll (view H') vs ds → EnvOk B H' env σ (ex ++ tm) → Pick k B H' ex vs ds → Q (.ref p) H') → wE X e σ H Q
section
variable {X : Cx} {e a b : Expr} {m ma mb : Env → Res D} {k : Nat} {cs : List Nat} {pos : Pos}
def immL (ds : List D) : Res (List D) := if immAll ds then .ok ds else .bad
theorem sl_imm (h : SB X e m) : SL X k .lst e (fun env => m env >>= fun d => itemsL d >>= immL) := fun B H env σ tm ds Q ok hm q => by
  obtain ⟨d, hd, h2⟩ := bind_ok hm
  obtain ⟨ds', h3, h4⟩ := bind_ok h2
  unfold itemsL at h3
  split at h3
  · cases h3
    unfold immL at h4
    split at h4
    · rename_i hi
      cases h4
      refine h B H env σ tm _ _ ok hd fun v H1 x1 ok1 r => ?_
      cases r with
      | lst hv ra => exact q _ _ H1 [] x1 hv ra.length ra ok1 (pick_imm ra hi)
    · cases h4
  · cases h3
/-! ### slices -/
def SO (X : Cx) (o : Option Expr) (m : Env → Res (Option Int)) : Prop := ∀ (B : Bs) (H : Hp) (env : Env) (σ : St) (tm : List Hold) (i : Option Int) (Q : Option Int → Hp → Prop), EnvOk B H env σ tm → m env = .ok i → (∀ H', Ext H H' → EnvOk B H' env σ tm → Q i H') →
  ∀ (pins : List (Addr × Obj)) (s : Shared), Inv X pins σ H s → wpAny (model X.prog X.w) X.A (evalPart o X.env) (fun u s' => ∃ o H', Inv X pins σ H' s' ∧ IsPart u o ∧ Q o H') X.xe s
def wO (X : Cx) (o : Option Expr) : TO := fun σ H Q => ∀ (pins : List (Addr × Obj)) (s : Shared), Inv X pins σ H s → wpAny (model X.prog X.w) X.A (evalPart o X.env) (fun u s' => ∃ o H', Inv X pins σ H' s' ∧ IsPart u o ∧ Q o H') X.xe s
theorem po_sem {o : Option Expr} : PO X o (wO X o) := ⟨fun pins s _ _ _ I h => h pins s I⟩
theorem so_none : SO X none (fun _ => .ok none) := fun B H env σ tm i Q ok hm q pins s I => by
  cases hm
  exact po_none.run pins s σ H Q I (q H (Ext.refl H) ok)
def toI : D → Res Int
  | .int i => .ok i
  | _ => .bad
theorem toI_ok {d : D} {i : Int} (h : toI d = .ok i) : d = .int i := by
  cases d with
  | int j => cases h; rfl
  | _ => cases h
theorem so_some (h : SB X e m) : SO X (some e) (fun env => m env >>= toI >>= fun i => .ok (some i)) := fun B H env σ tm i Q ok hm q pins s I => by
  obtain ⟨j, hj, h2⟩ := bind_ok hm
  obtain ⟨d, hd, h3⟩ := bind_ok hj
  have := toI_ok h3
  subst this
  cases h2
  refine (po_some pe_sem).run pins s σ H Q I (h B H env σ tm _ _ ok hd fun v H1 x1 ok1 r => ?_)
  cases r
  exact ⟨j, rfl, q H1 x1 ok1⟩
def cutD (xs : List D) (lo hi : Option Int) : List D := (xs.drop (HT.sIx xs.length 0 lo)).take (HT.sIx xs.length xs.length hi - HT.sIx xs.length 0 lo)
theorem sel_cut {vs : List V} {ds : List D} (hl : vs.length = ds.length) (lo hi : Option Int) : Sel vs ds (cutV vs lo hi) (cutD ds lo hi) := by
  unfold cutV cutD
  rw [hl]
  refine ⟨by simp [hl], fun i w e h1 h2 => ⟨HT.sIx ds.length 0 lo + i, ?_, ?_⟩⟩
  · rw [List.getElem?_take] at h1
    split at h1
    · rw [List.getElem?_drop] at h1; exact h1
    · cases h1
  · rw [List.getElem?_take] at h2
    split at h2
    · rw [List.getElem?_drop] at h2; exact h2
    · cases h2
def mSlice (m : Env → Res (List D)) (l u : Env → Res (Option Int)) : Env → Res D := fun env => m env >>= fun ds => l env >>= fun lo => u env >>= fun hi => .ok (.lst (cutD ds lo hi))
theorem se_slice {lo hi : Option Expr} {p2 : Pos} {ml mu : Env → Res (Option Int)} {mm : Env → Res (List D)} (h : SL X k .lst e mm) (hl : SO X lo ml) (hu : SO X hi mu) : SE X (k + 1) [] (.Subscript e (.Slice lo hi none p2) pos) (mSlice mm ml mu) := fun B H env σ tm d Q ok hm q => by
  obtain ⟨ds, hds, h2⟩ := bind_ok hm
  obtain ⟨i, hi', h3⟩ := bind_ok h2
  obtain ⟨j, hj', h4⟩ := bind_ok h3
  cases h4
  refine wE_of (pe_slice sl_list pe_sem po_sem po_sem) (h B H env σ tm ds _ ok hds fun p vs H1 ex x1 hp hl1 ra ok1 pk => ?_)
  refine hl B H1 env σ _ i _ ok1 hi' fun H2 x2 ok2 => hu B H2 env σ _ j _ ok2 hj' fun H3 x3 ok3 => ?_
  have x23 := x2.trans x3
  refine ⟨p, vs, rfl, .inl (view_rd (view_ext x23 _ _ hp)), fun l hnl => ?_⟩
  have s := sel_cut hl1 i j
  have ok4 := (pk H3 env σ tm x23 ok3 _ _ s).newLst s.1 hnl
  exact q _ _ ((x1.trans x23).trans (Ext.upd hnl)) (EnvOk.less (l := ex) (ok4.perm List.perm_middle.symm))
/-! ### lists joined, copied -/
theorem perm_aca {α : Type} (a b c : List α) : (a ++ (b ++ c)).Perm (b ++ (a ++ c)) := by
  rw [← List.append_assoc, ← List.append_assoc]
  exact List.Perm.append_right _ List.perm_append_comm
def mCat (m n : Env → Res (List D)) : Env → Res D := fun env => m env >>= fun xs => n env >>= fun ys => if xs.length + ys.length ≤ sizeLine then .ok (.lst (xs ++ ys)) else .bad
theorem sel_refl {vs : List V} {ds : List D} (hl : vs.length = ds.length) : Sel vs ds vs ds := ⟨hl, fun i w e h1 h2 => ⟨i, h1, h2⟩⟩
theorem se_cat {mm nn : Env → Res (List D)} (ha : SL X k .lst a mm) (hb : SL X k .lst b nn) : SE X (k + 1) [] (.BinOp a .Add b pos) (mCat mm nn) := fun B H env σ tm d Q ok hm q => by
  obtain ⟨xs, hx, h2⟩ := bind_ok hm
  obtain ⟨ys, hy, h3⟩ := bind_ok h2
  split at h3
  · rename_i hl
    cases h3
    refine wE_of (pe_op op_catR pe_sem pe_sem) (ha B H env σ tm xs _ ok hx fun p vs H1 ex x1 hp hl1 ra ok1 pk => hb B H1 env σ (ex ++ tm) ys _ ok1 hy fun p2 ws H2 ex2 x2 hp2 hl2 ra2 ok2 pk2 => ?_)
    refine ⟨p, p2, vs, ws, rfl, rfl, view_rd (view_ext x2 _ _ hp), view_rd hp2, by omega, fun l hnl => ?_⟩
    have ok3 := pk2 H2 env σ _ (Ext.refl _) ok2 _ _ (sel_refl hl2)
    have ok4 : EnvOk B H2 env σ (ex ++ (lev k ws ys ++ (ex2 ++ tm))) := ok3.perm ((List.Perm.append_left _ (perm_aca _ _ _)).trans (perm_aca _ _ _))
    have ok5 := pk H2 env σ _ x2 ok4 _ _ (sel_refl hl1)
    have ok6 : EnvOk B H2 env σ (lev k (vs ++ ws) (xs ++ ys) ++ (ex ++ (ex2 ++ tm))) := by
      rw [lev_append ws ys hl1, List.append_assoc]
      exact ok5.perm (List.Perm.append_left _ (perm_aca _ _ _))
    have ok7 := ok6.newLst (by simp [hl1, hl2]) hnl
    refine q _ _ ((x1.trans x2).trans (Ext.upd hnl)) (EnvOk.less (l := ex ++ ex2) (ok7.perm ?_))
    rw [← List.append_assoc]
    exact List.perm_middle.symm
  · cases h3
/-- list(xs) -/
theorem se_list {c : List V → HO} {p : Pos} {mm : Env → Res (List D)} (hcc : c = .lst ∨ c = .tup) (hg : Gl X "list") (hm0 : X.mg "list" = none) (h : SL X k c e mm) (he : starEach [e] X.env = (false, eval e X.env) :: starEach [] X.env := by rfl) (hpl : (backTo pos (starEach [] X.env)).any (·.1) = false := by rfl) : SE X (k + 1) [] (.Call (.Name "list" p) [e] [] pos) (fun env => mm env >>= fun ds => .ok (.lst ds)) := fun B H env σ tm d Q ok hm q => by
  obtain ⟨ds, hds, h2⟩ := bind_ok hm
  cases h2
  refine wE_of (pe_callTy call_list_of hg hm0 (by decide +kernel) (pa_cons pe_sem pa_nil he) (by decide) (by decide) he hpl) (h B H env σ tm ds _ ok hds fun p vs H1 ex x1 hp hl1 ra ok1 pk => ?_)
  refine ⟨p, vs, rfl, ?_, fun l hnl => ?_⟩
  · rcases hcc with rfl | rfl
    · exact .inl (.inl (view_rd hp))
    · exact .inr (.inl (view_rd hp))
  · have ok2 := (pk H1 env σ tm (Ext.refl _) ok1 _ _ (sel_refl hl1)).newLst hl1 hnl
    exact q _ _ (x1.trans (Ext.upd hnl)) (EnvOk.less (l := ex) (ok2.perm List.perm_middle.symm))
/-- len(x) -/
def gLen : D → Res D
  | .lst xs => .ok (.int xs.length)
  | .tup xs => .ok (.int xs.length)
  | .str z => if z.length ≤ sizeLine then .ok (.int z.length) else .bad
  | _ => .bad
theorem sc_len {p : Pos} (hg : Gl X "len") (hm0 : X.mg "len" = none) (h : SB X e m) (he : starEach [e] X.env = (false, eval e X.env) :: starEach [] X.env := by rfl) (hpl : (backTo pos (starEach [] X.env)).any (·.1) = false := by rfl) : SC X (.Call (.Name "len" p) [e] [] pos) (mUn gLen m) := fun B H env σ tm d Q ok hm q => by
  obtain ⟨x, hx, h2⟩ := bind_ok hm
  refine wE_of (pe_callB call_len hg hm0 PySem.boot_len (pa_cons pe_sem pa_nil he) (by decide) (by decide) he hpl) (h B H env σ tm _ _ ok hx fun v H1 x1 ok1 r => ?_)
  cases r with
  | lst hv ra => cases h2; exact ⟨_, _, rfl, .inl ⟨_, .inl (view_rd hv), rfl⟩, by rw [ra.length]; exact q _ H1 x1 ok1 (.int _) rfl⟩
  | tup hv ra => cases h2; exact ⟨_, _, rfl, .inr ⟨_, .inl (view_rd hv), rfl⟩, by rw [ra.length]; exact q _ H1 x1 ok1 (.int _) rfl⟩
  | str z =>
    have h3 : (if z.length ≤ sizeLine then Res.ok (D.int z.length) else .bad) = .ok d := h2
    split at h3
    · rename_i hl
      cases h3
      exact ⟨_, _, rfl, ⟨hl, rfl⟩, q _ H1 x1 ok1 (.int _) rfl⟩
    · cases h3
  | _ => cases h2
end
end Mir

namespace Mir
open PySem PySem.Spec L2
open PyProof.Rows (envOfC)

/-! ### what a def promises -/
structure RetOk (kr : Nat) (G H H' : Hp) (v : V) (d : D) : Prop where
  ex : ∃ (G' : Hp) (fp : List Addr), Good ⟨H, G⟩ G' H' ∧ Od G' H' kr fp v d ∧ fp.Nodup ∧ ∀ p ∈ fp, H p = none ∧ G' p = none
def spF (kr n : Nat) (F : List D → Res D) : Sp := fun vs H Q _ => vs.length = n ∧ ∃ (G : Hp) (ds : List D) (d : D), Good ⟨H, G⟩ G H ∧ RpAll G vs ds ∧ F ds = .ok d ∧ ∀ v H', RetOk kr G H H' v d → Q v H'
/-- the mirror of a def: its body's mirror, run -/
def runD (n : Nat) (m : Env → Res Ctl) : List D → Res D := fun ds => m (ds.map (fun d => some (0, d)) ++ List.replicate (n - ds.length) none) >>= fun c => match c with
  | .rt d => .ok d
  | .nx _ => .ok .non
  | _ => .bad
theorem slots_start : ∀ (vs : List V) (ds : List D) (n : Nat), vs.length = ds.length → slots (ds.map (fun d => some (0, d)) ++ List.replicate n none) (vs.map some ++ List.replicate n none) = lev 0 vs ds
  | [], [], n, _ => by
    induction n with
    | zero => rfl
    | succ n ih => exact ih
  | v :: vs, d :: ds, n, h => congrArg (List.cons (v, 0, d)) (slots_start vs ds n (by simpa using h))
  | [], _ :: _, _, h => by simp at h
  | _ :: _, [], _, h => by simp at h
theorem hold_lev {G H : Hp} {vs : List V} {ds : List D} (r : RpAll G vs ds) : HoldAll G H (lev 0 vs ds) [] := by
  induction r using RpAll.rec (motive_1 := fun _ _ _ => True) with
  | nil => exact .nil
  | cons hr _ _ ih => exact HoldAll.cons (f := []) (g := []) (.of hr) ih
  | _ => trivial
section
variable {P : Program} {w : World} {K : PySem.W.Frag} {mg : Str → Option Value} {base : Heap}
/-- THE RULE for a def -/
theorem def_ok {x qual : Str} {st : Stmt} {f : Addr} {fd : FuncData} {N ps : List Str} {k kr : Nat} {m : Env → Res Ctl} {n : Nat} {FF : List D → Res D} (F : Fun K x qual st f fd) (S : FnScope N ps (defScope st)) (hn : ps.length = n) (hFF : FF = runD N.length m)
    (hb : ∀ (cdv : Value) (A : Around) (outer : List PySem.Env) (s : Shared) (H : Hp) (E : XK), Room k (A.deeper (envOfC qual (defScope st) s.heap.objs.size f cdv)) → SS (cxOf CX0 P w K mg base N qual (defScope st) f cdv A outer s H E).nox kr (defBody st) m) :
    FnOk P w K mg base CX0 (k + 1) f fd ps (spF kr n FF) := by
  subst hn hFF
  refine F.ok S (fun vs H Q E h => h.1) (fun cdv A outer s H vs Q E hr h => ?_)
  obtain ⟨hl, G, ds, d, hg, ra, hF, q⟩ := h
  have hlen := ra.length
  refine ⟨_, pss_sem, ?_⟩
  have hF' : (m (ds.map (fun d => some (0, d)) ++ List.replicate (N.length - ds.length) none) >>= fun c => match c with | .rt d => .ok d | .nx _ => .ok .non | _ => Res.bad) = .ok d := hF
  obtain ⟨c, hc, hd⟩ := bind_ok hF'
  have ok : EnvOk ⟨H, G⟩ H (ds.map (fun d => some (0, d)) ++ List.replicate (N.length - ds.length) none) (L2.start N vs) [] := by
    unfold L2.start
    rw [hlen]
    refine ⟨⟨G, [], hg, by rw [slots_start _ _ _ hlen, List.append_nil]; exact hold_lev ra, List.nodup_nil, fun p hp => by cases hp⟩, by simp [hlen], fun i kd e => ?_⟩
    by_cases hi : i < ds.length
    · have hv : i < (vs.map some).length := by rw [List.length_map]; omega
      rw [List.getElem?_append_left hv, List.getElem?_map, List.getElem?_eq_getElem (by omega)]
      exact ⟨_, rfl⟩
    · rw [List.getElem?_append_right (by simpa using hi), List.getElem?_replicate] at e
      split at e <;> cases e
  refine hb cdv A outer s H E hr ⟨H, G⟩ H _ _ [] _ c ok hc ?_
  have fin : ∀ {v : V} {H' : Hp} {e : Env} {σ : St}, EnvOk ⟨H, G⟩ H' e σ [(v, kr, d)] → Q v H' := fun {v H' e σ} ok' => by
    obtain ⟨⟨G', fp, g, hh, nd, hp⟩, _⟩ := ok'.noSlots
    have hh' : HoldAll G' H' [(v, kr, d)] fp := hh
    cases hh' with
    | @cons _ _ _ _ f1 g1 h1 h2 =>
      cases h2
      rw [List.append_nil] at nd hp
      exact q v H' ⟨G', f1, g, h1, nd, hp⟩
  cases c with
  | nx e =>
    cases hd
    exact fun σ' H' ok' => fin (ok'.imm (k := kr) .non rfl)
  | rt d' =>
    cases hd
    exact fun v H' ok' => fin ok'
  | bk e => cases hd
  | ct e => cases hd
end

/-! ### calls -/
mutual
/-- below the first k levels stands no list, no dict -/
def immAt : Nat → D → Bool
  | 0, d => d.imm
  | k + 1, .lst ds => immAtL k ds
  | k + 1, .tup ds => immAtL k ds
  | k + 1, .dk _ ds => immAtL k ds
  | k + 1, .dt _ ds => immAtL k ds
  | k + 1, .dn _ ds => immAtL k ds
  | _ + 1, _ => true
def immAtL : Nat → List D → Bool
  | _, [] => true
  | k, d :: ds => immAt k d && immAtL k ds
end
mutual
theorem Od.toImm {G G' H : Hp} (hT : ∀ a u, isIm u = true → G a = some u → G' a = some u) : ∀ {k : Nat} {f : List Addr} {v : V} {d : D}, Od G H k f v d → immAt k d = true → Od G' H k f v d
  | 0, _, _, _, .sh h r, e => .sh h (r.immTo hT (by simpa [immAt] using e))
  | k + 1, _, _, _, .sh h r, e => by
    rcases h with h | h
    · cases h
    · exact .sh (.inr h) (r.immTo hT h)
  | _, _, _, _, .lst h r, e => .lst h (OdAll.toImm hT r (by simpa [immAt] using e))
  | _, _, _, _, .tup h r, e => .tup h (OdAll.toImm hT r (by simpa [immAt] using e))
  | _, _, _, _, .dk h e1 r, e => .dk h e1 (OdAll.toImm hT r (by simpa [immAt] using e))
  | _, _, _, _, .dt h e1 r, e => .dt h e1 (OdAll.toImm hT r (by simpa [immAt] using e))
  | _, _, _, _, .dn h n q r, e => .dn h n (q.immTo hT (kNs_imm _)) (OdAll.toImm hT r (by simpa [immAt] using e))
theorem OdAll.toImm {G G' H : Hp} (hT : ∀ a u, isIm u = true → G a = some u → G' a = some u) : ∀ {k : Nat} {f : List Addr} {v : List V} {d : List D}, OdAll G H k f v d → immAtL k d = true → OdAll G' H k f v d
  | _, _, _, _, .nil, _ => .nil
  | _, _, _, _, .cons h r, e => by
    rw [immAtL, Bool.and_eq_true] at e
    exact .cons (Od.toImm hT h e.1) (OdAll.toImm hT r e.2)
end
theorem Good.ne {B : Bs} {G H : Hp} (g : Good B G H) {a : Addr} {u : HO} (e : G a = some u) : H a ≠ none := fun z => by
  have := g.gs a u e
  rw [view_none z] at this
  cases this
/-- what has come of a call, its arguments read -/
theorem EnvOk.retB {B : Bs} {H H' : Hp} {env : Env} {σ : St} {tm : List Hold} {kr : Nat} {v : V} {d : D} (ok : EnvOk B H env σ tm) (r : RetOk kr (view H) H H' v d) (hi : immAt kr d = true) : Ext H H' ∧ EnvOk B H' env σ ((v, kr, d) :: tm) := by
  obtain ⟨G', f, g, od, nd, hf⟩ := r.ex
  have x : Ext H H' := g.bs
  refine ⟨x, ?_⟩
  refine ok.grow x ok.bnone [(v, kr, d)] fun G1 g1 => ?_
  refine ⟨fun a => if H a = none then G' a else G1 a, f, fun a u e => ?_, fun a e => if_neg e, ⟨fun a o e => x a o (g1.bs a o e), fun a e => ?_, fun a u e => ?_, fun a xs im e => ?_, g.nf⟩, ?_, nd, fun p hp => ?_⟩
  · show (if H a = none then G' a else G1 a) = some u
    rw [if_neg (g1.ne e)]; exact e
  · show (if H a = none then G' a else G1 a) = _
    have : H a ≠ none := fun z => e (ok.bnone a z)
    rw [if_neg this]; exact g1.g0 a e
  · have e' : (if H a = none then G' a else G1 a) = some u := e
    split at e'
    · exact g.gs a u e'
    · exact view_ext x a u (g1.gs a u e')
  · show (if H a = none then G' a else G1 a) = _
    split
    · exact g.gt a xs im e
    · rename_i hn
      cases q : H a with
      | none => exact absurd q hn
      | some o =>
        have e2 : H' a = some o := x a o q
        refine g1.gt a xs im ?_
        unfold view at e ⊢
        rw [q]; rw [e2] at e; exact e
  · refine HoldAll.cons (f := f) (g := []) (od.toImm (fun a xs im e => ?_) hi) .nil |> fun h => by rw [List.append_nil] at h; exact h
    show (if H a = none then G' a else G1 a) = _
    split
    · exact e
    · rename_i hn
      have e1 : G' a = view H a := g.g0 a hn
      exact g1.gt a xs im (e1.symm.trans e)
  · refine ⟨(hf p hp).1, ?_⟩
    show (if H p = none then G' p else G1 p) = _
    rw [if_pos (hf p hp).1]; exact (hf p hp).2
/-- .. its arguments shared -/
theorem EnvOk.ret0 {B : Bs} {H H' : Hp} {env : Env} {σ : St} {tm : List Hold} {kr : Nat} {vs : List V} {ds : List D} (hl : vs.length = ds.length) (ok : EnvOk B H env σ (lev 0 vs ds ++ tm)) :
    ∃ G, Good ⟨H, G⟩ G H ∧ RpAll G vs ds ∧ ∀ H' v d, RetOk kr G H H' v d → Ext H H' ∧ EnvOk B H' env σ ((v, kr, d) :: tm) := by
  have h2 := ok.len
  have h3 := ok.has
  obtain ⟨G1, f, g, hg, hf, hr, nd, hq⟩ := ok.apart
  have hf' : HoldAll G1 H (lev 0 vs ds ++ []) f := by rw [List.append_nil]; exact hf
  obtain ⟨f1, f2, e, ha, hn⟩ := HoldAll.toAll hl hf'
  cases hn
  rw [List.append_nil] at e
  subst e
  have ra : ∀ {f : List Addr} {vs : List V} {ds : List D}, OdAll G1 H 0 f vs ds → RpAll G1 vs ds := fun {f vs ds} r => by
    induction vs generalizing ds f with
    | nil => cases r; exact .nil
    | cons v vs ih => cases r with | cons h r => exact .cons h.zero.2 (ih r)
  refine ⟨G1, ⟨fun _ _ e => e, fun _ _ => rfl, hg.gs, hg.gt, hg.nf⟩, ra ha, fun H' v d r => ?_⟩
  obtain ⟨G', fr, gr, od, ndr, hfr⟩ := r.ex
  have x : Ext H H' := gr.bs
  refine ⟨x, ?_⟩
  have hG : ∀ a u, G1 a = some u → G' a = some u := fun a u e => (gr.g0 a (hg.ne e)).trans e
  have hrm := hr.mu
  refine EnvOk.join (l := [(v, kr, d)]) (G := G') (f := fr) (g := g) h2 h3 ⟨fun a o e => x a o (hg.bs a o e), fun a e => ?_, gr.gs, gr.gt, gr.nf⟩ ?_ (hr.frame hG fun a u e _ => x a u e) ?_ ?_
  · have : H a ≠ none := fun z => e (ok.bnone a z)
    exact (gr.g0 a this).trans (hg.g0 a e)
  · have := HoldAll.cons od (.nil (G := G') (H := H'))
    rw [List.append_nil] at this; exact this
  · refine List.nodup_append.mpr ⟨ndr, (List.nodup_append.mp nd).2.1, fun a m1 b m2 e => ?_⟩
    subst e
    obtain ⟨u, e, _⟩ := hrm a m2
    rw [(hfr a m1).1] at e; cases e
  · intro p m
    rcases List.mem_append.mp m with m | m
    · exact ⟨ok.bnone p (hfr p m).1, (hfr p m).2⟩
    · obtain ⟨u, e, _⟩ := hrm p m
      refine ⟨(hq p (List.mem_append_right _ m)).1, ?_⟩
      have : H p ≠ none := by rw [e]; simp
      exact (gr.g0 p this).trans (hq p (List.mem_append_right _ m)).2
section
variable {X : Cx} {e a b : Expr} {es : List Expr} {m ma mb : Env → Res D} {ms : Env → Res (List D)} {k kr n : Nat} {cs : List Nat} {pos p : Pos} {x : Str} {F : List D → Res D} {j : Nat} {f : Addr} {fd : FuncData} {ps : List Str}
/-- f(..), its arguments read, its worth owned to the level kr -/
def mCall (kr : Nat) (F : List D → Res D) (ms : Env → Res (List D)) : Env → Res D := fun env => ms env >>= fun ds => F ds >>= fun d => if immAt kr d then .ok d else .bad
theorem se_call (Fo : FnOk X.prog X.w X.K X.mg X.base CX0 j f fd ps (spF kr n F)) (hr : Room j X.A) (hg : Gl X x) (hm : X.mg x = some (.ref f)) (hk : PySem.W.keepIn X.K (.ref f) = true) (hb : Binds X.K fd ps [])
    (ha : SAB X (e :: es) ms) (hdb : (x == ("__debug__" : Str)) = false := by decide) (he : starEach (e :: es) X.env = (false, eval e X.env) :: starEach es X.env := by rfl) (hpl : (backTo pos (starEach es X.env)).any (·.1) = false := by rfl) (hl : ∀ env ds, ms env = .ok ds → ds.length = n) :
    SE X kr [] (.Call (.Name x p) (e :: es) [] pos) (mCall kr F ms) := fun B H env σ tm d Q ok hm' q => by
  obtain ⟨ds, hds, h2⟩ := bind_ok hm'
  obtain ⟨d', hF, h3⟩ := bind_ok h2
  split at h3
  · rename_i hi
    cases h3
    refine wE_of (pe_call Fo hr hg hm hk hb .nil pass0 pa_sem hdb he hpl) (ha B H env σ tm ds _ ok hds fun vs H1 x1 ok1 ra => ?_)
    rw [List.append_nil]
    refine ⟨by rw [ra.length]; exact hl _ _ hds, view H1, ds, _, ⟨fun _ _ e => e, fun _ _ => rfl, fun _ _ e => e, fun _ _ _ e => e, fun a xs im e => ok1.imAt im e⟩, ra, hF, fun v H' r => ?_⟩
    obtain ⟨x2, ok2⟩ := ok1.retB r hi
    exact q v H' (x1.trans x2) ok2
  · cases h3
theorem sab_len {ms : Env → Res (List D)} : ∀ {n : Nat}, (∀ env ds, ms env = .ok ds → ds.length = n) → ∀ {m : Env → Res D}, ∀ env ds, mConsA m ms env = .ok ds → ds.length = n + 1 := fun {n} h {m} env ds hm => by
  obtain ⟨y, _, h2⟩ := bind_ok hm
  obtain ⟨ys, h3, h4⟩ := bind_ok h2
  cases h4
  simp [h env ys h3]
theorem sab_len0 : ∀ env ds, mNilA env = .ok ds → ds.length = 0 := fun env ds h => by cases h; rfl
end
end Mir

namespace Mir
open PySem PySem.Spec L2

/-! ### dicts in the mirror -/
section
variable {κ : Type} [DecidableEq κ]
def dFind : List κ → List D → κ → Option D
  | k :: ks, d :: ds, x => if k = x then some d else dFind ks ds x
  | _, _, _ => none
def dPutK (ks : List κ) (x : κ) : List κ := if x ∈ ks then ks else ks ++ [x]
def dPutD : List κ → List D → κ → D → List D
  | k :: ks, d :: ds, x, y => (if k = x then y else d) :: dPutD ks ds x y
  | _, _, _, _ => []
def dPutV (ks : List κ) (ds : List D) (x : κ) (y : D) : List D := if x ∈ ks then dPutD ks ds x y else ds ++ [y]
theorem find_rp {G : Hp} : ∀ {kvs : List (κ × V)} {ds : List D} {x : κ}, RpAll G (kvs.map (·.2)) ds → (dFind (kvs.map (·.1)) ds x = none → valV kvs x = none) ∧ ∀ d, dFind (kvs.map (·.1)) ds x = some d → ∃ v, valV kvs x = some v ∧ Rp G v d
  | [], _, _, _ => ⟨fun _ => rfl, fun d h => by simp [dFind] at h⟩
  | (k, v) :: kvs, [], _, r => by cases r
  | (k, v) :: kvs, d :: ds, x, r => by
    cases r with
    | cons h r =>
      have ih := find_rp (kvs := kvs) (ds := ds) (x := x) r
      by_cases e : k = x
      · subst e
        refine ⟨fun h' => ?_, fun d' h' => ⟨v, ?_, ?_⟩⟩
        · have : (if k = k then some d else _) = none := h'
          rw [if_pos rfl] at this; cases this
        · unfold valV; simp
        · have : (if k = k then some d else _) = some d' := h'
          rw [if_pos rfl] at this; cases this; exact h
      · have e1 : valV ((k, v) :: kvs) x = valV kvs x := by unfold valV; simp [List.find?_cons, e]
        have e2 : dFind (((k, v) :: kvs).map (·.1)) (d :: ds) x = dFind (kvs.map (·.1)) ds x := if_neg e
        rw [e1, e2]
        exact ih
theorem putK_keys (kvs : List (κ × V)) (x : κ) (v : V) : (putK kvs x v).map (·.1) = dPutK (kvs.map (·.1)) x := by
  unfold putK dPutK
  by_cases h : x ∈ kvs.map (·.1)
  · have h' : (kvs.any fun kv => decide (kv.1 = x)) = true := by
      obtain ⟨p, hp, e⟩ := List.mem_map.mp h
      exact List.any_eq_true.mpr ⟨p, hp, decide_eq_true e⟩
    rw [if_pos h', if_pos h, List.map_map]
    refine List.map_congr_left fun p _ => ?_
    by_cases e : p.1 = x
    · simp [e]
    · simp [e]
  · have h' : ¬ (kvs.any fun kv => decide (kv.1 = x)) = true := fun q => by
      obtain ⟨p, hp, e⟩ := List.any_eq_true.mp q
      exact h (List.mem_map.mpr ⟨p, hp, of_decide_eq_true e⟩)
    rw [if_neg h', if_neg h]
    simp
theorem putV_len {ks : List κ} {ds : List D} {x : κ} {y : D} (h : ks.length = ds.length) : (dPutK ks x).length = (dPutV ks ds x y).length := by
  unfold dPutK dPutV
  have : ∀ (ks : List κ) (ds : List D), ks.length = ds.length → ks.length = (dPutD ks ds x y).length := fun ks ds h => by
    induction ks generalizing ds with
    | nil => rfl
    | cons k ks ih =>
      cases ds with
      | nil => simp at h
      | cons d ds => simp [dPutD, ih ds (by simpa using h)]
  by_cases e : x ∈ ks
  · rw [if_pos e, if_pos e]; exact this ks ds h
  · rw [if_neg e, if_neg e]; simp [h]
theorem putK_len' {kvs : List (κ × V)} {x : κ} {v : V} : (putK kvs x v).length = (dPutK (kvs.map (·.1)) x).length := by
  rw [← putK_keys kvs x v, List.length_map]
/-- the values behind a store: old ones or the new one -/
theorem putK_sel : ∀ {kvs : List (κ × V)} {ds : List D} {x : κ} {v : V} {y : D}, kvs.length = ds.length → Sel (kvs.map (·.2) ++ [v]) (ds ++ [y]) ((putK kvs x v).map (·.2)) (dPutV (kvs.map (·.1)) ds x y) := by
  intro kvs ds x v y hl
  have hlen : ((putK kvs x v).map (·.2)).length = (dPutV (kvs.map (·.1)) ds x y).length := by
    rw [List.length_map, putK_len', putV_len (by simpa using hl)]
  refine ⟨hlen, fun i w e h1 h2 => ?_⟩
  unfold putK at h1
  unfold dPutV at h2
  by_cases h : x ∈ kvs.map (·.1)
  · have h' : (kvs.any fun kv => decide (kv.1 = x)) = true := by
      obtain ⟨p, hp, e⟩ := List.mem_map.mp h
      exact List.any_eq_true.mpr ⟨p, hp, decide_eq_true e⟩
    rw [if_pos h', List.map_map] at h1
    rw [if_pos h] at h2
    have key : ∀ (kvs : List (κ × V)) (ds : List D) (i : Nat), kvs.length = ds.length → (kvs.map ((·.2) ∘ fun kv => if kv.1 = x then (kv.1, v) else kv))[i]? = some w → (dPutD (kvs.map (·.1)) ds x y)[i]? = some e → (w = v ∧ e = y) ∨ ((kvs.map (·.2))[i]? = some w ∧ ds[i]? = some e) := by
      intro kvs
      induction kvs with
      | nil => intro ds i _ q; simp at q
      | cons p kvs ih =>
        intro ds i hl q1 q2
        cases ds with
        | nil => simp at hl
        | cons d ds =>
          cases i with
          | zero =>
            simp [dPutD] at q1 q2
            by_cases e1 : p.1 = x
            · rw [if_pos e1] at q1 q2; exact .inl ⟨q1.symm, q2.symm⟩
            · rw [if_neg e1] at q1 q2; exact .inr ⟨by simp [q1], by simp [q2]⟩
          | succ i =>
            have := ih ds i (by simpa using hl) (by simpa using q1) (by simpa [dPutD] using q2)
            exact this.imp id fun z => ⟨by simpa using z.1, by simpa using z.2⟩
    rcases key kvs ds i hl h1 h2 with ⟨rfl, rfl⟩ | ⟨a1, a2⟩
    · exact ⟨kvs.length, by simp, by rw [hl]; simp⟩
    · have hi : i < ds.length := (List.getElem?_eq_some_iff.mp a2).1
      exact ⟨i, by rw [List.getElem?_append_left (by simp; omega)]; exact a1, by rw [List.getElem?_append_left hi]; exact a2⟩
  · have h' : ¬ (kvs.any fun kv => decide (kv.1 = x)) = true := fun q => by
      obtain ⟨p, hp, e⟩ := List.any_eq_true.mp q
      exact h (List.mem_map.mpr ⟨p, hp, of_decide_eq_true e⟩)
    rw [if_neg h'] at h1
    rw [if_neg h] at h2
    exact ⟨i, by simpa using h1, h2⟩
end
/-- keys -/
def keyOf : D → Option Key
  | .int i => some (.inl i)
  | .str z => some (.inr z)
  | _ => none
def keysOf : List D → Option (List Key)
  | [] => some []
  | d :: ds => match keyOf d, keysOf ds with
    | some k, some ks => some (k :: ks)
    | _, _ => none
def keyT : D → Option (List Key)
  | .tup ds => keysOf ds
  | _ => none
theorem keyOf_rp {G : Hp} {v : V} {d : D} {k : Key} (r : Rp G v d) (h : keyOf d = some k) : v = kV k := by
  cases r with
  | int i => cases h; rfl
  | str z => cases h; rfl
  | _ => simp [keyOf] at h
theorem keysOf_rp {G : Hp} : ∀ {vs : List V} {ds : List D} {ks : List Key}, RpAll G vs ds → keysOf ds = some ks → vs = ks.map kV
  | _, _, ks, .nil, h => by cases h; rfl
  | _, _, ks, .cons (d := d) (ds := ds) hr r, h => by
    unfold keysOf at h
    split at h
    · rename_i k ks' h1 h2
      cases h
      rw [keyOf_rp hr h1, keysOf_rp r h2]; rfl
    · cases h
theorem keyT_rp {B : Bs} {H : Hp} {env : Env} {σ : St} {tm : List Hold} {v : V} {d : D} {k : List Key} (ok : EnvOk B H env σ tm) (r : Rp (view H) v d) (h : keyT d = some k) : ∃ b, v = .ref b ∧ H b = some (.tup (k.map kV)) := by
  cases r with
  | tup hv ra => exact ⟨_, rfl, by rw [← keysOf_rp ra h]; exact ok.tupAt hv⟩
  | _ => simp [keyT] at h
/-- what a dict holds at a key: none where the key isn't one -/
def dGet : D → D → Option (Option D)
  | .dk ks ds, key => (keyOf key).map fun k => dFind ks ds k
  | .dt ks ds, key => (keyT key).map fun k => dFind ks ds k
  | _, _ => none
theorem dGet_rp {B : Bs} {H : Hp} {env : Env} {σ : St} {tm : List Hold} {v y : V} {d key : D} {o : Option D} (ok : EnvOk B H env σ tm) (r : Rp (view H) v d) (ry : Rp (view H) y key) (h : dGet d key = some o) :
    ∃ a ov, v = .ref a ∧ IsD H a ∧ DGet H a y ov ∧ (o = none → ov = none) ∧ ∀ x, o = some x → ∃ w, ov = some w ∧ Rp (view H) w x := by
  unfold dGet at h
  split at h
  · rename_i ks ds
    cases r with
    | @dk a kvs _ _ hv ek ra =>
      subst ek
      cases hk : keyOf key with
      | none => rw [hk] at h; cases h
      | some k =>
        rw [hk] at h
        cases h
        obtain ⟨f1, f2⟩ := find_rp (x := k) ra
        exact ⟨a, valV kvs k, rfl, .inl ⟨_, view_rd hv⟩, .inl ⟨kvs, k, view_rd hv, keyOf_rp ry hk, rfl⟩, f1, f2⟩
  · rename_i ks ds
    cases r with
    | @dt a kvs _ _ hv ek ra =>
      subst ek
      cases hk : keyT key with
      | none => rw [hk] at h; cases h
      | some k =>
        rw [hk] at h
        cases h
        obtain ⟨f1, f2⟩ := find_rp (x := k) ra
        obtain ⟨b, eb, hb⟩ := keyT_rp ok ry hk
        exact ⟨a, valV kvs k, rfl, .inr ⟨_, view_rd hv⟩, .inr ⟨kvs, k, b, view_rd hv, eb, hb, rfl⟩, f1, f2⟩
  · cases h
section
variable {X : Cx} {e o i a b : Expr} {m ma mb md mk : Env → Res D} {k kr : Nat} {cs : List Nat} {pos cpos apos : Pos}
/-- d[k] -/
def gDGet (d key : D) : Res D := match dGet d key with
  | some (some x) => .ok x
  | _ => .bad
theorem sb_dget (hu : X.A.units + 1 < cLine) (ho : SB X o md) (hi : SB X i mk) (hs : NoSl i) : SB X (.Subscript o i pos) (mOp gDGet md mk) := fun B H env σ tm d Q ok hm q => by
  obtain ⟨x, y, hx, hy, hg⟩ := two hm
  refine wE_of (pe_dget hu pe_sem pe_sem hs) (sb2 ho hi ok hx hy fun v u H' x' ok' r1 r2 => ?_)
  unfold gDGet at hg
  split at hg
  · rename_i z hz
    cases hg
    obtain ⟨p, ov, rfl, _, g, _, f2⟩ := dGet_rp ok' r1 r2 hz
    obtain ⟨w, rfl, rw'⟩ := f2 _ rfl
    exact ⟨p, w, rfl, g, q w H' x' ok' rw'⟩
  · cases hg
/-- k in d, k not in d -/
def gDIn (key d : D) : Res D := match dGet d key with
  | some o => .ok (.bl o.isSome)
  | none => .bad
def gDNotIn (key d : D) : Res D := match dGet d key with
  | some o => .ok (.bl (!o.isSome))
  | none => .bad
theorem some_eq {o : Option D} {ov : Option V} (h1 : o = none → ov = none) (h2 : ∀ x, o = some x → ∃ w, ov = some w ∧ True) : ov.isSome = o.isSome := by
  cases o with
  | none => rw [h1 rfl]; rfl
  | some x => obtain ⟨w, rfl, _⟩ := h2 x rfl; rfl
theorem din_core {x y d : D} {B : Bs} {H : Hp} {env : Env} {σ : St} {tm : List Hold} (hg : gDIn x y = .ok d) {v u : V} (ok' : EnvOk B H env σ tm) (r1 : Rp (view H) v x) (r2 : Rp (view H) u y) : ∃ a o, u = .ref a ∧ DGet H a v o ∧ d = .bl o.isSome := by
  unfold gDIn at hg
  split at hg
  · rename_i z hz
    cases hg
    obtain ⟨p, ov, rfl, _, g, f1, f2⟩ := dGet_rp ok' r2 r1 hz
    refine ⟨p, ov, rfl, g, ?_⟩
    rw [some_eq f1 fun x e => let ⟨w, a, _⟩ := f2 x e; ⟨w, a, trivial⟩]
  · cases hg
theorem dnotin_core {x y d : D} {B : Bs} {H : Hp} {env : Env} {σ : St} {tm : List Hold} (hg : gDNotIn x y = .ok d) {v u : V} (ok' : EnvOk B H env σ tm) (r1 : Rp (view H) v x) (r2 : Rp (view H) u y) : ∃ a o, u = .ref a ∧ DGet H a v o ∧ d = .bl (!o.isSome) := by
  unfold gDNotIn at hg
  split at hg
  · rename_i z hz
    cases hg
    obtain ⟨p, ov, rfl, _, g, f1, f2⟩ := dGet_rp ok' r2 r1 hz
    refine ⟨p, ov, rfl, g, ?_⟩
    rw [some_eq f1 fun x e => let ⟨w, a, _⟩ := f2 x e; ⟨w, a, trivial⟩]
  · cases hg
theorem st_din (hu : X.A.units + 1 < cLine) (hi : SB X i mk) (ho : SB X o md) (h1 : behindInMarks .In o = false := by rfl) : ST X (.Compare i [.In] [o] pos) (mTb (mOp gDIn mk md)) := fun B H env σ tm d Q ok hm q => by
  obtain ⟨z, hz, hd⟩ := bind_ok hm
  have hd' := toB_ok hd
  subst hd'
  obtain ⟨x, y, hx, hy, hg⟩ := two hz
  refine wT_of (pt_cmp (pc_din hu pe_sem pe_sem) h1) (sb2 hi ho ok hx hy fun v u H' x' ok' r1 r2 => ?_)
  obtain ⟨p, ov, rfl, g, e⟩ := din_core hg ok' r1 r2
  cases e
  exact ⟨p, ov, rfl, g, _, rfl, q H' x' ok'⟩
theorem st_dnotin (hu : X.A.units + 1 < cLine) (hi : SB X i mk) (ho : SB X o md) (h1 : behindInMarks .NotIn o = false := by rfl) : ST X (.Compare i [.NotIn] [o] pos) (mTb (mOp gDNotIn mk md)) := fun B H env σ tm d Q ok hm q => by
  obtain ⟨z, hz, hd⟩ := bind_ok hm
  have hd' := toB_ok hd
  subst hd'
  obtain ⟨x, y, hx, hy, hg⟩ := two hz
  refine wT_of (pt_cmp (pc_dnotin hu pe_sem pe_sem) h1) (sb2 hi ho ok hx hy fun v u H' x' ok' r1 r2 => ?_)
  obtain ⟨p, ov, rfl, g, e⟩ := dnotin_core hg ok' r1 r2
  cases e
  exact ⟨p, ov, rfl, g, _, rfl, q H' x' ok'⟩
/-- d.get(k, x): what it tells may be read -/
def mGet2 (md mk m : Env → Res D) : Env → Res D := fun env => md env >>= fun d => mk env >>= fun y => m env >>= fun z => match dGet d y with
  | some o => .ok (o.getD z)
  | none => .bad
/-- {} -/
theorem se_dnewK : SE X (k + 1) [] (.Dict [] [] pos) (mC (.dk [] [])) := fun B H env σ tm d Q ok hm q => by
  cases hm
  exact wE_of pe_dnewK fun p hp => q _ _ (Ext.upd hp) (EnvOk.newDk (kvs := []) (ds := []) ok rfl rfl hp)
theorem se_dnewT : SE X (k + 1) [] (.Dict [] [] pos) (mC (.dt [] [])) := fun B H env σ tm d Q ok hm q => by
  cases hm
  exact wE_of pe_dnewT fun p hp => q _ _ (Ext.upd hp) (EnvOk.newDt (kvs := []) (ds := []) ok rfl rfl hp)

/-! ### what a slot holds is changed -/
theorem EnvOk.slotMu {B : Bs} {H : Hp} {env : Env} {σ : St} {tm : List Hold} {j : Nat} {d : D} (ok : EnvOk B H env σ tm) (e : env[j]? = some (some (k + 1, d))) (im : d.imm = false) : ∃ p, σ[j]? = some (some (.ref p)) ∧ EnvOk B H (env.set j none) σ ((.ref p, k + 1, d) :: tm) := by
  obtain ⟨v, hv⟩ := ok.has j _ e
  have ok1 := ok.move e hv
  obtain ⟨p, rfl⟩ := ok1.isRef im
  exact ⟨p, hv, ok1⟩
theorem EnvOk.putBack {B : Bs} {H : Hp} {env : Env} {σ : St} {tm : List Hold} {j : Nat} {d d0 : D} {v : V} (hj : env[j]? = some (some (k, d0))) (hv : σ[j]? = some (some v)) (ok : EnvOk B H (env.set j none) σ ((v, k, d) :: tm)) : EnvOk B H (env.set j (some (k, d))) σ tm := by
  have hi : j < env.length := (List.getElem?_eq_some_iff.mp hj).1
  have h1 := ok.store (i := j) (by simpa using hi)
  rw [List.set_set, set_self hv] at h1
  exact h1
/-- the slot's list, the hand -/
def atL (env : Env) (j k : Nat) : Res (List D) := match env[j]? with
  | some (some (k', .lst ds)) => if k' = k then .ok ds else .bad
  | _ => .bad
theorem atL_ok {env : Env} {j k : Nat} {ds : List D} (h : atL env j k = .ok ds) : env[j]? = some (some (k, .lst ds)) := by
  unfold atL at h
  split at h
  · rename_i k' ds' he
    split at h
    · rename_i ek
      subst ek
      cases h
      exact he
    · cases h
  · cases h
theorem clear_some {env : Env} {cs : List Nat} {j : Nat} {kd : Nat × D} (h : (clear env cs)[j]? = some (some kd)) : env[j]? = some (some kd) := by
  induction cs generalizing env with
  | nil => exact h
  | cons c cs ih =>
    have h1 := ih h
    rw [List.getElem?_set] at h1
    split at h1
    · split at h1 <;> cases h1
    · exact h1
/-- x.append(e) -/
def mAppend (j k : Nat) (cs : List Nat) (m : Env → Res D) : Env → Res Ctl := fun env => m env >>= fun d => atL (clear env cs) j (k + 1) >>= fun ds =>
  if ds.length < sizeLine then .ok (.nx ((clear env cs).set j (some (k + 1, .lst (ds ++ [d]))))) else .bad
theorem s_append {j : Nat} (hx : PE X o (tVar j)) (he : SE X k cs e m)
    (hbase : attributeBase o "append" X.env (eval o X.env) = eval o X.env := by rfl)
    (hfew : ((backTo cpos (starEach [e] X.env)).all (fun x => !x.1) && (backToKw cpos (keywordEach [] X.env)).all (fun x => x.1.isSome)
      && decide ([e].length + ([] : List Keyword).length + (if ([] : List Keyword).isEmpty then 0 else 1) < 30)) = true := by rfl)
    (hline : (apos.endLine == cpos.line) = true := by rfl) (hs : starEach [e] X.env = (false, eval e X.env) :: starEach [] X.env := by rfl) (hplain : (backTo cpos (starEach [] X.env)).any (·.1) = false := by rfl)
    (hsw : swapsWith (.Call (.Attribute o "append" apos) [e] [] cpos) none pos.line X.env = pure false := by rfl) : S1 X kr (.Expr (.Call (.Attribute o "append" apos) [e] [] cpos) pos) (mAppend j k cs m) := fun B H env σ tm D r ok hm p => by
  obtain ⟨d, hd, h2⟩ := bind_ok hm
  obtain ⟨ds, hds, h3⟩ := bind_ok h2
  split at h3
  · rename_i hl
    cases h3
    have he1 := atL_ok hds
    obtain ⟨v, hv, rv⟩ := ok.slot (clear_some he1)
    refine wS_of (ps_expr (pe_bm F.plainAttrs_list F.slot_list_append F.type_list_append mt_append hx (pa_cons pe_sem pa_nil hs) hbase hfew hline hs hplain) hsw) ?_
    refine ⟨v, hv, ?_⟩
    cases rv with
    | @lst q vs0 _ hq ra0 =>
      refine ⟨.inl ⟨rfl, _, .inl (view_rd hq)⟩, ?_⟩
      refine he B H env σ tm d _ ok hd fun w H1 x1 ok1 => ?_
      obtain ⟨q', hv', ok2⟩ := ok1.slotMu he1 rfl
      rw [hv] at hv'
      cases hv'
      obtain ⟨vs, hL, hvl, ok3⟩ := ok2.takeLst
      refine ⟨q, vs, w, rfl, rfl, hL, by omega, ?_⟩
      have ok4 : EnvOk B (del H1 q) ((clear env cs).set j none) σ (lev k (vs ++ [w]) (ds ++ [d]) ++ tm) := by
        rw [lev_append [w] [d] hvl, List.append_assoc]
        exact ok3
      have ok5 := ok4.newLst (p := q) (by simp [hvl]) del_self
      rw [upd_del] at ok5
      exact p σ _ (ok5.putBack he1 hv)
  · cases h3
/-- x.extend(e) -/
def mExtend (j k : Nat) (m : Env → Res (List D)) : Env → Res Ctl := fun env => m env >>= fun es => atL env j (k + 1) >>= fun ds =>
  if ds.length + es.length ≤ sizeLine then .ok (.nx (env.set j (some (k + 1, .lst (ds ++ es))))) else .bad
theorem s_extend {j : Nat} {mm : Env → Res (List D)} (hx : PE X o (tVar j)) (he : SL X k .lst e mm)
    (hbase : attributeBase o "extend" X.env (eval o X.env) = eval o X.env := by rfl)
    (hfew : ((backTo cpos (starEach [e] X.env)).all (fun x => !x.1) && (backToKw cpos (keywordEach [] X.env)).all (fun x => x.1.isSome)
      && decide ([e].length + ([] : List Keyword).length + (if ([] : List Keyword).isEmpty then 0 else 1) < 30)) = true := by rfl)
    (hline : (apos.endLine == cpos.line) = true := by rfl) (hs : starEach [e] X.env = (false, eval e X.env) :: starEach [] X.env := by rfl) (hplain : (backTo cpos (starEach [] X.env)).any (·.1) = false := by rfl)
    (hsw : swapsWith (.Call (.Attribute o "extend" apos) [e] [] cpos) none pos.line X.env = pure false := by rfl) : S1 X kr (.Expr (.Call (.Attribute o "extend" apos) [e] [] cpos) pos) (mExtend j k mm) := fun B H env σ tm D r ok hm p => by
  obtain ⟨es, hd, h2⟩ := bind_ok hm
  obtain ⟨ds, hds, h3⟩ := bind_ok h2
  split at h3
  · rename_i hl
    cases h3
    have he1 := atL_ok hds
    obtain ⟨v, hv, rv⟩ := ok.slot he1
    refine wS_of (ps_expr (pe_bm F.plainAttrs_list F.slot_list_extend F.type_list_extend mt_extR hx (pa_cons pe_sem pa_nil hs) hbase hfew hline hs hplain) hsw) ?_
    refine ⟨v, hv, ?_⟩
    cases rv with
    | @lst q vs0 _ hq ra0 =>
      refine ⟨.inl ⟨rfl, _, .inl (view_rd hq)⟩, ?_⟩
      refine he B H env σ tm es _ ok hd fun w ws H1 ex x1 hw hwl raw ok1 pk => ?_
      have okp := pk H1 env σ tm (Ext.refl _) ok1 _ _ (sel_refl hwl)
      obtain ⟨q', hv', ok2⟩ := okp.slotMu he1 rfl
      rw [hv] at hv'
      cases hv'
      obtain ⟨vs, hL, hvl, ok3⟩ := ok2.takeLst
      refine ⟨q, w, vs, ws, rfl, rfl, hL, view_rd hw, by omega, ?_⟩
      have ok4 : EnvOk B (del H1 q) (env.set j none) σ (lev k (vs ++ ws) (ds ++ es) ++ (ex ++ tm)) := by
        rw [lev_append ws es hvl, List.append_assoc]
        exact ok3
      have ok5 := ok4.newLst (p := q) (by simp [hvl, hwl]) del_self
      rw [upd_del] at ok5
      exact p σ _ ((ok5.putBack he1 hv).less)
  · cases h3
/-- d[key] = e, d a dict whose values are shared -/
def atK (env : Env) (j : Nat) : Res D := match env[j]? with
  | some (some (1, d)) => .ok d
  | _ => .bad
theorem atK_ok {env : Env} {j : Nat} {d : D} (h : atK env j = .ok d) : env[j]? = some (some (1, d)) := by
  unfold atK at h
  split at h
  · rename_i d' he; cases h; exact he
  · cases h
def dSet (d key v : D) : Res D := match d with
  | .dk ks ds => if ds.length < sizeLine ∧ ks.length = ds.length then (match keyOf key with | some k => .ok (.dk (dPutK ks k) (dPutV ks ds k v)) | none => .bad) else .bad
  | .dt ks ds => if ds.length < sizeLine ∧ ks.length = ds.length then (match keyT key with | some k => .ok (.dt (dPutK ks k) (dPutV ks ds k v)) | none => .bad) else .bad
  | _ => .bad
def mDput (j : Nat) (cs : List Nat) (m mk : Env → Res D) : Env → Res Ctl := fun env => m env >>= fun d => mk (clear env cs) >>= fun y => atK (clear env cs) j >>= fun dd => dSet dd y d >>= fun d' => .ok (.nx ((clear env cs).set j (some (1, d'))))
theorem sel_lev0 {B : Bs} {H : Hp} {env : Env} {σ : St} {tm : List Hold} {vs : List V} {ds : List D} (ok : EnvOk B H env σ (lev 0 vs ds ++ tm)) : ∀ {ws : List V} {es : List D}, Sel vs ds ws es → EnvOk B H env σ (lev 0 ws es ++ (lev 0 vs ds ++ tm)) := by
  intro ws
  induction ws with
  | nil => intro es s; cases es with
    | nil => exact ok
    | cons => exact absurd s.1 (by simp)
  | cons w ws ih =>
    intro es s
    cases es with
    | nil => exact absurd s.1 (by simp)
    | cons e es =>
      obtain ⟨j, h1, h2⟩ := s.2 0 w e rfl rfl
      have h3 := ih s.tail
      obtain ⟨l, hp⟩ := lev_get (k := 0) h1 h2
      have h4 : EnvOk B H env σ ((w, 0, e) :: (l ++ (lev 0 ws es ++ tm))) := h3.perm ((perm_aca _ _ _).trans (hp.append_right _))
      refine h4.dup.perm (List.Perm.cons _ ?_)
      refine List.Perm.trans ?_ ((perm_aca (lev 0 vs ds) (lev 0 ws es) tm))
      exact (hp.append_right (lev 0 ws es ++ tm)).symm
theorem s_dput {j : Nat} {pos' : Pos} (hu : X.A.units + 1 < cLine) (hx : PE X o (tVar j)) (hi : SB X i mk) (hv : SE X 0 cs e m) (hs : swapsWith e (some (.Subscript o i pos')) pos.line X.env = pure false := by rfl) :
    S1 X kr (.Assign [.Subscript o i pos'] e pos) (mDput j cs m mk) := fun B H env σ tm D r ok hm p => by
  obtain ⟨d, hd, h2⟩ := bind_ok hm
  obtain ⟨y, hy, h3⟩ := bind_ok h2
  obtain ⟨dd, hdd, h4⟩ := bind_ok h3
  obtain ⟨d', hd', h5⟩ := bind_ok h4
  cases h5
  have he1 := atK_ok hdd
  refine wS_of (ps_dput hu hx pe_sem pe_sem hs) (hv B H env σ tm d _ ok hd fun w H1 x1 ok1 => ?_)
  obtain ⟨v, hv', rv⟩ := ok1.slot he1
  refine ⟨v, hv', hi B H1 (clear env cs) σ _ y _ ok1 hy fun u H2 x2 ok2 r2 => ?_⟩
  have im : dd.imm = false := by
    unfold dSet at hd'
    split at hd' <;> first | rfl | cases hd'
  obtain ⟨q, hq, ok3⟩ := ok2.slotMu he1 im
  rw [hv'] at hq
  cases hq
  unfold dSet at hd'
  split at hd'
  · rename_i ks ds
    split at hd'
    · rename_i hl
      split at hd'
      · rename_i kk hk
        cases hd'
        obtain ⟨kvs, hq, ek, hlen, ok4⟩ := ok3.takeDk
        refine ⟨q, _, rfl, .inl ⟨kvs, kk, hq, keyOf_rp r2 hk, by omega, rfl⟩, ?_⟩
        have ok5 : EnvOk B (del H2 q) ((clear env cs).set j none) σ (lev 0 (kvs.map (·.2) ++ [w]) (ds ++ [d]) ++ tm) := by
          rw [lev_append [w] [d] (by simpa using hlen), List.append_assoc]
          exact ok4
        subst ek
        have ok6 := sel_lev0 ok5 (putK_sel (x := kk) (v := w) (y := d) hlen)
        have ok7 := ok6.newDk (p := q) (kvs := putK kvs kk w) (by have := (putK_sel (x := kk) (v := w) (y := d) hlen).1; simpa using this) (putK_keys kvs kk w) del_self
        rw [upd_del] at ok7
        exact p σ _ ((EnvOk.less (l := lev 0 (kvs.map (·.2) ++ [w]) (ds ++ [d])) (ok7.perm List.perm_middle.symm |> fun h => h)).putBack he1 hv')
      · cases hd'
    · cases hd'
  · rename_i ks ds
    split at hd'
    · rename_i hl
      split at hd'
      · rename_i kk hk
        cases hd'
        obtain ⟨kvs, hq, ek, hlen, ok4⟩ := ok3.takeDt
        obtain ⟨bb, eb, hb⟩ := keyT_rp ok2 r2 hk
        refine ⟨q, _, rfl, .inr ⟨kvs, kk, bb, hq, eb, hb, by omega, rfl⟩, ?_⟩
        have ok5 : EnvOk B (del H2 q) ((clear env cs).set j none) σ (lev 0 (kvs.map (·.2) ++ [w]) (ds ++ [d]) ++ tm) := by
          rw [lev_append [w] [d] (by simpa using hlen), List.append_assoc]
          exact ok4
        subst ek
        have ok6 := sel_lev0 ok5 (putK_sel (x := kk) (v := w) (y := d) hlen)
        have ok7 := ok6.newDt (p := q) (kvs := putK kvs kk w) (by have := (putK_sel (x := kk) (v := w) (y := d) hlen).1; simpa using this) (putK_keys kvs kk w) del_self
        rw [upd_del] at ok7
        exact p σ _ ((EnvOk.less (l := lev 0 (kvs.map (·.2) ++ [w]) (ds ++ [d])) (ok7.perm List.perm_middle.symm |> fun h => h)).putBack he1 hv')
      · cases hd'
    · cases hd'
  · cases hd'
end
end Mir

namespace Mir
open PySem PySem.Spec L2

section
variable {X : Cx} {e a b tg it o : Expr} {m ma mb md : Env → Res D} {k kr : Nat} {cs : List Nat} {pos cpos apos : Pos} {m1 : Env → Res Ctl}
/-! ### dicts, walked -/
def kD : Key → D
  | .inl i => .int i
  | .inr z => .str z
/-- what a dict gives when it is walked -/
def dKeys : D → Res (List D)
  | .dk ks _ => .ok (ks.map kD)
  | .dt ks _ => .ok (ks.map fun k => .tup (k.map kD))
  | _ => .bad
def dItems : D → Res (List D)
  | .dk ks ds => if ks.length = ds.length then .ok (List.zipWith (fun k d => .tup [kD k, d]) ks ds) else .bad
  | _ => .bad
end
end Mir

namespace Mir
open PySem PySem.Spec L2

/-! ### isinstance -/
inductive Ty6 where | int | bool | str | list | tuple | dict
def Ty6.s : Ty6 → String
  | .int => "int" | .bool => "bool" | .str => "str" | .list => "list" | .tuple => "tuple" | .dict => "dict"
inductive Tg where | non | bl | int | str | lst | tup | dic
def Tg.s : Tg → String
  | .non => "NoneType" | .bl => "bool" | .int => "int" | .str => "str" | .lst => "list" | .tup => "tuple" | .dic => "dict"
def tgD : D → Tg
  | .non => .non | .bl _ => .bl | .int _ => .int | .str _ => .str | .lst _ => .lst | .tup _ => .tup | .dk _ _ => .dic | .dt _ _ => .dic | .ob _ _ _ _ => .non | .exn _ _ _ _ => .non | .dn _ _ => .dic
/-- an object of an own class -/
def isOb : D → Bool
  | .ob _ _ _ _ => true
  | .exn _ _ _ _ => true
  | _ => false
def isiT : Ty6 → Tg → Bool
  | .int, .int => true | .int, .bl => true | .bool, .bl => true | .str, .str => true | .list, .lst => true | .tuple, .tup => true | .dict, .dic => true
  | _, _ => false
def isi (T : Ty6) (d : D) : Bool := isiT T (tgD d)
theorem kit_tab (T : Ty6) (t : Tg) : kitB t.s T.s = some (isiT T t) := by
  cases T <;> cases t <;> decide +kernel
abbrev tyN (d : D) : String := (tgD d).s
theorem kit_isi (T : Ty6) (d : D) : kitB (tyN d) T.s = some (isi T d) := kit_tab T (tgD d)
theorem kit_rp {X : Cx} {pins : List (Addr × Obj)} {σ : St} {H : Hp} {s : Shared} {x : V} {u : Value} {d : D} (I : Inv X pins σ H s) (rx : RelV x u) (r : Rp (view H) x d) (hob : isOb d = false) : ∃ P : Heap → Prop, PySem.W.KitX X.K u (.type (tyN d)) P ∧ P s.heap ∧ u ≠ .builtin "__main__.__loader__#opaque" := by
  cases r with
  | non => cases (show u = Value.none from rx); exact ⟨_, PySem.W.kitx_none, True.intro, fun z => nomatch z⟩
  | bl y => cases (show u = Value.bool y from rx); exact ⟨_, PySem.W.kitx_bool, True.intro, fun z => nomatch z⟩
  | int i => obtain ⟨t, q⟩ := (show ∃ t, u = Value.int i t from rx); cases q; exact ⟨_, PySem.W.kitx_int, True.intro, fun z => nomatch z⟩
  | str y => obtain ⟨t, q⟩ := (show ∃ t, u = Value.str y t from rx); cases q; exact ⟨_, PySem.W.kitx_str, True.intro, fun z => nomatch z⟩
  | @lst a xs _ ea =>
    cases (show u = Value.ref a from rx)
    obtain ⟨_, _, n, _, h1⟩ := (show ObjOk X.prog X.w H s.heap a (.lst xs) from (view_rd ea).ok I.hok)
    exact ⟨_, PySem.W.kitx_list, ⟨_, h1, rfl⟩, fun z => nomatch z⟩
  | @tup a xs _ ea =>
    cases (show u = Value.ref a from rx)
    obtain ⟨_, _, _, o, h1, h2, _⟩ := (show ObjOk X.prog X.w H s.heap a (.tup xs) from (view_rd ea).ok I.hok)
    exact ⟨_, PySem.W.kitx_tuple, ⟨o, h1, h2⟩, fun z => nomatch z⟩
  | @dk a kvs _ _ ea =>
    cases (show u = Value.ref a from rx)
    obtain ⟨_, _, vs, _, o, es, ep, h1, h2, _⟩ := (show ObjOk X.prog X.w H s.heap a (.dK kvs) from (view_rd ea).ok I.hok)
    exact ⟨_, PySem.W.kitx_dict, ⟨o, h1, h2.1⟩, fun z => nomatch z⟩
  | @dt a kvs _ _ ea =>
    cases (show u = Value.ref a from rx)
    obtain ⟨_, _, xs, _, o, es, ep, h1, h2, _⟩ := (show ObjOk X.prog X.w H s.heap a (.dT kvs) from (view_rd ea).ok I.hok)
    exact ⟨_, PySem.W.kitx_dict, ⟨o, h1, h2.1⟩, fun z => nomatch z⟩
  | ob => cases hob
  | exn0 => cases hob
  | @dn a es _ _ ea =>
    cases (show u = Value.ref a from rx)
    obtain ⟨⟨_, _, _, o, _, _, _, h1, h2, _⟩, _⟩ := (show ObjOk X.prog X.w H s.heap a (DnH a es) from (view_rd ea).ok I.hok)
    exact ⟨_, PySem.W.kitx_dict, ⟨o, h1, h2.1⟩, fun z => nomatch z⟩
  | exn => cases hob
theorem call_isiD {X : Cx} : CallR X (.builtin "isinstance") (fun xs H Q => ∃ x d T, xs = [x, .ty (Ty6.s T)] ∧ Rp (view H) x d ∧ isOb d = false ∧ Q (.bl (isi T d)) H) := by
  intro pins s σ H xs us Q I r h
  obtain ⟨x, d, T, rfl, rp, hob, q⟩ := h
  obtain ⟨u1, u2, rfl, r1, r2⟩ := vals2 r
  cases (show u2 = Value.type T.s from r2)
  obtain ⟨P, Z, p, hx⟩ := kit_rp I r1 rp hob
  exact PySem.W.kia_one Z I.kIn p (kit_ty (kit_isi T d)) hx fun tk => ⟨.bl _, H, I.tok tk, rfl, q⟩
section
variable {X : Cx} {e a b c : Expr} {m ma mb mc : Env → Res D} {k kr : Nat} {cs : List Nat} {pos p cpos apos : Pos}
def mIsi (T : Ty6) (m : Env → Res D) : Env → Res D := fun env => m env >>= fun d => if isOb d = true then .bad else .ok (.bl (isi T d))
theorem sc_isi {T : Ty6} (hg : Gl X "isinstance") (hm0 : X.mg "isinstance" = none) (h : SB X a m) (hT : PE X b (tC (.ty T.s))) (he : starEach [a, b] X.env = (false, eval a X.env) :: starEach [b] X.env := by rfl) (he2 : starEach [b] X.env = (false, eval b X.env) :: starEach [] X.env := by rfl) (hpl : (backTo pos (starEach [b] X.env)).any (·.1) = false := by rfl) :
    SC X (.Call (.Name "isinstance" p) [a, b] [] pos) (mIsi T m) := fun B H env σ tm d Q ok hm q => by
  obtain ⟨x, hx, h2⟩ := bind_ok hm
  split at h2
  · cases h2
  rename_i hob
  cases h2
  refine wE_of (pe_callB call_isiD hg hm0 (by decide +kernel) (pa_cons pe_sem (pa_cons hT pa_nil he2) he) (by decide) (by decide) he hpl) (h B H env σ tm _ _ ok hx fun v H1 x1 ok1 r => ?_)
  exact ⟨v, x, T, rfl, r, by simpa using hob, q _ H1 x1 ok1 (.bl _) rfl⟩
theorem pe_tyD {x : Str} {n : String} {pos : Pos} (hg : Gl X x) (hm : X.mg x = none) (hv : bootBuiltins x = some (.type n)) (hn : x ≠ "__name__" := by decide) (hd : (x == ("__debug__" : Str)) = false := by decide) : PE X (.Name x pos) (tC (.ty n)) := pe_bltn hg hm hv rfl hn hd

/-! ### dict(d), == of dicts -/
/-- dict(d) of a dict with keys that are numbers, texts; its values shared or of one level -/
def gDictC : D → Res D
  | .dk ks ds => if immAll ds then .ok (.dk ks ds) else .bad
  | _ => .bad
end
end Mir

namespace Mir
open PySem PySem.Spec L2

/-- a def as it stands; as it is called -/
structure At (K : PySem.W.Frag) (mg : Str → Option Value) (x : Str) (st : Stmt) : Prop where
  ex : ∃ f fd, Fun K x x st f fd ∧ mg x = some (.ref f)
structure Cal (P : Program) (w : World) (K : PySem.W.Frag) (mg : Str → Option Value) (base : Heap) (x : Str) (j n kr : Nat) (F : List D → Res D) : Prop where
  ex : ∃ f fd ps, mg x = some (.ref f) ∧ PySem.W.keepIn K (.ref f) = true ∧ Binds K fd ps [] ∧ FnOk P w K mg base CX0 j f fd ps (spF kr n F)
theorem se_cal {X : Cx} {e : Expr} {es : List Expr} {ms : Env → Res (List D)} {j n kr : Nat} {F : List D → Res D} {x : Str} {p pos : Pos} (C : Cal X.prog X.w X.K X.mg X.base x j n kr F) (hr : Room j X.A) (hg : Gl X x)
    (ha : SAB X (e :: es) ms) (hl : ∀ env ds, ms env = .ok ds → ds.length = n) (hdb : (x == ("__debug__" : Str)) = false := by decide) (he : starEach (e :: es) X.env = (false, eval e X.env) :: starEach es X.env := by rfl) (hpl : (backTo pos (starEach es X.env)).any (·.1) = false := by rfl) :
    SE X kr [] (.Call (.Name x p) (e :: es) [] pos) (mCall kr F ms) := by
  obtain ⟨f, fd, ps, hm, hk, hb, Fo⟩ := C.ex
  exact se_call Fo hr hg hm hk hb ha hdb he hpl hl
theorem At.mk' {K : PySem.W.Frag} {mg : Str → Option Value} {h : Heap} {x : Str} {st : Stmt} {f : Addr} {oc : Value} {od an : Option Addr} {osl : Array (Option Value)} {kV doc pm cdv ct : Value} (X : K.In h) (G : h.Ns mainGlobals mg) (a : PySem.W.nsIn K mainGlobals x = some (some (.ref f)))
    (l : K.lookup f = some ⟨oc, od, .func (PySem.W.fnOf x x (defArgs st) (defBody st) (defScope st) .none kV doc pm an cdv ct), osl⟩) (c : PySem.W.codeIn K cdv x = true) (k : PySem.W.keepIn K (.ref f) = true) : At K mg x st :=
  ⟨f, _, fun_mk l c k, PySem.W.mg_of X G a⟩
/-- no list stands in the written part -/
def noLists (K : PySem.W.Frag) : Bool := K.all fun p => match p.2.cls with
  | .type n => n != "list"
  | _ => true
theorem noLists_lookup : ∀ {K : PySem.W.Frag} {a : Addr} {o : Obj}, noLists K = true → K.lookup a = some o → o.cls ≠ .type "list"
  | [], _, _, _, h => by simp at h
  | (b, ob) :: K, a, o, hn, h => by
    unfold noLists at hn
    rw [List.all_cons, Bool.and_eq_true] at hn
    rw [List.lookup_cons] at h
    split at h
    · cases h
      intro e
      have := hn.1
      rw [e] at this
      simp at this
    · exact noLists_lookup (K := K) hn.2 h
theorem ints_rp {G : Hp} : ∀ ns : List Int, RpAll G (ns.map V.int) (ns.map D.int)
  | [] => .nil
  | n :: ns => .cons (.int n) (ints_rp ns)
theorem law_sp {F : List D → Res D} {K : PySem.W.Frag} {H : Hp} {a : Addr} {ns : List Int} (hK : noLists K = true) (hO : Only H) (hS : SqL K H a (ns.map V.int)) (hF : F [.lst (ns.map D.int)] = .ok (.bl true)) : spF 0 1 F [.ref a] H (fun v _ => v = .bl true) fun _ _ _ => False := by
  have hv : view H a = some (.lst (ns.map V.int)) := by
    rcases hS with (h | ⟨o, h⟩) | ⟨o, its, n, h1, h2, _⟩
    · unfold view; rw [h]; rfl
    · unfold view; rw [h]; rfl
    · exact absurd h2 (noLists_lookup hK h1)
  refine ⟨rfl, view H, [.lst (ns.map D.int)], .bl true, ⟨fun _ _ e => e, fun _ _ => rfl, fun _ _ e => e, fun _ _ _ e => e, fun b xs im e => ?_⟩, .cons (.lst hv (ints_rp ns)) .nil, hF, fun v H' r => ?_⟩
  · rcases hO b with h | ⟨o, ys, h⟩
    · rw [view_none h] at e; cases e
    · unfold view at e; rw [h] at e
      rw [← Option.some.inj e] at im; cases im
  · obtain ⟨G', fp, g, od, _⟩ := r.ex
    obtain ⟨_, rp⟩ := od.zero
    cases rp
    rfl
end Mir

namespace Mir
open PySem PySem.Spec L2

/-! ### the mirror, reckoned -/
@[simp] theorem exc_bind {α β : Type} (c : Str) (ns : List Str) (as : List D) (f : α → Res β) : (Res.exc c ns as >>= f) = .exc c ns as := rfl
@[simp] theorem bad_bind {α β : Type} (f : α → Res β) : ((Res.bad : Res α) >>= f) = .bad := rfl
@[simp] theorem res_assoc {α β γ : Type} (x : Res α) (f : α → Res β) (g : β → Res γ) : (x >>= f >>= g) = (x >>= fun a => f a >>= g) := by cases x <;> rfl
section
variable (env : Mir.Env) (m n : Mir.Env → Res D) (m1 m2 : Mir.Env → Res Ctl) (ma mb : Mir.Env → Res Bool) (g : D → D → Res D) (g1 : D → Res D) (ms ns : Mir.Env → Res (List D)) (i j k : Nat) (cs fg : List Nat) (d : D) (F : List D → Res D)
@[simp] theorem e_mSeq : mSeq m1 m2 env = (m1 env >>= fun c => match c with | .nx e => m2 e | c => .ok c) := rfl
@[simp] theorem e_mIf {α : Type} (x y : Mir.Env → Res α) : mIf ma x y env = (ma env >>= fun c => if c then x env else y env) := rfl
@[simp] theorem e_mTb : mTb m env = (m env >>= toB) := rfl
@[simp] theorem e_toB (b : Bool) : toB (.bl b) = .ok b := rfl
@[simp] theorem e_mOp : mOp g m n env = (m env >>= fun x => n env >>= fun y => g x y) := rfl
@[simp] theorem e_mUn : mUn g1 m env = (m env >>= g1) := rfl
@[simp] theorem e_mVar : mVar i env = (match env[i]? with | some (some (_, d)) => .ok d | _ => .bad) := rfl
@[simp] theorem e_mVarK : mVarK i k env = (match env[i]? with | some (some (j, d)) => if j = k then .ok d else .bad | _ => .bad) := rfl
@[simp] theorem e_mC : mC d env = .ok d := rfl
@[simp] theorem e_mRet : mRet m env = (m env >>= fun d => .ok (.rt d)) := rfl
@[simp] theorem e_mImm : mImm m env = (m env >>= fun d => if d.imm then .ok d else .bad) := rfl
@[simp] theorem e_mSkip : mSkip env = .ok (.nx env) := rfl
@[simp] theorem e_mSet : mSet i k cs m env = (m env >>= fun d => tName i k d (clear env cs) >>= fun e => .ok (.nx e)) := rfl
@[simp] theorem e_tName : tName i k d env = if i < env.length then .ok (env.set i (some (k, d))) else .bad := rfl
@[simp] theorem e_mCall : mCall k F ms env = (ms env >>= fun ds => F ds >>= fun d => if immAt k d then .ok d else .bad) := rfl
@[simp] theorem e_mNilA : mNilA env = .ok [] := rfl
@[simp] theorem e_mConsA : mConsA m ms env = (m env >>= fun x => ms env >>= fun xs => .ok (x :: xs)) := rfl
@[simp] theorem e_mConsE : mConsE m cs ms env = (m env >>= fun x => ms (clear env cs) >>= fun xs => .ok (x :: xs)) := rfl
@[simp] theorem e_mTup : mTup ms env = (ms env >>= fun xs => if xs.length ≤ sizeLine then .ok (.tup xs) else .bad) := rfl
@[simp] theorem e_mLst : mLst ms env = (ms env >>= fun xs => if xs.length ≤ sizeLine then .ok (.lst xs) else .bad) := rfl
@[simp] theorem e_mNotB : mNotB ma env = (ma env >>= fun b => .ok (!b)) := rfl
@[simp] theorem e_mAndB : mAndB ma mb env = (ma env >>= fun b => if b then mb env else .ok false) := rfl
@[simp] theorem e_mOrB : mOrB ma mb env = (ma env >>= fun b => if b then .ok true else mb env) := rfl
@[simp] theorem e_mAndV : mAndV m n env = (m env >>= fun x => toB x >>= fun b => if b then n env else .ok (.bl false)) := rfl
@[simp] theorem e_mOrV : mOrV m n env = (m env >>= fun x => toB x >>= fun b => if b then .ok (.bl true) else n env) := rfl
@[simp] theorem e_mNotV : mNotV m env = (m env >>= fun x => toB x >>= fun b => .ok (.bl (!b))) := rfl
@[simp] theorem e_mFz : mFz i m1 env = m1 (fz i env) := rfl
@[simp] theorem e_fz : fz i env = (match env[i]? with | some (some (_, d)) => env.set i (some (0, d)) | _ => env) := rfl
@[simp] theorem e_mForget : mForget cs m1 env = m1 (clear env cs) := rfl
@[simp] theorem e_clear0 : clear env [] = env := rfl
@[simp] theorem e_clear1 (i : Nat) (is : List Nat) : clear env (i :: is) = clear (env.set i none) is := rfl
@[simp] theorem e_mGet2 (o : Mir.Env → Res D) : mGet2 m n o env = (m env >>= fun d => n env >>= fun y => o env >>= fun z => match dGet d y with | some o => .ok (o.getD z) | none => .bad) := rfl
@[simp] theorem e_mIsi (T : Ty6) : mIsi T m env = (m env >>= fun d => if isOb d = true then .bad else .ok (.bl (isi T d))) := rfl
@[simp] theorem isOb_n : isOb .non = false := rfl
@[simp] theorem isOb_b (b : Bool) : isOb (.bl b) = false := rfl
@[simp] theorem isOb_i (i : Int) : isOb (.int i) = false := rfl
@[simp] theorem isOb_s (z : Str) : isOb (.str z) = false := rfl
@[simp] theorem isOb_l (xs : List D) : isOb (.lst xs) = false := rfl
@[simp] theorem isOb_t (xs : List D) : isOb (.tup xs) = false := rfl
@[simp] theorem isOb_dk (ks : List Key) (ds : List D) : isOb (.dk ks ds) = false := rfl
@[simp] theorem isOb_dt (ks : List (List Key)) (ds : List D) : isOb (.dt ks ds) = false := rfl
@[simp] theorem isOb_ob (c : Str) (C : Addr) (ns : List Str) (ds : List D) : isOb (.ob c C ns ds) = true := rfl
@[simp] theorem isOb_exn (c : Str) (C : Addr) (ns : List Str) (ds : List D) : isOb (.exn c C ns ds) = true := rfl
@[simp] theorem e_mSlice (l u : Mir.Env → Res (Option Int)) : mSlice ms l u env = (ms env >>= fun ds => l env >>= fun lo => u env >>= fun hi => .ok (.lst (cutD ds lo hi))) := rfl
@[simp] theorem e_mFor (t : Nat → D → Mir.Env → Res Mir.Env) : mFor ms t m1 fg env = (ms env >>= fun ds => loop t m1 fg ds env) := rfl
@[simp] theorem e_mDput : mDput j cs m n env = (m env >>= fun d => n (clear env cs) >>= fun y => atK (clear env cs) j >>= fun dd => dSet dd y d >>= fun d' => .ok (.nx ((clear env cs).set j (some (1, d'))))) := rfl
@[simp] theorem e_atK : atK env j = (match env[j]? with | some (some (1, d)) => .ok d | _ => .bad) := rfl
@[simp] theorem e_mAppend : mAppend j k cs m env = (m env >>= fun d => atL (clear env cs) j (k + 1) >>= fun ds => if ds.length < sizeLine then .ok (.nx ((clear env cs).set j (some (k + 1, .lst (ds ++ [d]))))) else .bad) := rfl
@[simp] theorem e_atL : atL env j k = (match env[j]? with | some (some (k', d)) => if k' = k then itemsL d else .bad | _ => .bad) := by
  unfold atL
  cases env[j]? with
  | none => rfl
  | some x =>
    cases x with
    | none => rfl
    | some y =>
      obtain ⟨k', d⟩ := y
      cases d <;> simp [itemsL]
end
@[simp] theorem e_itemsL (xs : List D) : itemsL (.lst xs) = .ok xs := rfl
@[simp] theorem e_itemsT (xs : List D) : itemsT (.tup xs) = .ok xs := rfl
@[simp] theorem e_toI (i : Int) : toI (.int i) = .ok i := rfl
@[simp] theorem e_gAdd (i j : Int) : gAdd (.int i) (.int j) = .ok (.int (i + j)) := rfl
@[simp] theorem e_gSub (i j : Int) : gSub (.int i) (.int j) = .ok (.int (i - j)) := rfl
@[simp] theorem e_gNeg (i : Int) : gNeg (.int i) = .ok (.int (-i)) := rfl
@[simp] theorem e_gLt (i j : Int) : gLt (.int i) (.int j) = .ok (.bl (decide (i < j))) := rfl
@[simp] theorem e_gLe (i j : Int) : gLe (.int i) (.int j) = .ok (.bl (decide (i ≤ j))) := rfl
@[simp] theorem e_gGt (i j : Int) : gGt (.int i) (.int j) = .ok (.bl (decide (j < i))) := rfl
@[simp] theorem e_gGe (i j : Int) : gGe (.int i) (.int j) = .ok (.bl (decide (j ≤ i))) := rfl
@[simp] theorem e_gLenL (xs : List D) : gLen (.lst xs) = .ok (.int xs.length) := rfl
@[simp] theorem e_gLenT (xs : List D) : gLen (.tup xs) = .ok (.int xs.length) := rfl
theorem e_gMod (i j : Int) (h : 0 < j) : gMod (.int i) (.int j) = .ok (.int (i % j)) := if_pos h
theorem e_gFdv (i j : Int) (h : 0 < j) (h2 : j < 2 ^ 30) : gFdv (.int i) (.int j) = .ok (.int (i / j)) := if_pos ⟨h, by
  have : j.natAbs < 2 ^ 30 := by omega
  exact Nat.lt_of_lt_of_le (PySem.Flt.log2_lt_of (by decide) this) (by decide)⟩
theorem e_gMul (i j : Int) (h : (-(2 ^ 64) < i ∧ i < 2 ^ 64) ∨ (-(2 ^ 64) < j ∧ j < 2 ^ 64)) : gMul (.int i) (.int j) = .ok (.int (i * j)) := if_pos (by
  unfold mulOk
  rw [Bool.or_eq_true, Bool.or_eq_true, Bool.and_eq_true, Bool.and_eq_true]
  simp only [decide_eq_true_eq]
  exact .inl h)
@[simp] theorem e_int_imm (i : Int) : (D.int i).imm = true := rfl
@[simp] theorem e_bl_imm (i : Bool) : (D.bl i).imm = true := rfl
@[simp] theorem e_str_imm (i : Str) : (D.str i).imm = true := rfl
@[simp] theorem e_non_imm : D.non.imm = true := rfl
@[simp] theorem e_tup_imm (xs : List D) : (D.tup xs).imm = immAll xs := rfl
@[simp] theorem e_immAll_nil : immAll [] = true := rfl
@[simp] theorem e_immAll_cons (d : D) (ds : List D) : immAll (d :: ds) = (d.imm && immAll ds) := rfl
@[simp] theorem e_immAll_map {α : Type} (f : α → D) (xs : List α) : immAll (xs.map f) = xs.all fun x => (f x).imm := by
  induction xs with
  | nil => rfl
  | cons x xs ih => simp [ih]
@[simp] theorem e_immAt0 (d : D) : immAt 0 d = d.imm := by unfold immAt; rfl
@[simp] theorem e_shp_int (i : Int) : shp (.int i) = true := rfl
@[simp] theorem e_shp_bl (i : Bool) : shp (.bl i) = true := rfl
@[simp] theorem e_py_int (i : Int) : (D.int i).py = .int i := rfl
@[simp] theorem e_eqv_int (i j : Int) : PyData.eqv (.int i) (.int j) = (i == j) := by simp [PyData.eqv]
@[simp] theorem e_gEq_int (i j : Int) : gEq (.int i) (.int j) = .ok (.bl (i == j)) := by unfold gEq; simp
@[simp] theorem e_gNe_int (i j : Int) : gNe (.int i) (.int j) = .ok (.bl (!(i == j))) := by unfold gNe; simp
theorem sizeLine_big {n : Nat} (h : n ≤ 16000000) : n ≤ sizeLine := by rw [sizeLine_eq]; omega
theorem sizeLine_lt {n : Nat} (h : n ≤ 16000000) : n < sizeLine := by rw [sizeLine_eq]; omega
/-! ### dicts of whole numbers -/
abbrev Pol := List (Int × Int)
def look (p : Pol) (k : Int) : Option Int := (p.find? fun x => decide (x.1 = k)).map (·.2)
def put (p : Pol) (k v : Int) : Pol := if k ∈ p.map (·.1) then p.map (fun x => if x.1 = k then (x.1, v) else x) else p ++ [(k, v)]
def encP (p : Pol) : D := .dk (p.map fun x => .inl x.1) (p.map fun x => .int x.2)
theorem dFind_enc : ∀ (p : Pol) (k : Int), dFind (p.map fun x => (Sum.inl x.1 : Key)) (p.map fun x => D.int x.2) (Sum.inl k) = (look p k).map D.int
  | [], k => rfl
  | x :: p, k => by
    show (if (Sum.inl x.1 : Key) = Sum.inl k then some (D.int x.2) else dFind (p.map fun x => (Sum.inl x.1 : Key)) (p.map fun x => D.int x.2) (Sum.inl k)) = _
    rw [dFind_enc p k]
    unfold look
    by_cases e : x.1 = k
    · simp [e]
    · have : ¬ (Sum.inl x.1 : Key) = Sum.inl k := fun z => e (Sum.inl.inj z)
      rw [if_neg this]
      simp [e]
@[simp] theorem dGet_enc (p : Pol) (k : Int) : dGet (encP p) (.int k) = some ((look p k).map D.int) := by
  show some (dFind _ _ _) = _
  rw [dFind_enc]
@[simp] theorem immAtL0 : ∀ ds : List D, immAtL 0 ds = immAll ds
  | [] => by unfold immAtL; rfl
  | d :: ds => by rw [immAtL, immAtL0 ds, e_immAt0]; rfl
@[simp] theorem immAt_enc (p : Pol) : immAt 1 (encP p) = true := by
  show immAt 1 (.dk _ _) = true
  unfold immAt
  simp
theorem put_keys (p : Pol) (k v : Int) : (put p k v).map (·.1) = if k ∈ p.map (·.1) then p.map (·.1) else p.map (·.1) ++ [k] := by
  unfold put
  split
  · rw [List.map_map]
    refine List.map_congr_left fun x _ => ?_
    by_cases e : x.1 = k <;> simp [e]
  · simp
theorem put_nodup {p : Pol} (h : (p.map (·.1)).Nodup) (k v : Int) : ((put p k v).map (·.1)).Nodup := by
  rw [put_keys]
  split
  · exact h
  · rename_i hk
    refine List.nodup_append.mpr ⟨h, by simp, fun a ha b hb e => ?_⟩
    rw [List.mem_singleton.mp hb] at e
    exact hk (e ▸ ha)
@[simp] theorem dKeys_enc (p : Pol) : dKeys (encP p) = .ok (p.map fun x => D.int x.1) := by
  show Res.ok ((p.map fun x => (Sum.inl x.1 : Key)).map kD) = _
  rw [List.map_map]; rfl
@[simp] theorem dItems_enc (p : Pol) : dItems (encP p) = .ok (p.map fun x => D.tup [.int x.1, .int x.2]) := by
  show (if (p.map fun x => (Sum.inl x.1 : Key)).length = (p.map fun x => D.int x.2).length then Res.ok _ else .bad) = _
  rw [if_pos (by simp)]
  congr 1
  induction p with
  | nil => rfl
  | cons x p ih => exact congrArg (List.cons _) ih
@[simp] theorem gDictC_enc (p : Pol) : gDictC (encP p) = .ok (encP p) := by
  show (if immAll _ then _ else _) = _
  rw [if_pos (by simp)]; rfl
@[simp] theorem isi_dict_enc (p : Pol) : isi .dict (encP p) = true := rfl
@[simp] theorem isOb_encP (p : Pol) : isOb (encP p) = false := rfl
end Mir

namespace Mir
open PySem PySem.Spec L2
end Mir

namespace Mir
open PySem PySem.Spec L2
/-! ### polynomials: what a sum over the terms says -/
abbrev ND (p : Pol) : Prop := (p.map (·.1)).Nodup
def ev : Pol → (Int → Int) → Int
  | [], _ => 0
  | x :: p, w => x.2 * w x.1 + ev p w
theorem look_cons (x : Int × Int) (p : Pol) (k : Int) : look (x :: p) k = if x.1 = k then some x.2 else look p k := by
  unfold look
  by_cases e : x.1 = k <;> simp [e]
theorem look_in {p : Pol} {k v : Int} (h : look p k = some v) : (k, v) ∈ p := by
  induction p with
  | nil => cases h
  | cons x p ih =>
    rw [look_cons] at h
    split at h
    · rename_i e
      have := Option.some.inj h
      rw [← e, ← this]; exact List.mem_cons_self
    · exact List.mem_cons_of_mem _ (ih h)
theorem nodup_le : ∀ {xs ys : List Int}, xs.Nodup → (∀ x ∈ xs, x ∈ ys) → xs.length ≤ ys.length
  | [], _, _, _ => Nat.zero_le _
  | x :: xs, ys, h, s => by
    have h2 := List.nodup_cons.mp h
    have hx := s x List.mem_cons_self
    have := nodup_le (ys := ys.erase x) h2.2 fun y hy => (List.mem_erase_of_ne (fun e : y = x => h2.1 (e ▸ hy))).mpr (s y (List.mem_cons_of_mem _ hy))
    rw [List.length_erase_of_mem hx] at this
    have pos : 0 < ys.length := List.length_pos_of_mem hx
    rw [List.length_cons]; omega
theorem nodup_range {xs : List Int} (h : xs.Nodup) {m : Nat} (b : ∀ x ∈ xs, -(m : Int) ≤ x ∧ x ≤ m) : xs.length ≤ 2 * m + 1 := by
  have := nodup_le (ys := (List.range (2 * m + 1)).map fun i : Nat => (i : Int) - m) h fun x hx => by
    obtain ⟨h1, h2⟩ := b x hx
    refine List.mem_map.mpr ⟨(x + m).toNat, List.mem_range.mpr (by omega), by omega⟩
  simpa using this
def keep (q : Pol) (x : Int × Int) : Pol := if x.2 = 0 then q else put q x.1 x.2
end Mir

namespace Mir
open PySem PySem.Spec L2
/-- unlike powers, none beyond R, numbers of at most B -/
structure PB (R B : Nat) (p : Pol) : Prop where
  nd : ND p
  rg : ∀ x ∈ p, x.1.natAbs ≤ R
  vb : ∀ x ∈ p, x.2.natAbs ≤ B
theorem PB.nil {R B : Nat} : PB R B [] := ⟨List.nodup_nil, fun x h => absurd h List.not_mem_nil, fun x h => absurd h List.not_mem_nil⟩
theorem PB.len {R B : Nat} {p : Pol} (h : PB R B p) : p.length ≤ 2 * R + 1 := by
  have := nodup_range h.nd (m := R) fun x hx => by
    obtain ⟨y, hy, rfl⟩ := List.mem_map.mp hx
    have := h.rg y hy
    omega
  simpa using this
theorem PB.up {R B R' B' : Nat} {p : Pol} (h : PB R B p) (hr : R ≤ R') (hb : B ≤ B') : PB R' B' p := ⟨h.nd, fun x hx => Nat.le_trans (h.rg x hx) hr, fun x hx => Nat.le_trans (h.vb x hx) hb⟩
theorem mem_put {p : Pol} {k v : Int} {x : Int × Int} (h : x ∈ put p k v) : x = (k, v) ∨ x ∈ p := by
  unfold put at h
  split at h
  · obtain ⟨y, hy, e⟩ := List.mem_map.mp h
    split at e
    · rename_i ek; exact .inl (by rw [← e, ek])
    · exact .inr (e ▸ hy)
  · rcases List.mem_append.mp h with h | h
    · exact .inr h
    · exact .inl (List.mem_singleton.mp h)
theorem PB.put {R B : Nat} {p : Pol} (h : PB R B p) {k v : Int} (hk : k.natAbs ≤ R) (hv : v.natAbs ≤ B) : PB R B (put p k v) :=
  ⟨put_nodup h.nd k v, fun x hx => by rcases mem_put hx with rfl | hx; exact hk; exact h.rg x hx, fun x hx => by rcases mem_put hx with rfl | hx; exact hv; exact h.vb x hx⟩
theorem PB.look {R B : Nat} {p : Pol} (h : PB R B p) (k : Int) : ((look p k).getD 0).natAbs ≤ B := by
  cases e : Mir.look p k with
  | none => exact Nat.zero_le _
  | some v => exact h.vb _ (look_in e)
/-- the product -/
def ter (x : Int × Int) (t : Pol) (y : Int × Int) : Pol := Mir.put t (x.1 + y.1) ((Mir.look t (x.1 + y.1)).getD 0 + x.2 * y.2)
def row (b : Pol) (t : Pol) (x : Int × Int) : Pol := b.foldl (ter x) t
/-- of few bits -/
def Sm (A : Nat) : Prop := ∃ k, k < 400000 ∧ A ≤ 2 ^ k
theorem Sm.lt {A : Nat} {i : Int} (h : Sm A) (hi : i.natAbs ≤ A) : i.natAbs.log2 < 400001 := by
  obtain ⟨k, hk, hA⟩ := h
  have h1 : i.natAbs < 2 ^ (k + 1) := Nat.lt_of_le_of_lt (Nat.le_trans hi hA) (Nat.pow_lt_pow_right (by decide) (by omega))
  exact Nat.lt_of_lt_of_le (PySem.Flt.log2_lt_of (by omega) h1) (by omega)
end Mir

namespace Mir
open PySem PySem.Spec L2
/-! ### dict displays, unlike keys, values without lists and dicts -/
def mDispP : List ((Env → Res D) × (Env → Res D)) → Env → Res (List (Key × D))
  | [], _ => .ok []
  | (mk, mv) :: r, env => mk env >>= fun x => mv env >>= fun d => mDispP r env >>= fun t => match keyOf x with
    | some k => if d.imm then .ok ((k, d) :: t) else .bad
    | none => .bad
def mDisp (l : List ((Env → Res D) × (Env → Res D))) : Env → Res D := fun env => mDispP l env >>= fun kds => if (kds.map (·.1)).Nodup ∧ kds.length ≤ 15 then .ok (.dk (kds.map (·.1)) (kds.map (·.2))) else .bad
section
variable {X : Cx} {pos : Pos}
end
variable (env : Mir.Env)
@[simp] theorem e_mDisp (l : List ((Mir.Env → Res D) × (Mir.Env → Res D))) : mDisp l env = (mDispP l env >>= fun kds => if (kds.map (·.1)).Nodup ∧ kds.length ≤ 15 then .ok (.dk (kds.map (·.1)) (kds.map (·.2))) else .bad) := rfl
@[simp] theorem e_mDispP0 : mDispP [] env = .ok [] := rfl
@[simp] theorem e_mDispP1 (mk mv : Mir.Env → Res D) (r : List ((Mir.Env → Res D) × (Mir.Env → Res D))) : mDispP ((mk, mv) :: r) env = (mk env >>= fun x => mv env >>= fun d => mDispP r env >>= fun t => match keyOf x with
    | some k => if d.imm then .ok ((k, d) :: t) else .bad
    | none => .bad) := rfl
@[simp] theorem e_keyOf_int (i : Int) : keyOf (.int i) = some (.inl i) := rfl
@[simp] theorem e_keyOf_str (i : Str) : keyOf (.str i) = some (.inr i) := rfl
theorem rangeOk_nat (n : Nat) (h : n ≤ 1000) : rangeOk (n : Int) = true := by
  have h1 : -(2 ^ 62) ≤ (n : Int) := Int.le_trans (by decide) (Int.natCast_nonneg n)
  have h2 : (n : Int) < 2 ^ 62 := Int.lt_of_le_of_lt (Int.ofNat_le.mpr h) (by decide)
  unfold rangeOk
  rw [decide_eq_true h1, decide_eq_true h2, Bool.true_and]
theorem gRng1_nat (n : Nat) (h : n ≤ 1000) : gRng1 (.int n) = .ok ((List.range n).map fun i : Nat => D.int i) := by
  show (if rangeOk (n : Int) = true then Res.ok (intsD 0 (n : Int).toNat) else .bad) = _
  rw [if_pos (rangeOk_nat n h)]
  simp [intsD]
end Mir

namespace Mir
open PySem PySem.Spec L2
/-! ### a number laid into each dict of a list -/
section
variable {X : Cx} {kr : Nat} {pos p2 p3 p4 p5 p6 p7 : Pos} {o it : Expr} {v : Str}
theorem lev_mid {k i : Nat} {vs : List V} {ds : List D} {v : V} {d : D} (hv : vs[i]? = some v) (hd : ds[i]? = some d) (hl : vs.length = ds.length) : ∃ l, (lev k vs ds).Perm ((v, k, d) :: l) ∧ ∀ d', (lev k vs (ds.set i d')).Perm ((v, k, d') :: l) := by
  induction vs generalizing ds i with
  | nil => simp at hv
  | cons w vs ih =>
    cases ds with
    | nil => simp at hd
    | cons x ds =>
      cases i with
      | zero =>
        cases hv; cases hd
        exact ⟨lev k vs ds, .refl _, fun d' => .refl _⟩
      | succ i =>
        obtain ⟨l, h1, h2⟩ := ih (ds := ds) (i := i) hv hd (by simpa using hl)
        exact ⟨(w, k, x) :: l, (h1.cons _).trans (.swap _ _ _), fun d' => ((h2 d').cons _).trans (.swap _ _ _)⟩
end
end Mir

namespace Mir
open PySem PySem.Spec L2
/-! ### texts of numbers, joined texts, sorted dicts, the truth of a dict -/
def intsOf : List Key → Option (List Int)
  | [] => some []
  | .inl i :: ks => (intsOf ks).map fun is => i :: is
  | .inr _ :: _ => none
theorem intsOf_eq : ∀ {ks : List Key} {is : List Int}, intsOf ks = some is → ks = is.map Sum.inl
  | [], is, h => by cases h; rfl
  | .inl i :: ks, is, h => by
    unfold intsOf at h
    cases e : intsOf ks with
    | none => rw [e] at h; cases h
    | some js =>
      rw [e] at h
      cases h
      rw [intsOf_eq e]; rfl
  | .inr _ :: _, _, h => by cases h
def insI (x : Int) : List Int → List Int
  | [] => [x]
  | y :: ys => if x ≤ y then x :: y :: ys else y :: insI x ys
def sortI : List Int → List Int
  | [] => []
  | x :: xs => insI x (sortI xs)
theorem insI_perm (x : Int) : ∀ ys : List Int, (insI x ys).Perm (x :: ys)
  | [] => .refl _
  | y :: ys => by
    unfold insI
    split
    · exact .refl _
    · exact ((insI_perm x ys).cons y).trans (.swap x y ys)
theorem sortI_perm : ∀ xs : List Int, (sortI xs).Perm xs
  | [] => .refl _
  | x :: xs => (insI_perm x _).trans ((sortI_perm xs).cons x)
theorem insI_sorted (x : Int) : ∀ ys : List Int, ys.Pairwise (· ≤ ·) → (insI x ys).Pairwise (· ≤ ·)
  | [], _ => List.pairwise_singleton _ _
  | y :: ys, h => by
    have h2 := List.pairwise_cons.mp h
    unfold insI
    split
    · rename_i hx
      exact List.pairwise_cons.mpr ⟨fun z hz => by
        rcases List.mem_cons.mp hz with rfl | hz
        · exact hx
        · exact Int.le_trans hx (h2.1 z hz), h⟩
    · rename_i hx
      refine List.pairwise_cons.mpr ⟨fun z hz => ?_, insI_sorted x ys h2.2⟩
      rcases List.mem_cons.mp ((insI_perm x ys).mem_iff.mp hz) with rfl | hz
      · omega
      · exact h2.1 z hz
theorem sortI_sorted : ∀ xs : List Int, (sortI xs).Pairwise (· ≤ ·)
  | [] => .nil
  | x :: xs => insI_sorted x _ (sortI_sorted xs)
theorem sorted_unique : ∀ {xs ys : List Int}, xs.Perm ys → xs.Pairwise (· ≤ ·) → ys.Pairwise (· ≤ ·) → xs = ys
  | [], ys, h, _, _ => (List.Perm.nil_eq h)
  | x :: xs, [], h, _, _ => (List.Perm.nil_eq h.symm).symm
  | x :: xs, y :: ys, h, hx, hy => by
    have hx2 := List.pairwise_cons.mp hx
    have hy2 := List.pairwise_cons.mp hy
    have e : x = y := by
      have m1 := h.mem_iff.mp (List.mem_cons_self (a := x) (l := xs))
      have m2 := h.mem_iff.mpr (List.mem_cons_self (a := y) (l := ys))
      rcases List.mem_cons.mp m1 with e | m1
      · exact e
      · rcases List.mem_cons.mp m2 with e | m2
        · exact e.symm
        · have := hx2.1 y m2; have := hy2.1 x m1; omega
    subst e
    rw [sorted_unique (h.cons_inv) hx2.2 hy2.2]
def gSortD : D → Res D
  | .dk ks _ => match intsOf ks with
    | some is => if is.length < 64 then .ok (.lst ((sortI is).map D.int)) else .bad
    | none => .bad
  | _ => .bad
section
variable {X : Cx} {e o : Expr} {m mo : Env → Res D} {k : Nat} {pos p apos : Pos}
theorem se_sortDI (hc : X.calm = true) (hg : Gl X "sorted") (hm0 : X.mg "sorted" = none) (h : SB X e m) (he : starEach [e] X.env = (false, eval e X.env) :: starEach [] X.env := by rfl) (hpl : (backTo pos (starEach [] X.env)).any (·.1) = false := by rfl) : SE X (k + 1) [] (.Call (.Name "sorted" p) [e] [] pos) (fun env => m env >>= gSortD) := fun B H env σ tm d Q ok hm q => by
  obtain ⟨x, hx, h2⟩ := bind_ok hm
  refine wE_of (pe_callB (call_sortedDI hc) hg hm0 (by decide +kernel) (pa_cons pe_sem pa_nil he) (by decide) (by decide) he hpl) (h B H env σ tm _ _ ok hx fun v H1 x1 ok1 r => ?_)
  cases r with
  | @dk a kvs ks ds hv ek ra =>
    unfold gSortD at h2
    dsimp only at h2
    split at h2
    · rename_i is his
      split at h2
      · rename_i hlt
        cases h2
        refine ⟨a, kvs, is, rfl, view_rd hv, by rw [ek]; exact intsOf_eq his, hlt, fun ys q' hp hs hn => ?_⟩
        have e : ys = sortI is := sorted_unique (hp.trans (sortI_perm is).symm) hs (sortI_sorted is)
        subst e
        refine q _ _ (x1.trans (Ext.upd hn)) ?_
        have hall : RpAll (view H1) ((sortI is).map V.int) ((sortI is).map D.int) := by
          generalize sortI is = zs
          induction zs with
          | nil => exact .nil
          | cons z zs ih => exact .cons (.int z) ih
        have him : immAll ((sortI is).map D.int) = true := by simp
        exact (ok1.levs (k := k) hall him).newLst (by simp) hn
      · cases h2
    · cases h2
  | _ => cases h2
end
end Mir

namespace Mir
open PySem PySem.Spec PyProof.Rows RT
section
variable {prog : Program} {w : World} {A : Around} {E : Value → Shared → Prop} {s : Shared}
/-- what list(..) does with the backward iterator of a list -/
theorem mir_list_rev {it l : Addr} {items : Array Value} {Q : Value → Shared → Prop} (hh : A.handled = none) (hit : s.heap.IsRevIter it l ((items.size : Int) - 1)) (hl : s.heap.IsList l items) (hne : l ≠ it) (hn : items.size ≤ sizeLine)
    (hQ : ∀ (h' : Heap) (tk : Nat) (acc : Array Value) (c' : Nat), (∀ b o, b ≠ it → s.heap.get? b = some o → h'.get? b = some o) → h'.get? s.heap.objs.size = some { cls := .type "list", dict := none, data := .seq acc c', slots := #[] } →
      ItemsOf (fun i v => items[items.size - 1 - i]? = some v) acc items.size → Q (.ref s.heap.objs.size) { s with heap := h', toks := tk }) :
    wpAny (model prog w) A (call (.type "list") [.ref it]) Q E s := by
  have hh2 : A.in1.in1.handled = none := hh
  have W := (Walks.listRev (prog := prog) (w := w) (A := A.in1.in1) hh2 it l hne items).toS
  have hSi : s.heap.objs.size ≠ it := let ⟨o, ho, _⟩ := hit; Nat.ne_of_gt (Heap.lt_size ho)
  have hSl : s.heap.objs.size ≠ l := let ⟨o, ho, _⟩ := hl; Nat.ne_of_gt (Heap.lt_size ho)
  have hSf : s.heap.objs.size ∉ [it, l] := fun m => (List.mem_cons.mp m).elim hSi fun m => hSl (List.mem_singleton.mp m)
  refine callType_codes (Q₁ := fun obj s₁ => obj = .ref s.heap.objs.size ∧ s₁ = { s with heap := s.heap.push { cls := .type "list", data := .seq #[] } }) F.called_list (F.typeCall_list_1 _) F.entry_list_init (code_list_new _ ⟨rfl, rfl⟩) fun obj s₁ h₁ => ?_
  obtain ⟨rfl, rfl⟩ := h₁
  generalize eS : s.heap.objs.size = S at *
  have hS : (s.heap.push { cls := .type "list", data := .seq #[] }).get? S = some { cls := .type "list", data := .seq #[] } := eS ▸ Heap.get?_push_size _ rfl
  refine ⟨⟨_, hS, rfl⟩, F.args_list_init_2 _ _, ?_⟩
  have hS₂ := Heap.get?_update_self (Obj.mapSeq (fun _ => (#[] : Array Value))) hS rfl
  have keep : ∀ b o, b ≠ S → s.heap.get? b = some o → ((s.heap.push { cls := .type "list", data := .seq #[] }).update S (Obj.mapSeq (fun _ => (#[] : Array Value)))).get? b = some o := fun b o hb e =>
    (Heap.get?_update_other _ _ (Ne.symm hb)).trans (Heap.get?_push_of_some _ e)
  have hit1 := hit.at (h' := (s.heap.push { cls := .type "list", data := .seq #[] }).update S (Obj.mapSeq (fun _ => (#[] : Array Value)))) fun o e => keep _ o (Ne.symm hSi) e
  have hl1 : ((s.heap.push { cls := .type "list", data := .seq #[] }).update S (Obj.mapSeq (fun _ => (#[] : Array Value)))).IsList l items := let ⟨o, ho, r⟩ := hl; ⟨o, keep _ o (Ne.symm hSl) ho, r⟩
  show wpAny _ A.in1.in1 (do let old ← Builtin.List.listItems (.ref S); Builtin.List.listUpdate (.ref S) (fun _ => #[]); letGo old.toList.reverse; Builtin.List.listExtendWith (.ref S) (.ref it) .none) _ _ _
  refine wpAny_bind ?_
  unfold Builtin.List.listItems
  refine wpAny_bind (wpAny_seqItems hS rfl (wpAny_pure ?_))
  refine wpAny_bind (wpAny_updateSeq hS rfl ?_)
  refine wpAny_bind (wpAny_letGo ?_)
  unfold Builtin.List.listExtendWith
  have hT : ({ s with heap := (s.heap.push { cls := .type "list", data := .seq #[] }).update S (Obj.mapSeq (fun _ => (#[] : Array Value))) } : Shared).TypeIs (.ref it) "list_reverseiterator" := Heap.IsRevIter.typeIs (s := { s with heap := (s.heap.push { cls := .type "list", data := .seq #[] }).update S (Obj.mapSeq (fun _ => (#[] : Array Value))) }) hit1
  have h1 : Builtin.List.listSameRef (.ref S) (.ref it) = false := by unfold Builtin.List.listSameRef; simp [hSi]
  refine wpAny_bind (wpAny_typeOf hT ?_)
  rw [if_neg (by rw [h1]; decide)]
  refine wpAny_bind (wpAny_pyIter_revIter (s := { s with heap := (s.heap.push { cls := .type "list", data := .seq #[] }).update S (Obj.mapSeq (fun _ => (#[] : Array Value))) }) hit1 ?_)
  refine wpAny_bind (wpAny_holding ?_)
  unfold Builtin.List.listLengthHint
  refine wpAny_bind (wpAny_specialOf hT nolen_lri ?_)
  show wpAny _ A.in1.in1 (specialOf (Value.ref it) (Str.ofString "__length_hint__") >>= _) _ _ _
  refine wpAny_bind (wpAny_specialOf hT hint_lri ?_)
  generalize hid : ("list_reverseiterator.__length_hint__" : String) = id0
  wp_delta
  rw [show splitId id0 = some ("list_reverseiterator", "__length_hint__") from by subst hid; decide +kernel]
  subst hid
  refine wpAny_bind (wpAny_isInstance (b := true) hT (by rw [isSubtype_type]; kernel_rfl) ?_)
  refine wpAny_pure ?_
  rw [if_neg (by decide)]
  have e0 : ((items.size : Nat) : Int) - 1 - ((0 : Nat) : Int) = (items.size : Int) - 1 := by omega
  refine wpAny_pure ⟨plainId_quiet F.plain_extend_loop _, codeAny_extend_loopS W hn _ hSf _ items.size 0 _ _ _ rfl (Nat.zero_le _) ⟨Nat.zero_le _, by rw [e0]; exact hit1, hl1⟩ hS₂ (ItemsOf.nil _) fun s' acc' c' hm hS' hacc => ?_⟩
  rw [Moved.eq_with hm]
  refine ⟨rfl, hQ s'.heap s'.toks acc' c' (fun b o hb e => ?_) hS' hacc⟩
  have hbS : b ≠ S := fun z => by rw [z, ← eS] at e; exact absurd (Heap.lt_size e) (Nat.lt_irrefl _)
  refine hm.heap b o (fun hmem => ?_) (keep b o hbS e)
  rcases List.mem_cons.mp hmem with e' | hmem
  · exact hbS e'
  · exact hb (List.mem_singleton.mp hmem)
end
end Mir
namespace Mir
open PySem PySem.Spec PyProof.Rows L2 RT
section
variable {X : Cx} {e : Expr} {te : TE} {k : Nat} {p p2 pos pos2 : Pos} {mm : Env → Res (List D)}
def tLstRev (K : PySem.W.Frag) (te : TE) : TE := fun σ H Q => te σ H fun v H1 => ∃ (a : Addr) (xs : List V), v = .ref a ∧ SqL K H1 a xs ∧ ∀ q, H1 q = none → Q (.ref q) (upd H1 q (.lst xs.reverse))
theorem pe_lstRev (hc : X.calm = true) (hg : Gl X "list") (hm : X.mg "list" = none) (hg2 : Gl X "reversed") (hm2 : X.mg "reversed" = none) (he : PE X e te)
    (hs : starEach [e] X.env = (false, eval e X.env) :: starEach [] X.env) (hs2 : starEach [.Call (.Name "reversed" p2) [e] [] pos2] X.env = (false, eval (.Call (.Name "reversed" p2) [e] [] pos2) X.env) :: starEach [] X.env) :
    PE X (.Call (.Name "list" p) [.Call (.Name "reversed" p2) [e] [] pos2] [] pos) (tLstRev X.K te) := by
  refine ⟨fun pins s σ H Q I h => Call_ (ld_blt I hg hm (show bootBuiltins (Str.ofString "list") = some (.type "list") by decide +kernel) (callWith_type1 (args_cons (Call_ (ld_blt I hg2 hm2 boot_reversed (callWith_type1 (args_cons (thn (he.run pins s σ H _ I h) fun u s1 ⟨v, H1, I1, r1, q1⟩ => args_nil ?_) hs) hs rfl))) hs2) hs2 rfl))⟩
  obtain ⟨a, xs, rfl, hq, q⟩ := q1
  obtain rfl : u = Value.ref a := r1
  obtain ⟨its, rv, pl, hz⟩ := I1.list hq
  refine call_reversed_list pl.isList (args_nil ?_)
  have hl := pl.isList
  have hne : a ≠ s1.heap.objs.size := let ⟨_, ho, _⟩ := hl; Nat.ne_of_lt (Heap.lt_size ho)
  have hn : its.toArray.size ≤ sizeLine := by rw [List.size_toArray, ← rv.length]; exact hz
  have hsz : (s1.heap.push (revObj a ((its.toArray.size : Int) - 1))).objs.size = s1.heap.objs.size + 1 := by rw [Heap.objs_push, Array.size_push]
  refine mir_list_rev (s := { s1 with heap := s1.heap.push (revObj a ((its.toArray.size : Int) - 1)) }) (I1.ok.hd hc) ⟨_, Heap.get?_push_size _ rfl, rfl, rfl⟩ (hl.push _) hne hn fun h' tk acc c' hk hS hi => ?_
  have kp : ∀ b u, s1.heap.get? b = some u → h'.get? b = some u := fun b u e => hk b u (Nat.ne_of_lt (Heap.lt_size e)) (Heap.get?_push_of_some _ e)
  have hp : s1.heap.objs.size ≤ (s1.heap.push (revObj a ((its.toArray.size : Int) - 1))).objs.size := by rw [hsz]; exact Nat.le_succ _
  refine ⟨.ref (s1.heap.push (revObj a ((its.toArray.size : Int) - 1))).objs.size, _, I1.laid (t' := tk) kp hp (show ObjOk X.prog X.w _ h' _ (.lst xs.reverse) from ⟨by rw [List.length_reverse]; exact hz, acc.toList, c', vals_rev rv hi, by rw [Array.toArray_toList]; exact hS⟩), rfl, q _ (I1.hok.fresh hp)⟩
def mListRev (mm : Env → Res (List D)) : Env → Res D := fun env => mm env >>= fun ds => .ok (.lst ds.reverse)
theorem sel_rev {vs : List V} {ds : List D} (hl : vs.length = ds.length) : Sel vs ds vs.reverse ds.reverse := ⟨by simp [hl], fun i w e h1 h2 => by
  have hi : i < vs.length := by simpa using (List.getElem?_eq_some_iff.mp h1).1
  rw [List.getElem?_reverse hi] at h1
  rw [List.getElem?_reverse (by omega)] at h2
  exact ⟨vs.length - 1 - i, h1, by rw [hl]; exact h2⟩⟩
theorem se_listRev (hc : X.calm = true) (hg : Gl X "list") (hm : X.mg "list" = none) (hg2 : Gl X "reversed") (hm2 : X.mg "reversed" = none) (h : SL X k .lst e mm)
    (hs : starEach [e] X.env = (false, eval e X.env) :: starEach [] X.env := by rfl) (hs2 : starEach [.Call (.Name "reversed" p2) [e] [] pos2] X.env = (false, eval (.Call (.Name "reversed" p2) [e] [] pos2) X.env) :: starEach [] X.env := by rfl) :
    SE X (k + 1) [] (.Call (.Name "list" p) [.Call (.Name "reversed" p2) [e] [] pos2] [] pos) (mListRev mm) := fun B H env σ tm d Q ok hm' q => by
  obtain ⟨ds, hds, h2⟩ := bind_ok hm'
  cases h2
  refine wE_of (pe_lstRev hc hg hm hg2 hm2 pe_sem hs hs2) (h B H env σ tm ds _ ok hds fun p vs H1 ex x1 hp hl1 ra ok1 pk => ?_)
  refine ⟨p, vs, rfl, .inl (view_rd hp), fun l hnl => ?_⟩
  have ok2 := (pk H1 env σ tm (Ext.refl _) ok1 _ _ (sel_rev hl1)).newLst (by simp [hl1]) hnl
  exact q _ _ (x1.trans (Ext.upd hnl)) (EnvOk.less (l := ex) (ok2.perm List.perm_middle.symm))
end
end Mir

namespace Mir
open PySem PySem.Spec L2
/-! ### a list that is made to be read alone: its items stay where they are -/
theorem EnvOk.extra {B : Bs} {H : Hp} {env : Env} {σ : St} {tm : List Hold} {p : Addr} {o : HO} (h : EnvOk B H env σ tm) (hp : H p = none) (hu : unf o = o) (ho : isIm o = false) : EnvOk B (upd H p o) env σ tm := by
  obtain ⟨⟨G, fp, g, hs, nd, hq⟩, h2, h3⟩ := h
  exact ⟨⟨G, fp, g.newMu hp hu ho, hs.frame (fun a u e => e) (fun a u e _ => up_keep hp a u e), nd, hq⟩, h2, h3⟩
section
variable {X : Cx} {pos : Pos} {es : List Expr} {ms : Env → Res (List D)}
/-- [..] that is read alone -/
theorem sb_lst (hs : SAB X es ms) : SB X (.List es pos) (mLst ms) := fun B H env σ tm d Q ok hm q => by
  obtain ⟨xs, hx, hg⟩ := bind_ok hm
  by_cases hl : xs.length ≤ sizeLine
  · rw [if_pos hl] at hg
    cases hg
    refine wE_of (pe_lst pa_sem) (hs B H env σ tm xs _ ok hx fun vs H1 x1 ok1 ra => ⟨by rw [ra.length]; exact hl, fun p hp => ?_⟩)
    have x2 : Ext H1 (upd H1 p (.lst vs)) := Ext.upd hp
    refine q _ _ (x1.trans x2) (ok1.extra hp rfl rfl) (.lst ?_ (x2.rpAll ra))
    unfold view
    rw [upd_same]; rfl
  · rw [if_neg hl] at hg; cases hg
end
end Mir

namespace Mir
open PySem PySem.Spec L2
/-! ### in a list, the place in a list, all -/
def gIn (x y : D) : Res D := match y with
  | .lst ds => if shp x && shp y then .ok (.bl ((pyAll ds).any fun z => PyData.eqv z x.py)) else .bad
  | _ => .bad
def gNotIn (x y : D) : Res D := match y with
  | .lst ds => if shp x && shp y then .ok (.bl (!(pyAll ds).any fun z => PyData.eqv z x.py)) else .bad
  | _ => .bad
section
variable {X : Cx}
theorem o_in (hu : X.A.units + 65 < cLine) : OpC X (compareOp .In) gIn := by
  refine ⟨_, op_inD hu, fun x y dx dy d H Q rx ry e q => ?_⟩
  unfold gIn at e
  split at e
  · rename_i ds
    split at e
    · rename_i hs
      rw [Bool.and_eq_true] at hs
      cases e
      exact ⟨dx.py, pyAll ds, rx.dp (shaped_lay hs.1), ry.dp (shaped_lay hs.2), hs.1, hs.2, q _ (.bl _) rfl⟩
    · cases e
  · cases e
theorem o_notIn (hu : X.A.units + 65 < cLine) : OpC X (compareOp .NotIn) gNotIn := by
  refine ⟨_, op_notInD hu, fun x y dx dy d H Q rx ry e q => ?_⟩
  unfold gNotIn at e
  split at e
  · rename_i ds
    split at e
    · rename_i hs
      rw [Bool.and_eq_true] at hs
      cases e
      exact ⟨dx.py, pyAll ds, rx.dp (shaped_lay hs.1), ry.dp (shaped_lay hs.2), hs.1, hs.2, q _ (.bl _) rfl⟩
    · cases e
  · cases e
variable {e o : Expr} {m mo : Env → Res D} {pos p apos cpos : Pos}
def idxOf (d : PyData) : List PyData → Nat → Option Nat
  | [], _ => none
  | z :: zs, n => if PyData.eqv z d then some n else idxOf d zs (n + 1)
theorem idxOf_some {d : PyData} : ∀ {zs : List PyData} {n j : Nat}, idxOf d zs n = some j → n ≤ j ∧ (∃ z, zs[j - n]? = some z ∧ PyData.eqv z d = true) ∧ ∀ (m : Nat) (z' : PyData), m < j - n → zs[m]? = some z' → PyData.eqv z' d = false
  | [], n, j, h => by cases h
  | z :: zs, n, j, h => by
    unfold idxOf at h
    split at h
    · rename_i hz
      cases h
      exact ⟨Nat.le_refl _, ⟨z, by simp, hz⟩, fun m z' hm => by omega⟩
    · rename_i hz
      obtain ⟨h1, ⟨w, h2, h3⟩, h4⟩ := idxOf_some h
      refine ⟨by omega, ⟨w, ?_, h3⟩, fun m z' hm hm2 => ?_⟩
      · rw [show j - n = (j - (n + 1)) + 1 by omega]; simpa using h2
      · cases m with
        | zero => cases hm2; simpa using hz
        | succ m => exact h4 m z' (by omega) (by simpa using hm2)
def gIndex (x y : D) : Res D := match x with
  | .lst ds => if shp x && shp y then (match idxOf y.py (pyAll ds) 0 with | some j => .ok (.int j) | none => .bad) else .bad
  | _ => .bad
theorem sc_index (hu : X.A.units + 65 < cLine) (ho : SB X o mo) (h : SB X e m) (hbase : attributeBase o "index" X.env (eval o X.env) = eval o X.env := by rfl)
    (hfew : ((backTo cpos (starEach [e] X.env)).all (fun x => !x.1) && (backToKw cpos (keywordEach [] X.env)).all (fun x => x.1.isSome) && decide ([e].length + ([] : List Keyword).length + (if ([] : List Keyword).isEmpty then 0 else 1) < 30)) = true := by rfl)
    (hline : (apos.endLine == cpos.line) = true := by rfl) (hs : starEach [e] X.env = (false, eval e X.env) :: starEach [] X.env := by rfl) (hplain : (backTo cpos (starEach [] X.env)).any (·.1) = false := by rfl) :
    SC X (.Call (.Attribute o "index" apos) [e] [] cpos) (mOp gIndex mo m) := fun B H env σ tm d Q ok hm q => by
  obtain ⟨x, y, hx, hy, hg⟩ := two hm
  unfold gIndex at hg
  split at hg
  · rename_i ds
    split at hg
    · rename_i hsh
      rw [Bool.and_eq_true] at hsh
      split at hg
      · rename_i j hj
        cases hg
        obtain ⟨_, ⟨z, hz1, hz2⟩, hz3⟩ := idxOf_some hj
        refine wE_of (pe_bm F.plainAttrs_list F.slot_list_index F.type_list_index (mt_indexD hu) pe_sem (pa_cons pe_sem pa_nil hs) hbase hfew hline hs hplain) (ho B H env σ tm _ _ ok hx fun v H1 x1 ok1 r1 => ?_)
        cases r1 with
        | @lst a vs _ hv ra =>
          refine ⟨.inl ⟨rfl, _, .inl (view_rd hv)⟩, h B H1 env σ tm _ _ ok1 hy fun u H2 x2 ok2 r2 => ?_⟩
          exact ⟨a, u, y.py, pyAll ds, j, z, rfl, rfl, (x2.rp (.lst hv ra)).dp (shaped_lay hsh.1), r2.dp (shaped_lay hsh.2), hsh.1, hsh.2, by simpa using hz1, hz2, fun m z' hm => hz3 m z' (by omega), q _ H2 (x1.trans x2) ok2 (.int _) rfl⟩
      · cases hg
    · cases hg
  · cases hg
end
end Mir

namespace Mir
open PySem PySem.Spec L2
/-! ### x = d.setdefault(k, v) -/
def mSetd (i j : Nat) (mk mz : Env → Res D) : Env → Res Ctl := fun env => mk env >>= fun y => mz env >>= fun z => atK env j >>= fun dd => match dd, keyOf y with
  | .dk ks ds, some kk => if i < env.length ∧ z.imm = true ∧ ds.length < sizeLine then (match dFind ks ds kk with
    | some w => if w.imm then .ok (.nx (env.set i (some (0, w)))) else .bad
    | none => .ok (.nx ((env.set j (some (1, .dk (dPutK ks kk) (dPutV ks ds kk z)))).set i (some (0, z))))) else .bad
  | _, _ => .bad
section
variable {X : Cx} {kr : Nat} {o e f : Expr} {pos apos cpos : Pos} {mk mz : Env → Res D}
end
end Mir

namespace Mir
open PySem PySem.Spec L2
/-! ### min of a list of alike data -/
def rMinD (K : PySem.W.Frag) : List V → Hp → VK → Prop := fun xs H Q => ∃ (a : Addr) (vs : List V) (d : PyData) (ds : List PyData), xs = [.ref a] ∧ SqL K H a vs ∧ DpAll K H vs (d :: ds) ∧ PyData.canLayAll0 (d :: ds) = true ∧ PySem.W.AlikeAll (d :: ds) ∧ PyData.depthAll (d :: ds) ≤ 60 ∧
  ∀ (i : Nat) (v : V), vs[i]? = some v → (d :: ds)[i]? = some (PySem.W.minD d ds) → Q v H
theorem cr_minD {X : Cx} (hc : X.calm = true) (hu : X.A.units + 65 < cLine) : CallR X (.builtin "min") (rMinD X.K) := by
  intro pins s σ H xs us Q I r h
  obtain ⟨a, vs, d, ds, rfl, hs, hd, hlay, hal, hdep, q⟩ := h
  obtain ⟨its, rv, hl, _⟩ := I.list hs
  rw [Vals.ref1 r]
  obtain ⟨as, hr⟩ := Dp.readsAll I (d :: ds) vs its hd rv
  refine PySem.W.min_list_data (I.ok.hd hc) hl.isList (by simpa using hr) hal (by omega) fun i v h' tk bs hi hrd hk => ?_
  have hi2 : its[i]? = some v := by simpa using hi
  have hil : i < its.length := (List.getElem?_eq_some_iff.mp hi2).1
  obtain ⟨w, hw⟩ : ∃ w, vs[i]? = some w := ⟨_, List.getElem?_eq_getElem (by rw [rv.length]; exact hil)⟩
  obtain ⟨v2, hv2, rw2⟩ := rv.get hw
  rw [hi2] at hv2
  cases hv2
  obtain ⟨cs, hr2, hlt, _, _⟩ := PySem.W.readsAll_atA (vs := its.toArray) (by simpa using hr) i v hi
  have hgi : (d :: ds)[i]? = some ((d :: ds).getD i .none) := by
    rw [List.getD_eq_getElem?_getD, List.getElem?_eq_getElem hlt]; rfl
  have e := (Reads.unique (PySem.W.reads_keeps hk hr2) _ _ hrd).1
  exact ⟨w, H, I.kept hk, rw2, q i w hw (by rw [hgi, e])⟩
end Mir

namespace Mir
open PySem PySem.Spec L2
mutual
def unpy : PyData → D
  | .none => .non | .bool b => .bl b | .int i => .int i | .str x => .str x
  | .list xs => .lst (unpyAll xs) | .tuple xs => .tup (unpyAll xs)
  | _ => .non
def unpyAll : List PyData → List D
  | [] => []
  | x :: xs => unpy x :: unpyAll xs
end
mutual
theorem unpy_py : ∀ d : D, d.imm = true → PyData.canLay0 d.py = true → unpy d.py = d
  | .non, _, _ => by simp [D.py, unpy]
  | .bl _, _, _ => by simp [D.py, unpy]
  | .int _, _, _ => by simp [D.py, unpy]
  | .str _, _, _ => by simp [D.py, unpy]
  | .lst _, h, _ => by simp [D.imm] at h
  | .tup xs, h, e => by
    have := unpyAll_py xs (by simpa [D.imm] using h) (by simpa [D.py, PyData.canLay0] using e)
    simp [D.py, unpy, this]
  | .dk _ _, h, _ => by simp [D.imm] at h
  | .dt _ _, h, _ => by simp [D.imm] at h
  | .ob _ _ _ _, _, e => by simp [D.py, PyData.canLay0] at e
  | .exn _ _ _ _, h, _ => by simp [D.imm] at h
  | .dn _ _, h, _ => by simp [D.imm] at h
theorem unpyAll_py : ∀ ds : List D, immAll ds = true → PyData.canLayAll0 (pyAll ds) = true → unpyAll (pyAll ds) = ds
  | [], _, _ => by simp [pyAll, unpyAll]
  | d :: ds, h, e => by
    have h2 : d.imm = true ∧ immAll ds = true := by simpa [immAll] using h
    rw [pyAll, PyData.canLayAll0, Bool.and_eq_true] at e
    simp [pyAll, unpyAll, unpy_py d h2.1 e.1, unpyAll_py ds h2.2 e.2]
end
theorem lay_get {ds : List D} (e : PyData.canLayAll0 (pyAll ds) = true) : ∀ {d : D}, d ∈ ds → PyData.canLay0 d.py = true := by
  induction ds with
  | nil => intro d h; cases h
  | cons x xs ih =>
    rw [pyAll, PyData.canLayAll0, Bool.and_eq_true] at e
    intro d h
    rcases List.mem_cons.mp h with rfl | h
    · exact e.1
    · exact ih e.2 h
def notNon : PyData → Bool
  | .none => false
  | _ => true
def alikeB (xs : List PyData) : Bool := xs.all (fun x => xs.all fun y => PySem.W.alike x y) && xs.all notNon
theorem alikeB_iff {xs : List PyData} (h : alikeB xs = true) : PySem.W.AlikeAll xs := by
  unfold alikeB at h
  simp only [Bool.and_eq_true, List.all_eq_true] at h
  exact ⟨h.1, fun x hx e => by have := h.2 x hx; rw [e] at this; cases this⟩
def gMin : D → Res D
  | .lst (d :: ds) => if immAll (d :: ds) = true ∧ PyData.canLayAll0 (pyAll (d :: ds)) = true ∧ alikeB (pyAll (d :: ds)) = true ∧ PyData.depthAll (pyAll (d :: ds)) ≤ 60 then .ok (unpy (PySem.W.minD d.py (pyAll ds))) else .bad
  | _ => .bad
section
variable {X : Cx} {e : Expr} {m : Env → Res D} {pos p : Pos}
theorem sc_min (hc : X.calm = true) (hu : X.A.units + 65 < cLine) (hg : Gl X "min") (hm0 : X.mg "min" = none) (h : SB X e m) (he : starEach [e] X.env = (false, eval e X.env) :: starEach [] X.env := by rfl) (hpl : (backTo pos (starEach [] X.env)).any (·.1) = false := by rfl) : SC X (.Call (.Name "min" p) [e] [] pos) (mUn gMin m) := fun B H env σ tm d Q ok hm q => by
  obtain ⟨x, hx, h2⟩ := bind_ok hm
  refine wE_of (pe_callB (cr_minD hc hu) hg hm0 (by decide +kernel) (pa_cons pe_sem pa_nil he) (by decide) (by decide) he hpl) (h B H env σ tm _ _ ok hx fun v H1 x1 ok1 r => ?_)
  cases r with
  | @lst a vs ds0 hv ra =>
    cases ds0 with
    | nil => cases h2
    | cons d0 ds =>
      unfold gMin at h2
      dsimp only at h2
      split at h2
      · rename_i hh
        obtain ⟨h3, h4, h5, h6⟩ := hh
        cases h2
        refine ⟨a, vs, d0.py, pyAll ds, rfl, .inl (view_rd hv), ra.dp h4, h4, alikeB_iff h5, h6, fun i w hw hmin => ?_⟩
        have hi : i < (d0 :: ds).length := by rw [← ra.length]; exact (List.getElem?_eq_some_iff.mp hw).1
        obtain ⟨w2, hw2, rw2⟩ := ra.get (List.getElem?_eq_getElem hi)
        rw [hw] at hw2
        cases hw2
        have e1 : (d0.py :: pyAll ds)[i]? = some ((d0 :: ds)[i].py) := by
          rw [show d0.py :: pyAll ds = pyAll (d0 :: ds) from rfl, pyAll_map, List.getElem?_map, List.getElem?_eq_getElem hi]; rfl
        rw [e1] at hmin
        have e2 := Option.some.inj hmin
        have im : ((d0 :: ds)[i]).imm = true := immAll_iff.mp h3 _ (List.getElem_mem hi)
        have e3 : unpy (PySem.W.minD d0.py (pyAll ds)) = (d0 :: ds)[i] := by rw [← e2]; exact unpy_py _ im (lay_get h4 (List.getElem_mem hi))
        rw [e3] at q
        exact q w H1 x1 ok1 rw2 im
      · cases h2
  | _ => cases h2
end
end Mir

namespace Mir
open PySem PySem.Spec L2
/-! ### data with a Lean type: ==, <, in, index, min told of the Lean values -/
class Dat (α : Type) [DecidableEq α] where
  enc : α → D
  lt : α → α → Bool
  dep : Nat
  eqv : ∀ a b, PyData.eqv (enc a).py (enc b).py = decide (a = b)
  alike : ∀ a b, PySem.W.alike (enc a).py (enc b).py = true
  lay : ∀ a, PyData.canLay0 (enc a).py = true
  depth : ∀ a, (enc a).py.depth ≤ dep
  dlt : ∀ a b, PySem.W.dataLt (enc a).py (enc b).py = lt a b
  nn : ∀ a, enc a ≠ .non
  tot : ∀ a b, lt a b = false → lt b a = false → a = b
  tr : ∀ a b c, lt a b = true → lt b c = true → lt a c = true
  asy : ∀ a b, lt a b = true → lt b a = false
open Dat
theorem Dat.irr {α : Type} [DecidableEq α] [Dat α] (a : α) : Dat.lt a a = false := by
  cases h : Dat.lt a a with
  | false => rfl
  | true => exact absurd h (by rw [Dat.asy a a h]; decide)
instance : Dat Int where
  enc := D.int
  lt a b := decide (a < b)
  dep := 1
  eqv a b := by
    show PyData.eqv (PyData.int a) (PyData.int b) = _
    simp only [e_eqv_int]; by_cases h : a = b <;> simp [h]
  alike a b := by simp [D.py, PySem.W.alike]
  lay a := by simp [D.py, PyData.canLay0]
  depth a := by simp [D.py, PyData.depth]
  dlt a b := by simp only [D.py, PySem.W.dataLt_int]
  nn a := by simp
  tot a b := by simp; omega
  tr a b c := by simp; omega
  asy a b := by simp; omega
section
variable {α β γ : Type} [DecidableEq α] [Dat α] [DecidableEq β] [Dat β] [DecidableEq γ] [Dat γ]
theorem depthAll_le {ds : List PyData} {n : Nat} (h : ∀ d ∈ ds, d.depth ≤ n) : PyData.depthAll ds ≤ n := by
  induction ds with
  | nil => simp [PyData.depthAll]
  | cons d ds ih =>
    simp only [PyData.depthAll]
    exact Nat.max_le.mpr ⟨h d List.mem_cons_self, ih fun x hx => h x (List.mem_cons_of_mem _ hx)⟩
theorem eqvAll_enc : ∀ xs ys : List α, PyData.eqvAll (pyAll (xs.map enc)) (pyAll (ys.map enc)) = decide (xs = ys)
  | [], [] => by simp [pyAll, PyData.eqvAll]
  | [], y :: ys => by simp [pyAll, PyData.eqvAll]
  | x :: xs, [] => by simp [pyAll, PyData.eqvAll]
  | x :: xs, y :: ys => by
    simp only [List.map_cons, pyAll, PyData.eqvAll, eqv, eqvAll_enc xs ys]
    by_cases h : x = y <;> by_cases h2 : xs = ys <;> simp [h, h2]
theorem alikeAll_enc : ∀ xs ys : List α, PySem.W.alikeAll (pyAll (xs.map enc)) (pyAll (ys.map enc)) = true
  | [], _ => by rw [List.map_nil, pyAll, PySem.W.alikeAll]
  | x :: xs, [] => by rw [List.map_nil, List.map_cons, pyAll, pyAll, PySem.W.alikeAll]
  | x :: xs, y :: ys => by
    simp only [List.map_cons, pyAll, PySem.W.alikeAll, alike x y, alikeAll_enc xs ys, Bool.and_self]
theorem layAll_enc : ∀ xs : List α, PyData.canLayAll0 (pyAll (xs.map enc)) = true
  | [] => by simp [pyAll, PyData.canLayAll0]
  | x :: xs => by simp only [List.map_cons, pyAll, PyData.canLayAll0, lay x, layAll_enc xs, Bool.and_self]
theorem depthAll_enc (xs : List α) : PyData.depthAll (pyAll (xs.map (enc (α := α)))) ≤ dep α := depthAll_le fun d hd => by
  rw [pyAll_map, List.map_map] at hd
  obtain ⟨a, _, rfl⟩ := List.mem_map.mp hd
  exact depth a
/-- the first difference decides, else the shorter one is the less -/
def listLt (lt : α → α → Bool) : List α → List α → Bool
  | [], [] => false
  | [], _ :: _ => true
  | _ :: _, [] => false
  | x :: xs, y :: ys => if x = y then listLt lt xs ys else lt x y
theorem lexAll_enc : ∀ xs ys : List α, PyProof.Rows.lexLt PyProof.Rows.itemOrd (PySem.W.keyToksAll (pyAll (xs.map enc))) (PySem.W.keyToksAll (pyAll (ys.map enc))) = listLt lt xs ys
  | [], [] => PyProof.Rows.lex_irrefl _
  | [], y :: ys => by
    rw [List.map_nil, List.map_cons, pyAll, pyAll, PySem.W.toks_all_cons]
    simp only [PySem.W.keyToksAll]
    rw [PyProof.Rows.lex_diff (O := PyProof.Rows.itemOrd) (by simp)]
    rfl
  | x :: xs, [] => by
    rw [List.map_nil, List.map_cons, pyAll, pyAll, PySem.W.toks_all_cons]
    simp only [PySem.W.keyToksAll]
    rw [PyProof.Rows.lex_diff (O := PyProof.Rows.itemOrd) (by simp)]
    rfl
  | x :: xs, y :: ys => by
    rw [List.map_cons, List.map_cons, pyAll, pyAll, listLt]
    by_cases h : x = y
    · rw [if_pos h, PySem.W.dataLt_all_yes (alike x y) (by rw [eqv, decide_eq_true_eq]; exact h), lexAll_enc xs ys]
    · rw [if_neg h, PySem.W.dataLt_all_no (alike x y) (by rw [eqv, decide_eq_false_iff_not]; exact h), dlt]
theorem listLt_tot {lt : α → α → Bool} (h : ∀ a b, lt a b = false → lt b a = false → a = b) : ∀ xs ys : List α, listLt lt xs ys = false → listLt lt ys xs = false → xs = ys
  | [], [], _, _ => rfl
  | [], _ :: _, h1, _ => by simp [listLt] at h1
  | _ :: _, [], _, h1 => by simp [listLt] at h1
  | x :: xs, y :: ys, h1, h2 => by
    unfold listLt at h1 h2
    by_cases e : x = y
    · subst e
      rw [if_pos rfl] at h1 h2
      rw [listLt_tot h xs ys h1 h2]
    · rw [if_neg e] at h1
      rw [if_neg (Ne.symm e)] at h2
      exact absurd (h x y h1 h2) e
theorem listLt_tr {lt : α → α → Bool} (h : ∀ a b c, lt a b = true → lt b c = true → lt a c = true) (ha : ∀ a b, lt a b = true → lt b a = false) : ∀ xs ys zs : List α, listLt lt xs ys = true → listLt lt ys zs = true → listLt lt xs zs = true
  | [], [], _, h1, _ => by simp [listLt] at h1
  | _, _ :: _, [], _, h1 => by simp [listLt] at h1
  | _ :: _, [], _, h1, _ => by simp [listLt] at h1
  | [], y :: ys, z :: zs, _, _ => rfl
  | x :: xs, y :: ys, z :: zs, h1, h2 => by
    unfold listLt at h1 h2 ⊢
    by_cases e : x = y
    · subst e
      rw [if_pos rfl] at h1
      by_cases e2 : x = z
      · rw [if_pos e2] at h2 ⊢
        exact listLt_tr h ha xs ys zs h1 h2
      · rw [if_neg e2] at h2 ⊢
        exact h2
    · rw [if_neg e] at h1
      by_cases e2 : y = z
      · subst e2
        rw [if_neg e]; exact h1
      · rw [if_neg e2] at h2
        have h3 := h _ _ _ h1 h2
        have e3 : x ≠ z := fun e => by
          subst e
          rw [ha _ _ h1] at h2
          cases h2
        rw [if_neg e3]; exact h3
theorem listLt_asy {lt : α → α → Bool} (ha : ∀ a b, lt a b = true → lt b a = false) : ∀ xs ys : List α, listLt lt xs ys = true → listLt lt ys xs = false
  | [], [], h1 => by simp [listLt] at h1
  | _ :: _, [], h1 => by simp [listLt] at h1
  | [], y :: ys, _ => rfl
  | x :: xs, y :: ys, h1 => by
    unfold listLt at h1 ⊢
    by_cases e : x = y
    · subst e
      rw [if_pos rfl] at h1 ⊢
      exact listLt_asy ha xs ys h1
    · rw [if_neg e] at h1
      rw [if_neg (Ne.symm e)]
      exact ha _ _ h1
instance : Dat (List α) where
  enc xs := .lst (xs.map enc)
  lt := listLt lt
  dep := dep α + 1
  eqv a b := by simp only [D.py, PyData.eqv]; exact eqvAll_enc a b
  alike a b := by simp only [D.py, PySem.W.alike]; exact alikeAll_enc a b
  lay a := by simp only [D.py, PyData.canLay0]; exact layAll_enc a
  depth a := by
    simp only [D.py, PyData.depth]
    have := depthAll_enc a
    omega
  dlt a b := by simp only [D.py, PySem.W.dataLt_list]; exact lexAll_enc a b
  nn a := by simp
  tot := listLt_tot tot
  tr := listLt_tr tr asy
  asy := listLt_asy asy
theorem nilTok : PyProof.Rows.lexLt PyProof.Rows.itemOrd (PySem.W.keyToksAll []) (PySem.W.keyToksAll []) = false := PyProof.Rows.lex_irrefl _
theorem consTok (x y : α) (xs ys : List PyData) : PyProof.Rows.lexLt PyProof.Rows.itemOrd (PySem.W.keyToksAll ((enc x).py :: xs)) (PySem.W.keyToksAll ((enc y).py :: ys)) = if x = y then PyProof.Rows.lexLt PyProof.Rows.itemOrd (PySem.W.keyToksAll xs) (PySem.W.keyToksAll ys) else lt x y := by
  by_cases h : x = y
  · rw [if_pos h, PySem.W.dataLt_all_yes (alike x y) (by rw [eqv, decide_eq_true_eq]; exact h)]
  · rw [if_neg h, PySem.W.dataLt_all_no (alike x y) (by rw [eqv, decide_eq_false_iff_not]; exact h), dlt]
instance : Dat (α × β) where
  enc p := .tup [enc p.1, enc p.2]
  lt p q := if p.1 = q.1 then lt p.2 q.2 else lt p.1 q.1
  dep := max (dep α) (dep β) + 1
  eqv a b := by
    obtain ⟨a1, a2⟩ := a
    obtain ⟨b1, b2⟩ := b
    simp only [D.py, pyAll, PyData.eqv, PyData.eqvAll, eqv]
    by_cases h : a1 = b1 <;> by_cases h2 : a2 = b2 <;> simp [h, h2]
  alike a b := by simp only [D.py, pyAll, PySem.W.alike, PySem.W.alikeAll, alike, Bool.and_self]
  lay a := by simp only [D.py, pyAll, PyData.canLay0, PyData.canLayAll0, lay, Bool.and_self]
  depth a := by
    simp only [D.py, pyAll, PyData.depth, PyData.depthAll]
    have h1 := depth a.1
    have h2 := depth a.2
    omega
  dlt a b := by
    simp only [D.py, pyAll, PySem.W.dataLt_tuple, consTok, nilTok]
    by_cases h : a.1 = b.1
    · rw [if_pos h, if_pos h]
      by_cases h2 : a.2 = b.2
      · rw [if_pos h2, h2, irr]
      · rw [if_neg h2]
    · rw [if_neg h, if_neg h]
  nn a := by simp
  tot a b h1 h2 := by
    obtain ⟨a1, a2⟩ := a
    obtain ⟨b1, b2⟩ := b
    dsimp only at h1 h2
    by_cases e : a1 = b1
    · subst e
      rw [if_pos rfl] at h1 h2
      rw [tot _ _ h1 h2]
    · rw [if_neg e] at h1
      rw [if_neg (Ne.symm e)] at h2
      exact absurd (tot _ _ h1 h2) e
  tr a b c h1 h2 := by
    obtain ⟨a1, a2⟩ := a
    obtain ⟨b1, b2⟩ := b
    obtain ⟨c1, c2⟩ := c
    dsimp only at h1 h2 ⊢
    by_cases e : a1 = b1
    · subst e
      rw [if_pos rfl] at h1
      by_cases e2 : a1 = c1
      · rw [if_pos e2] at h2 ⊢
        exact tr _ _ _ h1 h2
      · rw [if_neg e2] at h2 ⊢
        exact h2
    · rw [if_neg e] at h1
      by_cases e2 : b1 = c1
      · subst e2
        rw [if_neg e]; exact h1
      · rw [if_neg e2] at h2
        have h3 := tr _ _ _ h1 h2
        have e3 : a1 ≠ c1 := fun e => by
          subst e
          rw [asy _ _ h1] at h2
          cases h2
        rw [if_neg e3]; exact h3
  asy a b h1 := by
    obtain ⟨a1, a2⟩ := a
    obtain ⟨b1, b2⟩ := b
    dsimp only at h1 ⊢
    by_cases e : a1 = b1
    · subst e
      rw [if_pos rfl] at h1 ⊢
      exact asy _ _ h1
    · rw [if_neg e] at h1
      rw [if_neg (Ne.symm e)]
      exact asy _ _ h1
end
/-- three whole numbers, a tuple: a passing, a side -/
structure T3 where
  a : Int
  b : Int
  c : Int
  deriving DecidableEq
def T3.lt (x y : T3) : Bool := decide (x.a < y.a ∨ (x.a = y.a ∧ (x.b < y.b ∨ (x.b = y.b ∧ x.c < y.c))))
def t3 (x : T3) : D := .tup [.int x.a, .int x.b, .int x.c]
theorem T3.eq_iff (x y : T3) : x = y ↔ x.a = y.a ∧ x.b = y.b ∧ x.c = y.c := by
  cases x; cases y; simp
instance : Dat T3 where
  enc := t3
  lt := T3.lt
  dep := 2
  eqv x y := by
    simp only [t3, D.py, pyAll, PyData.eqv, PyData.eqvAll]
    by_cases h1 : x.a = y.a <;> by_cases h2 : x.b = y.b <;> by_cases h3 : x.c = y.c <;> simp [h1, h2, h3, T3.eq_iff]
  alike x y := by simp [t3, D.py, pyAll, PySem.W.alike, PySem.W.alikeAll]
  lay a := by simp [t3, D.py, pyAll, PyData.canLay0, PyData.canLayAll0]
  depth a := by simp [t3, D.py, pyAll, PyData.depth, PyData.depthAll]
  dlt x y := by
    have h := fun (i j : Int) (xs ys : List PyData) => consTok i j xs ys
    simp only [enc, e_py_int] at h
    show PySem.W.dataLt (D.tup _).py (D.tup _).py = _
    simp only [D.py, pyAll, PySem.W.dataLt_tuple, h, nilTok, lt, T3.lt]
    by_cases h1 : x.a = y.a <;> by_cases h2 : x.b = y.b <;> by_cases h3 : x.c = y.c <;> simp [h1, h2, h3]
  nn a := by simp [t3]
  tot x y := by simp only [T3.lt, decide_eq_false_iff_not, T3.eq_iff]; omega
  tr x y z := by simp only [T3.lt, decide_eq_true_eq]; omega
  asy x y := by simp only [T3.lt, decide_eq_true_eq, decide_eq_false_iff_not]; omega
section
variable {α : Type} [DecidableEq α] [Dat α]
theorem shp_enc (a : α) (h : dep α ≤ 64) : shp (enc a) = true := by
  unfold shp SeqAt.shaped
  rw [lay a, Bool.true_and, decide_eq_true_eq]
  exact Nat.le_trans (depth a) h
theorem gEq_enc (a b : α) (h : dep α ≤ 64) : gEq (enc a) (enc b) = .ok (.bl (decide (a = b))) := by
  unfold gEq
  rw [shp_enc a h, shp_enc b h, eqv]; rfl
theorem gNe_enc (a b : α) (h : dep α ≤ 64) : gNe (enc a) (enc b) = .ok (.bl (!decide (a = b))) := by
  unfold gNe
  rw [shp_enc a h, shp_enc b h, eqv]; rfl
theorem any_enc (a : α) (xs : List α) : ((pyAll (xs.map enc)).any fun z => PyData.eqv z (enc a).py) = decide (a ∈ xs) := by
  induction xs with
  | nil => simp [pyAll]
  | cons x xs ih =>
    simp only [List.map_cons, pyAll, List.any_cons, ih, eqv]
    by_cases h : x = a
    · simp [h]
    · have : ¬ a = x := fun e => h e.symm
      simp [h, this]
theorem gIn_enc (a : α) (xs : List α) (h : dep α ≤ 60) : gIn (enc a) (.lst (xs.map enc)) = .ok (.bl (decide (a ∈ xs))) := by
  have h2 : shp (D.lst (xs.map (enc (α := α)))) = true := shp_enc (α := List α) xs (by show dep α + 1 ≤ 64; omega)
  unfold gIn
  simp only [shp_enc a (by omega : dep α ≤ 64), h2, any_enc, Bool.and_self, if_true]
theorem gNotIn_enc (a : α) (xs : List α) (h : dep α ≤ 60) : gNotIn (enc a) (.lst (xs.map enc)) = .ok (.bl (!decide (a ∈ xs))) := by
  have h2 : shp (D.lst (xs.map (enc (α := α)))) = true := shp_enc (α := List α) xs (by show dep α + 1 ≤ 64; omega)
  unfold gNotIn
  simp only [shp_enc a (by omega : dep α ≤ 64), h2, any_enc, Bool.and_self, if_true]
theorem idxOf_enc (a : α) : ∀ (xs : List α) (n : Nat), a ∈ xs → idxOf (enc a).py (pyAll (xs.map enc)) n = some (n + xs.idxOf a)
  | [], _, h => by cases h
  | x :: xs, n, h => by
    simp only [List.map_cons, pyAll, idxOf, eqv, decide_eq_true_eq]
    by_cases e : x = a
    · subst e; simp
    · rw [if_neg e, idxOf_enc a xs (n + 1) (by rcases List.mem_cons.mp h with h | h; exact absurd h.symm e; exact h), List.idxOf_cons]
      have : (x == a) = false := by simpa using e
      rw [this]
      show some (n + 1 + xs.idxOf a) = some (n + (xs.idxOf a + 1))
      congr 1; omega
theorem gIndex_enc (a : α) (xs : List α) (h : dep α ≤ 60) (ha : a ∈ xs) : gIndex (.lst (xs.map enc)) (enc a) = .ok (.int (xs.idxOf a : Nat)) := by
  have h2 : shp (D.lst (xs.map (enc (α := α)))) = true := shp_enc (α := List α) xs (by show dep α + 1 ≤ 64; omega)
  unfold gIndex
  simp only [shp_enc a (by omega : dep α ≤ 64), h2, idxOf_enc a xs 0 ha, Bool.and_self, if_true, Nat.zero_add]
/-- the first of the least -/
def minOf (x : α) (xs : List α) : α := xs.foldl (fun a y => if lt y a = true then y else a) x
theorem minD_enc (x : α) (xs : List α) : PySem.W.minD (enc x).py (pyAll (xs.map enc)) = (enc (minOf x xs)).py := by
  unfold PySem.W.minD minOf
  induction xs generalizing x with
  | nil => rfl
  | cons y ys ih =>
    rw [List.map_cons, pyAll, List.foldl_cons, List.foldl_cons, ← ih]
    (try dsimp only)
    rw [dlt y x]
    cases lt y x <;> rfl
theorem notNon_enc (a : α) : notNon (enc a).py = true := by
  have h := alike a a
  have h2 := nn a
  revert h h2
  generalize enc a = x
  intro h h2
  cases x <;> simp_all [D.py, notNon, PySem.W.alike]
theorem alikeB_enc (xs : List α) : alikeB (pyAll (xs.map enc)) = true := by
  unfold alikeB
  simp only [Bool.and_eq_true, List.all_eq_true]
  rw [pyAll_map, List.map_map]
  refine ⟨fun x hx y hy => ?_, fun x hx => ?_⟩
  · obtain ⟨a, _, rfl⟩ := List.mem_map.mp hx
    obtain ⟨b, _, rfl⟩ := List.mem_map.mp hy
    exact alike a b
  · obtain ⟨a, _, rfl⟩ := List.mem_map.mp hx
    exact notNon_enc a
theorem gMin_enc (x : α) (xs : List α) (h : dep α ≤ 60) (hi : ∀ a : α, (enc a).imm = true) : gMin (.lst ((x :: xs).map enc)) = .ok (enc (minOf x xs)) := by
  rw [List.map_cons]
  unfold gMin
  dsimp only
  rw [if_pos ⟨immAll_iff.mpr fun d hd => by
    rw [← List.map_cons] at hd
    obtain ⟨a, _, rfl⟩ := List.mem_map.mp hd
    exact hi a, layAll_enc (x :: xs), alikeB_enc (x :: xs), Nat.le_trans (depthAll_enc (x :: xs)) h⟩, minD_enc, unpy_py _ (hi _) (Dat.lay _)]
theorem minOf_mem (x : α) : ∀ xs : List α, minOf x xs ∈ x :: xs := by
  intro xs
  unfold minOf
  induction xs generalizing x with
  | nil => exact List.mem_cons_self
  | cons y ys ih =>
    rw [List.foldl_cons]
    rcases List.mem_cons.mp (ih (if lt y x = true then y else x)) with h | h
    · rw [h]
      split
      · exact List.mem_cons_of_mem _ List.mem_cons_self
      · exact List.mem_cons_self
    · exact List.mem_cons_of_mem _ (List.mem_cons_of_mem _ h)
theorem minOf_le (x : α) : ∀ xs : List α, ∀ y ∈ x :: xs, lt y (minOf x xs) = false := by
  intro xs
  unfold minOf
  induction xs generalizing x with
  | nil =>
    intro y hy
    rw [List.mem_singleton.mp hy]; exact irr x
  | cons z zs ih =>
    intro y hy
    rw [List.foldl_cons]
    have h0 := ih (if lt z x = true then z else x)
    have hb := h0 _ List.mem_cons_self
    rcases List.mem_cons.mp hy with h | h
    · subst h
      by_cases e : lt z y = true
      · rw [if_pos e] at hb ⊢
        cases hc : lt y (zs.foldl (fun a y => if lt y a = true then y else a) z) with
        | false => rfl
        | true => rw [tr _ _ _ e hc] at hb; cases hb
      · rw [if_neg e] at hb ⊢; exact hb
    · rcases List.mem_cons.mp h with h | h
      · subst h
        by_cases e : lt y x = true
        · rw [if_pos e] at hb ⊢; exact hb
        · rw [if_neg e] at hb ⊢
          cases hc : lt y (zs.foldl (fun a y => if lt y a = true then y else a) x) with
          | false => rfl
          | true =>
            by_cases e2 : lt x y = true
            · rw [tr _ _ _ e2 hc] at hb; cases hb
            · have := tot x y (by simpa using e2) (by simpa using e)
              subst this
              rw [hc] at hb; cases hb
      · exact h0 y (List.mem_cons_of_mem _ h)
end
end Mir

namespace Mir
open PySem PySem.Spec L2
/-! ### branches brought together -/
section
variable {c : Prop} [Decidable c]
theorem i_nx (a b : Mir.Env) : (if c then (Res.ok (Ctl.nx a) : Res Ctl) else Res.ok (Ctl.nx b)) = Res.ok (Ctl.nx (if c then a else b)) := by split <;> rfl
theorem i_cons {α : Type} (x y : α) (xs ys : List α) : (if c then x :: xs else y :: ys) = (if c then x else y) :: (if c then xs else ys) := by split <;> rfl
theorem i_some (x y : Nat × D) : (if c then some x else some y) = some (if c then x else y) := by split <;> rfl
theorem i_pair (k : Nat) (x y : D) : (if c then (k, x) else (k, y)) = (k, if c then x else y) := by split <;> rfl
end
def setdM (i j : Nat) (y z dd : D) (env : Mir.Env) : Res Ctl := match dd, keyOf y with
  | .dk ks ds, some kk => if i < env.length ∧ z.imm = true ∧ ds.length < sizeLine then (match dFind ks ds kk with
    | some w => if w.imm then .ok (.nx (env.set i (some (0, w)))) else .bad
    | none => .ok (.nx ((env.set j (some (1, .dk (dPutK ks kk) (dPutV ks ds kk z)))).set i (some (0, z))))) else .bad
  | _, _ => .bad
@[simp] theorem e_mSetd (i j : Nat) (mk mz : Mir.Env → Res D) (env : Mir.Env) : mSetd i j mk mz env = (mk env >>= fun y => mz env >>= fun z => atK env j >>= fun dd => setdM i j y z dd env) := rfl
theorem gIx_map {α : Type} {f : α → D} {xs : List α} {i : Nat} {a : α} (h : xs[i]? = some a) : gIx (.lst (xs.map f)) (.int i) = .ok (f a) := by
  have hl := (List.getElem?_eq_some_iff.mp h).1
  have h2 : xs[i] = a := (List.getElem?_eq_some_iff.mp h).2
  simp [gIx, atI, ixN, hl, h2]
theorem gRng1_d {n : Nat} (h : n ≤ 1000) : gRng1 (.int n) = .ok ((List.range n).map fun i : Nat => D.int i) := gRng1_nat n h
@[simp] theorem t3_imm (x : T3) : (t3 x).imm = true := rfl
@[simp] theorem t3_isi (x : T3) : isi .tuple (t3 x) = true := rfl
@[simp] theorem t3_isOb (x : T3) : isOb (t3 x) = false := rfl
@[simp] theorem t3_len (x : T3) : gLen (t3 x) = .ok (.int 3) := rfl
@[simp] theorem t3_items (x : T3) : itemsT (t3 x) = .ok [.int x.a, .int x.b, .int x.c] := rfl
@[simp] theorem t3_0 (x : T3) : gIx (t3 x) (.int 0) = .ok (.int x.a) := rfl
@[simp] theorem t3_1 (x : T3) : gIx (t3 x) (.int 1) = .ok (.int x.b) := rfl
@[simp] theorem t3_2 (x : T3) : gIx (t3 x) (.int 2) = .ok (.int x.c) := rfl
theorem immAll_drop {ds : List D} (h : immAll ds = true) (k : Nat) : immAll (ds.drop k) = true := immAll_iff.mpr fun d hd => immAll_iff.mp h d (List.mem_of_mem_drop hd)
theorem immAll_take {ds : List D} (h : immAll ds = true) (k : Nat) : immAll (ds.take k) = true := immAll_iff.mpr fun d hd => immAll_iff.mp h d (List.mem_of_mem_take hd)
theorem immAll_t3 (xs : List T3) : immAll (xs.map t3) = true := by simp
@[simp] theorem immAll_dt3 (xs : List T3) (k : Nat) : immAll ((xs.map t3).drop k) = true := immAll_drop (immAll_t3 xs) k
@[simp] theorem immAll_tt3 (xs : List T3) (k : Nat) : immAll ((xs.map t3).take k) = true := immAll_take (immAll_t3 xs) k
@[simp] theorem isi_ll (xs : List D) : isi .list (.lst xs) = true := rfl
@[simp] theorem isi_tt (xs : List D) : isi .tuple (.tup xs) = true := rfl
@[simp] theorem isi_ii (i : Int) : isi .int (.int i) = true := rfl
@[simp] theorem isi_bi (i : Int) : isi .bool (.int i) = false := rfl
@[simp] theorem immAt_l (k : Nat) (ds : List D) : immAt (k + 1) (.lst ds) = immAtL k ds := by unfold immAt; rfl
@[simp] theorem immAt_1l (ds : List D) : immAt 1 (.lst ds) = immAll ds := by rw [show (1 : Nat) = 0 + 1 from rfl, immAt_l, immAtL0]
@[simp] theorem e_immL (ds : List D) : immL ds = if immAll ds = true then .ok ds else .bad := rfl
@[simp] theorem gTru_l (ds : List D) : gTru (.lst ds) = .ok (!ds.isEmpty) := rfl
@[simp] theorem gTru_i (i : Int) : gTru (.int i) = .ok (i != 0) := rfl
@[simp] theorem gTru_b (b : Bool) : gTru (.bl b) = .ok b := rfl
@[simp] theorem gTru_n : gTru .non = .ok false := rfl
@[simp] theorem gTru_t (ds : List D) : gTru (.tup ds) = .ok (!ds.isEmpty) := rfl
@[simp] theorem sz1 : 1 ≤ sizeLine := sizeLine_big (by decide)
@[simp] theorem sz2 : 2 ≤ sizeLine := sizeLine_big (by decide)
@[simp] theorem sz3 : 3 ≤ sizeLine := sizeLine_big (by decide)
@[simp] theorem sz4 : 4 ≤ sizeLine := sizeLine_big (by decide)
@[simp] theorem sz5 : 5 ≤ sizeLine := sizeLine_big (by decide)
@[simp] theorem sz6 : 6 ≤ sizeLine := sizeLine_big (by decide)
@[simp] theorem sz7 : 7 ≤ sizeLine := sizeLine_big (by decide)
@[simp] theorem sz8 : 8 ≤ sizeLine := sizeLine_big (by decide)
@[simp] theorem sz9 : 9 ≤ sizeLine := sizeLine_big (by decide)
@[simp] theorem sz10 : 10 ≤ sizeLine := sizeLine_big (by decide)
@[simp] theorem sz11 : 11 ≤ sizeLine := sizeLine_big (by decide)
@[simp] theorem sz12 : 12 ≤ sizeLine := sizeLine_big (by decide)
@[simp] theorem sz13 : 13 ≤ sizeLine := sizeLine_big (by decide)
@[simp] theorem sz14 : 14 ≤ sizeLine := sizeLine_big (by decide)
@[simp] theorem sz15 : 15 ≤ sizeLine := sizeLine_big (by decide)
@[simp] theorem sz16 : 16 ≤ sizeLine := sizeLine_big (by decide)
def t2 (x : Int × Int) : D := .tup [.int x.1, .int x.2]
theorem ofP (a b : Int) : D.tup [.int a, .int b] = t2 (a, b) := rfl
@[simp] theorem t2_imm (x : Int × Int) : (t2 x).imm = true := rfl
@[simp] theorem t2_isi (x : Int × Int) : isi .tuple (t2 x) = true := rfl
@[simp] theorem t2_isOb (x : Int × Int) : isOb (t2 x) = false := rfl
@[simp] theorem t2_len (x : Int × Int) : gLen (t2 x) = .ok (.int 2) := rfl
@[simp] theorem t2_items (x : Int × Int) : itemsT (t2 x) = .ok [.int x.1, .int x.2] := rfl
@[simp] theorem t2_0 (x : Int × Int) : gIx (t2 x) (.int 0) = .ok (.int x.1) := rfl
@[simp] theorem t2_1 (x : Int × Int) : gIx (t2 x) (.int 1) = .ok (.int x.2) := rfl
theorem cutD_map {α : Type} (f : α → D) (xs : List α) (lo hi : Option Int) : cutD (xs.map f) lo hi = ((xs.drop (HT.sIx xs.length 0 lo)).take (HT.sIx xs.length xs.length hi - HT.sIx xs.length 0 lo)).map f := by simp [cutD]
theorem cutD_from {α : Type} (f : α → D) (xs : List α) (k : Nat) (h : k ≤ xs.length) : cutD (xs.map f) (some (k : Int)) none = (xs.drop k).map f := by
  rw [cutD_map, HT.sIx_nat, HT.sIx_none, Nat.min_eq_left h, List.take_of_length_le (by simp)]
theorem cutD_to {α : Type} (f : α → D) (xs : List α) (k : Nat) (h : k ≤ xs.length) : cutD (xs.map f) none (some (k : Int)) = (xs.take k).map f := by
  rw [cutD_map, HT.sIx_nat, HT.sIx_none, Nat.min_eq_left h]; simp
theorem lc_run {α : Type} {t : Nat → D → Mir.Env → Res Mir.Env} {me : Mir.Env → Res D} {mt : Mir.Env → Res Bool} {env : Mir.Env} (enc : α → D) (p : α → Bool) (f : α → D) : ∀ xs : List α, (∀ a ∈ xs, ∃ e1, t 0 (enc a) env = .ok e1 ∧ mt e1 = .ok (p a) ∧ (p a = true → me e1 = .ok (f a))) → lcLoop t mt me env (xs.map enc) = .ok ((xs.filter p).map f)
  | [], _ => rfl
  | x :: xs, h => by
    obtain ⟨e1, h1, h2, h3⟩ := h x List.mem_cons_self
    have ih := lc_run enc p f xs fun a ha => h a (List.mem_cons_of_mem _ ha)
    rw [List.filter_cons]
    simp only [List.map_cons, lcLoop, h1, ok_bind, h2]
    cases hp : p x with
    | true => simp [h3 hp, ih]
    | false => simp [ih]
theorem lc_all {α : Type} {t : Nat → D → Mir.Env → Res Mir.Env} {me : Mir.Env → Res D} {env : Mir.Env} (enc : α → D) (f : α → D) (xs : List α) (h : ∀ a ∈ xs, (t 0 (enc a) env >>= me) = .ok (f a)) : lcLoop t (fun _ => .ok true) me env (xs.map enc) = .ok (xs.map f) := by
  have := lc_run (mt := fun _ => .ok true) (me := me) (t := t) (env := env) enc (fun _ => true) f xs fun a ha => by
    obtain ⟨e1, h1, h2⟩ := bind_ok (h a ha)
    exact ⟨e1, h1, rfl, fun _ => h2⟩
  rw [this, List.filter_eq_self.mpr fun _ _ => rfl]
/-! ### loops, with what comes behind them -/
def stepc (fg : List Nat) : Ctl → Res Mir.Env
  | .nx e => .ok (clear e fg)
  | .ct e => .ok (clear e fg)
  | _ => .bad
@[simp] theorem stepc_nx (fg : List Nat) (e : Mir.Env) : stepc fg (.nx e) = .ok (clear e fg) := rfl
@[simp] theorem stepc_ct (fg : List Nat) (e : Mir.Env) : stepc fg (.ct e) = .ok (clear e fg) := rfl
theorem loop_step {t : Nat → D → Mir.Env → Res Mir.Env} {body : Mir.Env → Res Ctl} {fg : List Nat} {x : D} {xs : List D} {env env' : Mir.Env} (h : (t 0 x env >>= fun e => body e >>= stepc fg) = .ok env') : loop t body fg (x :: xs) env = loop t body fg xs env' := by
  obtain ⟨e1, h1, h2⟩ := bind_ok h
  obtain ⟨c, h3, h4⟩ := bind_ok h2
  show (t 0 x env >>= fun e1 => body e1 >>= fun c => match c with | .nx e => loop t body fg xs (clear e fg) | .ct e => loop t body fg xs (clear e fg) | .bk e => .ok (.nx (clear e fg)) | .rt d => .ok (.rt d)) = _
  rw [h1, ok_bind, h3, ok_bind]
  cases c with
  | nx e => cases h4; rfl
  | ct e => cases h4; rfl
  | bk e => cases h4
  | rt e => cases h4
theorem loop_run {σ α : Type} {t : Nat → D → Mir.Env → Res Mir.Env} {body : Mir.Env → Res Ctl} {fg : List Nat} (mk : σ → Mir.Env) (enc : α → D) (P : Nat → σ → Prop) : ∀ (xs : List α) (n : Nat) (s : σ), P n s →
    (∀ i s a, xs[i]? = some a → P (n + i) s → ∃ s', P (n + i + 1) s' ∧ (t 0 (enc a) (mk s) >>= fun e => body e >>= stepc fg) = .ok (mk s')) → ∃ s', loop t body fg (xs.map enc) (mk s) = .ok (.nx (mk s')) ∧ P (n + xs.length) s'
  | [], n, s, p, _ => ⟨s, rfl, p⟩
  | x :: xs, n, s, p, h => by
    obtain ⟨s', p2, h1⟩ := h 0 s x rfl p
    obtain ⟨s2, q1, q2⟩ := loop_run mk enc P xs (n + 1) s' p2 fun i s a ha hp => by
      have := h (i + 1) s a (by simpa using ha) (by rw [show n + (i + 1) = n + 1 + i by omega]; exact hp)
      rw [show n + (i + 1) + 1 = n + 1 + i + 1 by omega] at this
      exact this
    exact ⟨s2, by rw [List.map_cons, loop_step h1]; exact q1, by rw [List.length_cons, show n + (xs.length + 1) = n + 1 + xs.length by omega]; exact q2⟩
/-- it is told, and Q holds of it -/
def Tells {β : Type} (r : Res β) (Q : β → Prop) : Prop := ∃ b, r = .ok b ∧ Q b
theorem Tells.eq {β : Type} {r : Res β} {b : β} (h : Tells r (· = b)) : r = .ok b := by
  obtain ⟨_, h1, rfl⟩ := h
  exact h1
theorem Tells.of {β : Type} {r : Res β} {b : β} {Q : β → Prop} (h : r = .ok b) (q : Q b) : Tells r Q := ⟨b, h, q⟩
theorem Tells.ok {β : Type} {b : β} {Q : β → Prop} (q : Q b) : Tells (.ok b) Q := ⟨b, rfl, q⟩
theorem Tells.eqI {β : Type} {r : Res β} {b : β} (h : r = .ok b) : Tells r (· = b) := ⟨b, h, rfl⟩
/-- a loop that keeps P; then what comes behind it -/
theorem loop_then {σ α β : Type} {t : Nat → D → Mir.Env → Res Mir.Env} {body : Mir.Env → Res Ctl} {fg : List Nat} {k : Ctl → Res β} {Q : β → Prop} (mk : σ → Mir.Env) (enc : α → D) (P : Nat → σ → Prop) (xs : List α) {ds : List D} {env : Mir.Env} (s : σ) (hds : ds = xs.map enc) (henv : env = mk s) (h0 : P 0 s)
    (step : ∀ i s a, xs[i]? = some a → P i s → ∃ s', P (i + 1) s' ∧ (t 0 (enc a) (mk s) >>= fun e => body e >>= stepc fg) = .ok (mk s')) (hk : ∀ s', P xs.length s' → Tells (k (.nx (mk s'))) Q) : Tells (loop t body fg ds env >>= k) Q := by
  subst hds
  subst henv
  obtain ⟨s', h1, h2⟩ := loop_run mk enc P xs 0 s h0 fun i s a ha hp => by
    rw [Nat.zero_add] at hp ⊢
    exact step i s a ha hp
  rw [Nat.zero_add] at h2
  rw [h1, ok_bind]
  exact hk s' h2
/-- .. the state reckoned by f -/
theorem loop_thenF {σ α β : Type} {t : Nat → D → Mir.Env → Res Mir.Env} {body : Mir.Env → Res Ctl} {fg : List Nat} {k : Ctl → Res β} {Q : β → Prop} (mk : σ → Mir.Env) (enc : α → D) (f : σ → α → σ) (P : Nat → σ → Prop) (xs : List α) {ds : List D} {env : Mir.Env} (s : σ) (hds : ds = xs.map enc) (henv : env = mk s) (h0 : P 0 s)
    (step : ∀ i s a, xs[i]? = some a → P i s → P (i + 1) (f s a) ∧ (t 0 (enc a) (mk s) >>= fun e => body e >>= stepc fg) = .ok (mk (f s a))) (hk : P xs.length (xs.foldl f s) → Tells (k (.nx (mk (xs.foldl f s)))) Q) : Tells (loop t body fg ds env >>= k) Q := by
  refine loop_then mk enc (fun i s' => P i s' ∧ s' = (xs.take i).foldl f s) xs s hds henv ⟨h0, rfl⟩ (fun i s1 a ha hp => ?_) fun s' hs => ?_
  · obtain ⟨hp, e⟩ := hp
    obtain ⟨h1, h2⟩ := step i s1 a ha hp
    refine ⟨f s1 a, ⟨h1, ?_⟩, h2⟩
    rw [List.take_succ, ha, e]
    simp
  · obtain ⟨h1, e⟩ := hs
    rw [List.take_length] at e
    subst e
    exact hk h1
end Mir

namespace Mir
open PySem PySem.Spec L2
section
variable {X : Cx} {e a b tg it : Expr} {m ma mb : Env → Res D} {k kr : Nat} {cs : List Nat} {pos p : Pos} {m1 : Env → Res Ctl}
/-! ### names of the module -/
theorem sc_globI {x : Str} {i : Int} (hg : Gl X x) (hm : ∃ t, X.mg x = some (.int i t)) (hd : (x == ("__debug__" : Str)) = false := by decide) : SC X (.Name x pos) (mC (.int i)) := by
  obtain ⟨t, ht⟩ := hm
  exact sc_of (pe_glob (v := .int i) hg ht ⟨t, rfl⟩ hd) (fun _ => .int i) rfl
/-! ### while -/
def wloop (t : Env → Res Bool) (body : Env → Res Ctl) (fg : List Nat) : Nat → Env → Res Ctl
  | 0, _ => .bad
  | n + 1, env => t env >>= fun b => if b then body env >>= fun c => match c with
      | .nx e => wloop t body fg n (clear e fg)
      | .ct e => wloop t body fg n (clear e fg)
      | .bk e => .ok (.nx (clear e fg))
      | .rt d => .ok (.rt d)
    else .ok (.nx env)
theorem s_while {c : Expr} {body : List Stmt} {t : Env → Res Bool} {fg : List Nat} {n : Nat} (hp : PassesOwn (model X.prog X.w) X.A X.env X.xe) (hc : ST X c t) (hb : SS X kr body m1) : S1 X kr (.While c body [] pos) (fun env => wloop t m1 fg n env) := fun B H env σ tm D r ok hm p => by
  refine wS_of (ps_while hp pt_sem pss_sem) ?_
  refine ⟨fun m σ H => ∃ env, EnvOk B H env σ tm ∧ wloop t m1 fg m env = .ok r, ⟨n, env, ok, hm⟩, ?_⟩
  rintro m σ2 H2 ⟨env2, ok2, hr⟩
  cases m with
  | zero => cases hr
  | succ m =>
    obtain ⟨b, hb', h2⟩ := bind_ok hr
    refine hc B H2 env2 σ2 tm b _ ok2 hb' fun H3 x3 ok3 => ?_
    cases b with
    | false =>
      cases h2
      exact p σ2 H3 ok3
    | true =>
      rw [if_pos rfl] at h2 ⊢
      obtain ⟨c', h5, h6⟩ := bind_ok h2
      refine ⟨fun σ' H' => ∃ env, EnvOk B H' env σ' tm ∧ wloop t m1 fg m env = .ok r, fun σ' H' h => ⟨m, by omega, h⟩, ?_⟩
      refine hb B H3 env2 σ2 tm _ c' ok3 h5 ?_
      cases c' with
      | nx e => exact fun σ5 H5 ok5 => ⟨_, ok5.clear fg, h6⟩
      | ct e => exact fun σ5 H5 ok5 => ⟨_, ok5.clear fg, h6⟩
      | bk e =>
        cases h6
        exact fun σ5 H5 ok5 => p σ5 H5 (ok5.clear fg)
      | rt d' =>
        cases h6
        exact p

/-! ### sum of whole numbers -/
def intsD? : List D → Option (List Int)
  | [] => some []
  | .int i :: ds => (intsD? ds).map fun is => i :: is
  | _ :: _ => none
theorem intsD_rp {G : Hp} : ∀ {vs : List V} {ds : List D} {is : List Int}, RpAll G vs ds → intsD? ds = some is → vs = is.map V.int
  | [], [], is, .nil, h => by cases h; rfl
  | v :: vs, d :: ds, is, .cons hr r, h => by
    cases hr with
    | int i =>
      unfold intsD? at h
      cases e : intsD? ds with
      | none => rw [e] at h; cases h
      | some cs =>
        rw [e] at h
        cases h
        rw [intsD_rp r e]; rfl
    | _ => cases h
def gSum : D → Res D
  | .lst ds => match intsD? ds with
    | some is => .ok (.int is.sum)
    | none => .bad
  | _ => .bad
theorem sc_sum (hc : X.calm = true) (hg : Gl X "sum") (hm0 : X.mg "sum" = none) (h : SB X e m) (he : starEach [e] X.env = (false, eval e X.env) :: starEach [] X.env := by rfl) (hpl : (backTo pos (starEach [] X.env)).any (·.1) = false := by rfl) : SC X (.Call (.Name "sum" p) [e] [] pos) (mUn gSum m) := fun B H env σ tm d Q ok hm q => by
  obtain ⟨x, hx, h2⟩ := bind_ok hm
  refine wE_of (pe_callB (cr_sum hc) hg hm0 (by decide +kernel) (pa_cons pe_sem pa_nil he) (by decide) (by decide) he hpl) (h B H env σ tm _ _ ok hx fun v H1 x1 ok1 r => ?_)
  cases r with
  | @lst a vs ds hv ra =>
    unfold gSum at h2
    dsimp only at h2
    split at h2
    · rename_i bs hb
      cases h2
      have e := intsD_rp ra hb
      subst e
      exact ⟨a, bs, rfl, .inl (view_rd hv), q _ H1 x1 ok1 (.int _) rfl⟩
    · cases h2
  | _ => cases h2

/-! ### enumerate, zip -/
def enumD : Nat → List D → List D
  | _, [] => []
  | n, d :: ds => .tup [.int n, d] :: enumD (n + 1) ds
theorem enumD_len : ∀ (n : Nat) (ds : List D), (enumD n ds).length = ds.length
  | _, [] => rfl
  | n, _ :: ds => by simp [enumD, enumD_len (n + 1) ds]
theorem enumD_get : ∀ (n : Nat) (ds : List D) (i : Nat) (d : D), ds[i]? = some d → (enumD n ds)[i]? = some (.tup [.int ((n + i : Nat) : Int), d])
  | n, d :: ds, 0, _, h => by cases h; rfl
  | n, d :: ds, i + 1, x, h => by
    have := enumD_get (n + 1) ds i x (by simpa using h)
    rw [show n + 1 + i = n + (i + 1) by omega] at this
    simpa [enumD] using this
theorem si_enum {elts : List Expr} {kk : Nat} {tpos : Pos} (hg : Gl X "enumerate") (hm0 : X.mg "enumerate" = none) (he : SE X 0 [] it m) (hs : starEach [it] X.env = [(false, eval it X.env)] := by rfl) (hs2 : starEach [it] X.env = (false, eval it X.env) :: starEach [] X.env := by rfl) :
    SI X (.Tuple elts kk tpos) (.Call (.Name "enumerate" p) [it] [] pos) (fun env => m env >>= itemsL >>= fun ds => .ok (enumD 0 ds)) := fun B H env σ tm ds R ok hm q => by
  obtain ⟨ds0, hd0, h3⟩ := bind_ok hm
  obtain ⟨d, hd, h2⟩ := bind_ok hd0
  cases h3
  unfold itemsL at h2
  split at h2
  · rename_i xs
    cases h2
    refine wI_of (pi_enum hg hm0 (pa_cons pe_sem pa_nil hs2) hs) (he B H env σ tm _ _ ok hd fun v H1 x1 ok1 => ?_)
    have r := ok1.rp
    cases r with
    | @lst a vs _ hv ra =>
      refine ⟨a, vs, rfl, .inl (view_rd hv), q _ H1 [(.ref a, 0, .lst ds0)] x1 ok1 fun i H2 env2 σ2 tm2 ok2 => ?_⟩
      have r2 := EnvOk.rp ok2
      cases r2 with
      | @lst _ ws _ hw rb =>
        have hs : SqL X.K H2 a ws := .inl (view_rd hw)
        rw [enumD_len]
        refine ⟨fun ei => ⟨ws, hs, by have := rb.length; omega⟩, fun hi => ?_⟩
        obtain ⟨x, hx, rx⟩ := rb.get (List.getElem?_eq_getElem hi)
        refine ⟨⟨ws, x, hs, hx⟩, fun y H3 hy => ?_⟩
        obtain ⟨T, y', rfl, hT, rfl, hy⟩ := hy
        have ey : y' = x := Option.some.inj ((hy ws hs).symm.trans hx)
        subst ey
        have ok3 := EnvOk.item ok2 (.inl rfl) rfl (.inl hw) hx (List.getElem?_eq_getElem hi)
        have ok4 := ok3.imm (k := 0) (.int ((i : Nat) : Int)) rfl
        have ok5 := EnvOk.newTup (k := 0) (vs := [.int ((i : Nat) : Int), y']) (ds := [.int ((i : Nat) : Int), ds0[i]]) ok4 rfl hT
        have hget := enumD_get 0 ds0 i _ (List.getElem?_eq_getElem hi)
        rw [Nat.zero_add] at hget
        exact ⟨_, hget, Ext.upd hT, ok5.freeze⟩
  · cases h2
end
end Mir

namespace Mir
open PySem PySem.Spec L2
section
variable {X : Cx} {e a b o i : Expr} {m ma mb mi mv : Env → Res D} {k kr : Nat} {cs : List Nat} {pos p : Pos} {m1 : Env → Res Ctl}
/-! ### [..] * n -/
theorem rep_rp {G : Hp} {vs : List V} {ds : List D} (r : RpAll G vs ds) : ∀ n : Nat, RpAll G (List.replicate n vs).flatten (List.replicate n ds).flatten
  | 0 => .nil
  | n + 1 => by
    rw [List.replicate_succ, List.replicate_succ, List.flatten_cons, List.flatten_cons]
    exact r.append (rep_rp r n)
theorem immAll_app {ds es : List D} (h : immAll ds = true) (h' : immAll es = true) : immAll (ds ++ es) = true := immAll_iff.mpr fun d hd => (List.mem_append.mp hd).elim (immAll_iff.mp h d) (immAll_iff.mp h' d)
theorem rep_imm {ds : List D} (h : immAll ds = true) : ∀ n : Nat, immAll (List.replicate n ds).flatten = true
  | 0 => rfl
  | n + 1 => by
    rw [List.replicate_succ, List.flatten_cons]
    exact immAll_app h (rep_imm h n)
def gRep (x y : D) : Res D := match x, y with
  | .lst ds, .int n => if immAll ds = true ∧ -(2 ^ 62) ≤ n ∧ n < 2 ^ 62 ∧ ds.length * n.toNat ≤ sizeLine then .ok (.lst (List.replicate n.toNat ds).flatten) else .bad
  | _, _ => .bad
theorem se_rep (ha : SE X 1 [] a ma) (hb : SB X b mb) : SE X (k + 1) [] (.BinOp a .Mult b pos) (mOp gRep ma mb) := fun B H env σ tm d Q ok hm q => by
  obtain ⟨x, y, hx, hy, hg⟩ := two hm
  refine wE_of (pe_op op_rep pe_sem pe_sem) (ha B H env σ tm x _ ok hx fun v H1 x1 ok1 => hb B H1 env σ ((v, 1, x) :: tm) y _ ok1 hy fun u H2 x2 ok2 r2 => ?_)
  unfold gRep at hg
  split at hg
  · rename_i ds n
    split at hg
    · rename_i hh
      obtain ⟨h1, h2, h3, h4⟩ := hh
      cases hg
      cases r2
      obtain ⟨l, rfl⟩ := ok2.isRef rfl
      have ra := ok2.rp
      obtain ⟨vs, hL, hvl, _⟩ := ok2.takeLst
      cases ra with
      | @lst _ ws _ hv ra =>
        have ew : ws = vs := by
          have : view H2 l = some (.lst vs) := by unfold view; rw [hL]; rfl
          rw [this] at hv; cases hv; rfl
        subst ew
        refine ⟨l, n, ws, rfl, rfl, hL, by omega, by omega, by rw [hvl]; exact h4, fun p hp => ?_⟩
        have ok3 := ok2.tail
        have ok4 := ok3.levs (k := k) (rep_rp ra n.toNat) (rep_imm h1 _)
        exact q _ _ ((x1.trans x2).trans (Ext.upd hp)) (ok4.newLst (rep_rp ra n.toNat).length hp)
    · cases hg
  · cases hg
/-! ### x[i] = e -/
def mPutI (j k : Nat) (cs : List Nat) (mv mi : Env → Res D) : Env → Res Ctl := fun env => mv env >>= fun d => mi (clear env cs) >>= fun y => atL (clear env cs) j (k + 1) >>= fun ds => match y with
  | .int n => (match ixN ds.length n with | some jj => .ok (.nx ((clear env cs).set j (some (k + 1, .lst (ds.set jj d))))) | none => .bad)
  | _ => .bad
theorem s_putI {j : Nat} {pos' : Pos} (hx : PE X o (tVar j)) (hi : SB X i mi) (hv : SE X k cs e mv) (hs : swapsWithSole [.Subscript o i pos'] e pos.line X.env = pure false := by rfl) (hw : swappedStores [.Subscript o i pos'] e X.env = pure none := by rfl)
    (h1 : (assignEach [.Subscript o i pos'] X.env).map (·.2) = [assign (.Subscript o i pos') X.env] := by rfl)
    (hasg : ∀ v, assign (.Subscript o i pos') X.env v = (do
      let ov ← holding [v] (eval o X.env)
      let iv ← holding [v, ov] (eval i X.env)
      standAt pos'
      holding [v, ov, iv] (setItem ov iv v)
      release [v, ov, iv] []) := by intro _; rfl) :
    S1 X kr (.Assign [.Subscript o i pos'] e pos) (mPutI j k cs mv mi) := fun B H env σ tm D r ok hm p => by
  obtain ⟨d, hd, h2⟩ := bind_ok hm
  obtain ⟨y, hy, h3⟩ := bind_ok h2
  obtain ⟨ds, hds, h4⟩ := bind_ok h3
  have he1 := atL_ok hds
  split at h4
  · rename_i n
    split at h4
    · rename_i jj hjj
      cases h4
      refine wS_of (ps_asg pe_sem (pg_sub hx pe_sem set_list hasg) hs hw h1) (hv B H env σ tm d _ ok hd fun w H1 x1 ok1 => ?_)
      obtain ⟨v, hv', rv⟩ := ok1.slot he1
      refine ⟨v, hv', hi B H1 (clear env cs) σ _ _ _ ok1 hy fun u H2 x2 ok2 r2 => ?_⟩
      cases r2
      obtain ⟨q, hq, ok3⟩ := ok2.slotMu he1 rfl
      rw [hv'] at hq
      cases hq
      obtain ⟨vs, hL, hvl, ok4⟩ := ok3.takeLst
      refine ⟨q, vs, n, jj, rfl, rfl, hL, by rw [hvl]; exact hjj, ?_⟩
      have hjl : jj < ds.length := by
        unfold ixN at hjj
        split at hjj
        · split at hjj
          · cases hjj; omega
          · cases hjj
        · split at hjj
          · cases hjj; omega
          · cases hjj
      have hjv : jj < vs.length := by omega
      obtain ⟨l, hl1, hl2⟩ := lev_mid (k := k) (List.getElem?_eq_getElem hjv) (List.getElem?_eq_getElem hjl) hvl
      have hset : (lev k (vs.set jj w) (ds.set jj d)).Perm ((w, k, d) :: l) := by
        obtain ⟨l', g1, g2⟩ := lev_mid (k := k) (vs := vs.set jj w) (ds := ds) (List.getElem?_set_self hjv) (List.getElem?_eq_getElem hjl) (by simpa using hvl)
        have := g2 d
        refine this.trans (List.Perm.cons _ ?_)
        have key : ∀ (vs : List V) (ds : List Mir.D) (jj : Nat) (w : V) (hv : jj < vs.length) (hd : jj < ds.length), ∃ l, (lev k vs ds).Perm ((vs[jj], k, ds[jj]) :: l) ∧ (lev k (vs.set jj w) ds).Perm ((w, k, ds[jj]) :: l) := by
          intro vs
          induction vs with
          | nil => intro ds jj w hv; simp at hv
          | cons v vs ih =>
            intro ds jj w hv hd
            cases ds with
            | nil => simp at hd
            | cons d ds =>
              cases jj with
              | zero => exact ⟨lev k vs ds, .refl _, .refl _⟩
              | succ jj =>
                obtain ⟨l, h1, h2⟩ := ih ds jj w (by simpa using hv) (by simpa using hd)
                exact ⟨(v, k, d) :: l, (h1.cons _).trans (.swap _ _ _), (h2.cons _).trans (.swap _ _ _)⟩
        obtain ⟨l2, k1, k2⟩ := key vs ds jj w hjv hjl
        have e1 : ((vs[jj], k, ds[jj]) :: l).Perm ((vs[jj], k, ds[jj]) :: l2) := hl1.symm.trans k1
        have e2 : ((w, k, ds[jj]) :: l').Perm ((w, k, ds[jj]) :: l2) := g1.symm.trans k2
        exact ((List.perm_cons _).mp e2).trans ((List.perm_cons _).mp e1).symm
      have ok5 : EnvOk B (del H2 q) ((clear env cs).set j none) σ (lev k (vs.set jj w) (ds.set jj d) ++ tm) := by
        have h6 : EnvOk B (del H2 q) ((clear env cs).set j none) σ ((vs[jj], k, ds[jj]) :: ((w, k, d) :: (l ++ tm))) := by
          refine ok4.perm ?_
          refine (hl1.append_right _).trans (List.Perm.cons _ ?_)
          exact List.perm_middle
        have h7 := EnvOk.tail h6
        exact h7.perm (hset.symm.append_right tm)
      have ok6 := ok5.newLst (p := q) (by simp [hvl]) del_self
      rw [upd_del] at ok6
      exact p σ _ (ok6.putBack he1 hv')
    · cases h4
  · cases h4
theorem ixN_lt {n : Nat} {i : Int} {j : Nat} (h : ixN n i = some j) : j < n := by
  unfold ixN at h
  split at h
  · split at h
    · cases h; omega
    · cases h
  · split at h
    · cases h; omega
    · cases h
/-- one of a list's things, and the others -/
theorem lev_one {k : Nat} : ∀ {vs : List V} {ds : List Mir.D} {jj : Nat} {v : V} {d : Mir.D}, vs.length = ds.length → vs[jj]? = some v → ds[jj]? = some d → ∃ l, (lev k vs ds).Perm ((v, k, d) :: l) ∧ ∀ w e, (lev k (vs.set jj w) (ds.set jj e)).Perm ((w, k, e) :: l)
  | [], ds, jj, v, d, _, h, _ => by simp at h
  | x :: vs, [], jj, v, d, hl, _, _ => by simp at hl
  | x :: vs, y :: ds, 0, v, d, hl, h, h' => by
    cases h; cases h'
    exact ⟨lev k vs ds, .refl _, fun _ _ => .refl _⟩
  | x :: vs, y :: ds, jj + 1, v, d, hl, h, h' => by
    obtain ⟨l, h1, h2⟩ := lev_one (k := k) (vs := vs) (ds := ds) (jj := jj) (by simpa using hl) (by simpa using h) (by simpa using h')
    exact ⟨(x, k, y) :: l, (h1.cons _).trans (.swap _ _ _), fun w e => ((h2 w e).cons _).trans (.swap _ _ _)⟩
theorem upd_self {H : Hp} {q : Addr} {o : HO} (h : H q = some o) : upd H q o = H := by
  funext a
  by_cases e : a = q
  · rw [e, upd_same, h]
  · rw [upd_ne e]
theorem del_upd {H : Hp} {a b : Addr} {o : HO} (h : a ≠ b) : upd (del H b) a o = del (upd H a o) b := by
  funext c
  by_cases h1 : c = b
  · rw [h1, del_self, upd_ne (Ne.symm h), del_self]
  · rw [del_ne h1]
    by_cases h2 : c = a
    · rw [h2, upd_same, upd_same]
    · rw [upd_ne h2, upd_ne h2, del_ne h1]
/-- x[i][j] = e, e without lists, dicts -/
def mPutII (j k : Nat) (mv mi mj : Env → Res D) : Env → Res Ctl := fun env => mv env >>= fun d => mi env >>= fun y => mj env >>= fun z => atL env j (k + 2) >>= fun ds => match y, z with
  | .int n, .int n2 => (match ixN ds.length n with
    | some jj => (match ds[jj]? with
      | some (.lst es) => (match ixN es.length n2 with
        | some j2 => if d.imm = true then .ok (.nx (env.set j (some (k + 2, .lst (ds.set jj (.lst (es.set j2 d))))))) else .bad
        | none => .bad)
      | _ => .bad)
    | none => .bad)
  | _, _ => .bad
theorem s_putII {j : Nat} {i2 : Expr} {mj : Env → Res D} {pos' pos2 : Pos} (hx : PE X o (tVar j)) (hi : SB X i mi) (hj : SB X i2 mj) (hv : SB X e mv) (hix : PlainIx i) (hs : swapsWithSole [.Subscript (.Subscript o i pos2) i2 pos'] e pos.line X.env = pure false := by rfl) (hw : swappedStores [.Subscript (.Subscript o i pos2) i2 pos'] e X.env = pure none := by rfl)
    (h1 : (assignEach [.Subscript (.Subscript o i pos2) i2 pos'] X.env).map (·.2) = [assign (.Subscript (.Subscript o i pos2) i2 pos') X.env] := by rfl)
    (hasg : ∀ v, assign (.Subscript (.Subscript o i pos2) i2 pos') X.env v = (do
      let ov ← holding [v] (eval (.Subscript o i pos2) X.env)
      let iv ← holding [v, ov] (eval i2 X.env)
      standAt pos'
      holding [v, ov, iv] (setItem ov iv v)
      release [v, ov, iv] []) := by intro _; rfl) :
    S1 X kr (.Assign [.Subscript (.Subscript o i pos2) i2 pos'] e pos) (mPutII j k mv mi mj) := fun B H env σ tm D r ok hm p => by
  obtain ⟨d, hd, h2⟩ := bind_ok hm
  obtain ⟨y, hy, h3⟩ := bind_ok h2
  obtain ⟨z, hz, h4⟩ := bind_ok h3
  obtain ⟨ds, hds, h5⟩ := bind_ok h4
  have he1 := atL_ok hds
  split at h5
  · rename_i n n2
    split at h5
    · rename_i jj hjj
      split at h5
      · rename_i es hes
        split at h5
        · rename_i j2 hj2
          split at h5
          · rename_i hdi
            cases h5
            refine wS_of (ps_asg pe_sem (pg_sub (pe_ix ix_seq hx pe_sem hix) pe_sem set_list hasg) hs hw h1) (hv B H env σ tm d _ ok hd fun w H1 x1 ok1 rw1 => ?_)
            obtain ⟨v, hv', rv⟩ := ok1.slot he1
            refine ⟨v, hv', hi B H1 env σ _ _ _ ok1 hy fun u H2 x2 ok2 r2 => ?_⟩
            cases r2
            obtain ⟨q, hq, ok3⟩ := ok2.slotMu he1 rfl
            rw [hv'] at hq
            cases hq
            obtain ⟨vs, hL, hvl, _⟩ := ok3.takeLst
            have hjl := ixN_lt hjj
            have hjv : jj < vs.length := by omega
            refine .inl ⟨q, vs, n, vs[jj], rfl, rfl, .inl (.inl hL), ?_, ?_⟩
            · unfold atI
              rw [hvl, hjj]
              exact List.getElem?_eq_getElem hjv
            refine hj B H2 env σ tm _ _ ok2 hz fun u2 H3 x3 ok4 r4 => ?_
            cases r4
            obtain ⟨q2, hq2, ok5⟩ := ok4.slotMu he1 rfl
            rw [hv'] at hq2
            cases hq2
            obtain ⟨vs2, hL2, hvl2, ok6⟩ := ok5.takeLst
            have ev : vs2 = vs := by
              have := x3 _ _ hL
              rw [this] at hL2; cases hL2; rfl
            subst ev
            obtain ⟨l, l1, l2⟩ := lev_one (k := k + 1) hvl2 (List.getElem?_eq_getElem hjv) hes
            have ok7 : EnvOk B (del H3 q) (env.set j none) σ ((vs2[jj], k + 1, .lst es) :: (l ++ tm)) := ok6.perm (l1.append_right _)
            obtain ⟨a, ha⟩ := ok7.isRef rfl
            rw [ha] at ok7 ⊢
            obtain ⟨ws, hA, hwl, ok8⟩ := ok7.takeLst
            have haq : a ≠ q := fun z => by rw [z, del_self] at hA; cases hA
            have hA2 : H3 a = some (.lst ws) := by rw [← hA, del_ne haq]
            have hj2l := ixN_lt hj2
            refine ⟨a, ws, n2, j2, rfl, rfl, hA2, by rw [hwl]; exact hj2, ?_⟩
            obtain ⟨l', g1, g2⟩ := lev_one (k := k) hwl (List.getElem?_eq_getElem (show j2 < ws.length by omega)) (List.getElem?_eq_getElem hj2l)
            have ok9 : EnvOk B (del (del H3 q) a) (env.set j none) σ (l' ++ (l ++ tm)) := EnvOk.tail (ok8.perm (g1.append_right _))
            have rw2 : Rp (view (del (del H3 q) a)) w d := by
              have r3 : Rp (view H3) w d := (x2.trans x3).rp rw1
              have nm : ∀ {b : Addr} {u : HO}, isIm u = true → view H3 b = some u → view (del (del H3 q) a) b = some u := fun {b u} im hb => by
                unfold view at hb ⊢
                have b1 : b ≠ a := fun z => by rw [z, hA2] at hb; cases hb; cases im
                have b2 : b ≠ q := fun z => by rw [z, hL2] at hb; cases hb; cases im
                rw [del_ne b1, del_ne b2]; exact hb
              exact r3.immTo (fun b xs im hb => nm im hb) hdi
            have ok10 := (ok9.imm (k := k) rw2 hdi)
            have ok11 : EnvOk B (del (del H3 q) a) (env.set j none) σ (lev k (ws.set j2 w) (es.set j2 d) ++ (l ++ tm)) := ok10.perm ((g2 w d).symm.append_right _)
            have ok12 := ok11.newLst (p := a) (by simp [hwl]) del_self
            rw [upd_del] at ok12
            have ok13 : EnvOk B (upd (del H3 q) a (.lst (ws.set j2 w))) (env.set j none) σ (lev (k + 1) (vs2.set jj (.ref a)) (ds.set jj (.lst (es.set j2 d))) ++ tm) := ok12.perm ((l2 _ _).symm.append_right tm)
            rw [del_upd haq] at ok13
            have ok14 := ok13.newLst (p := q) (by simp [hvl2]) del_self
            rw [upd_del] at ok14
            have evs : vs2.set jj (.ref a) = vs2 := by
              rw [← ha]; exact List.set_getElem_self hjv
            rw [evs, upd_self (by rw [upd_ne (Ne.symm haq)]; exact hL2)] at ok14
            exact p σ _ (ok14.putBack he1 hv')
          · cases h5
        · cases h5
      · cases h5
    · cases h5
  · cases h5
end
end Mir

namespace Mir
open PySem PySem.Spec L2
/-! ### a list's item is taken by a name and changed: x = xs[i]; x.insert(p, v) -/
def Bs.lent (B : Bs) (q : Addr) (o : HO) : Bs := ⟨upd B.h q o, fun a => if a = q then none else B.g a⟩
section
variable {B : Bs} {H : Hp} {env : Env} {σ : St} {tm : List Hold} {k : Nat} {vs : List V} {ds : List D} {q : Addr}
end
section
variable {X : Cx} {e ep o ix o2 : Expr} {mi mp mv : Env → Res D} {k kr : Nat} {pos p pos' pos2 spos apos cpos spos2 : Pos} {mr : Env → Res Ctl} {rest : List Stmt} {x : Str}
end
end Mir

namespace Mir
open PySem PySem.Spec L2
/-! ### sorted, of data that are alike -/
def dLe (a b : PyData) : Bool := !PySem.W.dataLt b a
def isTup1 : PyData → Bool
  | .tuple (_ :: _) => true
  | _ => false
def isOther : PyData → Bool
  | .none => false
  | .tuple _ => false
  | _ => true
def sortB (xs : List PyData) : Bool := xs.all isTup1 || xs.all isOther
theorem sortB_iff {xs : List PyData} (h : sortB xs = true) : PySem.W.Sortable xs := by
  unfold sortB at h
  rw [Bool.or_eq_true, List.all_eq_true, List.all_eq_true] at h
  rcases h with h | h
  · refine .inl fun d hd => ?_
    have := h d hd
    cases d with
    | tuple ys =>
      cases ys with
      | nil => cases this
      | cons y ys => exact ⟨y, ys, rfl⟩
    | _ => cases this
  · refine .inr fun d hd => ?_
    have := h d hd
    cases d with
    | none => cases this
    | tuple ys => cases this
    | _ => exact ⟨(fun z => nomatch z), (fun _ z => nomatch z)⟩
def sortable (ds : List D) : Bool := PyData.canLayAll0 (pyAll ds) && alikeB (pyAll ds) && sortB (pyAll ds) && decide (PyData.depthAll (pyAll ds) ≤ 60)
def srt (ds : List D) : List D := ds.mergeSort fun a b => dLe a.py b.py
abbrev VD := V × D
def srtP (l : List VD) : List VD := l.mergeSort fun a b => dLe a.2.py b.2.py
theorem srtP_snd (l : List VD) : (srtP l).map (·.2) = srt (l.map (·.2)) := List.map_mergeSort (f := fun p : VD => p.2) (r := fun a b : VD => dLe a.2.py b.2.py) (s := fun a b : D => dLe a.py b.py) (l := l) fun a _ b _ => rfl
theorem srtP_perm (l : List VD) : (srtP l).Perm l := List.mergeSort_perm _ _
def rSortDat (K : PySem.W.Frag) : List V → Hp → VK → Prop := fun xs H Q => ∃ (a : Addr) (l : List VD), xs = [.ref a] ∧ SqL K H a (l.map (·.1)) ∧ DpAll K H (l.map (·.1)) (pyAll (l.map (·.2))) ∧ alikeB (pyAll (l.map (·.2))) = true ∧ sortB (pyAll (l.map (·.2))) = true ∧ PyData.depthAll (pyAll (l.map (·.2))) ≤ 60 ∧
  ∀ p, H p = none → Q (.ref p) (upd H p (.lst ((srtP l).map (·.1))))
theorem each_of {l : List VD} : ∀ {us : List Value}, Vals (l.map (·.1)) us → PySem.W.EachIs (fun (v : Value) (p : VD) => RelV p.1 v) us l := by
  induction l with
  | nil => intro us r; cases r; exact .nil
  | cons p l ih => intro us r; cases r with | cons h r => exact .cons h (ih r)
theorem vals_of_each {l : List VD} : ∀ {us : List Value}, PySem.W.EachIs (fun (v : Value) (p : VD) => RelV p.1 v) us l → Vals (l.map (·.1)) us := by
  induction l with
  | nil => intro us r; cases r; exact .nil
  | cons p l ih => intro us r; cases r with | cons h r => exact .cons h (ih r)
theorem depthAll_mem {xs : List PyData} {d : PyData} (h : d ∈ xs) : d.depth ≤ PyData.depthAll xs := by
  induction xs with
  | nil => cases h
  | cons x xs ih =>
    simp only [PyData.depthAll]
    rcases List.mem_cons.mp h with rfl | h
    · exact Nat.le_max_left _ _
    · exact Nat.le_trans (ih h) (Nat.le_max_right _ _)
theorem cr_sortedDat {X : Cx} (hu : X.A.units + 65 < cLine) : CallR X (.builtin "sorted") (rSortDat X.K) := by
  intro pins s σ H xs us Q I r h
  obtain ⟨a, l, rfl, hs, hd, hal, hso, hdep, q⟩ := h
  obtain ⟨its, rv, hl, hz⟩ := I.list hs
  rw [Vals.ref1 r]
  obtain ⟨as, hr⟩ := Dp.readsAll I _ _ its hd rv
  have ep : pyAll (l.map (·.2)) = l.map fun p => p.2.py := by rw [pyAll_map, List.map_map]; rfl
  rw [ep] at hr hal hso hdep
  refine PySem.W.sorted_data (R := fun (v : Value) (p : VD) => RelV p.1 v) (bs := l) (enc := fun p => p.2.py) hl.isList (each_of rv) (PySem.W.readsAll_each (fun p : VD => p.2.py) hr) (fun d h1 d' h2 => (alikeB_iff hal).1 d h1 d' h2) (sortB_iff hso) (by rw [← List.length_map (f := fun p : VD => p.1)]; exact hz) (fun b hb => ?_) fun out ho eo => ?_
  · have := depthAll_mem (List.mem_map_of_mem (f := fun p : VD => p.2.py) hb)
    omega
  · rw [show PySem.W.dataLe false (fun p : VD => p.2.py) = (fun a b => dLe a.2.py b.2.py) from PySem.W.dataLe_eq false _] at eo
    obtain ⟨e, he'⟩ := PyProof.Rows.sortedAll_at s.heap its (List.toArray out)
    have hlen : ((srtP l).map (·.1)).length ≤ sizeLine := by
      rw [List.length_map, (srtP_perm l).length_eq]
      rw [List.length_map] at hz
      exact hz
    exact ⟨.ref _, upd H (s.heap.objs.size + 1) (.lst ((srtP l).map (·.1))), I.laid (t' := s.toks) (fun _ _ => PyProof.Rows.sortedAll_old) (Nat.le_succ _) ⟨hlen, out, e, vals_of_each eo, he'⟩, rfl, q _ (I.hok.fresh (Nat.le_succ _))⟩
theorem zip_fst {vs : List V} {ds : List D} (h : vs.length = ds.length) : (vs.zip ds).map (·.1) = vs := List.map_fst_zip (by omega)
theorem zip_snd {vs : List V} {ds : List D} (h : vs.length = ds.length) : (vs.zip ds).map (·.2) = ds := List.map_snd_zip (by omega)
theorem lev_map {k : Nat} : ∀ l : List VD, lev k (l.map (·.1)) (l.map (·.2)) = l.map fun p => (p.1, k, p.2)
  | [] => rfl
  | p :: l => congrArg (List.cons _) (lev_map l)
def gSort (d : D) : Res D := match d with
  | .lst ds => if sortable ds = true then .ok (.lst (srt ds)) else .bad
  | _ => .bad
section
variable {X : Cx} {e : Expr} {m : Env → Res D} {k : Nat} {cs : List Nat} {pos p : Pos}
/-- sorted(xs), xs a list of things without lists, dicts -/
theorem se_sortB (hu : X.A.units + 65 < cLine) (hg : Gl X "sorted") (hm0 : X.mg "sorted" = none) (h : SB X e m) (he : starEach [e] X.env = (false, eval e X.env) :: starEach [] X.env := by rfl) (hpl : (backTo pos (starEach [] X.env)).any (·.1) = false := by rfl) : SE X (k + 1) [] (.Call (.Name "sorted" p) [e] [] pos) (fun env => m env >>= itemsL >>= immL >>= fun ds => gSort (.lst ds)) := fun B H env σ tm d Q ok hm q => by
  obtain ⟨ds, h1, h2⟩ := bind_ok hm
  obtain ⟨ds', h1, h3⟩ := bind_ok h1
  obtain ⟨x, hx, h4⟩ := bind_ok h1
  unfold immL at h3
  split at h3
  · rename_i him
    cases h3
    unfold itemsL at h4
    split at h4
    · cases h4
      unfold gSort at h2
      dsimp only at h2
      split at h2
      · rename_i hs
        cases h2
        unfold sortable at hs
        simp only [Bool.and_eq_true, decide_eq_true_eq] at hs
        obtain ⟨⟨⟨s1, s2⟩, s3⟩, s4⟩ := hs
        refine wE_of (pe_callB (cr_sortedDat hu) hg hm0 (by decide +kernel) (pa_cons pe_sem pa_nil he) (by decide) (by decide) he hpl) (h B H env σ tm _ _ ok hx fun v H1 x1 ok1 r => ?_)
        cases r with
        | @lst a vs _ hv ra =>
          have hl := ra.length
          have e2 := zip_snd hl
          refine ⟨a, vs.zip ds, rfl, by rw [zip_fst hl]; exact .inl (view_rd hv), by rw [zip_fst hl, e2]; exact ra.dp s1, by rw [e2]; exact s2, by rw [e2]; exact s3, by rw [e2]; exact s4, fun p hp => ?_⟩
          have ok2 := ok1.levs (k := k) ra him
          have ok3 : EnvOk B H1 env σ (lev k ((srtP (vs.zip ds)).map (·.1)) ((srtP (vs.zip ds)).map (·.2)) ++ tm) := by
            refine ok2.perm (List.Perm.append_right _ ?_)
            have := lev_map (k := k) (vs.zip ds)
            rw [zip_fst hl, e2] at this
            rw [this, lev_map]
            exact ((srtP_perm _).map _).symm
          have ok4 := ok3.newLst (by simp) hp
          rw [srtP_snd, e2] at ok4
          exact q _ _ (x1.trans (Ext.upd hp)) ok4
      · cases h2
    · cases h4
  · cases h3
end
/-! what it is, for data with a Lean type -/
section
variable {α : Type} [DecidableEq α] [Dat α]
def sorted (xs : List α) : List α := xs.mergeSort fun a b => !Dat.lt b a
theorem srt_enc (xs : List α) : srt (xs.map Dat.enc) = (sorted xs).map Dat.enc := by
  unfold srt sorted
  refine (List.map_mergeSort (f := Dat.enc) (l := xs) fun a _ b _ => ?_).symm
  unfold dLe
  rw [Dat.dlt]
theorem sorted_perm (xs : List α) : (sorted xs).Perm xs := List.mergeSort_perm _ _
theorem sorted_pw (xs : List α) : (sorted xs).Pairwise fun a b => Dat.lt b a = false := by
  have := List.pairwise_mergeSort (le := fun a b : α => !Dat.lt b a) (fun a b c h1 h2 => ?_) (fun a b => ?_) xs
  · exact this.imp fun h => by simpa using h
  · simp only [Bool.not_eq_true'] at *
    cases h : Dat.lt c a with
    | false => rfl
    | true =>
      cases h3 : Dat.lt b c with
      | true => have := Dat.tr _ _ _ h3 h; rw [this] at h1; cases h1
      | false =>
        have := Dat.tot c b h2 h3
        subst this
        rw [h] at h1; cases h1
  · cases h : Dat.lt b a with
    | false => simp
    | true => simp [Dat.asy _ _ h]
theorem sorted_uniq {xs ys : List α} (h : xs.Perm ys) (h1 : xs.Pairwise fun a b => Dat.lt b a = false) (h2 : ys.Pairwise fun a b => Dat.lt b a = false) : xs = ys := by
  induction xs generalizing ys with
  | nil => exact h.nil_eq
  | cons x xs ih =>
    cases ys with
    | nil => exact h.symm.nil_eq.symm
    | cons y ys =>
      have p1 := List.pairwise_cons.mp h1
      have p2 := List.pairwise_cons.mp h2
      have e : x = y := by
        have m1 := h.mem_iff.mp (List.mem_cons_self (a := x) (l := xs))
        have m2 := h.mem_iff.mpr (List.mem_cons_self (a := y) (l := ys))
        rcases List.mem_cons.mp m1 with e | m1
        · exact e
        · rcases List.mem_cons.mp m2 with e | m2
          · exact e.symm
          · exact Dat.tot x y (p2.1 x m1) (p1.1 y m2)
      subst e
      rw [ih h.cons_inv p1.2 p2.2]
/-- a rising list is the sorted one -/
theorem sorted_eq {xs ys : List α} (h : xs.Perm ys) (h1 : ys.Pairwise fun a b => Dat.lt b a = false) : sorted xs = ys := sorted_uniq ((sorted_perm xs).trans h) (sorted_pw xs) h1
theorem gSort_enc (xs : List α) (h : Dat.dep α ≤ 60) (hs : sortB (pyAll (xs.map (Dat.enc (α := α)))) = true) : gSort (.lst (xs.map Dat.enc)) = .ok (.lst ((sorted xs).map Dat.enc)) := by
  unfold gSort sortable
  dsimp only
  rw [layAll_enc, alikeB_enc, hs, if_pos (by simpa using Nat.le_trans (depthAll_enc xs) h), srt_enc]
end
end Mir

namespace Mir
open PySem PySem.Spec L2
/-! ### sorted(d), list(d): a dict's keys, be they tuples or not -/
section
variable {prog : Program} {w : World} {A : Around} {E : Value → Shared → Prop} {s : Shared}
end
/-- the keys as they stand in the heap -/
structure KeysAt (X : Cx) (H : Hp) (s : Shared) (a : Addr) (l : List VD) : Prop where
  ex : ∃ es ep, s.heap.DictRaw a es ep ∧ es.size = l.length ∧ Vals (l.map (·.1)) (es.toList.map (·.key))
  lo : (a == sysModules) = false
  few : l.length ≤ sizeLine
  rp : RpAll (view H) (l.map (·.1)) (l.map (·.2))
section
variable {X : Cx} {e : Expr} {m : Env → Res D} {k : Nat} {pos p : Pos}
end
end Mir

namespace Mir
open PySem PySem.Spec L2
@[simp] theorem e_tNil (k : Nat) (env : Mir.Env) : Mir.tNil k [] env = .ok env := rfl
@[simp] theorem e_tCons (t : Nat → D → Mir.Env → Res Mir.Env) (u : Nat → List D → Mir.Env → Res Mir.Env) (k : Nat) (d : D) (ds : List D) (env : Mir.Env) : Mir.tCons t u k (d :: ds) env = (t k d env >>= fun e => u k ds e) := rfl
@[simp] theorem e_tTupT (n : Nat) (u : Nat → List D → Mir.Env → Res Mir.Env) (k : Nat) (ds : List D) (env : Mir.Env) : tTupT n u k (.tup ds) env = if ds.length = n then u (k - 1) ds env else .bad := rfl
@[simp] theorem e_tTup2 (u : Nat → List D → Mir.Env → Res Mir.Env) (k : Nat) (x : Int × Int) (env : Mir.Env) : tTupT 2 u k (t2 x) env = u (k - 1) [.int x.1, .int x.2] env := rfl
@[simp] theorem e_tTup3 (u : Nat → List D → Mir.Env → Res Mir.Env) (k : Nat) (x : T3) (env : Mir.Env) : tTupT 3 u k (t3 x) env = u (k - 1) [.int x.a, .int x.b, .int x.c] env := rfl
/-! ### dicts with a Lean type: rows of keys and values -/
section
variable {κ β α : Type} [DecidableEq κ]
def lk (p : List (κ × β)) (k : κ) : Option β := (p.find? fun x => decide (x.1 = k)).map (·.2)
def pt (p : List (κ × β)) (k : κ) (v : β) : List (κ × β) := if k ∈ p.map (·.1) then p.map (fun x => if x.1 = k then (x.1, v) else x) else p ++ [(k, v)]
theorem lk_nil (k : κ) : lk ([] : List (κ × β)) k = none := rfl
theorem lk_cons (x : κ × β) (p : List (κ × β)) (k : κ) : lk (x :: p) k = if x.1 = k then some x.2 else lk p k := by
  unfold lk
  rw [List.find?_cons]
  by_cases e : x.1 = k <;> simp [e]
theorem lk_none {p : List (κ × β)} {k : κ} : lk p k = none ↔ k ∉ p.map (·.1) := by
  induction p with
  | nil => simp [lk]
  | cons x p ih =>
    rw [lk_cons, List.map_cons, List.mem_cons]
    by_cases e : x.1 = k
    · simp [e]
    · have e2 : ¬ k = x.1 := fun z => e z.symm
      simp [e, e2, ih]
theorem lk_app (p q : List (κ × β)) (k : κ) : lk (p ++ q) k = (lk p k).or (lk q k) := by
  induction p with
  | nil => rfl
  | cons x p ih =>
    rw [List.cons_append, lk_cons, lk_cons, ih]
    split <;> rfl
theorem pt_in {p : List (κ × β)} {k : κ} (v : β) (h : k ∈ p.map (·.1)) : pt p k v = p.map fun x => if x.1 = k then (x.1, v) else x := if_pos h
theorem pt_out {p : List (κ × β)} {k : κ} (v : β) (h : k ∉ p.map (·.1)) : pt p k v = p ++ [(k, v)] := if_neg h
theorem lk_pt (p : List (κ × β)) (k : κ) (v : β) (k2 : κ) : lk (pt p k v) k2 = if k2 = k then some v else lk p k2 := by
  by_cases h : k ∈ p.map (·.1)
  · rw [pt_in v h]
    induction p with
    | nil => simp at h
    | cons x p ih =>
      rw [List.map_cons, lk_cons, lk_cons]
      by_cases e : x.1 = k
      · rw [if_pos e]
        by_cases e2 : k2 = k
        · rw [if_pos e2, if_pos (by rw [e2]; exact e)]
        · rw [if_neg e2, if_neg (by rw [e]; exact fun z => e2 z.symm), if_neg (by rw [e]; exact fun z => e2 z.symm)]
          by_cases h4 : k ∈ p.map (·.1)
          · have := ih h4
            rw [if_neg e2] at this
            exact this
          · have h5 : (p.map fun x => if x.1 = k then (x.1, v) else x) = p := by
              conv => rhs; rw [← List.map_id p]
              refine List.map_congr_left fun y hy => ?_
              rw [if_neg fun z : y.1 = k => h4 (z ▸ List.mem_map_of_mem hy)]; rfl
            rw [h5]
      · have hk2 : k ∈ p.map (·.1) := by
          rcases List.mem_cons.mp h with h | h
          · exact absurd h.symm e
          · exact h
        rw [if_neg e]
        by_cases e2 : x.1 = k2
        · rw [if_pos e2, if_pos e2, if_neg fun z => e (e2.trans z)]
        · rw [if_neg e2, if_neg e2]
          exact ih hk2
  · rw [pt_out v h, lk_app, lk_cons, lk_nil]
    by_cases e2 : k2 = k
    · subst e2
      rw [lk_none.mpr h]; simp
    · have e3 : ¬ k = k2 := fun z => e2 z.symm
      simp [e2, e3]
theorem pt_keys (p : List (κ × β)) (k : κ) (v : β) : (pt p k v).map (·.1) = if k ∈ p.map (·.1) then p.map (·.1) else p.map (·.1) ++ [k] := by
  by_cases h : k ∈ p.map (·.1)
  · rw [pt_in v h, if_pos h, List.map_map]
    refine List.map_congr_left fun x _ => ?_
    by_cases e : x.1 = k <;> simp [e]
  · rw [pt_out v h, if_neg h]; simp
theorem pt_len (p : List (κ × β)) (k : κ) (v : β) : (pt p k v).length ≤ p.length + 1 := by
  by_cases h : k ∈ p.map (·.1)
  · rw [pt_in v h]; simp
  · rw [pt_out v h]; simp
theorem pt_nodup {p : List (κ × β)} (h : (p.map (·.1)).Nodup) (k : κ) (v : β) : ((pt p k v).map (·.1)).Nodup := by
  rw [pt_keys]
  split
  · exact h
  · rename_i hk
    refine List.nodup_append.mpr ⟨h, by simp, fun a ha b hb e => ?_⟩
    rw [List.mem_singleton.mp hb] at e
    exact hk (e ▸ ha)
theorem pt_mem (p : List (κ × β)) (k : κ) (v : β) (j : κ) : j ∈ (pt p k v).map (·.1) ↔ j ∈ p.map (·.1) ∨ j = k := by
  rw [pt_keys]
  split
  · rename_i h
    exact ⟨.inl, fun z => z.elim id fun z => z ▸ h⟩
  · simp
/-- many puts -/
def pts (key : α → κ) (val : α → β) (xs : List α) (p : List (κ × β)) : List (κ × β) := xs.foldl (fun p x => pt p (key x) (val x)) p
variable {key : α → κ} {val : α → β}
theorem pts_len (xs : List α) (p : List (κ × β)) : (pts key val xs p).length ≤ p.length + xs.length := by
  unfold pts
  induction xs generalizing p with
  | nil => exact Nat.le_refl _
  | cons x xs ih =>
    have := ih (pt p (key x) (val x))
    have := pt_len p (key x) (val x)
    rw [List.foldl_cons, List.length_cons]; omega
theorem pts_nodup (xs : List α) {p : List (κ × β)} (h : (p.map (·.1)).Nodup) : ((pts key val xs p).map (·.1)).Nodup := by
  unfold pts
  induction xs generalizing p with
  | nil => exact h
  | cons x xs ih => exact ih (pt_nodup h _ _)
theorem pts_mem (xs : List α) (p : List (κ × β)) (j : κ) : j ∈ (pts key val xs p).map (·.1) ↔ j ∈ p.map (·.1) ∨ ∃ x ∈ xs, key x = j := by
  unfold pts
  induction xs generalizing p with
  | nil => simp
  | cons x xs ih =>
    rw [List.foldl_cons, ih, pt_mem]
    constructor
    · rintro ((h | h) | ⟨y, hy, h⟩)
      · exact .inl h
      · exact .inr ⟨x, List.mem_cons_self, h.symm⟩
      · exact .inr ⟨y, List.mem_cons_of_mem _ hy, h⟩
    · rintro (h | ⟨y, hy, h⟩)
      · exact .inl (.inl h)
      · rcases List.mem_cons.mp hy with e | hy
        · exact .inl (.inr (by rw [← h, e]))
        · exact .inr ⟨y, hy, h⟩
theorem pts_out (xs : List α) (p : List (κ × β)) (k : κ) (h : ∀ x ∈ xs, key x ≠ k) : lk (pts key val xs p) k = lk p k := by
  unfold pts
  induction xs generalizing p with
  | nil => rfl
  | cons x xs ih =>
    rw [List.foldl_cons, ih _ fun y hy => h y (List.mem_cons_of_mem _ hy), lk_pt, if_neg fun e => h x List.mem_cons_self e.symm]
theorem pts_in (xs : List α) (p : List (κ × β)) (k : κ) (v : β) (h : ∀ x ∈ xs, key x = k → val x = v) (hx : (∃ x ∈ xs, key x = k) ∨ lk p k = some v) : lk (pts key val xs p) k = some v := by
  unfold pts
  induction xs generalizing p with
  | nil =>
    rcases hx with ⟨x, hx, _⟩ | hx
    · cases hx
    · exact hx
  | cons x xs ih =>
    rw [List.foldl_cons]
    refine ih _ (fun y hy => h y (List.mem_cons_of_mem _ hy)) ?_
    by_cases e : key x = k
    · right
      rw [lk_pt, if_pos e.symm, h x List.mem_cons_self e]
    · rcases hx with ⟨y, hy, e2⟩ | hx
      · left
        rcases List.mem_cons.mp hy with e3 | hy
        · rw [e3] at e2; exact absurd e2 e
        · exact ⟨y, hy, e2⟩
      · right
        rw [lk_pt, if_neg fun z => e z.symm]; exact hx
theorem pts_app (xs ys : List α) (p : List (κ × β)) : pts key val (xs ++ ys) p = pts key val ys (pts key val xs p) := List.foldl_append
end
/-! ### as data -/
section
variable {κ κ' β : Type} [DecidableEq κ] [DecidableEq κ'] {g : κ → κ'} (hg : ∀ a b, g a = g b → a = b) (f : β → D)
include hg
theorem dFind_map (p : List (κ × β)) (k : κ) : dFind (p.map fun x => g x.1) (p.map fun x => f x.2) (g k) = (lk p k).map f := by
  induction p with
  | nil => rfl
  | cons x p ih =>
    rw [lk_cons]
    show (if g x.1 = g k then some (f x.2) else dFind _ _ _) = _
    by_cases e : x.1 = k
    · rw [if_pos (by rw [e]), if_pos e]; rfl
    · rw [if_neg fun z => e (hg _ _ z), if_neg e, ih]
theorem g_mem (p : List (κ × β)) (k : κ) : g k ∈ (p.map fun x => g x.1) ↔ k ∈ p.map (·.1) := by
  simp only [List.mem_map]
  constructor
  · rintro ⟨x, hx, e⟩
    exact ⟨x, hx, hg _ _ e⟩
  · rintro ⟨x, hx, e⟩
    exact ⟨x, hx, by rw [e]⟩
theorem dPutD_map (p : List (κ × β)) (k : κ) (v : β) : dPutD (p.map fun x => g x.1) (p.map fun x => f x.2) (g k) (f v) = (p.map fun x => if x.1 = k then (x.1, v) else x).map fun x => f x.2 := by
  induction p with
  | nil => rfl
  | cons x p ih =>
    show (if g x.1 = g k then f v else f x.2) :: dPutD _ _ _ _ = _
    rw [ih, List.map_cons, List.map_cons]
    by_cases e : x.1 = k
    · rw [if_pos (by rw [e]), if_pos e]
    · rw [if_neg fun z => e (hg _ _ z), if_neg e]
theorem dPut_map (p : List (κ × β)) (k : κ) (v : β) : dPutK (p.map fun x => g x.1) (g k) = (pt p k v).map (fun x => g x.1) ∧ dPutV (p.map fun x => g x.1) (p.map fun x => f x.2) (g k) (f v) = (pt p k v).map fun x => f x.2 := by
  unfold dPutK dPutV
  by_cases h : k ∈ p.map (·.1)
  · rw [if_pos ((g_mem hg p k).mpr h), if_pos ((g_mem hg p k).mpr h), pt_in v h, dPutD_map hg]
    refine ⟨?_, rfl⟩
    rw [List.map_map]
    refine List.map_congr_left fun x _ => ?_
    by_cases e : x.1 = k <;> simp [e]
  · rw [if_neg fun z => h ((g_mem hg p k).mp z), if_neg fun z => h ((g_mem hg p k).mp z), pt_out v h]
    simp
end
section
variable {β : Type} (f : β → D)
def encK (p : List (Int × β)) : D := .dk (p.map fun x => .inl x.1) (p.map fun x => f x.2)
def k2 (k : Int × Int) : List Key := [.inl k.1, .inl k.2]
theorem k2_inj (a b : Int × Int) (h : k2 a = k2 b) : a = b := by
  unfold k2 at h
  injection h with h1 h2
  injection h2 with h2 _
  exact Prod.ext (Sum.inl.inj h1) (Sum.inl.inj h2)
theorem inl_inj (a b : Int) (h : (Sum.inl a : Key) = Sum.inl b) : a = b := Sum.inl.inj h
def encK2 (p : List ((Int × Int) × β)) : D := .dt (p.map fun x => k2 x.1) (p.map fun x => f x.2)
theorem encK2_nil : D.dt [] [] = encK2 f [] := rfl
theorem i_K2 (c : Prop) [Decidable c] (p q : List ((Int × Int) × β)) : (if c then encK2 f p else encK2 f q) = encK2 f (if c then p else q) := by split <;> rfl
theorem encP_K (p : Pol) : encP p = encK D.int p := rfl
theorem dGet_K (p : List (Int × β)) (k : Int) : dGet (encK f p) (.int k) = some ((lk p k).map f) := congrArg some (dFind_map (g := fun i : Int => (Sum.inl i : Key)) inl_inj f p k)
theorem dGet_K2 (p : List ((Int × Int) × β)) (k : Int × Int) : dGet (encK2 f p) (t2 k) = some ((lk p k).map f) := congrArg some (dFind_map (g := k2) k2_inj f p k)
theorem dSet_K (p : List (Int × β)) (k : Int) (v : β) (h : p.length < sizeLine) : dSet (encK f p) (.int k) (f v) = .ok (encK f (pt p k v)) := by
  show (if (p.map fun x => f x.2).length < sizeLine ∧ _ then _ else _) = _
  rw [if_pos ⟨by rw [List.length_map]; exact h, by simp⟩]
  obtain ⟨h1, h2⟩ := dPut_map (g := fun i : Int => (Sum.inl i : Key)) inl_inj f p k v
  show Res.ok (D.dk _ _) = _
  rw [h1, h2]; rfl
theorem dSet_K2 (p : List ((Int × Int) × β)) (k : Int × Int) (v : β) (h : p.length < sizeLine) : dSet (encK2 f p) (t2 k) (f v) = .ok (encK2 f (pt p k v)) := by
  show (if (p.map fun x => f x.2).length < sizeLine ∧ _ then _ else _) = _
  rw [if_pos ⟨by rw [List.length_map]; exact h, by simp⟩]
  obtain ⟨h1, h2⟩ := dPut_map (g := k2) k2_inj f p k v
  show Res.ok (D.dt (dPutK _ (k2 k)) (dPutV _ _ (k2 k) (f v))) = _
  rw [h1, h2]; rfl
theorem gDGet_K {p : List (Int × β)} {k : Int} {v : β} (h : lk p k = some v) : gDGet (encK f p) (.int k) = .ok (f v) := by
  unfold gDGet; rw [dGet_K, h]; rfl
theorem gDGet_K2 {p : List ((Int × Int) × β)} {k : Int × Int} {v : β} (h : lk p k = some v) : gDGet (encK2 f p) (t2 k) = .ok (f v) := by
  unfold gDGet; rw [dGet_K2, h]; rfl
theorem gDNotIn_K (p : List (Int × β)) (k : Int) : gDNotIn (.int k) (encK f p) = .ok (.bl (!(lk p k).isSome)) := by
  unfold gDNotIn; rw [dGet_K]; cases lk p k <;> rfl
theorem gDNotIn_K2 (p : List ((Int × Int) × β)) (k : Int × Int) : gDNotIn (t2 k) (encK2 f p) = .ok (.bl (!(lk p k).isSome)) := by
  unfold gDNotIn; rw [dGet_K2]; cases lk p k <;> rfl
theorem gDIn_K2 (p : List ((Int × Int) × β)) (k : Int × Int) : gDIn (t2 k) (encK2 f p) = .ok (.bl (lk p k).isSome) := by
  unfold gDIn; rw [dGet_K2]; cases lk p k <;> rfl
theorem immAt_K (h : ∀ b, (f b).imm = true) (p : List (Int × β)) : immAt 1 (encK f p) = true := by
  show immAt 1 (.dk _ _) = true
  unfold immAt
  simp [h]
theorem immAt_K2 (h : ∀ b, (f b).imm = true) (p : List ((Int × Int) × β)) : immAt 1 (encK2 f p) = true := by
  show immAt 1 (.dt _ _) = true
  unfold immAt
  simp [h]
end
theorem mem_intsOf (is : List Int) : intsOf (is.map Sum.inl) = some is := by
  induction is with
  | nil => rfl
  | cons i is ih => show (intsOf (is.map Sum.inl)).map _ = _; rw [ih]; rfl
theorem gSortD_K {β : Type} (f : β → D) (p : List (Int × β)) (h : p.length < 64) : gSortD (encK f p) = .ok (.lst ((sortI (p.map (·.1))).map D.int)) := by
  have e : (p.map fun x => (Sum.inl x.1 : Key)) = (p.map (·.1)).map Sum.inl := by rw [List.map_map]; rfl
  show (match intsOf (p.map fun x => (Sum.inl x.1 : Key)) with | some is => if is.length < 64 then Res.ok (D.lst ((sortI is).map D.int)) else .bad | none => Res.bad) = _
  rw [e, mem_intsOf]
  exact if_pos (by rw [List.length_map]; exact h)
/-- drawings -/
abbrev Drw := List (List T3)
def encR (r : List T3) : D := .lst (r.map t3)
def encD (ds : Drw) : D := .lst (ds.map encR)
theorem lift_perm {α β : Type} (f : α → β) : ∀ {ys : List β} {C : List α}, ys.Perm (C.map f) → ∃ L : List α, L.Perm C ∧ L.map f = ys := by
  intro ys C h
  generalize e : C.map f = zs at h
  induction h generalizing C with
  | nil => exact ⟨C, .refl _, e⟩
  | @cons x l1 l2 _ ih =>
    cases C with
    | nil => cases e
    | cons c C =>
      injection e with e1 e2
      obtain ⟨L, h1, h2⟩ := ih e2
      exact ⟨c :: L, h1.cons c, by rw [List.map_cons, e1, h2]⟩
  | swap x y l =>
    cases C with
    | nil => cases e
    | cons c C =>
      cases C with
      | nil => injection e with _ e; cases e
      | cons d C =>
        injection e with e1 e2
        injection e2 with e2 e3
        exact ⟨d :: c :: C, .swap c d C, by rw [List.map_cons, List.map_cons, e1, e2, e3]⟩
  | trans _ _ ih1 ih2 =>
    obtain ⟨L, h1, h2⟩ := ih2 e
    obtain ⟨L2, h3, h4⟩ := ih1 h2
    exact ⟨L2, h3.trans h1, h4⟩
end Mir

namespace Mir
open PySem PySem.Spec L2
/-! ### stores, reckoned -/
def putIm (j k : Nat) (cs : List Nat) (d y : D) (ds : List D) (env : Mir.Env) : Res Ctl := match y with
  | .int n => (match ixN ds.length n with | some jj => .ok (.nx ((clear env cs).set j (some (k + 1, .lst (ds.set jj d))))) | none => .bad)
  | _ => .bad
@[simp] theorem e_mPutI (j k : Nat) (cs : List Nat) (mv mi : Mir.Env → Res D) (env : Mir.Env) : mPutI j k cs mv mi env = (mv env >>= fun d => mi (clear env cs) >>= fun y => atL (clear env cs) j (k + 1) >>= fun ds => putIm j k cs d y ds env) := rfl
theorem ixN_nat {n i : Nat} (h : i < n) : ixN n (i : Int) = some i := by
  unfold ixN
  simp [h]
theorem putIm_nat {α : Type} (f : α → D) {j k : Nat} {cs : List Nat} {v : α} {i : Nat} {xs : List α} {env : Mir.Env} (h : i < xs.length) : putIm j k cs (f v) (.int i) (xs.map f) env = .ok (.nx ((clear env cs).set j (some (k + 1, .lst ((xs.set i v).map f))))) := by
  unfold putIm
  dsimp only
  rw [List.length_map, ixN_nat h, List.map_set]
def putIIm (j k : Nat) (d y z : D) (ds : List D) (env : Mir.Env) : Res Ctl := match y, z with
  | .int n, .int n2 => (match ixN ds.length n with
    | some jj => (match ds[jj]? with
      | some (.lst es) => (match ixN es.length n2 with
        | some j2 => if d.imm = true then .ok (.nx (env.set j (some (k + 2, .lst (ds.set jj (.lst (es.set j2 d))))))) else .bad
        | none => .bad)
      | _ => .bad)
    | none => .bad)
  | _, _ => .bad
@[simp] theorem e_mPutII (j k : Nat) (mv mi mj : Mir.Env → Res D) (env : Mir.Env) : mPutII j k mv mi mj env = (mv env >>= fun d => mi env >>= fun y => mj env >>= fun z => atL env j (k + 2) >>= fun ds => putIIm j k d y z ds env) := rfl
theorem putIIm_nat {α : Type} (f : α → D) (hf : ∀ a, (f a).imm = true) {j k : Nat} {v : α} {a b : Nat} {T : List (List α)} {r : List α} {env : Mir.Env} (ha : T[a]? = some r) (hb : b < r.length) : putIIm j k (f v) (.int a) (.int b) (T.map fun r => .lst (r.map f)) env = .ok (.nx (env.set j (some (k + 2, .lst ((T.set a (r.set b v)).map fun r => .lst (r.map f)))))) := by
  have hal := (List.getElem?_eq_some_iff.mp ha).1
  unfold putIIm
  dsimp only
  rw [List.length_map, ixN_nat hal]
  dsimp only
  rw [List.getElem?_map, ha]
  dsimp only [Option.map]
  rw [List.length_map, ixN_nat hb]
  dsimp only
  rw [if_pos (hf v), List.map_set, List.map_set]
theorem gRep_one {n : Nat} (d : D) (hd : d.imm = true) (h : n ≤ 1000) : gRep (.lst [d]) (.int n) = .ok (.lst (List.replicate n d)) := by
  unfold gRep
  dsimp only
  rw [if_pos ⟨by simp [hd], by omega, by omega, by simp; exact sizeLine_big (by omega)⟩]
  congr 2
  simp only [Int.toNat_natCast]
  induction n with
  | zero => rfl
  | succ n ih => rw [List.replicate_succ, List.flatten_cons, ih (by omega), List.replicate_succ]; rfl
abbrev Mat := List (List Int)
def encM (T : Mat) : D := .lst (T.map fun r => .lst (r.map D.int))
/-! ### a name that is free -/
theorem nodup_sub_len {α : Type} [DecidableEq α] : ∀ {l m : List α}, l.Nodup → (∀ x ∈ l, x ∈ m) → l.length ≤ m.length
  | [], _, _, _ => Nat.zero_le _
  | x :: l, m, h, hs => by
    have h2 := List.nodup_cons.mp h
    have hx := hs x List.mem_cons_self
    have := nodup_sub_len (l := l) (m := m.erase x) h2.2 fun y hy => (List.mem_erase_of_ne fun e : y = x => h2.1 (by rw [← e]; exact hy)).mpr (hs y (List.mem_cons_of_mem _ hy))
    rw [List.length_erase_of_mem hx] at this
    have hp := List.length_pos_of_mem hx
    rw [List.length_cons]; omega
theorem perm_sum {xs ys : List Int} (h : xs.Perm ys) : xs.sum = ys.sum := by
  induction h with
  | nil => rfl
  | cons x _ ih => simp [ih]
  | swap x y l => simp; omega
  | trans _ _ h1 h2 => exact h1.trans h2
theorem intsD_map (xs : List Int) : intsD? (xs.map D.int) = some xs := by
  induction xs with
  | nil => rfl
  | cons x xs ih => show (intsD? (xs.map D.int)).map _ = _; rw [ih]; rfl
theorem gSum_int (xs : List Int) : gSum (.lst (xs.map D.int)) = .ok (.int xs.sum) := by
  unfold gSum
  simp only [intsD_map]
theorem wloop_succ (t : Mir.Env → Res Bool) (body : Mir.Env → Res Ctl) (fg : List Nat) (n : Nat) (env : Mir.Env) : wloop t body fg (n + 1) env = (t env >>= fun b => if b then body env >>= fun c => match c with
      | .nx e => wloop t body fg n (clear e fg)
      | .ct e => wloop t body fg n (clear e fg)
      | .bk e => .ok (.nx (clear e fg))
      | .rt d => .ok (.rt d)
    else .ok (.nx env)) := rfl
theorem gIn_int (x : Int) (xs : List Int) : gIn (.int x) (.lst (xs.map D.int)) = .ok (.bl (decide (x ∈ xs))) := gIn_enc x xs (by decide)
theorem gNotIn_int (x : Int) (xs : List Int) : gNotIn (.int x) (.lst (xs.map D.int)) = .ok (.bl (!decide (x ∈ xs))) := gNotIn_enc x xs (by decide)
end Mir

namespace Mir
open PySem PySem.Spec L2
/-! ### drawings, rows, tables: the mirror's operations -/
@[simp] theorem D_items (ds : Drw) : itemsL (encD ds) = .ok (ds.map encR) := rfl
@[simp] theorem D_len (ds : Drw) : gLen (encD ds) = .ok (.int ds.length) := by unfold encD; simp
@[simp] theorem D_isi (ds : Drw) : isi .list (encD ds) = true := rfl
@[simp] theorem D_isOb (ds : Drw) : isOb (encD ds) = false := rfl
@[simp] theorem R_items (r : List T3) : itemsL (encR r) = .ok (r.map t3) := rfl
@[simp] theorem R_len (r : List T3) : gLen (encR r) = .ok (.int r.length) := by unfold encR; simp
@[simp] theorem R_isi (r : List T3) : isi .list (encR r) = true := rfl
@[simp] theorem R_isOb (r : List T3) : isOb (encR r) = false := rfl
@[simp] theorem R_tru (r : List T3) : gTru (encR r) = .ok (!r.isEmpty) := by unfold encR; simp
@[simp] theorem M_items (T : Mat) : itemsL (encM T) = .ok (T.map fun r => .lst (r.map D.int)) := rfl
@[simp] theorem M_len (T : Mat) : gLen (encM T) = .ok (.int T.length) := by unfold encM; simp
@[simp] theorem M_isi (T : Mat) : isi .list (encM T) = true := rfl
@[simp] theorem M_isOb (T : Mat) : isOb (encM T) = false := rfl
theorem ofD (ds : Drw) : D.lst (ds.map encR) = encD ds := rfl
theorem gIx_M {T : Mat} {i : Nat} {r : List Int} (h : T[i]? = some r) : gIx (encM T) (.int i) = .ok (.lst (r.map D.int)) := gIx_map (f := fun r : List Int => D.lst (r.map D.int)) h
theorem gIx_I {r : List Int} {i : Nat} {x : Int} (h : r[i]? = some x) : gIx (.lst (r.map D.int)) (.int i) = .ok (.int x) := gIx_map h
@[simp] theorem immAt_2D (ds : Drw) : immAt 2 (encD ds) = true := by
  unfold encD
  rw [show (2 : Nat) = 1 + 1 from rfl, immAt_l]
  induction ds with
  | nil => rfl
  | cons r ds ih =>
    rw [List.map_cons, immAtL, ih]
    show (immAt 1 (.lst (r.map t3)) && true) = true
    simp
@[simp] theorem immAt_2M (T : Mat) : immAt 2 (encM T) = true := by
  unfold encM
  rw [show (2 : Nat) = 1 + 1 from rfl, immAt_l]
  induction T with
  | nil => rfl
  | cons r T ih =>
    rw [List.map_cons, immAtL, ih]
    simp
@[simp] theorem immAt_1R (r : List T3) : immAt 1 (encR r) = true := by unfold encR; simp
@[simp] theorem imm_R (r : List T3) : (encR r).imm = false := by unfold encR; simp [D.imm]
theorem putIIm_M {j k : Nat} {v : Int} {a b : Nat} {T : Mat} {r : List Int} {env : Mir.Env} (ha : T[a]? = some r) (hb : b < r.length) : putIIm j k (.int v) (.int a) (.int b) (T.map fun r => .lst (r.map D.int)) env = .ok (.nx (env.set j (some (k + 2, encM (T.set a (r.set b v)))))) := putIIm_nat D.int (fun _ => rfl) ha hb
@[simp] theorem atL_M (T : Mat) (env : Mir.Env) (j k : Nat) (h : env[j]? = some (some (k, encM T))) : atL env j k = .ok (T.map fun r => .lst (r.map D.int)) := by
  unfold atL; rw [h]; simp [encM]
@[simp] theorem atL_D (ds : Drw) (env : Mir.Env) (j k : Nat) (h : env[j]? = some (some (k, encD ds))) : atL env j k = .ok (ds.map encR) := by
  unfold atL; rw [h]; simp [encD]
theorem e_mLc (mi : Mir.Env → Res (List D)) (t : Nat → D → Mir.Env → Res Mir.Env) (mt : Mir.Env → Res Bool) (me : Mir.Env → Res D) (own : List Nat) (env : Mir.Env) : mLc mi t mt me own env = (chk (noOwn own env) >>= fun _ => mi env >>= fun ds => lcLoop t mt me env ds >>= fun ys => if ys.length ≤ sizeLine then .ok (.lst ys) else .bad) := rfl
@[simp] theorem noOwn_nil (env : Mir.Env) : noOwn [] env = true := rfl
@[simp] theorem noOwn_cons (i : Nat) (is : List Nat) (env : Mir.Env) : noOwn (i :: is) env = ((match env[i]? with | some none => true | _ => false) && noOwn is env) := rfl
end Mir

namespace Mir
open PySem PySem.Spec L2
section
variable {X : Cx} {e a b tg it o elt : Expr} {m ma mb me mk mx : Env → Res D} {k kr : Nat} {cs : List Nat} {pos p p2 cpos apos cpos2 apos2 lp : Pos}
/-! ### list(range(n)) -/
/-! ### [.. for x in d.values()] -/
end
end Mir

namespace Mir
open PySem PySem.Spec L2
/-! ### d.setdefault(k, []).append(x) -/
section
variable {X : Cx} {kr : Nat} {o e x : Expr} {pos apos cpos apos2 cpos2 lp : Pos} {mk mx : Env → Res D}
end
end Mir

namespace Mir
open PySem PySem.Spec PyProof.Rows L2
section
variable {P : Program} {w : World} {A : Around} {E : Value → Shared → Prop} {s : Shared}
end
end Mir
namespace Mir
open PySem PySem.Spec L2
theorem sortI_strict {xs : List Int} (h : xs.Nodup) : (sortI xs).Pairwise (· < ·) := by
  have h1 := sortI_sorted xs
  have h2 : (sortI xs).Nodup := (sortI_perm xs).nodup_iff.mpr h
  exact (h1.and h2).imp fun ⟨a, b⟩ => by omega
section
variable {X : Cx} {e : Expr} {m : Env → Res D} {k : Nat} {pos p p2 pos2 : Pos}
end
end Mir

namespace Mir
open PySem PySem.Spec L2
/-! ### insert into a drawing's row; groups -/
end Mir

namespace Mir
open PySem PySem.Spec L2
/-! ### for a, b in call().items(): dicts of tuple keys -/
section
variable {P : Program} {w : World} {K : PySem.W.Frag} {tg : Expr} {d : Addr} {o : Obj} {es : Array DictEntry} {ep : Nat}
end
section
variable {X : Cx} {tg e : Expr} {td : TE} {apos cpos : Pos}
end
section
variable {X : Cx} {o : Expr} {m : Env → Res D} {kr : Nat} {pos cpos apos : Pos} {m1 : Env → Res Ctl}
end
end Mir

namespace Mir
open PySem PySem.Spec L2
/-! ### d.setdefault(k, []).append(x): keys that are tuples -/
section
variable {X : Cx} {pins : List (Addr × Obj)} {σ : St} {H : Hp} {s : Shared} {a b : Addr} {r : Value} {d : V} {k : List Key} {A : Around} {E : Value → Shared → Prop}
end
section
variable {X : Cx} {o e f : Expr} {td ty tx : TE} {apos cpos : Pos}
end
section
variable {X : Cx} {kr : Nat} {o e x : Expr} {pos apos cpos apos2 cpos2 lp : Pos} {mk mx : Env → Res D}
end
end Mir

namespace Mir
open PySem PySem.Spec L2
/-! ### [.. for x in d.values()]: dicts of tuple keys -/
section
variable {P : Program} {w : World} {K : PySem.W.Frag} {tg : Expr} {d : Addr} {o : Obj} {es : Array DictEntry} {ep : Nat}
end
section
variable {X : Cx} {tg e : Expr} {td : TE} {apos cpos : Pos}
end
section
variable {X : Cx} {e a b tg it o elt : Expr} {m ma mb me mk mx : Env → Res D} {k kr : Nat} {cs : List Nat} {pos p p2 cpos apos cpos2 apos2 lp : Pos}
/-! ### list(range(n)) -/
end
end Mir

namespace Mir
open PySem PySem.Spec L2
@[simp] theorem e_mExtend (j k : Nat) (m : Mir.Env → Res (List D)) (env : Mir.Env) : mExtend j k m env = (m env >>= fun es => atL env j (k + 1) >>= fun ds => if ds.length + es.length ≤ sizeLine then .ok (.nx (env.set j (some (k + 1, .lst (ds ++ es))))) else .bad) := rfl
/-! ### dicts whose keys are tuples of three whole numbers; groups of any keys -/
def k3 (k : T3) : List Key := [.inl k.a, .inl k.b, .inl k.c]
section
variable {β : Type} (f : β → D)
end
/-! groups -/
section
variable {κ τ : Type} [DecidableEq κ]
end
end Mir

namespace Mir
open PySem PySem.Spec L2
/-! ### t + u, tuples -/
section
variable {X : Cx} {a b : Expr} {ma mb : Env → Res D} {pos : Pos}
end
end Mir

namespace Mir
open PySem PySem.Spec L2
/-! ### == of dicts whose keys are tuples -/
section
variable {prog : Program} {w : World} {K : Type} [DecidableEq K] {knd : HeapKind prog w K} {A : Around} {E : Value → Shared → Prop} {s : Shared}
end
section
variable {X : Cx}
end
end Mir

namespace Mir
open PySem PySem.Spec L2
/-! ### sorted(set(pairs)) -/
def lp (p : Int × Int) : List Int := [p.1, p.2]
def fp (l : List Int) : Int × Int := (l.getD 0 0, l.getD 1 0)
section
variable {X : Cx} {e : Expr} {m : Env → Res D} {k : Nat} {pos p p2 pos2 : Pos}
variable {f : Expr} {m' : Env → Res D}
/-! ### list(d), list(d.values()): dicts of tuple keys -/
end
section
variable {X : Cx} {e : Expr} {te : TE} {apos cpos : Pos}
end
section
variable {X : Cx} {e : Expr} {m : Env → Res D} {k : Nat} {pos p apos cpos : Pos}
end
end Mir

namespace Mir
open PySem PySem.Spec L2
/-! ### [.. for k in d]: dicts of tuple keys -/
section
variable {X : Cx} {e a b tg it o elt : Expr} {m ma mb me mk mx : Env → Res D} {k kr : Nat} {cs : List Nat} {pos p p2 cpos apos cpos2 apos2 lp : Pos}
/-! ### list(range(n)) -/
end
end Mir

namespace Mir
open PySem PySem.Spec L2
open PyProof.Rows (envOfC)

/-! ### exceptions -/
/-- what is known of an exception's own dict: its names, its values -/
def XAt (B : Bs) (H' : Hp) (dd : Option Addr) (ns : List Str) (as : List D) : Prop :=
  (ns = [] ∧ as = [] ∧ dd = none) ∨ ∃ dx kvs, dd = some dx ∧ B.h dx = none ∧ H' dx = some (.xd kvs) ∧ kvs.map (·.1) = ns ∧ RpAll (view H') (kvs.map (·.2)) as ∧ immAll as = true
def Kp (Z : List Nat) (σ σ' : St) : Prop := ∀ z ∈ Z, σ'[z]? = σ[z]?
theorem Kp.refl {Z : List Nat} {σ : St} : Kp Z σ σ := fun _ _ => rfl
theorem Kp.trans {Z : List Nat} {a b c : St} (h : Kp Z a b) (g : Kp Z b c) : Kp Z a c := fun z hz => (g z hz).trans (h z hz)
theorem Kp.set {Z : List Nat} {σ σ' : St} {i : Nat} {x : Option V} (h : Kp Z σ σ') (hi : Z.all (fun z => z != i) = true) : Kp Z σ (σ'.set i x) := fun z hz => by
  have := List.all_eq_true.mp hi z hz
  have ne : i ≠ z := fun e => by subst e; simp at this
  rw [List.getElem?_set_ne ne]; exact h z hz
/-- what a statement's mirror asks of what stands behind it -/
def PostK (κ : Str → Addr) (kr : Nat) (Z : List Nat) (W : WX) (B : Bs) (tm : List Hold) (σ : St) (D : Ends) : Res Ctl → Prop
  | .ok (.nx e) => ∀ σ' H', EnvOk B H' e σ' tm → Kp Z σ σ' → D.nx σ' H'
  | .ok (.bk e) => ∀ σ' H', EnvOk B H' e σ' tm → Kp Z σ σ' → D.bk σ' H'
  | .ok (.ct e) => ∀ σ' H', EnvOk B H' e σ' tm → Kp Z σ σ' → D.ct σ' H'
  | .ok (.rt d) => ∀ v H', EnvOk B H' [] [] ((v, kr, d) :: tm) → D.rt v H'
  | .exc c ns as => ∀ σ' H' dd, XAt B H' dd ns as → EnvOk B H' [] [] tm → Kp Z σ σ' → W (.ref (κ c)) dd σ' H'
  | .bad => False
/-- no exception -/
def nx {α : Type} : Res α → Res α
  | .exc _ _ _ => .bad
  | r => r
@[simp] theorem nx_ok {α : Type} (a : α) : nx (.ok a) = .ok a := rfl
def mN {α : Type} (m : Env → Res α) : Env → Res α := fun env => nx (m env)
section
variable {X : Cx} {κ : Str → Addr} {kr k : Nat} {Z : List Nat} {W : WX} {st : Stmt} {ss : List Stmt} {m m1 m2 : Env → Res Ctl} {me : Env → Res D} {e : Expr} {cs : List Nat} {pos : Pos}
theorem PostK.from {B : Bs} {tm : List Hold} {σ σ1 : St} {D : Ends} : ∀ {r : Res Ctl}, Kp Z σ σ1 → PostK κ kr Z W B tm σ D r → PostK κ kr Z W B tm σ1 D r := fun {r} k p => by
  cases r with
  | ok c =>
    cases c with
    | nx e => exact fun σ' H' ok' k' => p σ' H' ok' (k.trans k')
    | bk e => exact fun σ' H' ok' k' => p σ' H' ok' (k.trans k')
    | ct e => exact fun σ' H' ok' k' => p σ' H' ok' (k.trans k')
    | rt d => exact p
  | exc c ns as => exact fun σ' H' dd x ok' k' => p σ' H' dd x ok' (k.trans k')
  | bad => exact p
def mExpr (m : Env → Res D) : Env → Res Ctl := fun env => m env >>= fun _ => .ok (.nx env)
/-- .. that raises nothing -/
theorem s_expr (he : SE X k [] e me) (hs : swapsWith e none pos.line X.env = pure false := by rfl) : S1 X kr (.Expr e pos) (mExpr me) := fun B H env σ tm D r ok hm p => by
  obtain ⟨d, hd, h2⟩ := bind_ok hm
  cases h2
  exact wS_of (ps_expr pe_sem hs) (he B H env σ tm d _ ok hd fun v H' x' ok' => p σ H' ok'.tail)
/-! ### raise -/
def mRaise (c : Str) : Env → Res Ctl := fun _ => .exc c [] []
end
end Mir

namespace Mir
open PySem PySem.Spec L2
open PyProof.Rows (envOfC)
section
variable {X : Cx} {κ : Str → Addr} {kr k : Nat} {Z : List Nat} {W : WX} {st : Stmt} {ss : List Stmt} {m m1 m2 : Env → Res Ctl} {me : Env → Res D} {e tg it : Expr} {cs : List Nat} {pos : Pos}
def nT (t : Nat → D → Env → Res Env) : Nat → D → Env → Res Env := fun k d e => nx (t k d e)
end
/-! ### what a def promises -/
def XRet (G H H' : Hp) (dd : Option Addr) (ns : List Str) (as : List D) : Prop := (∃ G', Good ⟨H, G⟩ G' H') ∧ XAt ⟨H, G⟩ H' dd ns as
def PostF (κ : Str → Addr) (kr : Nat) (G H : Hp) (Q : VK) (E : XK) : Res D → Prop
  | .ok d => ∀ v H', RetOk kr G H H' v d → Q v H'
  | .exc c ns as => ∀ H' dd, XRet G H H' dd ns as → E (.ref (κ c)) dd H'
  | .bad => False
def spX (kr n : Nat) (κ : Str → Addr) (F : List D → Res D) : Sp := fun vs H Q E => vs.length = n ∧ ∃ (G : Hp) (ds : List D), Good ⟨H, G⟩ G H ∧ RpAll G vs ds ∧ PostF κ kr G H Q E (F ds)
section
variable {P : Program} {w : World} {K : PySem.W.Frag} {mg : Str → Option Value} {base : Heap}
end
structure CalX (P : Program) (w : World) (K : PySem.W.Frag) (mg : Str → Option Value) (base : Heap) (x : Str) (j n kr : Nat) (κ : Str → Addr) (F : List D → Res D) : Prop where
  ex : ∃ f fd ps, mg x = some (.ref f) ∧ PySem.W.keepIn K (.ref f) = true ∧ Binds K fd ps [] ∧ FnOk P w K mg base (L2.CX P w) j f fd ps (spX kr n κ F)
section
variable {X : Cx} {κ : Str → Addr} {kr k n j : Nat} {W : WX} {e : Expr} {es : List Expr} {ms : Env → Res (List D)} {F : List D → Res D} {x : Str} {p pos : Pos}
def mCallX (kr : Nat) (F : List D → Res D) (ms : Env → Res (List D)) : Env → Res D := fun env => nx (ms env) >>= fun ds => F ds >>= fun d => if immAt kr d then .ok d else .bad
end
end Mir

namespace L2
open PySem PySem.Spec PyProof.Rows
section
variable {X : Cx} {pins : List (Addr × Obj)} {σ : St} {H : Hp} {s sI s' : Shared} {B : Heap}
end
section
variable {X : Cx} {x n : Str} {c : Value} {i : Nat} {body suite : List Stmt} {b₀ : Stmt} {np pos pos' : Pos} {tb : WX → TS} {ts : Addr → TS} {Wout : WX}
end
end L2

namespace Mir
open PySem PySem.Spec L2
/-! ### what is shared stays in its slots where a body raises -/
def onlyF (Z : List Nat) : Nat → Env → Env
  | _, [] => []
  | j, x :: e => (if Z.contains j = true then (match x with | some (0, d) => some (0, d) | _ => none) else none) :: onlyF Z (j + 1) e
def only (Z : List Nat) (env : Env) : Env := onlyF Z 0 env
section
variable {B : Bs} {H H' : Hp} {env : Env} {σ σ' : St} {tm : List Hold}
end
theorem EnvOk.gone {B : Bs} {H : Hp} {e : Env} {σ : St} {tm : List Hold} (h : EnvOk B H e σ tm) (i : Nat) : EnvOk B H (e.set i none) (σ.set i none) tm := by
  by_cases hi : i < e.length
  · exact (h.forget i).blank (List.getElem?_set_self hi)
  · rw [List.set_eq_of_length_le (by omega), List.set_eq_of_length_le (by rw [← h.len]; omega)]
    exact h
/-! ### try: .. except X as e: .. -/
section
variable {X : Cx} {κ : Str → Addr} {kr : Nat} {Z : List Nat} {x n : Str} {c : Value} {i : Nat} {body suite : List Stmt} {b₀ : Stmt} {np pos pos' : Pos} {Wout : WX} {mb ms : Env → Res Ctl} {tab : Str → Option Bool}
end
end Mir

namespace Mir
open PySem PySem.Spec L2
open PyProof.Rows (envOfC)
/-! ### own exception classes -/
def xisB (K : PySem.W.Frag) (C : Addr) : Bool := (PySem.W.clsIn K C).isSome && (decide (PySem.W.findIn K (.ref C) "__getattribute__" = some (some (.builtin "BaseException.__getattribute__"))) && (decide (PySem.W.findIn K (.ref C) "__getattr__" = some none) && (decide (PySem.W.subIn K (.ref C) (.type "BaseException") = some true)
  && (decide (PySem.W.findIn K (.ref C) "__class__" = some (some (.builtin "object.__class__"))) && (decide (PySem.W.specialIn K (.builtin "object.__class__") "__get__" = some (some (.builtin "getset_descriptor.__get__"))) && (decide (PySem.W.takesIn K (.builtin "object.__class__") = some true)
  && (decide (PySem.W.mroIn K C (.type "object") = some true) && (PySem.W.hasDictIn K C && (decide (PySem.W.typeIn K (.ref C) = some (.type "type")) && PySem.W.keepIn K (.ref C))))))))))
structure XIs (K : PySem.W.Frag) (C : Addr) : Prop where
  hcl : (PySem.W.clsIn K C).isSome = true
  ga : PySem.W.findIn K (.ref C) "__getattribute__" = some (some (.builtin "BaseException.__getattribute__"))
  gg : PySem.W.findIn K (.ref C) "__getattr__" = some none
  sub : PySem.W.subIn K (.ref C) (.type "BaseException") = some true
  ca : PySem.W.findIn K (.ref C) "__class__" = some (some (.builtin "object.__class__"))
  hn : PySem.W.specialIn K (.builtin "object.__class__") "__get__" = some (some (.builtin "getset_descriptor.__get__"))
  ht : PySem.W.takesIn K (.builtin "object.__class__") = some true
  hm : PySem.W.mroIn K C (.type "object") = some true
  hd : PySem.W.hasDictIn K C = true
  ty : PySem.W.typeIn K (.ref C) = some (.type "type")
  kp : PySem.W.keepIn K (.ref C) = true
def xmkB (K : PySem.W.Frag) (C : Addr) : Bool := PySem.W.excIn K C [.type "ValueError", .type "Exception", .type "BaseException", .type "object"] "ValueError.__new__"
/-- the class named c stands at κ c -/
structure XCl (K : PySem.W.Frag) (mg : Str → Option Value) (κ : Str → Addr) (c : Str) : Prop where
  g : mg c = some (.ref (κ c))
  is : xisB K (κ c) = true
structure XMk (K : PySem.W.Frag) (mg : Str → Option Value) (κ : Str → Addr) (c : Str) : Prop where
  cl : XCl K mg κ c
  mkx : xmkB K (κ c) = true
section
variable {X : Cx} {κ : Str → Addr} {kr : Nat} {Z : List Nat} {W : WX} {pos : Pos}
/-- isinstance(e, C): e an exception or None -/
def mIsO (κ : Str → Addr) (tab : Str → Option Bool) (m : Env → Res D) : Env → Res D := fun env => m env >>= fun d => match d with
  | .non => .ok (.bl false)
  | .exn c C _ _ => if C = κ c then (match tab c with | some b => .ok (.bl b) | none => .bad) else .bad
  | _ => .bad
variable {a b : Expr} {m : Env → Res D} {p : Pos}
/-- e.f, e an exception -/
def mXf (κ : Str → Addr) (c f : Str) (m : Env → Res D) : Env → Res D := fun env => m env >>= fun d => match d with
  | .exn s C ns as => if s = c ∧ C = κ c ∧ ns.length = as.length then (match (ns.zip as).lookup f with | some d => .ok d | none => .bad) else .bad
  | _ => .bad
theorem look_all {G : Hp} {f : Str} {d : D} : ∀ {kvs : List (Str × V)} {as : List D}, RpAll G (kvs.map (·.2)) as → ((kvs.map (·.1)).zip as).lookup f = some d → ∃ v, kvs.lookup f = some v ∧ Rp G v d
  | [], _, _, h => by simp at h
  | (g, v) :: kvs, as, r, h => by
    cases r with
    | cons r1 r2 =>
      simp only [List.map_cons, List.zip_cons_cons, List.lookup_cons] at h ⊢
      split at h
      · cases h; exact ⟨v, by simp, r1⟩
      · obtain ⟨v', h1, h2⟩ := look_all r2 h
        exact ⟨v', h1, h2⟩
end
/-! ### the end, with the classes' places -/
def kOf (K : PySem.W.Frag) (c : Str) : Addr := match PySem.W.nsIn K mainGlobals c with
  | some (some (.ref a)) => a
  | _ => 0
theorem kOf_eq {K : PySem.W.Frag} {c : Str} {a : Addr} (h : PySem.W.nsIn K mainGlobals c = some (some (.ref a))) : kOf K c = a := by unfold kOf; rw [h]
theorem walk_mirX {l : PySem.W.OpenLaw} {k : Nat} {q : Program} {loose : List Str} {XP : (Str → Option Value) → Heap → Prop} {YP : World → Heap → Prop} {d : DefRec} {K : Params → PySem.W.Frag} {x : Str} {F : (Str → Addr) → List D → Res D}
    (hn : l.most = some 63) (hdf : d.params.defaults = []) (hr : Room k callerA) (hY : ∀ (w : World) (h : Heap), YP w h → (K w.params).In h) (hK : ∀ w : World, noLists (K w.params) = true) (hF : ∀ (κ : Str → Addr) (ns : List Int), ns.length ≤ 63 → F κ [.lst (ns.map D.int)] = .ok (.bl true))
    (Fo : ∀ (w : World) (mg : Str → Option Value) (fa : Addr) (h : Heap), (K w.params).In h → h.Ns mainGlobals mg → mg d.name = some (.ref fa) →
      ∃ fd : FuncData, (∀ (s : Shared) (u : Value), BindsTo s fd ⟨[u], []⟩ [(x, u)]) ∧ ∀ base : Heap, (K w.params).In base → base.Ns mainGlobals mg → FnOk l.prog w (K w.params) mg base CX0 k fa fd [x] (spF 0 1 (F (kOf (K w.params))))) :
    PySem.W.WalkO q loose XP YP l.row.toRowW d [] (fun f vs => PySem.call f vs) :=
  L2.walk_of (n := 63) (k := k) (x := x) (CX := fun _ => CX0) (sp := fun w => spF 0 1 (F (kOf (K w.params)))) hn (by decide) hdf hr hY Fo (fun w H a ns hl hO hS => law_sp (hK w) hO hS (hF _ ns hl)) fun _ _ _ _ _ z => z
end Mir
namespace Mir
open PySem PySem.Spec L2
/-! ### tables of classes -/
def tb (l : List (Str × Bool)) : Str → Option Bool := fun c => l.lookup c
end Mir

namespace Mir
open PySem PySem.Spec L2
open PyProof.Rows (is_bool isnot_bool)
section
variable {X : Cx} {e a b c : Expr} {m ma mb mc : Env → Res D} {pos p : Pos} {k : Nat}
/-! ### is True, is False -/
def gIsB : D → D → Res D
  | .bl x, .bl y => .ok (.bl (x == y))
  | _, _ => .bad
def gIsnB : D → D → Res D
  | .bl x, .bl y => .ok (.bl (x != y))
  | _, _ => .bad
/-! ### a < b < c -/
def mChain (g g' : D → D → Res D) (ma mb mc : Env → Res D) : Env → Res D := fun env => ma env >>= fun x => mb env >>= fun y => g x y >>= toB >>= fun k => if k then mc env >>= fun z => g' y z else .ok (.bl false)
/-! ### abs, int -/
def gAbs : D → Res D
  | .int i => .ok (.int (if i < 0 then -i else i))
  | _ => .bad
def gInt : D → Res D
  | .int i => .ok (.int i)
  | .bl k => .ok (.int (if k then 1 else 0))
  | _ => .bad
end
/-! ### raising within an expression -/
section
variable {X : Cx} {κ : Str → Addr} {W : WX} {e : Expr} {es : List Expr} {m : Env → Res D} {ms : Env → Res (List D)} {pos p : Pos} {k kr j n : Nat} {x : Str} {F : List D → Res D}
end
end Mir

namespace Mir
open PySem PySem.Spec L2
/-! ### in a tuple of numbers -/
def gInT : D → D → Res D
  | .int i, .tup ds => match intsD? ds with | some is => .ok (.bl (decide (i ∈ is))) | none => .bad
  | _, _ => .bad
def gNotInT : D → D → Res D
  | .int i, .tup ds => match intsD? ds with | some is => .ok (.bl (!decide (i ∈ is))) | none => .bad
  | _, _ => .bad
section
variable {X : Cx}
end
end Mir

namespace Mir
open PySem PySem.Spec L2
/-! ### equations of the mirrors that may raise -/
section
variable {α : Type} {m mb ms : Mir.Env → Res Ctl} {me : Mir.Env → Res D} {msA : Mir.Env → Res (List D)} {env : Mir.Env} {κ : Str → Addr}
@[simp] theorem nx_bad : nx (.bad : Res α) = .bad := rfl
@[simp] theorem nx_exc (c : Str) (ns : List Str) (as : List D) : nx (.exc c ns as : Res α) = .bad := rfl
@[simp] theorem e_mN (f : Mir.Env → Res α) : mN f env = nx (f env) := rfl
@[simp] theorem e_mExpr : mExpr me env = (me env >>= fun _ => .ok (.nx env)) := rfl
@[simp] theorem e_mRaise (c : Str) : mRaise c env = .exc c [] [] := rfl
@[simp] theorem e_mCallX (k : Nat) (F : List D → Res D) : mCallX k F msA env = (nx (msA env) >>= fun ds => F ds >>= fun d => if immAt k d then .ok d else .bad) := rfl
@[simp] theorem e_nT (t : Nat → D → Mir.Env → Res Mir.Env) (k : Nat) (d : D) : nT t k d env = nx (t k d env) := rfl
@[simp] theorem e_only (Z : List Nat) : only Z env = onlyF Z 0 env := rfl
@[simp] theorem e_onlyF_nil (Z : List Nat) (j : Nat) : onlyF Z j [] = [] := rfl
@[simp] theorem e_onlyF_cons (Z : List Nat) (j : Nat) (x : Option (Nat × D)) (e : Mir.Env) : onlyF Z j (x :: e) = (if Z.contains j = true then (match x with | some (0, d) => some (0, d) | _ => none) else none) :: onlyF Z (j + 1) e := rfl
@[simp] theorem e_mIsO (tab : Str → Option Bool) : mIsO κ tab me env = (me env >>= fun d => match d with
  | .non => .ok (.bl false)
  | .exn c C _ _ => if C = κ c then (match tab c with | some b => .ok (.bl b) | none => .bad) else .bad
  | _ => .bad) := rfl
@[simp] theorem e_mChain (g g' : D → D → Res D) (ma mb mc : Mir.Env → Res D) : mChain g g' ma mb mc env = (ma env >>= fun x => mb env >>= fun y => g x y >>= toB >>= fun k => if k then mc env >>= fun z => g' y z else .ok (.bl false)) := rfl
@[simp] theorem e_mXf (c f : Str) : mXf κ c f me env = (me env >>= fun d => match d with
  | .exn s C ns as => if s = c ∧ C = κ c ∧ ns.length = as.length then (match (ns.zip as).lookup f with | some d => .ok d | none => .bad) else .bad
  | _ => .bad) := rfl
@[simp] theorem e_gIsB (a b : Bool) : gIsB (.bl a) (.bl b) = .ok (.bl (a == b)) := rfl
@[simp] theorem e_gIsnB (a b : Bool) : gIsnB (.bl a) (.bl b) = .ok (.bl (a != b)) := rfl
@[simp] theorem e_gAbs (i : Int) : gAbs (.int i) = .ok (.int (if i < 0 then -i else i)) := rfl
@[simp] theorem e_gIntI (i : Int) : gInt (.int i) = .ok (.int i) := rfl
@[simp] theorem e_gIntB (k : Bool) : gInt (.bl k) = .ok (.int (if k then 1 else 0)) := rfl
@[simp] theorem e_intsD_nil : intsD? [] = some [] := rfl
@[simp] theorem e_intsD_cons (i : Int) (ds : List D) : intsD? (.int i :: ds) = (intsD? ds).map fun is => i :: is := rfl
@[simp] theorem e_gInT (i : Int) (ds : List D) : gInT (.int i) (.tup ds) = (match intsD? ds with | some is => .ok (.bl (decide (i ∈ is))) | none => .bad) := rfl
@[simp] theorem e_gNotInT (i : Int) (ds : List D) : gNotInT (.int i) (.tup ds) = (match intsD? ds with | some is => .ok (.bl (!decide (i ∈ is))) | none => .bad) := rfl
@[simp] theorem e_gIsN_exn (c : Str) (C : Addr) (ns : List Str) (ds : List D) : gIsN (.exn c C ns ds) = .ok (.bl false) := rfl
@[simp] theorem e_gNotN_exn (c : Str) (C : Addr) (ns : List Str) (ds : List D) : gNotN (.exn c C ns ds) = .ok (.bl true) := rfl
end
/-! ### a long body, step by step -/
section
variable {β : Type} {m1 m2 : Mir.Env → Res Ctl} {env e : Mir.Env} {k : Ctl → Res β} {Q : β → Prop} {t : Mir.Env → Res Bool} {d : D}
theorem t_seq (h : m1 env = .ok (.nx e)) (h2 : Tells (m2 e >>= k) Q) : Tells (mSeq m1 m2 env >>= k) Q := by
  unfold mSeq
  rw [h]; exact h2
theorem t_seqR (h : m1 env = .ok (.rt d)) (h2 : Tells (k (.rt d)) Q) : Tells (mSeq m1 m2 env >>= k) Q := by
  unfold mSeq
  rw [h]; exact h2
/-- the first statement tells an env of which P holds -/
theorem t_seqP {P : Mir.Env → Prop} (h : Tells (m1 env) fun c => ∃ e, c = .nx e ∧ P e) (h2 : ∀ e, P e → Tells (m2 e >>= k) Q) : Tells (mSeq m1 m2 env >>= k) Q := by
  obtain ⟨_, h1, e, rfl, hp⟩ := h
  exact t_seq h1 (h2 e hp)
theorem t_ifT {α : Type} {x y : Mir.Env → Res α} (h : t env = .ok true) : mIf t x y env = x env := by unfold mIf; rw [h]; rfl
end
end Mir

namespace Mir
open PySem PySem.Spec L2
section
variable {X : Cx} {e o i2 ep : Expr} {mv mi mp m : Env → Res D} {k kr : Nat} {pos apos cpos pos2 : Pos} {cs : List Nat}
/-! ### xs[i].append(e), e without lists, dicts -/
/-! ### xs.insert(i, e) -/
/-! ### xs.clear(), xs.reverse() -/
end
end Mir

namespace Mir
open PySem PySem.Spec L2
open PyProof.Rows (envOfC)
/-! ### x = xs[i]; ..; x.insert(p, v), told with what stays -/
section
variable {X : Cx} {κ : Str → Addr} {Z : List Nat} {W : WX} {e ep o ix o2 : Expr} {mi mp mv : Env → Res D} {i j k kr : Nat} {pos p pos' pos2 spos apos cpos spos2 : Pos} {mr m1 : Env → Res Ctl} {m2 : Nat → List D → Env → Res Ctl} {rest ss : List Stmt} {st : Stmt} {x : Str}
end
end Mir

namespace Mir
open PySem PySem.Spec L2
open PyProof.Rows (envOfC)
/-! ### a def that changes its first argument -/
def wo (H : Hp) (f : List Addr) : Hp := fun a => if a ∈ f then none else H a
theorem wo_in {H : Hp} {f : List Addr} {a : Addr} (h : a ∈ f) : wo H f a = none := if_pos h
def spM (k0 n : Nat) (F : List D → Res D) : Sp := fun vs H Q _ => vs.length = n ∧ ∃ (G : Hp) (v0 : V) (vs' : List V) (d0 : D) (ds' : List D) (f : List Addr) (d1 : D), vs = v0 :: vs' ∧ Good ⟨wo H f, G⟩ G H ∧ Od G H k0 f v0 d0 ∧ f.Nodup ∧ (∀ p ∈ f, G p = none) ∧ RpAll G vs' ds' ∧ F (d0 :: ds') = .ok d1 ∧
  ∀ H', RetOk k0 G (wo H f) H' v0 d1 → Q .non H'
section
variable {P : Program} {w : World} {K : PySem.W.Frag} {mg : Str → Option Value} {base : Heap}
end
structure CalM (P : Program) (w : World) (K : PySem.W.Frag) (mg : Str → Option Value) (base : Heap) (x : Str) (j n k0 : Nat) (F : List D → Res D) : Prop where
  ex : ∃ f fd ps, mg x = some (.ref f) ∧ PySem.W.keepIn K (.ref f) = true ∧ Binds K fd ps [] ∧ FnOk P w K mg base CX0 j f fd ps (spM k0 n F)
section
variable {X : Cx} {e o : Expr} {es : List Expr} {ms : Env → Res (List D)} {F : List D → Res D} {x : Str} {p pos cpos : Pos} {n k0 kr jl : Nat}
end
end Mir
namespace Mir
end Mir

namespace Mir
open PySem PySem.Spec L2
/-! ### calls whose arguments are shared: what they tell may be shared too -/
section
variable {X : Cx} {e a b o i : Expr} {es : List Expr} {m ma mb md mk : Env → Res D} {ms : Env → Res (List D)} {k kr n : Nat} {cs : List Nat} {pos p cpos apos : Pos} {x : Str} {F : List D → Res D} {j : Nat}
def mCall0 (F : List D → Res D) (ms : Env → Res (List D)) : Env → Res D := fun env => ms env >>= fun ds => F ds
theorem se_cal0 (C : Cal X.prog X.w X.K X.mg X.base x j n kr F) (hr : Room j X.A) (hg : Gl X x)
    (ha : SAE X 0 [] (e :: es) ms) (hl : ∀ env ds, ms env = .ok ds → ds.length = n) (hdb : (x == ("__debug__" : Str)) = false := by decide) (he : starEach (e :: es) X.env = (false, eval e X.env) :: starEach es X.env := by rfl) (hpl : (backTo pos (starEach es X.env)).any (·.1) = false := by rfl) :
    SE X kr [] (.Call (.Name x p) (e :: es) [] pos) (mCall0 F ms) := fun B H env σ tm d Q ok hm' q => by
  obtain ⟨f, fd, ps, hm, hk, hb, Fo⟩ := C.ex
  obtain ⟨ds, hds, hF⟩ := bind_ok hm'
  refine wE_of (pe_call Fo hr hg hm hk hb .nil pass0 pa_sem hdb he hpl) (ha B H env σ tm ds _ ok hds fun vs H1 x1 hvl ok1 => ?_)
  rw [List.append_nil]
  obtain ⟨G, g, ra, rt⟩ := EnvOk.ret0 (H' := H1) hvl ok1
  refine ⟨by rw [hvl]; exact hl _ _ hds, G, ds, _, g, ra, hF, fun v H' r => ?_⟩
  obtain ⟨x2, ok2⟩ := rt H' v d r
  exact q v H' (x1.trans x2) ok2
theorem sae_len0 : ∀ env ds, mNilA env = .ok ds → ds.length = 0 := fun env ds h => by cases h; rfl
theorem sae_len {ms : Env → Res (List D)} : ∀ {n : Nat}, (∀ env ds, ms env = .ok ds → ds.length = n) → ∀ {m : Env → Res D} {cs : List Nat}, ∀ env ds, mConsE m cs ms env = .ok ds → ds.length = n + 1 := fun {n} h {m cs} env ds hm => by
  obtain ⟨y, _, h2⟩ := bind_ok hm
  obtain ⟨ys, h3, h4⟩ := bind_ok h2
  cases h4
  simp [h _ ys h3]
end
/-! ### dicts with nested keys -/
mutual
theorem hash_plain (w w' : World) : ∀ k : NestedKey, plainK k = true → k.hash w = k.hash w'
  | .none, _ => rfl
  | .num _, _ => rfl
  | .text _, h => by simp [plainK] at h
  | .tup ks, h => by rw [plainK] at h; rw [NestedKey.hash, NestedKey.hash, hashes_plain w w' ks h]
theorem hashes_plain (w w' : World) : ∀ ks : List NestedKey, plainKs ks = true → NestedKey.hashes w ks = NestedKey.hashes w' ks
  | [], _ => rfl
  | k :: ks, h => by
    rw [plainKs, Bool.and_eq_true] at h
    rw [NestedKey.hashes, NestedKey.hashes, hash_plain w w' k h.1, hashes_plain w w' ks h.2]
end
mutual
theorem kN_is {P : Program} {w : World} {H : Hp} {h : Heap} (ok : HOk P w H h) : ∀ (k : NestedKey) (v : V) (u : Value), Rp (view H) v (kN k) → RelV v u → NestedIs h k u
  | .none, _, _, r, q => by
    rw [kN] at r; cases r
    cases (show _ = Value.none from q); exact .none
  | .num i, _, _, r, q => by
    rw [kN] at r; cases r
    obtain ⟨t, q⟩ := (show ∃ t, _ = Value.int i t from q); cases q; exact .int _ _
  | .text x, _, _, r, q => by
    rw [kN] at r; cases r
    obtain ⟨t, q⟩ := (show ∃ t, _ = Value.str x t from q); cases q; exact .text _ _
  | .tup ks, _, _, r, q => by
    rw [kN] at r
    cases r with
    | @tup a vs _ hv ra =>
      cases (show _ = Value.ref a from q)
      obtain ⟨_, its, rv, o, h1, h2, n, h3⟩ := (show ObjOk P w H h a (.tup vs) from (view_rd hv).ok ok)
      exact .tup h1 h2 h3 (by simpa using kNs_is ok ks vs its ra rv)
theorem kNs_is {P : Program} {w : World} {H : Hp} {h : Heap} (ok : HOk P w H h) : ∀ (ks : List NestedKey) (vs : List V) (us : List Value), RpAll (view H) vs (kNs ks) → Vals vs us → NestedAll h ks us
  | [], _, _, r, q => by rw [kNs] at r; cases r; cases q; exact .nil
  | k :: ks, _, _, r, q => by
    rw [kNs] at r
    cases r with
    | cons r1 r2 =>
      cases q with
      | cons q1 q2 => exact .cons (kN_is ok k _ _ r1 q1) (kNs_is ok ks _ _ r2 q2)
end
/-- the dict's keys, addresses, values -/
def KE3 : List (NestedKey × Addr × V) → List (NestedKey × Addr × Value) → Prop := Paired (fun (p : NestedKey × Addr × V) (q : NestedKey × Addr × Value) => p.1 = q.1 ∧ p.2.1 = q.2.1 ∧ RelV p.2.2 q.2.2)
def valN {β : Type} (es : List (NestedKey × Addr × β)) (k : NestedKey) : Option β := (es.find? fun e => decide (e.1 = k)).map (·.2.2)
def putN {β : Type} (es : List (NestedKey × Addr × β)) (k : NestedKey) (b : Addr) (v : β) : List (NestedKey × Addr × β) := if (valN es k).isSome then es.map (fun e => if e.1 = k then (e.1, e.2.1, v) else e) else es ++ [(k, b, v)]
theorem KE3.val {es : List (NestedKey × Addr × V)} {xs : List (NestedKey × Addr × Value)} (r : KE3 es xs) (k : NestedKey) : RelO (valN es k) (valN xs k) := by
  unfold KE3 at r
  induction r with
  | nil => exact trivial
  | @cons p q ps qs h t ih =>
    unfold valN at ih ⊢
    rw [List.find?_cons, List.find?_cons, h.1]
    by_cases e : q.1 = k
    · rw [decide_eq_true e]; exact h.2.2
    · rw [decide_eq_false e]; exact ih
theorem KE3.keys {es : List (NestedKey × Addr × V)} {xs : List (NestedKey × Addr × Value)} (r : KE3 es xs) : xs.map (·.1) = es.map (·.1) := by
  unfold KE3 at r
  induction r with
  | nil => rfl
  | @cons p q ps qs h t ih => rw [List.map_cons, List.map_cons, ih, h.1]
theorem KE3.put {es : List (NestedKey × Addr × V)} {xs : List (NestedKey × Addr × Value)} (r : KE3 es xs) (k : NestedKey) (b : Addr) {v : V} {u : Value} (rv : RelV v u) : KE3 (putN es k b v) (putN xs k b u) := by
  have e := (r.val k).isSome_eq
  unfold putN
  rw [e]
  unfold KE3 at r
  split
  · rename_i hc
    clear e hc
    induction r with
    | nil => exact .nil
    | @cons p q ps qs h t ih =>
      rw [List.map_cons, List.map_cons]
      refine .cons ?_ ih
      obtain ⟨p1, p2, p3⟩ := p; obtain ⟨q1, q2, q3⟩ := q
      obtain ⟨h1, h2, h3⟩ := h
      dsimp only at h1 h2 h3
      subst h1 h2
      by_cases z : p1 = k
      · dsimp only; rw [if_pos z, if_pos z]; exact ⟨rfl, rfl, rv⟩
      · dsimp only; rw [if_neg z, if_neg z]; exact ⟨rfl, rfl, h3⟩
  · exact Paired.snoc r ⟨rfl, rfl, rv⟩
section
variable {X : Cx} {pins : List (Addr × Obj)} {σ : St} {H : Hp} {s : Shared} {a : Addr} {es : List (NestedKey × Addr × V)} {ks : List NestedKey}
end
/-! a datum as a key -/
mutual
def keyN : Nat → D → Option NestedKey
  | _, .non => some .none
  | _, .int i => some (.num i)
  | f + 1, .tup ds => (keysN f ds).map .tup
  | _, _ => none
def keysN : Nat → List D → Option (List NestedKey)
  | _, [] => some []
  | f, d :: ds => match keyN f d, keysN f ds with
    | some k, some ks => some (k :: ks)
    | _, _ => none
end
mutual
theorem keyN_ok : ∀ (f : Nat) (d : D) (k : NestedKey), keyN f d = some k → kN k = d ∧ k.depth ≤ f ∧ plainK k = true
  | _, .non, _, h => by unfold keyN at h; cases h; exact ⟨rfl, Nat.zero_le _, rfl⟩
  | _, .int i, _, h => by unfold keyN at h; cases h; exact ⟨rfl, Nat.zero_le _, rfl⟩
  | f + 1, .tup ds, _, h => by
    rw [keyN] at h
    obtain ⟨ks, h1, rfl⟩ := Option.map_eq_some_iff.mp h
    obtain ⟨q1, q2, q3⟩ := keysN_ok f ds ks h1
    exact ⟨by rw [kN, q1], by rw [NestedKey.depth]; omega, by rw [plainK]; exact q3⟩
  | 0, .tup _, _, h => by simp [keyN] at h
  | _, .bl _, _, h => by simp [keyN] at h
  | _, .str _, _, h => by simp [keyN] at h
  | _, .lst _, _, h => by simp [keyN] at h
  | _, .dk _ _, _, h => by simp [keyN] at h
  | _, .dt _ _, _, h => by simp [keyN] at h
  | _, .dn _ _, _, h => by simp [keyN] at h
  | _, .ob _ _ _ _, _, h => by simp [keyN] at h
  | _, .exn _ _ _ _, _, h => by simp [keyN] at h
theorem keysN_ok : ∀ (f : Nat) (ds : List D) (ks : List NestedKey), keysN f ds = some ks → kNs ks = ds ∧ NestedKey.depthAll ks ≤ f ∧ plainKs ks = true
  | _, [], _, h => by unfold keysN at h; cases h; exact ⟨rfl, Nat.zero_le _, rfl⟩
  | f, d :: ds, _, h => by
    unfold keysN at h
    split at h
    · rename_i k ks h1 h2
      cases h
      obtain ⟨a1, a2, a3⟩ := keyN_ok f d k h1
      obtain ⟨b1, b2, b3⟩ := keysN_ok f ds ks h2
      exact ⟨by rw [kNs, a1, b1], by rw [NestedKey.depthAll]; omega, by rw [plainKs, a3, b3]; rfl⟩
    · cases h
end
end Mir

namespace Mir
open PySem PySem.Spec L2
/-! ### dicts with nested keys: what is read and written -/
section
variable {X : Cx} {pins : List (Addr × Obj)} {σ : St} {H : Hp} {s : Shared} {a b : Addr} {es : List (NestedKey × Addr × V)} {ks : List NestedKey} {k : NestedKey} {v d : V} {u r : Value} {A : Around} {E : Value → Shared → Prop}
structure NAt (H : Hp) (a : Addr) (es : List (NestedKey × Addr × V)) (k : NestedKey) (b : Addr) : Prop where
  n : NkOk (es.map (·.1)) (es.map (·.1))
  r : RpAll (view H) (es.map fun e => V.ref e.2.1) (kNs (es.map (·.1)))
  key : Rp (view H) (.ref b) (kN k)
  d : k.depth ≤ 8 ∧ plainK k = true
end
section
variable {X : Cx} {o e f i value : Expr} {apos cpos pos pos' : Pos} {td ty tx tv tk : TE}
end
end Mir

namespace Mir
open PySem PySem.Spec L2
/-! ### dicts with nested keys in the mirror -/
section
variable {B : Bs} {H : Hp} {env : Env} {σ : St} {tm : List Hold}
end
section
variable {X : Cx} {e o i a b kx vx : Expr} {m ma mb md mk mv : Env → Res D} {k kr : Nat} {cs : List Nat} {pos cpos apos : Pos}
end
end Mir

namespace Mir
open PySem PySem.Spec L2
/-! ### min(a, b), max(a, b) of alike data -/
section
open Sem (wp)
open PySem.W
variable {prog : Program} {w : World} {A : Around} {E : Value → Shared → Prop} {s : Shared}
end
section
variable {X : Cx} {e f : Expr} {m m' : Env → Res D} {pos p : Pos}
/-! ### tuple(x), list(x): a list, a tuple of what never changes -/
end
end Mir

namespace Mir
open PySem PySem.Spec L2
/-! ### for a, b in d.items(): dicts of nested keys -/
section
variable {P : Program} {w : World} {K : PySem.W.Frag} {tg : Expr} {d : Addr} {o : Obj} {des : Array DictEntry} {ep : Nat}
end
section
variable {X : Cx} {tg e : Expr} {td : TE} {apos cpos : Pos}
end
section
variable {X : Cx} {e a b tg it o : Expr} {m ma mb md : Env → Res D} {k kr : Nat} {cs : List Nat} {pos cpos apos : Pos} {m1 : Env → Res Ctl}
end
end Mir

namespace Mir
open PySem PySem.Spec L2
/-! ### a dict of whole numbers of the module's own: dict(NAME) -/
section
variable {X : Cx} {k : Nat} {pos p p2 : Pos} {x : Str}
end
/-! ### len(d): a dict of nested keys -/
end Mir

namespace Mir
open PySem PySem.Spec L2 PyProof.Rows
/-! ### x in a tuple of data -/
section
variable {X : Cx}
end
end Mir

namespace Mir
open PySem PySem.Spec L2
/-! ### an item of a list whose items are shared -/
/-- a slot's own list, its items shared -/
def mVarL (j : Nat) : Env → Res D := fun env => match env[j]? with
  | some (some (1, .lst ds)) => .ok (.lst ds)
  | _ => .bad
section
variable {X : Cx} {a b : Expr} {mb : Env → Res D} {pos : Pos}
@[simp] theorem e_mVarL {j : Nat} {env : Env} : mVarL j env = (match env[j]? with
  | some (some (1, .lst ds)) => .ok (.lst ds)
  | _ => .bad) := rfl
end
end Mir

namespace Mir
open PySem PySem.Spec L2
/-! ### for v in rows: v.append(e), the rows given away -/
def appAll (d : D) : List D → Res (List D)
  | [] => .ok []
  | .lst rs :: ds => if rs.length < sizeLine then appAll d ds >>= fun es => .ok (.lst (rs ++ [d]) :: es) else .bad
  | _ :: _ => .bad
def mForApp (i : Nat) (cs : List Nat) (m me : Env → Res D) : Env → Res Ctl := fun env => m env >>= fun x => match x with
  | .lst ds => if i < env.length then me ((clear env cs).set i none) >>= fun d => if d.imm then appAll d ds >>= fun _ => .ok (.nx ((clear env cs).set i none)) else .bad else .bad
  | _ => .bad
section
variable {X : Cx} {kr : Nat} {pos p2 p3 pos1 apos cpos : Pos} {e it : Expr} {v : Str} {m me : Env → Res D}
end
end Mir

namespace Mir
open PySem PySem.Spec L2
/-! ### two lists given away, one after the other -/
theorem OdAll.len {G H : Hp} : ∀ {k : Nat} {f : List Addr} {vs : List V} {ds : List D}, OdAll G H k f vs ds → vs.length = ds.length
  | _, _, _, _, .nil => rfl
  | _, _, _, _, .cons _ r => by rw [List.length_cons, List.length_cons, OdAll.len r]
def mCatM (i j k : Nat) : Env → Res D := fun env => match env[i]?, env[j]? with
  | some (some (a, .lst xs)), some (some (b, .lst ys)) => if a = k + 1 ∧ b = k + 1 ∧ i ≠ j ∧ xs.length + ys.length ≤ sizeLine then .ok (.lst (xs ++ ys)) else .bad
  | _, _ => .bad
section
variable {X : Cx} {pos : Pos} {a b : Expr}
@[simp] theorem e_mCatM {i j k : Nat} {env : Env} : mCatM i j k env = (match env[i]?, env[j]? with
  | some (some (a, .lst xs)), some (some (b, .lst ys)) => if a = k + 1 ∧ b = k + 1 ∧ i ≠ j ∧ xs.length + ys.length ≤ sizeLine then .ok (.lst (xs ++ ys)) else .bad
  | _, _ => .bad) := rfl
@[simp] theorem e_mForApp {i : Nat} {cs : List Nat} {m me : Env → Res D} {env : Env} : mForApp i cs m me env = (m env >>= fun x => match x with
  | .lst ds => if i < env.length then me ((clear env cs).set i none) >>= fun d => if d.imm then appAll d ds >>= fun _ => .ok (.nx ((clear env cs).set i none)) else .bad else .bad
  | _ => .bad) := rfl
end
end Mir

namespace Mir
open PySem PySem.Spec L2
/-! ### calls that tell a dict made anew: what is read holds none -/
mutual
def noDk : D → Bool
  | .lst ds => noDkL ds
  | .tup ds => noDkL ds
  | .non => true
  | .bl _ => true
  | .int _ => true
  | .str _ => true
  | _ => false
def noDkL : List D → Bool
  | [] => true
  | d :: ds => noDk d && noDkL ds
end
def noK (H : Hp) : Hp := fun a => match view H a with
  | some (.dK _) => none
  | x => x
theorem noK_some {H : Hp} {a : Addr} {u : HO} (h : view H a = some u) (hu : ∀ kvs, u ≠ .dK kvs) : noK H a = some u := by
  unfold noK
  rw [h]
  cases u <;> first | rfl | exact absurd rfl (hu _)
theorem noK_view {H : Hp} {a : Addr} {u : HO} (h : noK H a = some u) : view H a = some u ∧ ∀ kvs, u ≠ .dK kvs := by
  unfold noK at h
  split at h
  · cases h
  · rename_i hn
    exact ⟨h, fun kvs e => hn kvs (by rw [h, e])⟩
mutual
theorem Rp.noK {H : Hp} : ∀ {v : V} {d : D}, Rp (view H) v d → noDk d = true → Rp (noK H) v d
  | _, _, .non, _ => .non
  | _, _, .bl b, _ => .bl b
  | _, _, .int i, _ => .int i
  | _, _, .str x, _ => .str x
  | _, _, .lst h r, q => .lst (noK_some h fun _ z => nomatch z) (RpAll.noK r (by simpa [noDk] using q))
  | _, _, .tup h r, q => .tup (noK_some h fun _ z => nomatch z) (RpAll.noK r (by simpa [noDk] using q))
  | _, _, .dk _ _ _, q => by simp [noDk] at q
  | _, _, .dt _ _ _, q => by simp [noDk] at q
  | _, _, .ob _ _ _, q => by simp [noDk] at q
  | _, _, .exn0 _, q => by simp [noDk] at q
  | _, _, .exn _ _ _ _, q => by simp [noDk] at q
  | _, _, .dn _ _ _ _, q => by simp [noDk] at q
theorem RpAll.noK {H : Hp} : ∀ {vs : List V} {ds : List D}, RpAll (view H) vs ds → noDkL ds = true → RpAll (noK H) vs ds
  | _, _, .nil, _ => .nil
  | _, _, .cons h r, q => by
    rw [noDkL, Bool.and_eq_true] at q
    exact .cons (Rp.noK h q.1) (RpAll.noK r q.2)
end
theorem OdAll.ofImm {G H : Hp} {k : Nat} : ∀ {vs : List V} {ds : List D}, RpAll G vs ds → immAll ds = true → OdAll G H k [] vs ds
  | _, _, .nil, _ => .nil
  | _, _, .cons h r, q => by
    rw [immAll, Bool.and_eq_true] at q
    exact OdAll.cons (f := []) (g := []) (Od.im h q.1) (OdAll.ofImm r q.2)
section
variable {X : Cx} {e : Expr} {es : List Expr} {ms : Env → Res (List D)} {n : Nat} {pos p : Pos} {x : Str} {F : List D → Res D} {j : Nat}
/-- a dict that is told and is new may be owned -/
theorem RetOk.own {H H' : Hp} {v : V} {ks : List Key} {ds : List D} (r : RetOk 0 (noK H) H H' v (.dk ks ds)) (hi : immAll ds = true) : ∃ p, v = .ref p ∧ H p = none ∧ ((∃ o u, H' p = some (.frz o u) ∧ RetOk 1 (view H) H (upd H' p u) v (.dk ks ds)) ∨ RetOk 1 (view H) H H' v (.dk ks ds)) := by
  obtain ⟨G', fp, g, od, _, _⟩ := r.ex
  obtain ⟨_, rp⟩ := od.zero
  cases rp with
  | @dk p kvs _ _ hp hk ra =>
    have hn : H p = none := by
      refine Classical.byContradiction fun hn => ?_
      have e : G' p = noK H p := g.g0 p hn
      rw [hp] at e
      exact (noK_view e.symm).2 kvs rfl
    have hv := g.gs p _ hp
    have fin : ∀ H'' : Hp, H'' p = some (.dK kvs) → (∀ a, a ≠ p → H'' a = H' a) → RetOk 1 (view H) H H'' (.ref p) (.dk ks ds) := fun H'' h1 h2 => by
      have nep : ∀ {a : Addr} {o : HO}, H a = some o → a ≠ p := fun e z => by rw [z, hn] at e; cases e
      have vw : ∀ a, a ≠ p → view H'' a = view H' a := fun a ha => by unfold view; rw [h2 a ha]
      have bs : ∀ a o, H a = some o → H'' a = some o := fun a o e => by rw [h2 a (nep e)]; exact g.bs a o e
      have gt : ∀ a u, isIm u = true → view H'' a = some u → (if H a = none then (match view H'' a with | some u => if isIm u = true then some u else none | none => none) else view H a) = some u := fun a u im e => by
        split
        · rw [e]; dsimp only; rw [if_pos im]
        · rename_i ha
          cases q : H a with
          | none => exact absurd q ha
          | some o =>
            have := bs a o q
            unfold view at e ⊢
            rw [this] at e
            rw [q]; exact e
      refine ⟨⟨fun a => if H a = none then (match view H'' a with | some u => if isIm u = true then some u else none | none => none) else view H a, [p], ⟨bs, fun a ha => if_neg ha, fun a u e => ?_, gt, fun a u im e => ?_⟩, ?_, by simp, fun q hq => ?_⟩⟩
      · have e' : (if H a = none then (match view H'' a with | some u => if isIm u = true then some u else none | none => none) else view H a) = some u := e
        split at e'
        · split at e'
          · split at e'
            · cases e'; assumption
            · cases e'
          · cases e'
        · exact view_ext bs a u e'
      · by_cases z : a = p
        · subst z
          have : view H'' a = some (.dK kvs) := by unfold view; rw [h1]; rfl
          rw [this] at e
          cases e
          cases im
        · rw [h2 a z]
          exact g.nf a u im (by rw [← vw a z]; exact e)
      · refine Od.dk (f := []) h1 hk (OdAll.ofImm ?_ hi)
        have : ∀ a u, isIm u = true → G' a = some u → (if H a = none then (match view H'' a with | some u => if isIm u = true then some u else none | none => none) else view H a) = some u := fun a u im e => by
          refine gt a u im ?_
          have z : a ≠ p := fun z => by
            subst z
            rw [hp] at e
            cases e
            cases im
          rw [vw a z]
          exact g.gs a u e
        exact ra.immTo this hi
      · rw [List.mem_singleton.mp hq]
        refine ⟨hn, ?_⟩
        show (if H p = none then (match view H'' p with | some u => if isIm u = true then some u else none | none => none) else view H p) = none
        have : view H'' p = some (.dK kvs) := by unfold view; rw [h1]; rfl
        rw [if_pos hn, this]
        rfl
    refine ⟨p, rfl, hn, ?_⟩
    cases q : H' p with
    | none => rw [view_none q] at hv; cases hv
    | some o =>
      have hu : unf o = .dK kvs := by
        unfold view at hv
        rw [q] at hv
        exact Option.some.inj hv
      by_cases hz : ∃ od w, o = .frz od w
      · obtain ⟨od, w, rfl⟩ := hz
        have ew : w = .dK kvs := hu
        subst ew
        exact .inl ⟨od, _, rfl, fin _ upd_same fun a ha => upd_ne ha⟩
      · have eo : o = .dK kvs := by
          cases o with
          | frz od w => exact absurd ⟨od, w, rfl⟩ hz
          | _ => exact hu
        subst eo
        exact .inr (fin _ q fun a _ => rfl)
def gNew (d : D) : Res D := match d with
  | .dk ks es => if immAll es = true then .ok (.dk ks es) else .bad
  | _ => .bad
def mCallN (F : List D → Res D) (ms : Env → Res (List D)) : Env → Res D := fun env => ms env >>= fun ds => if noDkL ds = true then F ds >>= gNew else .bad
@[simp] theorem e_mCallN {F : List D → Res D} {ms : Env → Res (List D)} {env : Env} : mCallN F ms env = (ms env >>= fun ds => if noDkL ds = true then F ds >>= gNew else .bad) := rfl
@[simp] theorem gNew_enc (p : Pol) : gNew (encP p) = .ok (encP p) := by
  unfold encP gNew
  simp
end
end Mir

namespace Mir
open PySem PySem.Spec L2
/-! ### x.extend(e), the items of e owned -/
section
variable {X : Cx} {kr k : Nat} {e o : Expr} {m : Env → Res D} {pos cpos apos : Pos}
end
end Mir

namespace Mir
open PySem PySem.Spec L2
/-! ### len of an owned dict -/
def mLenD (j : Nat) : Env → Res D := fun env => match env[j]? with
  | some (some (1, .dk ks ds)) => .ok (.int ds.length)
  | _ => .bad
@[simp] theorem e_mLenD {j : Nat} {env : Env} : mLenD j env = (match env[j]? with
  | some (some (1, .dk ks ds)) => .ok (.int ds.length)
  | _ => .bad) := rfl
end Mir

namespace Mir
open PySem PySem.Spec L2
/-! ### xs.count(k); a comparison whose left side may raise -/
section
variable {X : Cx} {o e a b : Expr} {mo m ma mb : Env → Res D} {pos cpos apos : Pos} {κ : Str → Addr} {W : WX} {k : Nat}
def mOpX (g : D → D → Res D) (ma mb : Env → Res D) : Env → Res D := fun env => ma env >>= fun x => nx (mb env >>= fun y => g x y)
@[simp] theorem e_mOpX (g : D → D → Res D) (ma mb : Env → Res D) (env : Env) : mOpX g ma mb env = (ma env >>= fun x => nx (mb env >>= fun y => g x y)) := rfl
end
end Mir

namespace Mir
open PySem PySem.Spec L2
/-! ### a name that is bound is forgotten ahead of a comprehension with this name -/
section
variable {X : Cx} {st : Stmt} {ss : List Stmt} {m1 : Env → Res Ctl} {kr : Nat}
def mDr (i : Nat) (m : Env → Res Ctl) : Env → Res Ctl := fun env => m (env.set i none)
@[simp] theorem e_mDr (i : Nat) (m : Env → Res Ctl) (env : Env) : mDr i m env = m (env.set i none) := rfl
end
end Mir

namespace Mir
open PySem PySem.Spec L2
/-! ### a list, taken apart -/
section
variable {X : Cx} {pos : Pos} {k : Nat}
def tTupL (n : Nat) (u : Nat → List D → Env → Res Env) : Nat → D → Env → Res Env := fun _ d env => match d with
  | .lst ds => if ds.length = n then u 0 ds env else .bad
  | _ => .bad
theorem EnvOk.opLst {B : Bs} {H : Hp} {env : Env} {σ : St} {tm : List Hold} {v : V} {ds : List D} (h : EnvOk B H env σ ((v, 0, .lst ds) :: tm)) : ∃ p vs, v = .ref p ∧ view H p = some (.lst vs) ∧ vs.length = ds.length ∧ EnvOk B H env σ (lev 0 vs ds ++ tm) := by
  have h2 := h.len
  have h3 := h.has
  obtain ⟨G, f, g, hg, hf, hr, nd, hq⟩ := EnvOk.apart (l := [(v, 0, D.lst ds)]) h
  cases hf with
  | @cons _ _ _ _ f1 g1 h1 hn =>
    cases hn
    rw [List.append_nil] at nd hq
    cases h1 with
    | sh hz r =>
      cases r with
      | @lst a0 vs0 _ e ra =>
        refine ⟨_, _, rfl, hg.gs _ _ e, ra.length, ?_⟩
        have hv : HoldAll G H (lev 0 vs0 ds) [] := by
          clear hz hq nd e h
          induction ra using RpAll.rec (motive_1 := fun _ _ _ => True) with
          | nil => exact .nil
          | @cons v' vs' d' ds' hr' _ _ ih => exact HoldAll.cons (f := []) (g := []) (.sh (.inl rfl) hr') ih
          | _ => trivial
        exact EnvOk.join h2 h3 hg hv hr nd hq
theorem tg_tupL {es : List Expr} {j : Nat} {n : Nat} {u : Nat → List D → Env → Res Env} {is : List Nat} (hc : X.calm = true) (h : STgs X es is u) (hn : (assignEach es X.env).length = n := by rfl) (hst : (assignEach es X.env).findIdx? (·.1) = none := by rfl) : STg X (.Tuple es j pos) is (tTupL n u) := fun k B H env σ tm d v env' Q ok hm q => by
  unfold tTupL at hm
  split at hm
  · rename_i ds
    split at hm
    · rename_i hl
      obtain ⟨p, vs, rfl, hp, hvl, ok2⟩ := ok.freeze.opLst
      exact wG_of (pg_lst hc pgs_sem hn hst) ⟨p, vs, rfl, .inl (view_rd hp), hvl.trans hl, h 0 B H env σ tm ds vs env' Q hvl ok2 hm q⟩
    · cases hm
  · cases hm
@[simp] theorem e_tTupL (n : Nat) (u : Nat → List D → Env → Res Env) (k : Nat) (ds : List D) (env : Env) : tTupL n u k (.lst ds) env = (if ds.length = n then u 0 ds env else .bad) := rfl
end
end Mir

namespace Mir
open PySem PySem.Spec L2
/-! ### len(set(pairs)) -/
section
variable {X : Cx} {e : Expr} {m : Env → Res D} {k : Nat} {pos p p2 pos2 : Pos}
end
end Mir

namespace Mir
open PySem PySem.Spec L2
/-! ### NAME == d: a dict of the module's own -/
section
variable {X : Cx}
variable {ps : List (Int × Int)} {x : Str} {b : Expr} {mb : Env → Res D} {pos p2 : Pos}
end
end Mir

namespace Mir
open PySem PySem.Spec L2
/-! ### list(d): a dict of numbers or texts -/
def gListK : D → Res D
  | .dk ks _ => .ok (.lst (ks.map kD))
  | _ => .bad
section
variable {X : Cx} {e : Expr} {m : Env → Res D} {k : Nat} {pos p : Pos}
@[simp] theorem gListK_enc (p : Pol) : gListK (encP p) = .ok (.lst ((p.map (·.1)).map D.int)) := by
  unfold encP gListK
  dsimp only
  rw [List.map_map, List.map_map]; rfl
end
end Mir

namespace Mir
open PySem PySem.Spec L2
/-! ### a call that may raise but does not, its arguments shared -/
section
variable {X : Cx} {e : Expr} {es : List Expr} {ms : Env → Res (List D)} {kr n : Nat} {κ : Str → Addr} {pos p : Pos} {x : Str} {F : List D → Res D} {j : Nat}
end
end Mir

namespace Mir
open PySem PySem.Spec L2
/-! ### d == e: dicts of numbers, alike or not -/
section
variable {X : Cx}
end
end Mir

namespace Mir
open PySem PySem.Spec L2
/-! ### d[k] of a dict with nested keys -/
section
variable {X : Cx} {o i : Expr} {md mk : Env → Res D} {pos : Pos}
end
end Mir

namespace Mir
open PySem PySem.Spec L2
/-! ### d != e: dicts of numbers, alike or not -/
section
variable {X : Cx}
end
end Mir

namespace Mir
open PySem PySem.Spec L2
/-! ### what is owned to depth one and holds nothing that could be written is owned to any depth -/
def lowD : D → Bool
  | .lst ds => immAll ds
  | .dk _ ds => immAll ds
  | d => d.imm
def gUp : D → Res D := fun d => if lowD d = true then .ok d else .bad
section
variable {X : Cx} {e a b : Expr} {m ma mb : Env → Res D} {cs : List Nat} {pos : Pos} {k : Nat}
/-! ### an item of an owned tuple, the others let go -/
def gIxT : D → D → Res D
  | .tup ds, .int i => match atI ds i with
    | some d => .ok d
    | none => .bad
  | _, _ => .bad
/-! ### list(range(a, b)) -/
def gLRg : D → D → Res D
  | .int i, .int j => if 0 ≤ i ∧ j ≤ 4096 ∧ i ≤ 4096 ∧ 0 ≤ j then .ok (.lst (intsD i (j - i).toNat)) else .bad
  | _, _ => .bad
end
@[simp] theorem e_gLRg {i j : Int} : gLRg (.int i) (.int j) = if 0 ≤ i ∧ j ≤ 4096 ∧ i ≤ 4096 ∧ 0 ≤ j then .ok (.lst (intsD i (j - i).toNat)) else .bad := rfl
@[simp] theorem e_gUp {d : D} : gUp d = if lowD d = true then .ok d else .bad := rfl
@[simp] theorem e_gIxT {ds : List D} {i : Int} : gIxT (.tup ds) (.int i) = (match atI ds i with
    | some d => .ok d
    | none => .bad) := rfl
end Mir

namespace Mir
open PySem PySem.Spec L2
/-! ### d[k] = v, the names kept -/
section
variable {X : Cx} {κ : Str → Addr} {Z : List Nat} {W : WX} {e o i : Expr} {m mk : Env → Res D} {cs : List Nat} {kr : Nat} {pos : Pos}
end
end Mir

namespace Mir
open PySem PySem.Spec L2
/-! ### len of an owned dict with tuple keys -/
def mLenDT (j : Nat) : Env → Res D := fun env => match env[j]? with
  | some (some (1, .dt ks ds)) => .ok (.int ds.length)
  | _ => .bad
@[simp] theorem e_mLenDT {j : Nat} {env : Env} : mLenDT j env = (match env[j]? with
  | some (some (1, .dt ks ds)) => .ok (.int ds.length)
  | _ => .bad) := rfl
end Mir

namespace Mir
open PySem PySem.Spec L2
/-! ### x = y op len(rows), a row of rows being lent -/
section
variable {X : Cx} {κ : Str → Addr} {Z : List Nat} {W : WX} {o a : Expr} {ma : Env → Res D} {i j k kr : Nat} {pos pos' pos2 p p2 spos : Pos} {m2 : Nat → List D → Env → Res Ctl} {ss : List Stmt} {x : Str}
end
end Mir

namespace Mir
open PySem PySem.Spec L2
/-! ### x = xs[i]; ..; x.insert(p, v); .. with x still read behind it -/
section
variable {X : Cx} {κ : Str → Addr} {Z : List Nat} {W : WX} {e o ep : Expr} {mp mv : Env → Res D} {k kr : Nat} {pos apos cpos : Pos}
end
end Mir

namespace Mir
open PySem PySem.Spec L2
/-! ### try: x = f(..): where it raises, x is as it was -/
section
variable {X : Cx} {κ : Str → Addr} {kr k : Nat} {Z : List Nat} {W : WX} {me : Env → Res D} {e : Expr} {cs : List Nat} {pos : Pos}
end
section
variable {X : Cx} {κ : Str → Addr} {kr : Nat} {Z : List Nat} {x n : Str} {c : Value} {i : Nat} {body suite : List Stmt} {b₀ : Stmt} {np pos pos' : Pos} {Wout : WX} {mb ms : Env → Res Ctl} {tab : Str → Option Bool}
end
end Mir

namespace Mir
open PySem PySem.Spec L2
/-! ### a list that is gone through is lent, not given away -/
section
variable {X : Cx} {e a b tg it elt : Expr} {m ma mb me : Env → Res D} {k : Nat} {cs : List Nat} {pos : Pos}
end
section
variable {X : Cx} {κ : Str → Addr} {kr k : Nat} {Z : List Nat} {W : WX} {m1 : Env → Res Ctl} {tg it : Expr} {pos : Pos}
theorem Kp.sub {j : Nat} {Z : List Nat} {σ σ' : St} (h : Kp (j :: Z) σ σ') : Kp Z σ σ' := fun z hz => h z (List.mem_cons_of_mem _ hz)
end
/-! ### d.clear(): a dict of tuple keys -/
end Mir

namespace Mir
open PySem PySem.Spec L2
/-! ### d == e, d != e of two dicts of tuple keys that are alike, as a test -/
end Mir

namespace Mir
open PySem PySem.Spec L2
/-! ### int(text), text.split(sep), text.index(sign) -/
section
variable {X : Cx} {e o : Expr} {m mo : Env → Res D} {k : Nat} {pos p apos : Pos}
end
end Mir

namespace Mir
open PySem PySem.Spec L2
/-! ### the signs of a text; a sign in a text -/
section
variable {X : Cx} {tg it : Expr} {m : Env → Res D}
end
end Mir

namespace Mir
open PySem PySem.Spec L2
open PyProof.Rows (envOfC)
/-! ### objects of own classes, not written once they are made -/
def oclB (K : PySem.W.Frag) (C : Addr) : Bool := PySem.W.plainGet K C Str.empty && (PySem.W.hasDictIn K C && (PySem.W.plainOver K C && (decide (PySem.W.findIn K (.ref C) "__setattr__" = some (some (.builtin "object.__setattr__")))
  && (decide (PySem.W.findIn K (.ref C) "__class__" = some (some (.builtin "object.__class__"))) && (decide (PySem.W.specialIn K (.builtin "object.__class__") "__get__" = some (some (.builtin "getset_descriptor.__get__"))) && (decide (PySem.W.takesIn K (.builtin "object.__class__") = some true)
  && decide (PySem.W.mroIn K C (.type "object") = some true)))))))
structure OIs (K : PySem.W.Frag) (C : Addr) : Prop where
  cl : Cls K C
  ha : PySem.W.findIn K (.ref C) "__class__" = some (some (.builtin "object.__class__"))
  hn : PySem.W.specialIn K (.builtin "object.__class__") "__get__" = some (some (.builtin "getset_descriptor.__get__"))
  ht : PySem.W.takesIn K (.builtin "object.__class__") = some true
  hm : PySem.W.mroIn K C (.type "object") = some true
theorem oclB_ok {K : PySem.W.Frag} {C : Addr} (h : oclB K C = true) : OIs K C := by
  unfold oclB at h
  simp only [Bool.and_eq_true, decide_eq_true_eq] at h
  obtain ⟨h1, h2, h3, h4, h5, h6, h7, h8⟩ := h
  exact ⟨⟨h1, h2, h3, h4⟩, h5, h6, h7, h8⟩
/-- the class named c stands at κ c -/
structure OCl (K : PySem.W.Frag) (mg : Str → Option Value) (κ : Str → Addr) (c : Str) : Prop where
  g : mg c = some (.ref (κ c))
  is : OIs K (κ c)
theorem ocl_of {K : PySem.W.Frag} {mg : Str → Option Value} {h : Heap} {c : Str} {a : Addr} (X : K.In h) (G : h.Ns mainGlobals mg) (z : PySem.W.nsIn K mainGlobals c = some (some (.ref a))) (i : oclB K a = true) : OCl K mg (kOf K) c :=
  ⟨by rw [kOf_eq z]; exact PySem.W.mg_of X G z, by rw [kOf_eq z]; exact oclB_ok i⟩
section
variable {X : Cx} {κ : Str → Addr} {a b o e : Expr} {es : List Expr} {m mo : Env → Res D} {ms : Env → Res (List D)} {pos p apos : Pos} {B : Bs} {H : Hp} {env : Env} {σ : St} {tm : List Hold}
theorem ob_at {c : Str} {v : V} {C : Addr} {ns : List Str} {ds : List D} (ok : EnvOk B H env σ tm) (r : Rp (view H) v (.ob c C ns ds)) : ∃ a dx kvs, v = .ref a ∧ H a = some (.ins C dx kvs) ∧ kvs.map (·.1) = ns ∧ RpAll (view H) (kvs.map (·.2)) ds := by
  cases r with
  | ob h e r => exact ⟨_, _, _, rfl, ok.imAt rfl h, e, r⟩
/-! #### e.f -/
def OTab (K : PySem.W.Frag) (κ : Str → Addr) (f : Str) : List Str → Prop
  | [] => True
  | c :: cs => (OIs K (κ c) ∧ NoAttr K (κ c) f) ∧ OTab K κ f cs
theorem OTab.get {K : PySem.W.Frag} {f c : Str} : ∀ {cs : List Str}, OTab K κ f cs → c ∈ cs → OIs K (κ c) ∧ NoAttr K (κ c) f
  | _ :: _, h, hc => by
    rcases List.mem_cons.mp hc with rfl | hc
    · exact h.1
    · exact h.2.get hc
def gFld (κ : Str → Addr) (cs : List Str) (f : Str) : D → Res D
  | .ob c C ns as => if (c ∈ cs ∧ C = κ c) ∧ ns.length = as.length then (match (ns.zip as).lookup f with | some d => .ok d | none => .bad) else .bad
  | _ => .bad
theorem sb_fld {cs : List Str} {f : Str} (T : OTab X.K κ f cs) (h : SB X a m) (hb : attributeBase a f X.env (eval a X.env) = eval a X.env := by rfl) : SB X (.Attribute a f pos) (mUn (gFld κ cs f) m) := fun B H env σ tm d Q ok hm q => by
  obtain ⟨x, hx, h2⟩ := bind_ok hm
  unfold gFld at h2
  split at h2
  · rename_i c C ns as
    split at h2
    · rename_i hh
      obtain ⟨⟨hc, rfl⟩, hl⟩ := hh
      obtain ⟨I, N⟩ := T.get hc
      split at h2
      · rename_i d' hd
        cases h2
        refine wE_of (pe_fld pe_sem hb) (h B H env σ tm _ _ ok hx fun v H1 x1 ok1 r => ?_)
        obtain ⟨a, dx, kvs, rfl, ha, hns, ra⟩ := ob_at ok1 r
        subst hns
        obtain ⟨y, hy, ry⟩ := look_all ra hd
        exact ⟨a, _, dx, kvs, y, rfl, ha, I.cl, N, hy, q y H1 x1 ok1 ry⟩
      · cases h2
    · cases h2
  · cases h2
/-! #### C(..) -/
def spI (C : Addr) (ns : List Str) : Sp := fun vs H Q _ => vs.length = ns.length + 1 ∧ ∃ x dx as, vs = .ref x :: as ∧ H x = some (.ins C dx []) ∧ Q .non (upd H x (.ins C dx (ns.zip as)))
def gMake (κ : Str → Addr) (c : Str) (ns : List Str) (ds : List D) : Res D := if immAll ds = true ∧ ds.length = ns.length then .ok (.ob c (κ c) ns ds) else .bad
theorem EnvOk.newAny {o : HO} {p : Addr} (h : EnvOk B H env σ tm) (hp : H p = none) (hu : unf o = o) : EnvOk B (upd H p o) env σ tm := by
  have h2 := h.len
  have h3 := h.has
  obtain ⟨G, f, hg, hr, nd, hq⟩ := h.ex
  have hrm := hr.mu
  have hH : ∀ a u, H a = some u → upd H p o a = some u := up_keep hp
  have hgp := hg.gnone hp
  have hG : ∀ a u, G a = some u → upd G p o a = some u := up_keep hgp
  refine ⟨⟨upd G p o, f, hg.newSh hp hu, hr.frame hG fun a u e _ => hH a u e, nd, fun q m => ⟨(hq q m).1, ?_⟩⟩, h2, h3⟩
  have qp : q ≠ p := fun z => by
    subst z
    obtain ⟨u, e, _⟩ := hrm q m; rw [hp] at e; cases e
  rw [upd_ne qp]
  exact (hq q m).2
theorem zip_both : ∀ {ns : List Str} {as : List V}, as.length = ns.length → (ns.zip as).map (·.1) = ns ∧ (ns.zip as).map (·.2) = as
  | [], [], _ => ⟨rfl, rfl⟩
  | [], _ :: _, h => by simp at h
  | _ :: _, [], h => by simp at h
  | n :: ns, a :: as, h => by
    obtain ⟨h1, h2⟩ := zip_both (ns := ns) (as := as) (by simpa using h)
    exact ⟨by simp [h1], by simp [h2]⟩
structure MkC (P : Program) (w : World) (K : PySem.W.Frag) (mg : Str → Option Value) (base : Heap) (C : Addr) (j : Nat) (ns : List Str) : Prop where
  ex : ∃ f fd ps, Mk K C f ∧ Binds K fd ps [] ∧ FnOk P w K mg base CX0 j f fd ps (spI C ns)
theorem sc_make {c : Str} {ns : List Str} {j : Nat} (C : MkC X.prog X.w X.K X.mg X.base (κ c) j ns) (O : OCl X.K X.mg κ c) (hr : Room (j + 1) X.A) (hg : Gl X c)
    (ha : SAB X (e :: es) ms) (hdb : (c == ("__debug__" : Str)) = false := by decide) (he : starEach (e :: es) X.env = (false, eval e X.env) :: starEach es X.env := by rfl) (hpl : (backTo pos (starEach es X.env)).any (·.1) = false := by rfl) :
    SC X (.Call (.Name c p) (e :: es) [] pos) (fun env => ms env >>= gMake κ c ns) := fun B H env σ tm d Q ok hm q => by
  obtain ⟨f, fd, ps, M, hb, Fo⟩ := C.ex
  obtain ⟨ds, hds, h2⟩ := bind_ok hm
  unfold gMake at h2
  split at h2
  · rename_i hi
    obtain ⟨him, hl⟩ := hi
    cases h2
    refine wE_of (pe_make M Fo hr hg O.g hb .nil pass0 pa_sem hdb he hpl) (ha B H env σ tm ds _ ok hds fun vs H1 x1 ok1 ra => ?_)
    intro x dx hx hdx hne
    rw [List.append_nil]
    have hvl : vs.length = ns.length := by rw [ra.length]; exact hl
    obtain ⟨z1, z2⟩ := zip_both hvl
    have hx' : upd H1 dx (.own x) x = none := by rw [upd_ne (Ne.symm hne)]; exact hx
    have ok2 := (ok1.newAny (o := .own x) hdx rfl).newAny (o := .ins (κ c) dx (ns.zip vs)) hx' rfl
    have e1 : upd (upd (upd H1 dx (.own x)) x (.ins (κ c) dx [])) x (.ins (κ c) dx (ns.zip vs)) = upd (upd H1 dx (.own x)) x (.ins (κ c) dx (ns.zip vs)) := by
      funext y
      unfold upd
      split <;> rfl
    refine ⟨by simp [hvl], x, dx, vs, rfl, by rw [upd_same], rfl, ?_⟩
    rw [e1]
    have x2 : Ext H1 (upd (upd H1 dx (.own x)) x (.ins (κ c) dx (ns.zip vs))) := (Ext.upd hdx).trans (Ext.upd hx')
    refine q _ _ (x1.trans x2) ok2 (.ob (dx := dx) (kvs := ns.zip vs) ?_ z1 ?_) (by simpa [D.imm] using him)
    · unfold view
      rw [upd_same]; rfl
    · rw [z2]
      exact x2.rpAll ra
  · cases h2
/-! #### the def __init__ that only stores what it is given -/
theorem putF_new {f : Str} {v : V} : ∀ {fs : List (Str × V)}, f ∉ fs.map (·.1) → putF f v fs = fs ++ [(f, v)]
  | [], _ => rfl
  | (g, x) :: r, h => by
    have h1 : g ≠ f := fun e => h (by simp [e])
    have h2 : f ∉ r.map (·.1) := fun e => h (by simp at e ⊢; exact .inr e)
    show (if g = f then (g, v) :: r else (g, x) :: putF f v r) = _
    rw [if_neg h1, putF_new h2]; rfl
theorem wb_fld {ss : List Stmt} {f : Str} {value : Expr} {pos' : Pos} {x C dx : Addr} {i : Nat} {v : V} {fs : List (Str × V)} {D : Ends} (ho : PE X o (tVar 0)) (hv : PE X value (tVar i)) (hs : swapsWith value (some (.Attribute o f pos')) pos.line X.env = pure false)
    (h0 : σ[0]? = some (some (.ref x))) (hi : σ[i]? = some (some v)) (hx : H x = some (.ins C dx fs)) (I : Cls X.K C) (N : NoAttr X.K C f) (hl : fs.length < 1000) (hn : f ∉ fs.map (·.1))
    (h : wB X ss D σ (upd H x (.ins C dx (fs ++ [(f, v)])))) : wB X (.Assign [.Attribute o f pos'] value pos :: ss) D σ H := by
  refine wB_of (pss_cons (ps_fld ho hv hs) pss_sem) ?_
  refine ⟨v, hi, .ref x, h0, x, C, dx, fs, rfl, hx, I, N, hl, ?_⟩
  rw [putF_new hn]
  exact h
theorem wb_end {D : Ends} (h : D.nx σ H) : wB X [] D σ H := wB_of pss_nil h
theorem upd2 {x : Addr} {u v : HO} : upd (upd H x u) x v = upd H x v := by
  funext y
  unfold upd
  split <;> rfl
/-! #### o.m(..) -/
structure MetC (P : Program) (w : World) (K : PySem.W.Frag) (mg : Str → Option Value) (base : Heap) (C : Addr) (m : Str) (j n kr : Nat) (F : List D → Res D) : Prop where
  ex : ∃ f fd ps, Meth K C m f ∧ Binds K fd ps [] ∧ FnOk P w K mg base CX0 j f fd ps (spF kr n F)
def MTab (X : Cx) (κ : Str → Addr) (m : Str) (n kr : Nat) : List (Str × (List D → Res D)) → Prop
  | [] => True
  | (c, F) :: r => (OIs X.K (κ c) ∧ ∃ j, Room j X.A ∧ MetC X.prog X.w X.K X.mg X.base (κ c) m j n kr F) ∧ MTab X κ m n kr r
theorem MTab.get {m : Str} {n kr : Nat} {c : Str} {F : List D → Res D} : ∀ {t : List (Str × (List D → Res D))}, MTab X κ m n kr t → t.lookup c = some F → OIs X.K (κ c) ∧ ∃ j, Room j X.A ∧ MetC X.prog X.w X.K X.mg X.base (κ c) m j n kr F
  | [], _, h => by cases h
  | (c', F') :: r, h, e => by
    rw [List.lookup_cons] at e
    split at e
    · rename_i hc
      cases e
      rw [show c = c' from by simpa using hc]
      exact h.1
    · exact h.2.get e
def gMeth (κ : Str → Addr) (t : List (Str × (List D → Res D))) (m : Str) (kr : Nat) (o : D) (ds : List D) : Res D := match o with
  | .ob c C ns as => (match t.lookup c with
    | some F => if C = κ c ∧ m ∉ ns then F (.ob c C ns as :: ds) >>= fun d => if immAt kr d then .ok d else .bad else .bad
    | none => .bad)
  | _ => .bad
def mMeth (κ : Str → Addr) (t : List (Str × (List D → Res D))) (m : Str) (kr : Nat) (mo : Env → Res D) (ms : Env → Res (List D)) : Env → Res D := fun env => mo env >>= fun o => ms env >>= fun ds => gMeth κ t m kr o ds
@[simp] theorem e_mMeth {t : List (Str × (List D → Res D))} {m : Str} {kr : Nat} : mMeth κ t m kr mo ms env = (mo env >>= fun o => ms env >>= fun ds => gMeth κ t m kr o ds) := rfl
theorem lookup_none {m : Str} : ∀ {kvs : List (Str × V)}, m ∉ kvs.map (·.1) → kvs.lookup m = none
  | [], _ => rfl
  | (g, x) :: r, h => by
    have h1 : (m == g) = false := by
      rw [beq_eq_false_iff_ne]
      exact fun e => h (by simp [e])
    have h2 : m ∉ r.map (·.1) := fun e => h (by simp at e ⊢; exact .inr e)
    rw [List.lookup_cons, h1]
    exact lookup_none h2
theorem se_meth {m : Str} {n kr : Nat} {t : List (Str × (List D → Res D))} {pl : Sem Bool} (T : MTab X κ m (n + 1) kr t) (ho : SB X o mo) (ha : SAB X (e :: es) ms) (hl : ∀ env ds, ms env = .ok ds → ds.length = n)
    (hst : starEach (e :: es) X.env = (false, eval e X.env) :: starEach es X.env := by rfl) (hpl : (backTo pos (starEach es X.env)).any (·.1) = false := by rfl)
    (ht : eval (.Call (.Attribute o m apos) (e :: es) [] pos) X.env = (do
      let ov ← eval o X.env
      standAt apos.atName
      let (f, first) ← holding [ov] (getMethod ov m pl)
      callWith pos f first (backTo pos (starEach (e :: es) X.env)) (backToKw pos (keywordEach [] X.env))) := by rfl) :
    SE X kr [] (.Call (.Attribute o m apos) (e :: es) [] pos) (mMeth κ t m kr mo ms) := fun B H env σ tm d Q ok hm q => by
  obtain ⟨x, hx, h1⟩ := bind_ok hm
  obtain ⟨ds, hds, h2⟩ := bind_ok h1
  unfold gMeth at h2
  split at h2
  · rename_i c C ns as
    split at h2
    · rename_i F hF
      split at h2
      · rename_i hh
        obtain ⟨rfl, hmn⟩ := hh
        obtain ⟨I, j, hr, M⟩ := T.get hF
        obtain ⟨f, fd, ps, hme, hb, Fo⟩ := M.ex
        have h3 := h2
        obtain ⟨d', hF', h4⟩ := bind_ok h3
        split at h4
        · rename_i hi
          cases h4
          refine wE_of (pe_meth pe_sem I.cl hme Fo hr hb .nil pass0 pa_sem hst hpl ht) (ho B H env σ tm _ _ ok hx fun v H1 x1 ok1 r => ?_)
          obtain ⟨a, dx, kvs, rfl, ha', hns, ra⟩ := ob_at ok1 r
          refine ⟨a, dx, kvs, rfl, ha', lookup_none (by rw [hns]; exact hmn), ?_⟩
          refine ha B H1 env σ tm ds _ ok1 hds fun vs H2 x2 ok2 rs => ?_
          rw [List.append_nil]
          refine ⟨by rw [List.length_cons, rs.length, hl _ _ hds], view H2, _ :: ds, _, ⟨fun _ _ e => e, fun _ _ => rfl, fun _ _ e => e, fun _ _ _ e => e, fun a xs im e => ok2.imAt im e⟩, .cons (x2.rp r) rs, hF', fun v H' r' => ?_⟩
          obtain ⟨x3, ok3⟩ := ok2.retB r' hi
          exact q v H' ((x1.trans x2).trans x3) ok3
        · cases h4
      · cases h2
    · cases h2
  · cases h2
/-! #### isinstance(o, C) -/
def ITab (K : PySem.W.Frag) (κ : Str → Addr) (x : Str) : List (Str × Bool) → Prop
  | [] => True
  | (c, b) :: r => (OIs K (κ c) ∧ PySem.W.kitOne K (.ref (κ c)) (.ref (κ x)) = some b) ∧ ITab K κ x r
theorem ITab.get {K : PySem.W.Frag} {x c : Str} {b : Bool} : ∀ {t : List (Str × Bool)}, ITab K κ x t → t.lookup c = some b → OIs K (κ c) ∧ PySem.W.kitOne K (.ref (κ c)) (.ref (κ x)) = some b
  | [], _, h => by cases h
  | (c', F') :: r, h, e => by
    rw [List.lookup_cons] at e
    split at e
    · rename_i hc
      cases e
      rw [show c = c' from by simpa using hc]
      exact h.1
    · exact h.2.get e
end
end Mir

namespace Mir
open PySem PySem.Spec L2
open PyProof.Rows (envOfC)
/-! ### methods as they stand; __init__; d.clear() of a dict with int or text keys -/
/-- the j-th statement of a class -/
def inCls (s : Stmt) (j : Nat) : Stmt := match s with
  | .ClassDef _ _ _ b _ _ _ _ _ _ _ => b.getD j (.Pass ⟨0, 0, 0, 0⟩)
  | _ => .Pass ⟨0, 0, 0, 0⟩
structure AtM (K : PySem.W.Frag) (C : Addr) (m qual : Str) (st : Stmt) : Prop where
  ex : ∃ f fd, Fun K m qual st f fd ∧ Meth K C m f
theorem AtM.mk' {K : PySem.W.Frag} {C : Addr} {m qual : Str} {st : Stmt} {f : Addr} {oc : Value} {od an : Option Addr} {osl : Array (Option Value)} {kV doc pm cdv ct : Value} (a : PySem.W.findIn K (.ref C) m = some (some (.ref f)))
    (l : K.lookup f = some ⟨oc, od, .func (PySem.W.fnOf m qual (defArgs st) (defBody st) (defScope st) .none kV doc pm an cdv ct), osl⟩) (c : PySem.W.codeIn K cdv qual = true) (k : PySem.W.keepIn K (.ref f) = true) (n : PySem.W.isFn K (.ref f) = true) : AtM K C m qual st :=
  ⟨f, _, fun_mk l c k, ⟨a, n, k⟩⟩
section
variable {X : Cx} {o : Expr} {pos : Pos} {H : Hp} {σ : St}
theorem upd_same_id {x : Addr} {u : HO} (h : H x = some u) : upd H x u = H := by
  funext y
  unfold upd
  split
  · rename_i e; rw [e]; exact h.symm
  · rfl
theorem wb_fldU {ss : List Stmt} {f : Str} {value : Expr} {pos' : Pos} {x C dx : Addr} {i : Nat} {v : V} {fs : List (Str × V)} {D : Ends} (ho : PE X o (tVar 0)) (hv : PE X value (tVar i)) (hs : swapsWith value (some (.Attribute o f pos')) pos.line X.env = pure false)
    (ks : List Str) (h0 : σ[0]? = some (some (.ref x))) (hi : σ[i]? = some (some v)) (I : Cls X.K C) (N : NoAttr X.K C f) (hk : fs.map (·.1) = ks) (hl : ks.length < 1000) (hn : f ∉ ks)
    (h : wB X ss D σ (upd H x (.ins C dx (fs ++ [(f, v)])))) : wB X (.Assign [.Attribute o f pos'] value pos :: ss) D σ (upd H x (.ins C dx fs)) :=
  wb_fld (C := C) (dx := dx) ho hv hs h0 hi upd_same I N (by rw [← List.length_map (f := fun x : Str × V => x.1), hk]; exact hl) (by rw [hk]; exact hn) (by rw [upd2]; exact h)
end
end Mir

namespace Mir
open PySem PySem.Spec L2 RT
/-! ### for x in reversed(list) -/
section
variable {X : Cx} {tg it : Expr} {m : Env → Res D} {p pos : Pos}
end
end Mir

namespace L2
open PySem PySem.Spec PyProof.Rows
section
variable {X : Cx} {CX : CXT} {k : Nat} {f C : Addr} {fd : FuncData} {ps : List Str} {sp : Sp} {E : St → XK} {x m : Str} {p pos apos : Pos} {e o : Expr} {es : List Expr} {ta : TE} {t : TA}
end
end L2
namespace Mir
open PySem PySem.Spec L2
open PyProof.Rows (envOfC)
/-! ### methods that may raise; [.. for x in a call that may raise]; try .. except X: without a name -/
section
variable {X : Cx} {κ : Str → Addr} {W : WX} {a b o e : Expr} {es : List Expr} {m mo : Env → Res D} {ms : Env → Res (List D)} {pos p apos : Pos} {B : Bs} {H : Hp} {env : Env} {σ : St} {tm : List Hold}
structure MetX (P : Program) (w : World) (K : PySem.W.Frag) (mg : Str → Option Value) (base : Heap) (C : Addr) (m : Str) (j n kr : Nat) (κ : Str → Addr) (F : List D → Res D) : Prop where
  ex : ∃ f fd ps, Meth K C m f ∧ Binds K fd ps [] ∧ FnOk P w K mg base (L2.CX P w) j f fd ps (spX kr n κ F)
def MTabX (X : Cx) (κ : Str → Addr) (m : Str) (n kr : Nat) : List (Str × (List D → Res D)) → Prop
  | [] => True
  | (c, F) :: r => (OIs X.K (κ c) ∧ ∃ j, Room j X.A ∧ MetX X.prog X.w X.K X.mg X.base (κ c) m j n kr κ F) ∧ MTabX X κ m n kr r
theorem MTabX.get {m : Str} {n kr : Nat} {c : Str} {F : List D → Res D} : ∀ {t : List (Str × (List D → Res D))}, MTabX X κ m n kr t → t.lookup c = some F → OIs X.K (κ c) ∧ ∃ j, Room j X.A ∧ MetX X.prog X.w X.K X.mg X.base (κ c) m j n kr κ F
  | [], _, h => by cases h
  | (c', F') :: r, h, e => by
    rw [List.lookup_cons] at e
    split at e
    · rename_i hc
      cases e
      rw [show c = c' from by simpa using hc]
      exact h.1
    · exact h.2.get e
def mMethX (κ : Str → Addr) (t : List (Str × (List D → Res D))) (m : Str) (kr : Nat) (mo : Env → Res D) (ms : Env → Res (List D)) : Env → Res D := fun env => nx (mo env) >>= fun o => nx (ms env) >>= fun ds => gMeth κ t m kr o ds
/-- [elt for tg in it ..], it may raise -/
def mLcX (mx : Env → Res D) (t : Nat → D → Env → Res Env) (mt : Env → Res Bool) (me : Env → Res D) (own : List Nat) : Env → Res D := fun env =>
  mx env >>= fun d => nx (mLc (fun _ => itemsL d) t mt me own env)
end
/-! #### try: .. except X: .. -/
section
variable {X : Cx} {κ : Str → Addr} {kr : Nat} {Z : List Nat} {x : Str} {c : Value} {body suite : List Stmt} {b₀ : Stmt} {np pos pos' : Pos} {Wout : WX} {mb ms : Env → Res Ctl} {tab : Str → Option Bool}
end
end Mir

namespace Mir
open PySem PySem.Spec L2
/-! ### equations of methods that may raise -/
section
variable {κ : Str → Addr} {mo : Mir.Env → Res D} {ms : Mir.Env → Res (List D)} {env : Mir.Env}
@[simp] theorem e_mMethX {t : List (Str × (List D → Res D))} {m : Str} {kr : Nat} : mMethX κ t m kr mo ms env = (nx (mo env) >>= fun o => nx (ms env) >>= fun ds => gMeth κ t m kr o ds) := rfl
@[simp] theorem e_mLcX (mx : Mir.Env → Res D) (t : Nat → D → Mir.Env → Res Mir.Env) (mt : Mir.Env → Res Bool) (me : Mir.Env → Res D) (own : List Nat) : mLcX mx t mt me own env = (mx env >>= fun d => nx (mLc (fun _ => itemsL d) t mt me own env)) := rfl
theorem mN_of {α : Type} {m : Mir.Env → Res α} {r : α} (h : m env = .ok r) : mN m env = .ok r := by
  show nx (m env) = _
  rw [h]; rfl
end
end Mir

namespace Mir
open PySem PySem.Spec L2
/-! ### a shared thing put into an inner list -/
section
variable {X : Cx} {a b e o : Expr} {m : Env → Res D} {ma mb : Nat → Env → Res D} {j : Nat} {pos p pos2 : Pos}
end
section
variable {X : Cx} {e ep o ix o2 : Expr} {mi mv : Env → Res D} {mp : Nat → Env → Res D} {kr : Nat} {pos p pos' pos2 spos apos cpos spos2 : Pos} {mr : Env → Res Ctl} {rest : List Stmt} {x : Str}
end
end Mir

namespace Mir
open PySem PySem.Spec L2
/-! ### xs.remove(x), x in xs -/
section
variable {X : Cx} {e o : Expr} {m : Env → Res D} {kr : Nat} {pos apos cpos : Pos}
end
end Mir

namespace Mir
open PySem PySem.Spec L2
end Mir
namespace L_k49
open PySem PySem.Spec L2 Mir
/-- _law_cell:0, _law_prime:1, _law_many:2 -/
def m__law_pick : Mir.Env → Res Ctl :=
  (mRet (mOp gMod (mOp gMod (mOp gMul (mVar 0) (mC (.int 48271))) (mVar 1)) (mVar 2)))
def F__law_pick : List D → Res D := runD 3 m__law_pick
/-- _law_cell:0, _law_sizes:1, _law_primes:2, _law_left:3, _law_found:4, _law_at:5, _law_size:6 -/
def m__law_digits : Mir.Env → Res Ctl :=
  (mSeq (mSet 2 1 [] (mLst (mConsE (mC (.int 10007)) [] (mConsE (mC (.int 10009)) [] (mConsE (mC (.int 10037)) [] (mConsE (mC (.int 10039)) [] (mConsE (mC (.int 10061)) [] (mConsE (mC (.int 10067)) [] (mConsE (mC (.int 10069)) [] (mConsE (mC (.int 10079)) [] (mConsE (mC (.int 10091)) [] (mConsE (mC (.int 10093)) [] mNilA)))))))))))) (mSeq (mSet 3 0 [] (mOp gFdv (mVar 0) (mC (.int 2)))) (mSeq (mSet 4 1 [] (mLst mNilA)) (mSeq (mFor (fun env => (mVarK 1 0) env >>= itemsL >>= fun ds => .ok (enumD 0 ds)) (tTupT 2 (tCons (tName 5) (tCons (tName 6) tNil))) (mIf (mTb (mOp gEq (mOp gMod (mVar 0) (mC (.int 2))) (mC (.int 0)))) (mSeq (mAppend 4 0 [] (mOp gMod (mVar 3) (mVar 6))) (mSet 3 0 [] (mOp gFdv (mVar 3) (mVar 6)))) (mAppend 4 0 [] (mCall 0 F__law_pick (mConsA (mVar 0) (mConsA (mOp gIx (mVar 2) (mVar 5)) (mConsA (mVar 6) mNilA)))))) [5, 6]) (mRet (mVarK 4 1))))))
def F__law_digits : List D → Res D := runD 7 m__law_digits
/-- _law_names_here:0, _law_name:1 -/
def m__law_free : Mir.Env → Res Ctl :=
  (mSeq (fun env => wloop (mTb (mOp gIn (mVar 1) (mVar 0))) (mSet 1 0 [] (mOp gAdd (mOp gMod (mVar 1) (mC (.int 999))) (mC (.int 1)))) [] 4096 env) (mRet (mImm (mVar 1))))
def F__law_free : List D → Res D := runD 2 m__law_free
/-- _law_rows:0, _law_row:1 -/
def m__law_copy : Mir.Env → Res Ctl :=
  (mRet (mLc (fun env => (mVarK 0 0) env >>= itemsL) (tName 1) (fun _ => .ok true) (fun env => (fun env => (mVar 1) env >>= fun d => itemsL d >>= immL) env >>= fun ds => .ok (.lst ds)) [1]))
def F__law_copy : List D → Res D := runD 2 m__law_copy
/-- _law_rows:0, _law_at:1, _law_place:2, _law_more_here:3, _law_made:4 -/
def m__law_put : Mir.Env → Res Ctl :=
  (mSeq (mSet 4 2 [] (mCall 2 F__law_copy (mConsA (mVar 0) mNilA))) (mSeq (mSet 2 0 [] (mOp gMod (mVar 2) (mOp gAdd (mUn gLen (mOp gIx (mVar 4) (mVar 1))) (mC (.int 1))))) (mSeq (mPutI 4 1 [] (mCat (fun env => (mCat (fun env => (mSlice (fun env => (mOp gIx (mVar 4) (mVar 1)) env >>= fun d => itemsL d >>= immL) (fun _ => .ok none) (fun env => (mVar 2) env >>= toI >>= fun i => .ok (some i))) env >>= fun d => itemsL d >>= immL) (fun env => (mVar 3) env >>= fun d => itemsL d >>= immL)) env >>= fun d => itemsL d >>= immL) (fun env => (mSlice (fun env => (mOp gIx (mVar 4) (mVar 1)) env >>= fun d => itemsL d >>= immL) (fun env => (mVar 2) env >>= toI >>= fun i => .ok (some i)) (fun _ => .ok none)) env >>= fun d => itemsL d >>= immL)) (mVar 1)) (mRet (mVarK 4 2)))))
def F__law_put : List D → Res D := runD 5 m__law_put
/-- _law_cells:0, _law_strings:1, _law_spread:2, _law_rows:3, _law_names_here:4, _law_cell:5, _law_part:6, _law_name:7, _law_way:8, _law_k:9 -/
def m__law_drawing : Mir.Env → Res Ctl :=
  (mSeq (mSet 3 2 [] (mLc (fun env => (mVar 1) env >>= gRng1) (tName 9) (fun _ => .ok true) (mLst mNilA) [9])) (mSeq (mSet 4 1 [] (mLst mNilA)) (mSeq (mFor (fun env => (mVarK 0 0) env >>= itemsL) (tName 5) (mSeq (mSet 6 1 [] (mCall 1 F__law_digits (mConsA (mVar 5) (mConsA (mLst (mConsA (mVar 2) (mConsA (mC (.int 2)) (mConsA (mVar 1) (mConsA (mC (.int 10000)) (mConsA (mVar 1) (mConsA (mC (.int 10000)) mNilA))))))) mNilA)))) (mSeq (mSet 7 0 [] (mCall 0 F__law_free (mConsA (mVar 4) (mConsA (mOp gAdd (mC (.int 1)) (mOp gIx (mVar 6) (mC (.int 0)))) mNilA)))) (mSeq (mAppend 4 0 [] (mImm (mVar 7))) (mFor (fun env => (mC (.int 2)) env >>= gRng1) (tName 8) (mSet 3 2 [] (mCall 2 F__law_put (mConsA (mVar 3) (mConsA (mOp gIx (mVar 6) (mOp gAdd (mC (.int 2)) (mOp gMul (mC (.int 2)) (mVar 8)))) (mConsA (mOp gIx (mVar 6) (mOp gAdd (mC (.int 3)) (mOp gMul (mC (.int 2)) (mVar 8)))) (mConsA (mLst (mConsA (mImm (mTup (mConsE (mImm (mVar 7)) [] (mConsE (mImm (mVar 8)) [] (mConsE (mOp gSub (mC (.int 1)) (mOp gMul (mC (.int 2)) (mOp gIx (mVar 6) (mC (.int 1))))) [] mNilA))))) mNilA)) mNilA)))))) [8])))) [5, 6, 7, 8]) (mRet (mVarK 3 2)))))
def F__law_drawing : List D → Res D := runD 10 m__law_drawing
/-- drawing:0, hands:1, row:2, passing:3 -/
def m_hands_of : Mir.Env → Res Ctl :=
  (mSeq (mSet 1 1 [] (mC (.dk [] []))) (mSeq (mFor (fun env => (mVarK 0 0) env >>= itemsL) (tName 2) (mFor (fun env => (mVarK 2 0) env >>= itemsL) (tName 3) (mDput 1 [] (mImm (mOp gIx (mVar 3) (mC (.int 2)))) (mOp gIx (mVar 3) (mC (.int 0)))) [3]) [2, 3]) (mRet (mVarK 1 1))))
def F_hands_of : List D → Res D := runD 4 m_hands_of
/-- drawing:0 -/
def m_names_of : Mir.Env → Res Ctl :=
  (mRet (fun env => (mCall 1 F_hands_of (mConsA (mVar 0) mNilA)) env >>= gSortD))
def F_names_of : List D → Res D := runD 1 m_names_of
/-- drawing:0, found:1, at:2, row:3, passing:4 -/
def m_spots_by_strings : Mir.Env → Res Ctl :=
  (mSeq (mSet 1 1 [] (mC (.dt [] []))) (mSeq (mFor (fun env => (mVarK 0 0) env >>= itemsL >>= fun ds => .ok (enumD 0 ds)) (tTupT 2 (tCons (tName 2) (tCons (tName 3) tNil))) (mSeq (mIf (mNotB (fun env => (mVar 3) env >>= gTru)) (mDput 1 [] (mImm (mVar 2)) (mImm (mTup (mConsE (mImm (mVar 2)) [] (mConsE (mC (.int 2)) [] mNilA))))) mSkip) (mFor (fun env => (mVarK 3 0) env >>= itemsL) (tName 4) (mDput 1 [] (mImm (mVar 2)) (mImm (mTup (mConsE (mImm (mOp gIx (mVar 4) (mC (.int 0)))) [] (mConsE (mImm (mOp gIx (mVar 4) (mC (.int 1)))) [] mNilA))))) [4])) [2, 3, 4]) (mRet (mVarK 1 1))))
def F_spots_by_strings : List D → Res D := runD 5 m_spots_by_strings
/-- drawing:0, spot:1, found:2 -/
def m_string_of : Mir.Env → Res Ctl :=
  (mSeq (mSet 2 1 [] (mCall 1 F_spots_by_strings (mConsA (mVar 0) mNilA))) (mSeq (mIf (mTb (mOp gDNotIn (mVar 1) (mVar 2))) mNo mSkip) (mRet (mImm (mOp gDGet (mVar 2) (mVar 1))))))
def F_string_of : List D → Res D := runD 3 m_string_of
/-- drawing:0, name:1, hands:2 -/
def m_hand_of : Mir.Env → Res Ctl :=
  (mSeq (mSet 2 1 [] (mCall 1 F_hands_of (mConsA (mVar 0) mNilA))) (mSeq (mIf (mTb (mOp gDNotIn (mVar 1) (mVar 2))) mNo mSkip) (mRet (mImm (mOp gDGet (mVar 2) (mVar 1))))))
def F_hand_of : List D → Res D := runD 3 m_hand_of
/-- drawing:0, table:1, name:2, one:3, other:4, row:5 -/
def m_linking : Mir.Env → Res Ctl :=
  (mSeq (mSet 1 2 [] (mLc (fun env => (mVarK 0 0) env >>= itemsL) (tName 5) (fun _ => .ok true) (mOp gRep (mLst (mConsE (mC (.int 0)) [] mNilA)) (mUn gLen (mVar 0))) [5])) (mSeq (mFor (fun env => (mCall 1 F_names_of (mConsA (mVar 0) mNilA)) env >>= itemsL) (tName 2) (mSeq (mSet 3 0 [] (mCall 0 F_string_of (mConsA (mVar 0) (mConsA (mImm (mTup (mConsE (mImm (mVar 2)) [] (mConsE (mC (.int 0)) [] mNilA)))) mNilA)))) (mSeq (mSet 4 0 [] (mCall 0 F_string_of (mConsA (mVar 0) (mConsA (mImm (mTup (mConsE (mImm (mVar 2)) [] (mConsE (mC (.int 1)) [] mNilA)))) mNilA)))) (mIf (mTb (mOp gNe (mVar 3) (mVar 4))) (mPutII 1 0 (mOp gAdd (mOp gIx (mOp gIx (mVar 1) (mVar 3)) (mVar 4)) (mCall 0 F_hand_of (mConsA (mVar 0) (mConsA (mVar 2) mNilA)))) (mVar 3) (mVar 4)) mSkip))) [2, 3, 4]) (mRet (mVarK 1 2))))
def F_linking : List D → Res D := runD 6 m_linking
/-- drawing:0, name:1 -/
def m_writhe : Mir.Env → Res Ctl :=
  (mRet (mUn gSum (mLc (fun env => (mCall 1 F_names_of (mConsA (mVar 0) mNilA)) env >>= itemsL) (tName 1) (fun _ => .ok true) (mCall 0 F_hand_of (mConsA (mVar 0) (mConsA (mVar 1) mNilA))) [1])))
def F_writhe : List D → Res D := runD 2 m_writhe
/-- _law_rows:0, _law_names_here:1, _law_row:2, _law_passing:3 -/
def m__law_names : Mir.Env → Res Ctl :=
  (mSeq (mSet 1 1 [] (mLst mNilA)) (mSeq (mFor (fun env => (mVarK 0 0) env >>= itemsL) (tName 2) (mFor (fun env => (mVarK 2 0) env >>= itemsL) (tName 3) (mIf (mTb (mOp gEq (mOp gIx (mVar 3) (mC (.int 1))) (mC (.int 0)))) (mAppend 1 0 [] (mImm (mOp gIx (mVar 3) (mC (.int 0))))) mSkip) [3]) [2, 3]) (mRet (mVarK 1 1))))
def F__law_names : List D → Res D := runD 4 m__law_names
/-- _law_names_here:0, _law_cell:1, _law_over:2, _law_middle:3, _law_under:4, _law_sign:5, _law_one:6, _law_two:7, _law_three:8, _law_pairs_here:9, _law_signs:10, _law_k:11 -/
def m__law_pairs : Mir.Env → Res Ctl :=
  (mSeq (mSet 2 0 [] (mOp gSub (mC (.int 1)) (mOp gMul (mC (.int 2)) (mOp gMod (mVar 1) (mC (.int 2)))))) (mSeq (mSet 3 0 [] (mOp gSub (mC (.int 1)) (mOp gMul (mC (.int 2)) (mOp gMod (mOp gFdv (mVar 1) (mC (.int 2))) (mC (.int 2)))))) (mSeq (mSet 4 0 [] (mOp gSub (mC (.int 1)) (mOp gMul (mC (.int 2)) (mOp gMod (mOp gFdv (mVar 1) (mC (.int 4))) (mC (.int 2)))))) (mSeq (mSet 5 0 [] (mOp gSub (mC (.int 1)) (mOp gMul (mC (.int 2)) (mOp gMod (mOp gFdv (mVar 1) (mC (.int 8))) (mC (.int 2)))))) (mSeq (mSet 6 0 [] (mOp gMul (mOp gMul (mVar 5) (mVar 2)) (mVar 3))) (mSeq (mSet 7 0 [] (mOp gMul (mOp gMul (mVar 5) (mVar 2)) (mVar 4))) (mSeq (mSet 8 0 [] (mOp gMul (mOp gMul (mVar 5) (mVar 3)) (mVar 4))) (mSeq (mSet 9 2 [] (mLst (mConsE (mLst (mConsE (mImm (mTup (mConsE (mImm (mOp gIx (mVar 0) (mC (.int 0)))) [] (mConsE (mC (.int 0)) [] (mConsE (mImm (mVar 6)) [] mNilA))))) [] (mConsE (mImm (mTup (mConsE (mImm (mOp gIx (mVar 0) (mC (.int 1)))) [] (mConsE (mC (.int 0)) [] (mConsE (mImm (mVar 7)) [] mNilA))))) [] mNilA))) [] (mConsE (mLst (mConsE (mImm (mTup (mConsE (mImm (mOp gIx (mVar 0) (mC (.int 0)))) [] (mConsE (mC (.int 1)) [] (mConsE (mImm (mVar 6)) [] mNilA))))) [] (mConsE (mImm (mTup (mConsE (mImm (mOp gIx (mVar 0) (mC (.int 2)))) [] (mConsE (mC (.int 0)) [] (mConsE (mImm (mVar 8)) [] mNilA))))) [] mNilA))) [] mNilA)))) (mSeq (mAppend 9 1 [] (mLst (mConsE (mImm (mTup (mConsE (mImm (mOp gIx (mVar 0) (mC (.int 1)))) [] (mConsE (mC (.int 1)) [] (mConsE (mImm (mVar 7)) [] mNilA))))) [] (mConsE (mImm (mTup (mConsE (mImm (mOp gIx (mVar 0) (mC (.int 2)))) [] (mConsE (mC (.int 1)) [] (mConsE (mImm (mVar 8)) [] mNilA))))) [] mNilA)))) (mSeq (mSet 10 1 [] (mLst (mConsE (mImm (mVar 2)) [] (mConsE (mImm (mVar 3)) [] (mConsE (mImm (mVar 4)) [] mNilA))))) (mSeq (mFor (fun env => (mC (.int 3)) env >>= gRng1) (tName 11) (mIf (mTb (mOp gEq (mOp gIx (mVar 10) (mVar 11)) (mUn gNeg (mC (.int 1))))) (mPutI 9 1 [] (mListRev (fun env => (mOp gIx (mVar 9) (mVar 11)) env >>= fun d => itemsL d >>= immL)) (mVar 11)) mSkip) [11]) (mRet (mVarK 9 2)))))))))))))
def F__law_pairs : List D → Res D := runD 12 m__law_pairs
/-- _law_rows:0, _law_cell:1, _law_names_here:2, _law_fresh:3, _law_many:4, _law_part:5, _law_k:6, _law_pairs_here:7 -/
def m__law_triangle : Mir.Env → Res Ctl :=
  (mSeq (mSet 2 1 [] (mCall 1 F__law_names (mConsA (mVar 0) mNilA))) (mSeq (mSet 3 1 [] (mLst mNilA)) (mSeq (mSet 4 0 [] (mUn gLen (mVar 0))) (mSeq (mSet 5 1 [] (mCall 1 F__law_digits (mConsA (mVar 1) (mConsA (mLst (mConsA (mC (.int 16)) (mConsA (mC (.int 999)) (mConsA (mC (.int 999)) (mConsA (mC (.int 999)) (mConsA (mVar 4) (mConsA (mVar 4) (mConsA (mVar 4) (mConsA (mC (.int 10000)) (mConsA (mC (.int 10000)) (mConsA (mC (.int 10000)) mNilA))))))))))) mNilA)))) (mSeq (mFor (fun env => (mC (.int 3)) env >>= gRng1) (tName 6) (mAppend 3 0 [] (mCall 0 F__law_free (mConsA (mCat (fun env => (mVar 2) env >>= fun d => itemsL d >>= immL) (fun env => (mVar 3) env >>= fun d => itemsL d >>= immL)) (mConsA (mOp gAdd (mC (.int 1)) (mOp gIx (mVar 5) (mOp gAdd (mC (.int 1)) (mVar 6)))) mNilA)))) [6]) (mSeq (mSet 7 2 [] (mCall 2 F__law_pairs (mConsA (mVar 3) (mConsA (mOp gIx (mVar 5) (mC (.int 0))) mNilA)))) (mSeq (mFor (fun env => (mC (.int 3)) env >>= gRng1) (tName 6) (mSet 0 0 [] (mCall 2 F__law_put (mConsA (mVar 0) (mConsA (mOp gIx (mVar 5) (mOp gAdd (mC (.int 4)) (mVar 6))) (mConsA (mOp gIx (mVar 5) (mOp gAdd (mC (.int 7)) (mVar 6))) (mConsA (mOp gIx (mVar 7) (mVar 6)) mNilA)))))) [6]) (mRet (mVarK 0 0)))))))))
def F__law_triangle : List D → Res D := runD 8 m__law_triangle
/-- drawing:0, behind:1, row:2, at:3, passing:4, follower:5 -/
def m_next_of : Mir.Env → Res Ctl :=
  (mSeq (mSet 1 1 [] (mC (.dt [] []))) (mSeq (mFor (fun env => (mVarK 0 0) env >>= itemsL) (tName 2) (mFor (fun env => (mVarK 2 0) env >>= itemsL >>= fun ds => .ok (enumD 0 ds)) (tTupT 2 (tCons (tName 3) (tCons (tName 4) tNil))) (mSeq (mSet 5 0 [] (mImm (mOp gIx (mVar 2) (mOp gMod (mOp gAdd (mVar 3) (mC (.int 1))) (mUn gLen (mVar 2)))))) (mDput 1 [] (mImm (mTup (mConsE (mImm (mOp gIx (mVar 5) (mC (.int 0)))) [] (mConsE (mImm (mOp gIx (mVar 5) (mC (.int 1)))) [] mNilA)))) (mImm (mTup (mConsE (mImm (mOp gIx (mVar 4) (mC (.int 0)))) [] (mConsE (mImm (mOp gIx (mVar 4) (mC (.int 1)))) [] mNilA)))))) [3, 4, 5]) [2, 3, 4, 5]) (mRet (mVarK 1 1))))
def F_next_of : List D → Res D := runD 6 m_next_of
/-- behind:0, one:1, other:2 -/
def m_side_by_side : Mir.Env → Res Ctl :=
  (mRet (mOrV (mOp gEq (mOp gDGet (mVar 0) (mVar 1)) (mVar 2)) (mOp gEq (mOp gDGet (mVar 0) (mVar 2)) (mVar 1))))
def F_side_by_side : List D → Res D := runD 3 m_side_by_side
/-- behind:0, name:1 -/
def m_uncurls : Mir.Env → Res Ctl :=
  (mRet (mCall 0 F_side_by_side (mConsA (mVar 0) (mConsA (mImm (mTup (mConsE (mImm (mVar 1)) [] (mConsE (mC (.int 0)) [] mNilA)))) (mConsA (mImm (mTup (mConsE (mImm (mVar 1)) [] (mConsE (mC (.int 1)) [] mNilA)))) mNilA)))))
def F_uncurls : List D → Res D := runD 2 m_uncurls
/-- behind:0, names:1, name:2 -/
def m_uncurls_of : Mir.Env → Res Ctl :=
  (mRet (mLc (fun env => (mVarK 1 0) env >>= itemsL) (tName 2) (mTb (mCall 0 F_uncurls (mConsA (mVar 0) (mConsA (mVar 2) mNilA)))) (mImm (mTup (mConsE (mC (.str "uncurl")) [] (mConsE (mImm (mVar 2)) [] mNilA)))) [2]))
def F_uncurls_of : List D → Res D := runD 3 m_uncurls_of
/-- behind:0, hands:1, name:2, second:3 -/
def m_parts : Mir.Env → Res Ctl :=
  (mSeq (mIf (mOrB (mTb (mOp gEq (mVar 2) (mVar 3))) (mTb (mOp gEq (mOp gDGet (mVar 1) (mVar 2)) (mOp gDGet (mVar 1) (mVar 3))))) (mRet (mC (.bl false))) mSkip) (mSeq (mIf (mNotB (mTb (mCall 0 F_side_by_side (mConsA (mVar 0) (mConsA (mImm (mTup (mConsE (mImm (mVar 2)) [] (mConsE (mC (.int 0)) [] mNilA)))) (mConsA (mImm (mTup (mConsE (mImm (mVar 3)) [] (mConsE (mC (.int 0)) [] mNilA)))) mNilA)))))) (mRet (mC (.bl false))) mSkip) (mRet (mCall 0 F_side_by_side (mConsA (mVar 0) (mConsA (mImm (mTup (mConsE (mImm (mVar 2)) [] (mConsE (mC (.int 1)) [] mNilA)))) (mConsA (mImm (mTup (mConsE (mImm (mVar 3)) [] (mConsE (mC (.int 1)) [] mNilA)))) mNilA)))))))
def F_parts : List D → Res D := runD 4 m_parts
/-- behind:0, hands:1, names:2, found:3, at:4, name:5, second:6 -/
def m_parts_of : Mir.Env → Res Ctl :=
  (mSeq (mSet 3 1 [] (mLst mNilA)) (mSeq (mFor (fun env => (mVarK 2 0) env >>= itemsL >>= fun ds => .ok (enumD 0 ds)) (tTupT 2 (tCons (tName 4) (tCons (tName 5) tNil))) (mFor (fun env => (mSlice (fun env => (mVar 2) env >>= fun d => itemsL d >>= immL) (fun env => (mOp gAdd (mVar 4) (mC (.int 1))) env >>= toI >>= fun i => .ok (some i)) (fun _ => .ok none)) env >>= itemsL) (tName 6) (mIf (mTb (mCall 0 F_parts (mConsA (mVar 0) (mConsA (mVar 1) (mConsA (mVar 5) (mConsA (mVar 6) mNilA)))))) (mAppend 3 0 [] (mImm (mTup (mConsE (mC (.str "part")) [] (mConsE (mImm (mVar 5)) [] (mConsE (mImm (mVar 6)) [] mNilA)))))) mSkip) [6]) [4, 5, 6]) (mRet (mVarK 3 1))))
def F_parts_of : List D → Res D := runD 7 m_parts_of
/-- behind:0, one:1, other:2, way:3 -/
def m_right_behind : Mir.Env → Res Ctl :=
  (mSeq (mIf (mTb (mOp gEq (mVar 3) (mC (.int 1)))) (mRet (mOp gEq (mOp gDGet (mVar 0) (mVar 1)) (mVar 2))) mSkip) (mRet (mOp gEq (mOp gDGet (mVar 0) (mVar 2)) (mVar 1))))
def F_right_behind : List D → Res D := runD 4 m_right_behind
/-- behind:0, hands:1, names:2, turn:3, name:4, second:5, third:6 -/
def m_slides : Mir.Env → Res Ctl :=
  (mSeq (mAsg (tTupL 3 (tCons (tName 4) (tCons (tName 5) (tCons (tName 6) tNil)))) 0 [] (mVarK 2 0)) (mSeq (mIf (mOrB (mTb (mOp gEq (mVar 4) (mVar 5))) (mOrB (mTb (mOp gEq (mVar 4) (mVar 6))) (mTb (mOp gEq (mVar 5) (mVar 6))))) (mRet (mC (.bl false))) mSkip) (mSeq (mIf (mNotB (mTb (mCall 0 F_right_behind (mConsA (mVar 0) (mConsA (mImm (mTup (mConsE (mImm (mVar 4)) [] (mConsE (mC (.int 0)) [] mNilA)))) (mConsA (mImm (mTup (mConsE (mImm (mVar 5)) [] (mConsE (mC (.int 0)) [] mNilA)))) (mConsA (mVar 3) mNilA))))))) (mRet (mC (.bl false))) mSkip) (mSeq (mIf (mNotB (mTb (mCall 0 F_right_behind (mConsA (mVar 0) (mConsA (mImm (mTup (mConsE (mImm (mVar 4)) [] (mConsE (mC (.int 1)) [] mNilA)))) (mConsA (mImm (mTup (mConsE (mImm (mVar 6)) [] (mConsE (mC (.int 0)) [] mNilA)))) (mConsA (mOp gMul (mOp gMul (mVar 3) (mOp gDGet (mVar 1) (mVar 5))) (mOp gDGet (mVar 1) (mVar 6))) mNilA))))))) (mRet (mC (.bl false))) mSkip) (mRet (mCall 0 F_right_behind (mConsA (mVar 0) (mConsA (mImm (mTup (mConsE (mImm (mVar 5)) [] (mConsE (mC (.int 1)) [] mNilA)))) (mConsA (mImm (mTup (mConsE (mImm (mVar 6)) [] (mConsE (mC (.int 1)) [] mNilA)))) (mConsA (mOp gMul (mOp gMul (mVar 3) (mOp gDGet (mVar 1) (mVar 4))) (mOp gDGet (mVar 1) (mVar 6))) mNilA))))))))))
def F_slides : List D → Res D := runD 7 m_slides
/-- behind:0, hands:1, pair:2, turn:3, found:4, third:5 -/
def m_slides_on : Mir.Env → Res Ctl :=
  (mSeq (mSet 4 1 [] (mLst mNilA)) (mSeq (mFor (fun env => (fun env => (mVar 1) env >>= gSortD) env >>= itemsL) (tName 5) (mIf (mTb (mCall 0 F_slides (mConsA (mVar 0) (mConsA (mVar 1) (mConsA (mLst (mConsA (mOp gIx (mVar 2) (mC (.int 0))) (mConsA (mOp gIx (mVar 2) (mC (.int 1))) (mConsA (mVar 5) mNilA)))) (mConsA (mVar 3) mNilA)))))) (mAppend 4 0 [] (mImm (mTup (mConsE (mC (.str "slide")) [] (mConsE (mImm (mOp gIx (mVar 2) (mC (.int 0)))) [] (mConsE (mImm (mOp gIx (mVar 2) (mC (.int 1)))) [] (mConsE (mImm (mVar 5)) [] (mConsE (mImm (mVar 3)) [] mNilA)))))))) mSkip) [5]) (mRet (mVarK 4 1))))
def F_slides_on : List D → Res D := runD 6 m_slides_on
/-- behind:0, hands:1, names:2, found:3, name:4, way_on:5 -/
def m_slides_of : Mir.Env → Res Ctl :=
  (mSeq (mSet 3 1 [] (mLst mNilA)) (mSeq (mFor (fun env => (mVarK 2 0) env >>= itemsL) (tName 4) (mSeq (mSet 5 0 [] (mImm (mOp gDGet (mVar 0) (mImm (mTup (mConsE (mImm (mVar 4)) [] (mConsE (mC (.int 0)) [] mNilA))))))) (mIf (mTb (mOp gEq (mOp gIx (mVar 5) (mC (.int 1))) (mC (.int 0)))) (mSeq (mExtend 3 0 (fun env => (mCall 1 F_slides_on (mConsA (mVar 0) (mConsA (mVar 1) (mConsA (mImm (mTup (mConsE (mImm (mVar 4)) [] (mConsE (mImm (mOp gIx (mVar 5) (mC (.int 0)))) [] mNilA)))) (mConsA (mC (.int 1)) mNilA))))) env >>= fun d => itemsL d >>= immL)) (mExtend 3 0 (fun env => (mCall 1 F_slides_on (mConsA (mVar 0) (mConsA (mVar 1) (mConsA (mImm (mTup (mConsE (mImm (mOp gIx (mVar 5) (mC (.int 0)))) [] (mConsE (mImm (mVar 4)) [] mNilA)))) (mConsA (mUn gNeg (mC (.int 1))) mNilA))))) env >>= fun d => itemsL d >>= immL))) mSkip)) [4, 5]) (mRet (mVarK 3 1))))
def F_slides_of : List D → Res D := runD 6 m_slides_of
/-- drawing:0, behind:1, hands:2, names:3, found:4 -/
def m_lessening : Mir.Env → Res Ctl :=
  (mSeq (mSet 1 1 [] (mCall 1 F_next_of (mConsA (mVar 0) mNilA))) (mSeq (mSet 2 1 [] (mCall 1 F_hands_of (mConsA (mVar 0) mNilA))) (mSeq (mSet 3 1 [] (mCall 1 F_names_of (mConsA (mVar 0) mNilA))) (mSeq (mSet 4 1 [] (mCat (fun env => (mCall 1 F_uncurls_of (mConsA (mVar 1) (mConsA (mVar 3) mNilA))) env >>= fun d => itemsL d >>= immL) (fun env => (mCall 1 F_parts_of (mConsA (mVar 1) (mConsA (mVar 2) (mConsA (mVar 3) mNilA)))) env >>= fun d => itemsL d >>= immL))) (mRet (fun env => (mCat (fun env => (mVar 4) env >>= fun d => itemsL d >>= immL) (fun env => (mCall 1 F_slides_of (mConsA (mVar 1) (mConsA (mVar 2) (mConsA (mVar 3) mNilA)))) env >>= fun d => itemsL d >>= immL)) env >>= itemsL >>= immL >>= fun ds => gSort (.lst ds)))))))
def F_lessening : List D → Res D := runD 5 m_lessening
/-- _law_rows:0, _law_cell:1, _law_slides_first:2, _law_some:3, _law_told:4 -/
def m__law_lesser : Mir.Env → Res Ctl :=
  (mSeq (mSet 3 1 [] (mCall 1 F_lessening (mConsA (mCall 2 F__law_copy (mConsA (mVar 0) mNilA)) mNilA))) (mSeq (mFz 3 (mIf (mAndB (mTb (mVar 2)) (mTb (mOp gNe (mLc (fun env => (mVarK 3 0) env >>= itemsL) (tName 4) (mTb (mOp gEq (mOp gIx (mVar 4) (mC (.int 0))) (mC (.str "slide")))) (mImm (mVar 4)) [4]) (mLst mNilA)))) (mSeq (mSet 3 1 [] (mLc (fun env => (mVarK 3 0) env >>= itemsL) (tName 4) (mTb (mOp gEq (mOp gIx (mVar 4) (mC (.int 0))) (mC (.str "slide")))) (mImm (mVar 4)) [4])) (mFz 3 mSkip)) mSkip)) (mSeq (mIf (mTb (mOp gEq (mVar 3) (mLst mNilA))) (mRet (mC .non)) mSkip) (mRet (mImm (mOp gIx (mVar 3) (mOp gIx (mCall 1 F__law_digits (mConsA (mVar 1) (mConsA (mLst (mConsA (mC (.int 5)) (mConsA (mUn gLen (mVar 3)) mNilA))) mNilA))) (mC (.int 1)))))))))
def F__law_lesser : List D → Res D := runD 5 m__law_lesser
/-- _law_rows:0, _law_spots_here:1, _law_at:2, _law_passing:3 -/
def m__law_spots : Mir.Env → Res Ctl :=
  (mSeq (mSet 1 1 [] (mLst mNilA)) (mSeq (mFor (fun env => (mUn gLen (mVar 0)) env >>= gRng1) (tName 2) (mSeq (mIf (mTb (mOp gEq (mOp gIx (mVar 0) (mVar 2)) (mLst mNilA))) (mAppend 1 0 [] (mImm (mTup (mConsE (mImm (mVar 2)) [] (mConsE (mC (.int 2)) [] mNilA))))) mSkip) (mFor (fun env => (mOp gIx (mVarK 0 0) (mVar 2)) env >>= itemsL) (tName 3) (mAppend 1 0 [] (mImm (mTup (mConsE (mImm (mOp gIx (mVar 3) (mC (.int 0)))) [] (mConsE (mImm (mOp gIx (mVar 3) (mC (.int 1)))) [] mNilA))))) [3])) [2, 3]) (mRet (mVarK 1 1))))
def F__law_spots : List D → Res D := runD 4 m__law_spots
/-- _law_rows:0, _law_cell:1, _law_spots_here:2, _law_part:3 -/
def m__law_curl : Mir.Env → Res Ctl :=
  (mSeq (mSet 2 1 [] (mCall 1 F__law_spots (mConsA (mVar 0) mNilA))) (mSeq (mSet 3 1 [] (mCall 1 F__law_digits (mConsA (mVar 1) (mConsA (mLst (mConsA (mC (.int 5)) (mConsA (mC (.int 999)) (mConsA (mUn gLen (mVar 2)) (mConsA (mC (.int 2)) (mConsA (mC (.int 2)) mNilA)))))) mNilA)))) (mRet (mImm (mTup (mConsE (mC (.str "curl")) [] (mConsE (mCall 0 F__law_free (mConsA (mCall 1 F__law_names (mConsA (mVar 0) mNilA)) (mConsA (mOp gAdd (mC (.int 1)) (mOp gIx (mVar 3) (mC (.int 1)))) mNilA))) [] (mConsE (mImm (mOp gIx (mVar 2) (mOp gIx (mVar 3) (mC (.int 2))))) [] (mConsE (mImm (mOp gIx (mVar 3) (mC (.int 3)))) [] (mConsE (mOp gSub (mC (.int 1)) (mOp gMul (mC (.int 2)) (mOp gIx (mVar 3) (mC (.int 4))))) [] mNilA))))))))))
def F__law_curl : List D → Res D := runD 4 m__law_curl
/-- _law_rows:0, _law_cell:1, _law_spots_here:2, _law_part:3, _law_name:4, _law_second:5, _law_over:6, _law_under:7 -/
def m__law_lay : Mir.Env → Res Ctl :=
  (mSeq (mSet 2 1 [] (mCall 1 F__law_spots (mConsA (mVar 0) mNilA))) (mSeq (mSet 3 1 [] (mCall 1 F__law_digits (mConsA (mVar 1) (mConsA (mLst (mConsA (mC (.int 5)) (mConsA (mC (.int 999)) (mConsA (mC (.int 999)) (mConsA (mUn gLen (mVar 2)) (mConsA (mUn gLen (mVar 2)) (mConsA (mC (.int 6)) (mConsA (mC (.int 2)) (mConsA (mC (.int 2)) mNilA))))))))) mNilA)))) (mSeq (mSet 4 0 [] (mCall 0 F__law_free (mConsA (mCall 1 F__law_names (mConsA (mVar 0) mNilA)) (mConsA (mOp gAdd (mC (.int 1)) (mOp gIx (mVar 3) (mC (.int 1)))) mNilA)))) (mSeq (mSet 5 0 [] (mCall 0 F__law_free (mConsA (mCat (fun env => (mCall 1 F__law_names (mConsA (mVar 0) mNilA)) env >>= fun d => itemsL d >>= immL) (fun env => (mLst (mConsA (mVar 4) mNilA)) env >>= fun d => itemsL d >>= immL)) (mConsA (mOp gAdd (mC (.int 1)) (mOp gIx (mVar 3) (mC (.int 2)))) mNilA)))) (mSeq (mSet 6 0 [] (mImm (mOp gIx (mVar 2) (mOp gIx (mVar 3) (mC (.int 3)))))) (mSeq (mSet 7 0 [] (mImm (mOp gIx (mVar 2) (mOp gIx (mVar 3) (mC (.int 4)))))) (mSeq (mIf (mOrB (mTb (mOp gEq (mOp gIx (mVar 3) (mC (.int 5))) (mC (.int 0)))) (mAndB (mTb (mOp gEq (mOp gIx (mVar 6) (mC (.int 1))) (mC (.int 2)))) (mTb (mOp gEq (mVar 7) (mVar 6))))) (mSet 7 0 [] (mImm (mTup (mConsE (mImm (mVar 5)) [] (mConsE (mC (.int 0)) [] mNilA))))) mSkip) (mRet (mImm (mTup (mConsE (mC (.str "lay")) [] (mConsE (mImm (mVar 4)) [] (mConsE (mImm (mVar 5)) [] (mConsE (mImm (mVar 6)) [] (mConsE (mImm (mVar 7)) [] (mConsE (mImm (mOp gIx (mVar 3) (mC (.int 6)))) [] (mConsE (mOp gSub (mC (.int 1)) (mOp gMul (mC (.int 2)) (mOp gIx (mVar 3) (mC (.int 7))))) [] mNilA)))))))))))))))))
def F__law_lay : List D → Res D := runD 8 m__law_lay
/-- _law_rows:0, _law_cell:1, _law_most:2, _law_many:3, _law_kind:4 -/
def m__law_move : Mir.Env → Res Ctl :=
  (mSeq (mSet 3 0 [] (mUn gLen (mCall 1 F__law_names (mConsA (mVar 0) mNilA)))) (mSeq (mSet 4 0 [] (mImm (mOp gIx (mCall 1 F__law_digits (mConsA (mVar 1) (mConsA (mLst (mConsA (mC (.int 5)) mNilA)) mNilA))) (mC (.int 0))))) (mSeq (mIf (mAndB (mTb (mOp gEq (mVar 4) (mC (.int 0)))) (mTb (mOp gLt (mVar 3) (mVar 2)))) (mRet (mCall 0 F__law_curl (mConsA (mVar 0) (mConsA (mVar 1) mNilA)))) mSkip) (mSeq (mIf (mAndB (mTb (mOp gEq (mVar 4) (mC (.int 1)))) (mTb (mOp gLt (mOp gAdd (mVar 3) (mC (.int 1))) (mVar 2)))) (mRet (mCall 0 F__law_lay (mConsA (mVar 0) (mConsA (mVar 1) mNilA)))) mSkip) (mRet (mCall 0 F__law_lesser (mConsA (mVar 0) (mConsA (mVar 1) (mConsA (mOrV (mOp gEq (mVar 4) (mC (.int 2))) (mOp gEq (mVar 4) (mC (.int 3)))) mNilA)))))))))
def F__law_move : List D → Res D := runD 5 m__law_move
/-- _law_script:0, _law_k:1 -/
def m__law_cell_at : Mir.Env → Res Ctl :=
  (mSeq (mIf (mTb (mOp gLt (mVar 1) (mUn gLen (mVar 0)))) (mRet (mImm (mOp gIx (mVar 0) (mVar 1)))) mSkip) (mRet (mC (.int 0))))
def F__law_cell_at : List D → Res D := runD 2 m__law_cell_at
/-- row:0, at:1 -/
def m_seated : Mir.Env → Res Ctl :=
  (mSeq (mIf (mNotB (fun env => (mVar 0) env >>= gTru)) (mRet (mLst mNilA)) mSkip) (mSeq (mSet 1 0 [] (mOp gIndex (mVar 0) (mUn gMin (mVar 0)))) (mRet (mCat (fun env => (fun env => (fun env => (mSlice (fun env => (mVar 0) env >>= fun d => itemsL d >>= immL) (fun env => (mVar 1) env >>= toI >>= fun i => .ok (some i)) (fun _ => .ok none)) env >>= fun d => itemsL d >>= immL) env >>= fun ds => .ok (.lst ds)) env >>= fun d => itemsL d >>= immL) (fun env => (fun env => (fun env => (mSlice (fun env => (mVar 0) env >>= fun d => itemsL d >>= immL) (fun _ => .ok none) (fun env => (mVar 1) env >>= toI >>= fun i => .ok (some i))) env >>= fun d => itemsL d >>= immL) env >>= fun ds => .ok (.lst ds)) env >>= fun d => itemsL d >>= immL)))))
def F_seated : List D → Res D := runD 2 m_seated
/-- drawing:0, fresh:1, names:2, at:3, name:4 -/
def m_look_at_new : Mir.Env → Res Ctl :=
  (mSeq (mSet 2 1 [] (mCall 1 F_names_of (mConsA (mVar 0) mNilA))) (mSeq (mIf (mTb (mOp gGt (mOp gAdd (mUn gLen (mVar 2)) (mUn gLen (mVar 1))) (mC (.int 12)))) mNo mSkip) (mFor (fun env => (mVarK 1 0) env >>= itemsL >>= fun ds => .ok (enumD 0 ds)) (tTupT 2 (tCons (tName 3) (tCons (tName 4) tNil))) (mIf (mOrB (mTb (mOp gIn (mVar 4) (mVar 2))) (mTb (mOp gIn (mVar 4) (mSlice (fun env => (mVar 1) env >>= fun d => itemsL d >>= immL) (fun _ => .ok none) (fun env => (mVar 3) env >>= toI >>= fun i => .ok (some i)))))) mNo mSkip) [3, 4])))
def F_look_at_new : List D → Res D := runD 5 m_look_at_new
/-- drawing:0, spot:1, passings:2, made:3, found:4, at:5, row:6, longer:7, passing:8 -/
def m_put_behind : Mir.Env → Res Ctl :=
  (mSeq (mSet 3 2 [] (mLst mNilA)) (mSeq (mSet 4 0 [] (mC (.bl false))) (mSeq (mFor (fun env => (mVarK 0 0) env >>= itemsL >>= fun ds => .ok (enumD 0 ds)) (tTupT 2 (tCons (tName 5) (tCons (tName 6) tNil))) (mSeq (mSet 7 1 [] (mLst mNilA)) (mSeq (mIf (mAndB (mNotB (fun env => (mVar 6) env >>= gTru)) (mTb (mOp gEq (mVar 1) (mImm (mTup (mConsE (mImm (mVar 5)) [] (mConsE (mC (.int 2)) [] mNilA))))))) (mSeq (mExtend 7 0 (fun env => (mVar 2) env >>= fun d => itemsL d >>= immL)) (mSet 4 0 [] (mC (.bl true)))) mSkip) (mSeq (mFor (fun env => (mVarK 6 0) env >>= itemsL) (tName 8) (mSeq (mAppend 7 0 [] (mImm (mVar 8))) (mIf (mTb (mOp gEq (mImm (mTup (mConsE (mImm (mOp gIx (mVar 8) (mC (.int 0)))) [] (mConsE (mImm (mOp gIx (mVar 8) (mC (.int 1)))) [] mNilA)))) (mVar 1))) (mSeq (mExtend 7 0 (fun env => (mVar 2) env >>= fun d => itemsL d >>= immL)) (mSet 4 0 [] (mC (.bl true)))) mSkip)) [8]) (mAppend 3 1 [7] (mVarK 7 1))))) [5, 6, 7, 8]) (mSeq (mIf (mNotB (mTb (mVar 4))) mNo mSkip) (mRet (mVarK 3 2))))))
def F_put_behind : List D → Res D := runD 9 m_put_behind
/-- self:0, drawing:1, fresh:2 -/
def m_Curl_made (κ : Str → Addr) : Mir.Env → Res Ctl :=
  (mSeq (mExpr (mCall 0 F_look_at_new (mConsA (mVar 1) (mConsA (mLst (mConsA (mUn (gFld κ ["Curl"] "name") (mVar 0)) mNilA)) mNilA)))) (mSeq (mSet 2 1 [] (mLst (mConsE (mImm (mTup (mConsE (mImm (mUn (gFld κ ["Curl"] "name") (mVar 0))) [] (mConsE (mImm (mUn (gFld κ ["Curl"] "first") (mVar 0))) [] (mConsE (mImm (mUn (gFld κ ["Curl"] "hand") (mVar 0))) [] mNilA))))) [] (mConsE (mImm (mTup (mConsE (mImm (mUn (gFld κ ["Curl"] "name") (mVar 0))) [] (mConsE (mOp gSub (mC (.int 1)) (mUn (gFld κ ["Curl"] "first") (mVar 0))) [] (mConsE (mImm (mUn (gFld κ ["Curl"] "hand") (mVar 0))) [] mNilA))))) [] mNilA)))) (mRet (mCall 2 F_put_behind (mConsA (mVar 1) (mConsA (mUn (gFld κ ["Curl"] "spot") (mVar 0)) (mConsA (mVar 2) mNilA)))))))
def F_Curl_made (κ : Str → Addr) : List D → Res D := runD 3 (m_Curl_made κ)
/-- self:0, drawing:1, overs:2, unders:3, laid:4 -/
def m_Lay_made (κ : Str → Addr) : Mir.Env → Res Ctl :=
  (mSeq (mExpr (mCall 0 F_look_at_new (mConsA (mVar 1) (mConsA (mLst (mConsA (mUn (gFld κ ["Lay"] "name") (mVar 0)) (mConsA (mUn (gFld κ ["Lay"] "second") (mVar 0)) mNilA))) mNilA)))) (mSeq (mSet 2 1 [] (mLst (mConsE (mImm (mTup (mConsE (mImm (mUn (gFld κ ["Lay"] "name") (mVar 0))) [] (mConsE (mC (.int 0)) [] (mConsE (mImm (mUn (gFld κ ["Lay"] "hand") (mVar 0))) [] mNilA))))) [] (mConsE (mImm (mTup (mConsE (mImm (mUn (gFld κ ["Lay"] "second") (mVar 0))) [] (mConsE (mC (.int 0)) [] (mConsE (mUn gNeg (mUn (gFld κ ["Lay"] "hand") (mVar 0))) [] mNilA))))) [] mNilA)))) (mSeq (mSet 3 1 [] (mLst (mConsE (mImm (mTup (mConsE (mImm (mUn (gFld κ ["Lay"] "name") (mVar 0))) [] (mConsE (mC (.int 1)) [] (mConsE (mImm (mUn (gFld κ ["Lay"] "hand") (mVar 0))) [] mNilA))))) [] (mConsE (mImm (mTup (mConsE (mImm (mUn (gFld κ ["Lay"] "second") (mVar 0))) [] (mConsE (mC (.int 1)) [] (mConsE (mUn gNeg (mUn (gFld κ ["Lay"] "hand") (mVar 0))) [] mNilA))))) [] mNilA)))) (mSeq (mIf (mTb (mOp gEq (mUn (gFld κ ["Lay"] "turned") (mVar 0)) (mC (.int 1)))) (mSet 3 1 [] (mLst (mConsE (mImm (mOp gIx (mVar 3) (mC (.int 1)))) [] (mConsE (mImm (mOp gIx (mVar 3) (mC (.int 0)))) [] mNilA)))) mSkip) (mSeq (mSet 4 2 [] (mCall 2 F_put_behind (mConsA (mVar 1) (mConsA (mUn (gFld κ ["Lay"] "over") (mVar 0)) (mConsA (mVar 2) mNilA))))) (mSeq (mIf (mTb (mOp gEq (mUn (gFld κ ["Lay"] "under") (mVar 0)) (mImm (mTup (mConsE (mImm (mUn (gFld κ ["Lay"] "name") (mVar 0))) [] (mConsE (mC (.int 0)) [] mNilA)))))) mNo mSkip) (mRet (mCall 2 F_put_behind (mConsA (mVar 4) (mConsA (mUn (gFld κ ["Lay"] "under") (mVar 0)) (mConsA (mVar 3) mNilA)))))))))))
def F_Lay_made (κ : Str → Addr) : List D → Res D := runD 5 (m_Lay_made κ)
/-- drawing:0, names:1, name:2 -/
def m_look_at_old : Mir.Env → Res Ctl :=
  (mFor (fun env => (mVarK 1 0) env >>= itemsL) (tName 2) (mExpr (mCall 0 F_hand_of (mConsA (mVar 0) (mConsA (mVar 2) mNilA)))) [2])
def F_look_at_old : List D → Res D := runD 3 m_look_at_old
/-- self:0, drawing:1 -/
def m_Part_look (κ : Str → Addr) : Mir.Env → Res Ctl :=
  (mSeq (mExpr (mCall 0 F_look_at_old (mConsA (mVar 1) (mConsA (mLst (mConsA (mUn (gFld κ ["Part"] "name") (mVar 0)) (mConsA (mUn (gFld κ ["Part"] "second") (mVar 0)) mNilA))) mNilA)))) (mIf (mNotB (mTb (mCall 0 F_parts (mConsA (mCall 1 F_next_of (mConsA (mVar 1) mNilA)) (mConsA (mCall 1 F_hands_of (mConsA (mVar 1) mNilA)) (mConsA (mUn (gFld κ ["Part"] "name") (mVar 0)) (mConsA (mUn (gFld κ ["Part"] "second") (mVar 0)) mNilA))))))) mNo mSkip))
def F_Part_look (κ : Str → Addr) : List D → Res D := runD 2 (m_Part_look κ)
/-- drawing:0, names:1, made:2, row:3, passing:4 -/
def m_without : Mir.Env → Res Ctl :=
  (mSeq (mSet 2 2 [] (mLst mNilA)) (mSeq (mFor (fun env => (mVarK 0 0) env >>= itemsL) (tName 3) (mAppend 2 1 [] (mLc (fun env => (mVarK 3 0) env >>= itemsL) (tName 4) (mTb (mOp gNotIn (mOp gIx (mVar 4) (mC (.int 0))) (mVar 1))) (mImm (mVar 4)) [4])) [3, 4]) (mRet (mVarK 2 2))))
def F_without : List D → Res D := runD 5 m_without
/-- self:0, drawing:1 -/
def m_Part_made (κ : Str → Addr) : Mir.Env → Res Ctl :=
  (mSeq (mExpr (mMeth κ [("Part", F_Part_look κ)] "look" 0 (mVar 0) (mConsA (mVar 1) mNilA))) (mRet (mCall 2 F_without (mConsA (mVar 1) (mConsA (mLst (mConsA (mUn (gFld κ ["Part"] "name") (mVar 0)) (mConsA (mUn (gFld κ ["Part"] "second") (mVar 0)) mNilA))) mNilA)))))
def F_Part_made (κ : Str → Addr) : List D → Res D := runD 2 (m_Part_made κ)
/-- drawing:0, pairs:1, hands:2, partner:3, one:4, other:5, made:6, row:7, changed:8, passing:9, spot:10 -/
def m_exchanged : Mir.Env → Res Ctl :=
  (mSeq (mSet 2 1 [] (mCall 1 F_hands_of (mConsA (mVar 0) mNilA))) (mSeq (mSet 3 1 [] (mC (.dt [] []))) (mSeq (mFor (fun env => (mVarK 1 0) env >>= itemsL) (tTupT 2 (tCons (tName 4) (tCons (tName 5) tNil))) (mSeq (mDput 3 [] (mImm (mVar 5)) (mVar 4)) (mDput 3 [] (mImm (mVar 4)) (mVar 5))) [4, 5]) (mSeq (mSet 6 2 [] (mLst mNilA)) (mSeq (mFor (fun env => (mVarK 0 0) env >>= itemsL) (tName 7) (mSeq (mSet 8 1 [] (mLst mNilA)) (mSeq (mFor (fun env => (mVarK 7 0) env >>= itemsL) (tName 9) (mSeq (mSet 10 0 [] (mImm (mTup (mConsE (mImm (mOp gIx (mVar 9) (mC (.int 0)))) [] (mConsE (mImm (mOp gIx (mVar 9) (mC (.int 1)))) [] mNilA))))) (mSeq (mIf (mTb (mOp gDIn (mVar 10) (mVar 3))) (mSet 10 0 [] (mImm (mOp gDGet (mVar 3) (mVar 10)))) mSkip) (mAppend 8 0 [] (mImm (mTup (mConsE (mImm (mOp gIx (mVar 10) (mC (.int 0)))) [] (mConsE (mImm (mOp gIx (mVar 10) (mC (.int 1)))) [] (mConsE (mImm (mOp gDGet (mVar 2) (mOp gIx (mVar 10) (mC (.int 0))))) [] mNilA)))))))) [9, 10]) (mAppend 6 1 [8] (mVarK 8 1)))) [7, 8, 9, 10]) (mRet (mVarK 6 2)))))))
def F_exchanged : List D → Res D := runD 11 m_exchanged
/-- self:0, drawing:1, names:2, top:3, middle:4, bottom:5 -/
def m_Slide_made (κ : Str → Addr) : Mir.Env → Res Ctl :=
  (mSeq (mSet 2 1 [] (mLst (mConsE (mImm (mUn (gFld κ ["Slide"] "name") (mVar 0))) [] (mConsE (mImm (mUn (gFld κ ["Slide"] "second") (mVar 0))) [] (mConsE (mImm (mUn (gFld κ ["Slide"] "third") (mVar 0))) [] mNilA))))) (mSeq (mExpr (mCall 0 F_look_at_old (mConsA (mVar 1) (mConsA (mVar 2) mNilA)))) (mSeq (mIf (mNotB (mTb (mCall 0 F_slides (mConsA (mCall 1 F_next_of (mConsA (mVar 1) mNilA)) (mConsA (mCall 1 F_hands_of (mConsA (mVar 1) mNilA)) (mConsA (mVar 2) (mConsA (mUn (gFld κ ["Slide"] "turn") (mVar 0)) mNilA))))))) mNo mSkip) (mSeq (mSet 3 0 [] (mImm (mTup (mConsE (mImm (mTup (mConsE (mImm (mUn (gFld κ ["Slide"] "name") (mVar 0))) [] (mConsE (mC (.int 0)) [] mNilA)))) [] (mConsE (mImm (mTup (mConsE (mImm (mUn (gFld κ ["Slide"] "second") (mVar 0))) [] (mConsE (mC (.int 0)) [] mNilA)))) [] mNilA))))) (mSeq (mSet 4 0 [] (mImm (mTup (mConsE (mImm (mTup (mConsE (mImm (mUn (gFld κ ["Slide"] "name") (mVar 0))) [] (mConsE (mC (.int 1)) [] mNilA)))) [] (mConsE (mImm (mTup (mConsE (mImm (mUn (gFld κ ["Slide"] "third") (mVar 0))) [] (mConsE (mC (.int 0)) [] mNilA)))) [] mNilA))))) (mSeq (mSet 5 0 [] (mImm (mTup (mConsE (mImm (mTup (mConsE (mImm (mUn (gFld κ ["Slide"] "second") (mVar 0))) [] (mConsE (mC (.int 1)) [] mNilA)))) [] (mConsE (mImm (mTup (mConsE (mImm (mUn (gFld κ ["Slide"] "third") (mVar 0))) [] (mConsE (mC (.int 1)) [] mNilA)))) [] mNilA))))) (mRet (mCall 2 F_exchanged (mConsA (mVar 1) (mConsA (mLst (mConsA (mVar 3) (mConsA (mVar 4) (mConsA (mVar 5) mNilA)))) mNilA))))))))))
def F_Slide_made (κ : Str → Addr) : List D → Res D := runD 6 (m_Slide_made κ)
/-- self:0, drawing:1 -/
def m_Uncurl_look (κ : Str → Addr) : Mir.Env → Res Ctl :=
  (mSeq (mExpr (mCall 0 F_look_at_old (mConsA (mVar 1) (mConsA (mLst (mConsA (mUn (gFld κ ["Uncurl"] "name") (mVar 0)) mNilA)) mNilA)))) (mIf (mNotB (mTb (mCall 0 F_uncurls (mConsA (mCall 1 F_next_of (mConsA (mVar 1) mNilA)) (mConsA (mUn (gFld κ ["Uncurl"] "name") (mVar 0)) mNilA))))) mNo mSkip))
def F_Uncurl_look (κ : Str → Addr) : List D → Res D := runD 2 (m_Uncurl_look κ)
/-- self:0, drawing:1 -/
def m_Uncurl_made (κ : Str → Addr) : Mir.Env → Res Ctl :=
  (mSeq (mExpr (mMeth κ [("Uncurl", F_Uncurl_look κ)] "look" 0 (mVar 0) (mConsA (mVar 1) mNilA))) (mRet (mCall 2 F_without (mConsA (mVar 1) (mConsA (mLst (mConsA (mUn (gFld κ ["Uncurl"] "name") (mVar 0)) mNilA)) mNilA)))))
def F_Uncurl_made (κ : Str → Addr) : List D → Res D := runD 2 (m_Uncurl_made κ)
/-- self:0, drawing:1, row:2 -/
def m_Move_done (κ : Str → Addr) : Mir.Env → Res Ctl :=
  (mRet (mLc (fun env => (mMeth κ [("Curl", F_Curl_made κ), ("Lay", F_Lay_made κ), ("Part", F_Part_made κ), ("Slide", F_Slide_made κ), ("Uncurl", F_Uncurl_made κ)] "made" 2 (mVar 0) (mConsA (mVar 1) mNilA)) env >>= itemsL) (tName 2) (fun _ => .ok true) (mCall 1 F_seated (mConsA (mVar 2) mNilA)) [2]))
def F_Move_done (κ : Str → Addr) : List D → Res D := runD 3 (m_Move_done κ)
/-- _law_rows:0, _law_hands_here:1, _law_row:2, _law_passing:3 -/
def m__law_hands : Mir.Env → Res Ctl :=
  (mSeq (mSet 1 1 [] (mC (.dk [] []))) (mSeq (mFor (fun env => (mVarK 0 0) env >>= itemsL) (tName 2) (mFor (fun env => (mVarK 2 0) env >>= itemsL) (tName 3) (mDput 1 [] (mImm (mOp gIx (mVar 3) (mC (.int 2)))) (mOp gIx (mVar 3) (mC (.int 0)))) [3]) [2, 3]) (mRet (mVarK 1 1))))
def F__law_hands : List D → Res D := runD 4 m__law_hands
/-- _law_rows:0, _law_told:1 -/
def m__law_more : Mir.Env → Res Ctl :=
  (mSeq (mIf (mTb (mOp gEq (mOp gIx (mVar 1) (mC (.int 0))) (mC (.str "curl")))) (mRet (mImm (mOp gIx (mVar 1) (mC (.int 4))))) mSkip) (mSeq (mIf (mTb (mOp gEq (mOp gIx (mVar 1) (mC (.int 0))) (mC (.str "uncurl")))) (mRet (mUn gNeg (mOp gDGet (mCall 1 F__law_hands (mConsA (mVar 0) mNilA)) (mOp gIx (mVar 1) (mC (.int 1)))))) mSkip) (mRet (mC (.int 0)))))
def F__law_more : List D → Res D := runD 2 m__law_more
/-- told:0, word:1 -/
def m_move_of (κ : Str → Addr) : Mir.Env → Res Ctl :=
  (mSeq (mSet 1 0 [] (mImm (mOp gIx (mVar 0) (mC (.int 0))))) (mSeq (mIf (mTb (mOp gEq (mVar 1) (mC (.str "uncurl")))) (mRet (fun env => (mConsA (mOp gIx (mVar 0) (mC (.int 1))) mNilA) env >>= gMake κ "Uncurl" ["name"])) mSkip) (mSeq (mIf (mTb (mOp gEq (mVar 1) (mC (.str "curl")))) (mRet (fun env => (mConsA (mOp gIx (mVar 0) (mC (.int 1))) (mConsA (mOp gIx (mVar 0) (mC (.int 2))) (mConsA (mOp gIx (mVar 0) (mC (.int 3))) (mConsA (mOp gIx (mVar 0) (mC (.int 4))) mNilA)))) env >>= gMake κ "Curl" ["name", "spot", "first", "hand"])) mSkip) (mSeq (mIf (mTb (mOp gEq (mVar 1) (mC (.str "part")))) (mRet (fun env => (mConsA (mOp gIx (mVar 0) (mC (.int 1))) (mConsA (mOp gIx (mVar 0) (mC (.int 2))) mNilA)) env >>= gMake κ "Part" ["name", "second"])) mSkip) (mSeq (mIf (mTb (mOp gEq (mVar 1) (mC (.str "lay")))) (mRet (fun env => (mConsA (mOp gIx (mVar 0) (mC (.int 1))) (mConsA (mOp gIx (mVar 0) (mC (.int 2))) (mConsA (mOp gIx (mVar 0) (mC (.int 3))) (mConsA (mOp gIx (mVar 0) (mC (.int 4))) (mConsA (mOp gIx (mVar 0) (mC (.int 5))) (mConsA (mOp gIx (mVar 0) (mC (.int 6))) mNilA)))))) env >>= gMake κ "Lay" ["name", "second", "over", "under", "turned", "hand"])) mSkip) (mSeq (mIf (mTb (mOp gEq (mVar 1) (mC (.str "slide")))) (mRet (fun env => (mConsA (mOp gIx (mVar 0) (mC (.int 1))) (mConsA (mOp gIx (mVar 0) (mC (.int 2))) (mConsA (mOp gIx (mVar 0) (mC (.int 3))) (mConsA (mOp gIx (mVar 0) (mC (.int 4))) mNilA)))) env >>= gMake κ "Slide" ["name", "second", "third", "turn"])) mSkip) mNo))))))
def F_move_of (κ : Str → Addr) : List D → Res D := runD 2 (m_move_of κ)
/-- _law_found:0 -/
def m__law_whole : Mir.Env → Res Ctl :=
  (mRet (mAndV (mIsi .int (mVar 0)) (mNotV (mIsi .bool (mVar 0)))))
def F__law_whole : List D → Res D := runD 1 m__law_whole
/-- _law_script:0, _law_strings:1, _law_here:2, _law_due:3, _law_total:4, _law_cell:5, _law_told:6, _law_found:7 -/
def m_law (κ : Str → Addr) : Mir.Env → Res Ctl :=
  (mSeq (mSet 1 0 [] (mOp gAdd (mC (.int 1)) (mOp gMod (mCall 0 F__law_cell_at (mConsA (mVar 0) (mConsA (mC (.int 0)) mNilA))) (mC (.int 3))))) (mSeq (mSet 2 0 [] (mCall 2 F__law_drawing (mConsA (mSlice (fun env => (mVar 0) env >>= fun d => itemsL d >>= immL) (fun env => (mC (.int 3)) env >>= toI >>= fun i => .ok (some i)) (fun env => (mOp gAdd (mC (.int 3)) (mOp gMod (mCall 0 F__law_cell_at (mConsA (mVar 0) (mConsA (mC (.int 1)) mNilA))) (mC (.int 5)))) env >>= toI >>= fun i => .ok (some i))) (mConsA (mVar 1) (mConsA (mC (.int 999)) mNilA))))) (mSeq (mIf (mTb (mOp gEq (mOp gMod (mCall 0 F__law_cell_at (mConsA (mVar 0) (mConsA (mC (.int 2)) mNilA))) (mC (.int 2))) (mC (.int 1)))) (mSet 2 0 [] (mCall0 F__law_triangle (mConsE (mVarK 2 0) [] (mConsE (mOp gFdv (mCall 0 F__law_cell_at (mConsA (mVar 0) (mConsA (mC (.int 2)) mNilA))) (mC (.int 2))) [] mNilA)))) mSkip) (mSeq (mSet 3 2 [] (mCall 2 F_linking (mConsA (mCall 2 F__law_copy (mConsA (mVar 2) mNilA)) mNilA))) (mSeq (mSet 4 0 [] (mCall 0 F_writhe (mConsA (mCall 2 F__law_copy (mConsA (mVar 2) mNilA)) mNilA))) (mSeq (mFor (fun env => (mSlice (fun env => (mVar 0) env >>= fun d => itemsL d >>= immL) (fun env => (mC (.int 5)) env >>= toI >>= fun i => .ok (some i)) (fun env => (mC (.int 63)) env >>= toI >>= fun i => .ok (some i))) env >>= itemsL) (tName 5) (mSeq (mSet 6 0 [] (mCall 0 F__law_move (mConsA (mVar 2) (mConsA (mVar 5) (mConsA (mC (.int 8)) mNilA))))) (mIf (mTb (mUn gNotN (mVar 6))) (mSeq (mSet 4 0 [] (mOp gAdd (mVar 4) (mCall 0 F__law_more (mConsA (mVar 2) (mConsA (mVar 6) mNilA))))) (mSeq (mSet 2 0 [] (mMeth κ [("Curl", F_Move_done κ), ("Lay", F_Move_done κ), ("Part", F_Move_done κ), ("Slide", F_Move_done κ), ("Uncurl", F_Move_done κ)] "done" 2 (mCall 0 (F_move_of κ) (mConsA (mVar 6) mNilA)) (mConsA (mCall 2 F__law_copy (mConsA (mVar 2) mNilA)) mNilA))) (mSeq (mSet 7 0 [] (mCall 0 F_writhe (mConsA (mVar 2) mNilA))) (mIf (mOrB (mTb (mOp gNe (mCall 2 F_linking (mConsA (mVar 2) mNilA)) (mVar 3))) (mOrB (mNotB (mTb (mCall 0 F__law_whole (mConsA (mVar 7) mNilA)))) (mTb (mOp gNe (mVar 7) (mVar 4))))) (mRet (mC (.bl false))) mSkip)))) mSkip)) [5, 6, 7]) (mRet (mOp gEq (mUn gLen (mVar 3)) (mVar 1)))))))))
def F_law (κ : Str → Addr) : List D → Res D := runD 8 (m_law κ)
theorem cell_at (ns : List Int) (k : Nat) (hk : k < 64) : F__law_cell_at [.lst (ns.map D.int), .int k] = .ok (.int (ns.getD k 0)) := by
  simp [F__law_cell_at, m__law_cell_at, runD, gIx]
  by_cases h : k < ns.length
  · simp [h, atI, ixN]
  · simp [h]
theorem pick (c p m : Int) (hp : 0 < p) (hm : 0 < m) : F__law_pick [.int c, .int p, .int m] = .ok (.int (c * 48271 % p % m)) := by
  simp [F__law_pick, m__law_pick, runD, gMul, gMod, mulOk, hp, hm]
theorem cut_map (xs : List Int) (lo hi : Option Int) : ∃ ys : List Int, cutD (xs.map D.int) lo hi = ys.map D.int ∧ ys.length ≤ xs.length := by
  refine ⟨(xs.drop (HT.sIx xs.length 0 lo)).take (HT.sIx xs.length xs.length hi - HT.sIx xs.length 0 lo), by simp [cutD], ?_⟩
  rw [List.length_take, List.length_drop]; omega
/-! drawings: what the program's own defs tell of them -/
def hnds (ds : Drw) : Pol := pts T3.a T3.c ds.flatten []
theorem pts_flat {κ β : Type} [DecidableEq κ] (key : T3 → κ) (val : T3 → β) (ds : Drw) (p : List (κ × β)) : pts key val ds.flatten p = ds.foldl (fun p r => pts key val r p) p := by
  induction ds generalizing p with
  | nil => rfl
  | cons r ds ih => rw [List.flatten_cons, pts_app, ih]; rfl
theorem hands_is (ds : Drw) (h : ds.flatten.length ≤ 1000) : F_hands_of [encD ds] = .ok (encP (hnds ds)) := by
  refine Tells.eq ?_
  simp only [F_hands_of, m_hands_of, runD]
  simp -implicitDefEqProofs [encD]
  refine loop_thenF (fun p : Pol => [some (0, .lst (ds.map encR)), some (1, encP p), none, none]) encR (fun p r => pts T3.a T3.c r p) (fun i p => p.length ≤ (ds.take i).flatten.length) ds [] rfl rfl (Nat.le_refl _) ?_ ?_
  · intro i p r hr hp
    have hl : (ds.take (i + 1)).flatten.length = (ds.take i).flatten.length + r.length := by
      rw [List.take_succ, hr]; simp
    have hle : (ds.take (i + 1)).flatten.length ≤ 1000 := by
      have e : ds.flatten = (ds.take (i + 1)).flatten ++ (ds.drop (i + 1)).flatten := by rw [← List.flatten_append, List.take_append_drop]
      have := congrArg List.length e
      rw [List.length_append] at this
      omega
    refine ⟨by have := pts_len (key := T3.a) (val := T3.c) r p; omega, ?_⟩
    refine Tells.eq ?_
    simp -implicitDefEqProofs [encR]
    refine loop_thenF (fun p : Pol => [some (0, .lst (ds.map encR)), some (1, encP p), some (0, .lst (r.map t3)), none]) t3 (fun p x => pt p x.a x.c) (fun j q => q.length ≤ p.length + j) r p rfl rfl (by omega) ?_ ?_
    · intro j q x hx hq
      have hj := (List.getElem?_eq_some_iff.mp hx).1
      refine ⟨by have := pt_len q x.a x.c; omega, ?_⟩
      have e := dSet_K D.int q x.a x.c (sizeLine_lt (by omega))
      rw [← encP_K, ← encP_K] at e
      simp -implicitDefEqProofs [e]
    · intro _
      exact Tells.eqI (by simp -implicitDefEqProofs [pts])
  · intro _
    refine Tells.eqI ?_
    unfold hnds
    rw [pts_flat]
    simp
theorem names_is (ds : Drw) (h : ds.flatten.length ≤ 1000) (h2 : (hnds ds).length < 64) : F_names_of [encD ds] = .ok (.lst ((sortI ((hnds ds).map (·.1))).map D.int)) := by
  have h1 := hands_is ds h
  have h3 := gSortD_K D.int (hnds ds) h2
  have h4 := immAt_K D.int (fun _ => rfl) (hnds ds)
  rw [← encP_K] at h3 h4
  simp only [F_names_of, m_names_of, runD]
  simp -implicitDefEqProofs [h1, h3, h4]
abbrev Spts := List ((Int × Int) × Int)
def rowSp (p : Spts) (x : List T3 × Nat) : Spts := pts (fun y : T3 => (y.a, y.b)) (fun _ => (x.2 : Int)) x.1 (if x.1 = [] then pt p ((x.2 : Int), 2) (x.2 : Int) else p)
def spts (ds : Drw) : Spts := (ds.zipIdx).foldl rowSp []
theorem enumD_map {α : Type} (f : α → D) : ∀ (xs : List α) (n : Nat), enumD n (xs.map f) = (xs.zipIdx n).map fun x => D.tup [.int (x.2 : Nat), f x.1]
  | [], _ => rfl
  | x :: xs, n => by
    rw [List.map_cons, List.zipIdx_cons, List.map_cons]
    show _ :: enumD (n + 1) _ = _
    rw [enumD_map f xs (n + 1)]
theorem rowSp_len (p : Spts) (x : List T3 × Nat) : (rowSp p x).length ≤ p.length + 1 + x.1.length := by
  unfold rowSp
  have h1 := pts_len (key := fun y : T3 => (y.a, y.b)) (val := fun _ => (x.2 : Int)) x.1 (if x.1 = [] then pt p ((x.2 : Int), 2) (x.2 : Int) else p)
  have h2 : (if x.1 = [] then pt p ((x.2 : Int), 2) (x.2 : Int) else p).length ≤ p.length + 1 := by
    split
    · exact pt_len _ _ _
    · omega
  omega
theorem spots_is (ds : Drw) (h : ds.length ≤ 100) (hr : ∀ r ∈ ds, r.length ≤ 100) : F_spots_by_strings [encD ds] = .ok (encK2 D.int (spts ds)) := by
  refine Tells.eq ?_
  simp only [F_spots_by_strings, m_spots_by_strings, runD]
  simp -implicitDefEqProofs [encD, enumD_map, encK2_nil D.int]
  refine loop_thenF (fun p : Spts => [some (0, .lst (ds.map encR)), some (1, encK2 D.int p), none, none, none]) (fun x : List T3 × Nat => D.tup [.int (x.2 : Nat), encR x.1]) rowSp (fun i p => p.length ≤ 101 * i) ds.zipIdx [] rfl rfl (by simp) ?_ ?_
  · intro i p x hx hp
    have hi : i < ds.length := by have := (List.getElem?_eq_some_iff.mp hx).1; simpa using this
    have hxr : x.1 ∈ ds := by
      have := List.mem_of_getElem? hx
      obtain ⟨r, n⟩ := x
      have := List.mem_zipIdx this
      simp at this
      rw [this.2]
      exact List.getElem_mem _
    have hxl := hr x.1 hxr
    refine ⟨by have := rowSp_len p x; omega, ?_⟩
    have e0 := dSet_K2 D.int p ((x.2 : Int), 2) (x.2 : Int) (sizeLine_lt (by omega))
    obtain ⟨r, n⟩ := x
    dsimp only at e0 hxl
    refine Tells.eq ?_
    simp -implicitDefEqProofs [encR, ofP, e0, i_nx, i_cons, i_some, i_pair, i_K2]
    refine loop_thenF (fun p : Spts => [some (0, .lst (ds.map encR)), some (1, encK2 D.int p), some (0, .int n), some (0, .lst (r.map t3)), none]) t3 (fun p y => pt p (y.a, y.b) (n : Int)) (fun j q => q.length ≤ p.length + 1 + j) r (if r = [] then pt p ((n : Int), 2) (n : Int) else p) rfl rfl ?_ ?_ ?_
    · split
      · exact pt_len _ _ _
      · omega
    · intro j q y hy hq
      have hj := (List.getElem?_eq_some_iff.mp hy).1
      refine ⟨by have := pt_len q (y.a, y.b) (n : Int); omega, ?_⟩
      have e := dSet_K2 D.int q (y.a, y.b) (n : Int) (sizeLine_lt (by omega))
      simp -implicitDefEqProofs [ofP, e]
    · intro _
      exact Tells.eqI (by simp -implicitDefEqProofs [rowSp, pts])
  · intro _
    exact Tells.eqI (by simp -implicitDefEqProofs [spts])
theorem string_is (ds : Drw) (h : ds.length ≤ 100) (hr : ∀ r ∈ ds, r.length ≤ 100) {k : Int × Int} {i : Int} (h2 : lk (spts ds) k = some i) : F_string_of [encD ds, t2 k] = .ok (.int i) := by
  have h1 := spots_is ds h hr
  have h3 := gDGet_K2 D.int h2
  have h4 := gDNotIn_K2 D.int (spts ds) k
  have h5 := immAt_K2 D.int (fun _ => rfl) (spts ds)
  rw [h2] at h4
  simp only [F_string_of, m_string_of, runD]
  simp -implicitDefEqProofs [h1, h3, h4, h5]
/-- what the spots tell -/
theorem rowSp_out (p : Spts) (x : List T3 × Nat) (k : Int × Int) (hk : k.2 ≠ 2) (h : ∀ y ∈ x.1, (y.a, y.b) ≠ k) : lk (rowSp p x) k = lk p k := by
  unfold rowSp
  rw [pts_out _ _ _ h]
  split
  · rw [lk_pt, if_neg fun e => hk (by rw [e])]
  · rfl
theorem rowSp_in (p : Spts) (x : List T3 × Nat) (k : Int × Int) (h : ∃ y ∈ x.1, (y.a, y.b) = k) : lk (rowSp p x) k = some (x.2 : Int) := pts_in _ _ _ _ (fun _ _ _ => rfl) (.inl h)
theorem spts_at (ds : Drw) (k : Int × Int) (hk : k.2 ≠ 2) (i : Nat) (h1 : ∃ r, ds[i]? = some r ∧ ∃ y ∈ r, (y.a, y.b) = k) (h2 : ∀ j r, ds[j]? = some r → (∃ y ∈ r, (y.a, y.b) = k) → j = i) : lk (spts ds) k = some (i : Int) := by
  unfold spts
  have key : ∀ (xs : List (List T3 × Nat)) (p : Spts), (∀ x ∈ xs, (∃ y ∈ x.1, (y.a, y.b) = k) → x.2 = i) → ((∃ x ∈ xs, ∃ y ∈ x.1, (y.a, y.b) = k) ∨ lk p k = some (i : Int)) → lk (xs.foldl rowSp p) k = some (i : Int) := by
    intro xs
    induction xs with
    | nil =>
      intro p _ h
      rcases h with ⟨x, hx, _⟩ | h
      · cases hx
      · exact h
    | cons x xs ih =>
      intro p ha h
      rw [List.foldl_cons]
      refine ih _ (fun y hy => ha y (List.mem_cons_of_mem _ hy)) ?_
      by_cases e : ∃ y ∈ x.1, (y.a, y.b) = k
      · right
        rw [rowSp_in p x k e, ha x List.mem_cons_self e]
      · rcases h with ⟨z, hz, hy⟩ | h
        · rcases List.mem_cons.mp hz with e2 | hz
          · exact absurd (e2 ▸ hy) e
          · exact .inl ⟨z, hz, hy⟩
        · right
          rw [rowSp_out p x k hk fun y hy e2 => e ⟨y, hy, e2⟩]; exact h
  refine key _ _ (fun x hx hy => ?_) ?_
  · obtain ⟨r, n⟩ := x
    have hm := List.mem_zipIdx hx
    simp at hm
    refine h2 n r ?_ hy
    rw [hm.2]
    exact List.getElem?_eq_getElem _
  · left
    obtain ⟨r, hr, hy⟩ := h1
    refine ⟨(r, i), ?_, hy⟩
    have hi := (List.getElem?_eq_some_iff.mp hr)
    obtain ⟨hi, e⟩ := hi
    rw [List.mem_iff_getElem?]
    exact ⟨i, by rw [List.getElem?_zipIdx, hr]; simp⟩
theorem hnds_at (ds : Drw) (n c : Int) (h1 : ∃ x ∈ ds.flatten, x.a = n) (h2 : ∀ x ∈ ds.flatten, x.a = n → x.c = c) : lk (hnds ds) n = some c := pts_in _ _ _ _ h2 (.inl h1)

theorem hand_is (ds : Drw) (h : ds.flatten.length ≤ 1000) {n c : Int} (h2 : lk (hnds ds) n = some c) : F_hand_of [encD ds, .int n] = .ok (.int c) := by
  have h1 := hands_is ds h
  have h3 := gDGet_K D.int h2
  have h4 := gDNotIn_K D.int (hnds ds) n
  have h5 := immAt_K D.int (fun _ => rfl) (hnds ds)
  rw [← encP_K] at h3 h4 h5
  rw [h2] at h4
  simp only [F_hand_of, m_hand_of, runD]
  simp -implicitDefEqProofs [h1, h3, h4, h5]

/-- a crossing: its name, the strings of its passings, its hand -/
structure Crs where
  n : Int
  i : Nat
  j : Nat
  c : Int
structure DI (S : Nat) (ds : Drw) (C : List Crs) : Prop where
  len : ds.length = S
  nd : (C.map (·.n)).Nodup
  bd : ∀ c ∈ C, c.i < S ∧ c.j < S
  mem : ∀ k r, ds[k]? = some r → ∀ x, x ∈ r ↔ ∃ c ∈ C, (x = ⟨c.n, 0, c.c⟩ ∧ k = c.i) ∨ (x = ⟨c.n, 1, c.c⟩ ∧ k = c.j)
  cnt : ∀ r ∈ ds, r.length ≤ 2 * C.length
theorem uniq {C : List Crs} (h : (C.map (·.n)).Nodup) {c d : Crs} (hc : c ∈ C) (hd : d ∈ C) (e : c.n = d.n) : c = d := by
  induction C with
  | nil => cases hc
  | cons x C ih =>
    have h2 := List.nodup_cons.mp h
    rcases List.mem_cons.mp hc with e1 | hc1
    · rcases List.mem_cons.mp hd with e2 | hd1
      · rw [e1, e2]
      · exact absurd (List.mem_map.mpr ⟨d, hd1, by rw [← e, e1]⟩) h2.1
    · rcases List.mem_cons.mp hd with e2 | hd1
      · exact absurd (List.mem_map.mpr ⟨c, hc1, by rw [e, e2]⟩) h2.1
      · exact ih h2.2 hc1 hd1
section
variable {S : Nat} {ds : Drw} {C : List Crs}
theorem DI.all (h : DI S ds C) {x : T3} (hx : x ∈ ds.flatten) : ∃ c ∈ C, x = ⟨c.n, 0, c.c⟩ ∨ x = ⟨c.n, 1, c.c⟩ := by
  obtain ⟨r, hr, hx⟩ := List.mem_flatten.mp hx
  obtain ⟨k, hk⟩ := List.mem_iff_getElem?.mp hr
  obtain ⟨c, hc, e⟩ := (h.mem k r hk x).mp hx
  exact ⟨c, hc, e.imp (·.1) (·.1)⟩
theorem DI.over (h : DI S ds C) {c : Crs} (hc : c ∈ C) : ∃ r, ds[c.i]? = some r ∧ (⟨c.n, 0, c.c⟩ : T3) ∈ r := by
  have := (h.bd c hc).1
  have hl : c.i < ds.length := by rw [h.len]; exact this
  refine ⟨ds[c.i], List.getElem?_eq_getElem hl, ?_⟩
  exact (h.mem _ _ (List.getElem?_eq_getElem hl) _).mpr ⟨c, hc, .inl ⟨rfl, rfl⟩⟩
theorem DI.under (h : DI S ds C) {c : Crs} (hc : c ∈ C) : ∃ r, ds[c.j]? = some r ∧ (⟨c.n, 1, c.c⟩ : T3) ∈ r := by
  have := (h.bd c hc).2
  have hl : c.j < ds.length := by rw [h.len]; exact this
  refine ⟨ds[c.j], List.getElem?_eq_getElem hl, ?_⟩
  exact (h.mem _ _ (List.getElem?_eq_getElem hl) _).mpr ⟨c, hc, .inr ⟨rfl, rfl⟩⟩
theorem DI.hand (h : DI S ds C) {c : Crs} (hc : c ∈ C) : lk (hnds ds) c.n = some c.c := by
  refine hnds_at ds c.n c.c ?_ fun x hx e => ?_
  · obtain ⟨r, hr, hm⟩ := h.over hc
    exact ⟨_, List.mem_flatten.mpr ⟨r, List.mem_of_getElem? hr, hm⟩, rfl⟩
  · obtain ⟨d, hd, e2⟩ := h.all hx
    have : d.n = c.n := by rcases e2 with e2 | e2 <;> rw [e2] at e <;> exact e
    have := uniq h.nd hd hc this
    subst this
    rcases e2 with e2 | e2 <;> rw [e2]
theorem DI.spO (h : DI S ds C) {c : Crs} (hc : c ∈ C) : lk (spts ds) (c.n, 0) = some (c.i : Int) := by
  refine spts_at ds (c.n, 0) (fun z : (0 : Int) = 2 => by omega) c.i ?_ fun j r hr hy => ?_
  · obtain ⟨r, hr, hm⟩ := h.over hc
    exact ⟨r, hr, _, hm, rfl⟩
  · obtain ⟨y, hy, e⟩ := hy
    obtain ⟨d, hd, e2⟩ := (h.mem j r hr y).mp hy
    rcases e2 with ⟨e2, e3⟩ | ⟨e2, e3⟩
    · rw [e2] at e
      injection e with e4 _
      rw [e3, uniq h.nd hd hc e4]
    · rw [e2] at e
      injection e with _ e4
      cases e4
theorem DI.spU (h : DI S ds C) {c : Crs} (hc : c ∈ C) : lk (spts ds) (c.n, 1) = some (c.j : Int) := by
  refine spts_at ds (c.n, 1) (fun z : (1 : Int) = 2 => by omega) c.j ?_ fun j r hr hy => ?_
  · obtain ⟨r, hr, hm⟩ := h.under hc
    exact ⟨r, hr, _, hm, rfl⟩
  · obtain ⟨y, hy, e⟩ := hy
    obtain ⟨d, hd, e2⟩ := (h.mem j r hr y).mp hy
    rcases e2 with ⟨e2, e3⟩ | ⟨e2, e3⟩
    · rw [e2] at e
      injection e with _ e4
      cases e4
    · rw [e2] at e
      injection e with e4 _
      rw [e3, uniq h.nd hd hc e4]
theorem DI.keys (h : DI S ds C) : ((hnds ds).map (·.1)).Perm (C.map (·.n)) := by
  have hn : ((hnds ds).map (·.1)).Nodup := by
    unfold hnds
    exact pts_nodup _ (by simp)
  refine (List.perm_ext_iff_of_nodup hn h.nd).mpr fun n => ?_
  unfold hnds
  rw [pts_mem]
  constructor
  · rintro (hx | ⟨x, hx, e⟩)
    · cases hx
    · obtain ⟨c, hc, e2⟩ := h.all hx
      rw [← e]
      rcases e2 with e2 | e2 <;> rw [e2] <;> exact List.mem_map_of_mem (f := (·.n)) hc
  · intro hn
    obtain ⟨c, hc, e⟩ := List.mem_map.mp hn
    obtain ⟨r, hr, hm⟩ := h.over hc
    exact .inr ⟨_, List.mem_flatten.mpr ⟨r, List.mem_of_getElem? hr, hm⟩, e⟩
/-- the crossings by rising names -/
theorem DI.sorted (h : DI S ds C) : ∃ L : List Crs, L.Perm C ∧ sortI ((hnds ds).map (·.1)) = L.map (·.n) := by
  obtain ⟨L, h1, h2⟩ := lift_perm (fun c : Crs => c.n) ((sortI_perm _).trans h.keys)
  exact ⟨L, h1, h2.symm⟩
theorem DI.flat (h : DI S ds C) (hS : S ≤ 3) (hC : C.length ≤ 40) : ds.flatten.length ≤ 1000 := by
  have key : ∀ ds : Drw, (∀ r ∈ ds, r.length ≤ 80) → ds.flatten.length ≤ 80 * ds.length := by
    intro ds
    induction ds with
    | nil => intro _; simp
    | cons r ds ih =>
      intro hr
      have h1 := ih fun r hr' => hr r (List.mem_cons_of_mem _ hr')
      have h2 := hr r List.mem_cons_self
      rw [List.flatten_cons, List.length_append, List.length_cons]; omega
  have := key ds fun r hr => by have := h.cnt r hr; omega
  rw [h.len] at this
  omega
/-- one passing more -/
def ins (ds : Drw) (k p : Nat) (x : T3) : Drw := ds.set k ((ds.getD k []).take p ++ [x] ++ (ds.getD k []).drop p)
theorem ins_len (ds : Drw) (k p : Nat) (x : T3) : (ins ds k p x).length = ds.length := by unfold ins; simp
theorem ins_get (ds : Drw) {k p : Nat} {x : T3} (hk : k < ds.length) {m : Nat} {r : List T3} (hr : (ins ds k p x)[m]? = some r) : ∃ r0, ds[m]? = some r0 ∧ (∀ y, y ∈ r ↔ y ∈ r0 ∨ (m = k ∧ y = x)) ∧ r.length ≤ r0.length + 1 := by
  unfold ins at hr
  by_cases e : m = k
  · subst e
    rw [List.getElem?_set_self hk] at hr
    cases hr
    have e0 : ds.getD m [] = ds[m] := by rw [List.getD_eq_getElem?_getD, List.getElem?_eq_getElem hk]; rfl
    refine ⟨ds[m], List.getElem?_eq_getElem hk, fun y => ?_, ?_⟩
    · rw [e0]
      have : y ∈ ds[m] ↔ y ∈ ds[m].take p ∨ y ∈ ds[m].drop p := by
        rw [← List.mem_append, List.take_append_drop]
      rw [this]
      simp only [List.mem_append, List.mem_singleton, true_and]
      constructor
      · rintro ((h | h) | h)
        · exact .inl (.inl h)
        · exact .inr h
        · exact .inl (.inr h)
      · rintro ((h | h) | h)
        · exact .inl (.inl h)
        · exact .inr h
        · exact .inl (.inr h)
    · rw [e0]; simp; omega
  · rw [List.getElem?_set_ne (Ne.symm e)] at hr
    exact ⟨r, hr, fun y => ⟨.inl, fun h => h.elim id fun h => absurd h.1 e⟩, by omega⟩
theorem DI.more (h : DI S ds C) (c : Crs) (hn : c.n ∉ C.map (·.n)) (hi : c.i < S) (hj : c.j < S) (p q : Nat) : DI S (ins (ins ds c.i p ⟨c.n, 0, c.c⟩) c.j q ⟨c.n, 1, c.c⟩) (C ++ [c]) where
  len := by rw [ins_len, ins_len]; exact h.len
  nd := by
    rw [List.map_append]
    refine List.nodup_append.mpr ⟨h.nd, by simp, fun a ha b hb e => ?_⟩
    rw [e, List.mem_singleton.mp hb] at ha
    exact hn ha
  bd := fun d hd => by
    rcases List.mem_append.mp hd with hd | hd
    · exact h.bd d hd
    · rw [List.mem_singleton.mp hd]; exact ⟨hi, hj⟩
  mem := fun k r hr x => by
    obtain ⟨r1, h1, e1, _⟩ := ins_get _ (by rw [ins_len, h.len]; exact hj) hr
    obtain ⟨r0, h0, e0, _⟩ := ins_get _ (by rw [h.len]; exact hi) h1
    rw [e1, e0, h.mem k r0 h0]
    constructor
    · rintro ((⟨d, hd, e⟩ | ⟨hk, e⟩) | ⟨hk, e⟩)
      · exact ⟨d, List.mem_append_left _ hd, e⟩
      · exact ⟨c, List.mem_append_right _ List.mem_cons_self, .inl ⟨e, hk⟩⟩
      · exact ⟨c, List.mem_append_right _ List.mem_cons_self, .inr ⟨e, hk⟩⟩
    · rintro ⟨d, hd, e⟩
      rcases List.mem_append.mp hd with hd | hd
      · exact .inl (.inl ⟨d, hd, e⟩)
      · rw [List.mem_singleton.mp hd] at e
        rcases e with ⟨e, hk⟩ | ⟨e, hk⟩
        · exact .inl (.inr ⟨hk, e⟩)
        · exact .inr ⟨hk, e⟩
  cnt := fun r hr => by
    obtain ⟨k, hk⟩ := List.mem_iff_getElem?.mp hr
    obtain ⟨r1, h1, _, l1⟩ := ins_get _ (by rw [ins_len, h.len]; exact hj) hk
    obtain ⟨r0, h0, _, l0⟩ := ins_get _ (by rw [h.len]; exact hi) h1
    have := h.cnt r0 (List.mem_of_getElem? h0)
    rw [List.length_append, List.length_singleton]; omega
end

theorem fresh (st u v : Int) (h1 : u < v) (h2 : v < u + 999) : (st + v) % 999 ≠ (st + u) % 999 := by omega
def psg (C : List Crs) : List T3 := C.flatMap fun c => [⟨c.n, 0, c.c⟩, ⟨c.n, 1, c.c⟩]
theorem flat_set {α : Type} {ds : List (List α)} {k : Nat} {r r2 : List α} {x : α} (h : ds[k]? = some r) (hp : r2.Perm (x :: r)) : (ds.set k r2).flatten.Perm (x :: ds.flatten) := by
  induction ds generalizing k with
  | nil => cases h
  | cons d ds ih =>
    cases k with
    | zero =>
      cases h
      rw [List.set_cons_zero, List.flatten_cons, List.flatten_cons]
      exact hp.append_right _
    | succ k =>
      rw [List.set_cons_succ, List.flatten_cons, List.flatten_cons]
      exact ((ih (by simpa using h)).append_left d).trans List.perm_middle
theorem ins_flat {ds : Drw} {k : Nat} (hk : k < ds.length) (p : Nat) (x : T3) : (ins ds k p x).flatten.Perm (x :: ds.flatten) := by
  unfold ins
  have e0 : ds.getD k [] = ds[k] := by rw [List.getD_eq_getElem?_getD, List.getElem?_eq_getElem hk]; rfl
  rw [e0]
  refine flat_set (List.getElem?_eq_getElem hk) ?_
  rw [List.append_assoc]
  refine List.perm_middle.trans ?_
  show (x :: (ds[k].take p ++ ds[k].drop p)).Perm _
  rw [List.take_append_drop]
theorem psg_snoc (C : List Crs) (c : Crs) : psg (C ++ [c]) = psg C ++ [⟨c.n, 0, c.c⟩, ⟨c.n, 1, c.c⟩] := by
  unfold psg; rw [List.flatMap_append]; rfl
structure MI (S : Nat) (st : Int) (i : Nat) (s : Drw × List Crs × Int × Int) : Prop where
  di : DI S s.1 s.2.1
  len : s.2.1.length = i
  nm : s.2.2.1 = (st + s.2.2.2) % 999
  up : 0 ≤ s.2.2.2 ∧ s.2.2.2 ≤ 83 * i
  pm : s.1.flatten.Perm (psg s.2.1)
  hd : ∀ c ∈ s.2.1, c.c = 1 ∨ c.c = -1
  nms : ∀ c ∈ s.2.1, ∃ u, c.n = (st + u) % 999 + 1 ∧ 1 ≤ u ∧ u ≤ s.2.2.2
/-! who comes behind whom -/
def ky (x : T3) : Int × Int := (x.a, x.b)
theorem flat_pos {α : Type} : ∀ {ds : List (List α)}, ds.flatten.Nodup → ∀ {i j k l : Nat} {r r' : List α} {x : α}, ds[i]? = some r → r[k]? = some x → ds[j]? = some r' → r'[l]? = some x → i = j ∧ k = l
  | [], _, i, j, k, l, r, r', x, h1, _, _, _ => by cases h1
  | d :: ds, hn, i, j, k, l, r, r', x, h1, h2, h3, h4 => by
    rw [List.flatten_cons, List.nodup_append] at hn
    obtain ⟨n1, n2, n3⟩ := hn
    cases i with
    | zero =>
      cases h1
      cases j with
      | zero =>
        cases h3
        refine ⟨rfl, ?_⟩
        obtain ⟨hk, ek⟩ := List.getElem?_eq_some_iff.mp h2
        obtain ⟨hl, el⟩ := List.getElem?_eq_some_iff.mp h4
        rcases Nat.lt_trichotomy k l with h | h | h
        · exact absurd (ek.trans el.symm) (List.pairwise_iff_getElem.mp n1 k l hk hl h)
        · exact h
        · exact absurd (el.trans ek.symm) (List.pairwise_iff_getElem.mp n1 l k hl hk h)
      | succ j =>
        have m1 := List.mem_of_getElem? h2
        have m2 : x ∈ ds.flatten := List.mem_flatten.mpr ⟨r', List.mem_of_getElem? (by simpa using h3), List.mem_of_getElem? h4⟩
        exact absurd rfl (n3 x m1 x m2)
    | succ i =>
      cases j with
      | zero =>
        cases h3
        have m1 := List.mem_of_getElem? h4
        have m2 : x ∈ ds.flatten := List.mem_flatten.mpr ⟨r, List.mem_of_getElem? (by simpa using h1), List.mem_of_getElem? h2⟩
        exact absurd rfl (n3 x m1 x m2)
      | succ j =>
        obtain ⟨e1, e2⟩ := flat_pos n2 (by simpa using h1) h2 (by simpa using h3) h4
        exact ⟨by omega, e2⟩
/-- x is right ahead of y -/
def Rl (ds : Drw) (x y : T3) : Prop := ∃ (i : Nat) (r : List T3) (k : Nat), ds[i]? = some r ∧ r[k]? = some x ∧ r[(k + 1) % r.length]? = some y
abbrev UK (ds : Drw) : Prop := (ds.flatten.map ky).Nodup
theorem uk_pos {ds : Drw} (h : UK ds) {i j k l : Nat} {r r' : List T3} {x y : T3} (h1 : ds[i]? = some r) (h2 : r[k]? = some x) (h3 : ds[j]? = some r') (h4 : r'[l]? = some y) (e : ky x = ky y) : i = j ∧ k = l := by
  have hn : (ds.map (·.map ky)).flatten.Nodup := by rw [← List.map_flatten]; exact h
  exact flat_pos hn (i := i) (j := j) (k := k) (l := l) (r := r.map ky) (r' := r'.map ky) (x := ky x) (by rw [List.getElem?_map, h1]; rfl) (by rw [List.getElem?_map, h2]; rfl) (by rw [List.getElem?_map, h3]; rfl) (by rw [List.getElem?_map, h4, e]; rfl)
theorem uk_eq {ds : Drw} (h : UK ds) {x y : T3} (hx : x ∈ ds.flatten) (hy : y ∈ ds.flatten) (e : ky x = ky y) : x = y := by
  obtain ⟨r, hr, hx⟩ := List.mem_flatten.mp hx
  obtain ⟨r', hr', hy⟩ := List.mem_flatten.mp hy
  obtain ⟨i, hi⟩ := List.mem_iff_getElem?.mp hr
  obtain ⟨j, hj⟩ := List.mem_iff_getElem?.mp hr'
  obtain ⟨k, hk⟩ := List.mem_iff_getElem?.mp hx
  obtain ⟨l, hl⟩ := List.mem_iff_getElem?.mp hy
  obtain ⟨rfl, rfl⟩ := uk_pos h hi hk hj hl e
  rw [hi] at hj; cases hj
  rw [hk] at hl; cases hl; rfl
theorem succ_inj {n k l : Nat} (hk : k < n) (hl : l < n) (e : (k + 1) % n = (l + 1) % n) : k = l := by
  by_cases h1 : k + 1 = n <;> by_cases h2 : l + 1 = n
  · omega
  · rw [h1, Nat.mod_self, Nat.mod_eq_of_lt (by omega)] at e; omega
  · rw [h2, Nat.mod_self, Nat.mod_eq_of_lt (by omega)] at e; omega
  · rw [Nat.mod_eq_of_lt (by omega), Nat.mod_eq_of_lt (by omega)] at e; omega
section
variable {ds : Drw}
theorem Rl.left {x y : T3} (h : Rl ds x y) : x ∈ ds.flatten := by
  obtain ⟨i, r, k, h1, h2, _⟩ := h
  exact List.mem_flatten.mpr ⟨r, List.mem_of_getElem? h1, List.mem_of_getElem? h2⟩
theorem Rl.right {x y : T3} (h : Rl ds x y) : y ∈ ds.flatten := by
  obtain ⟨i, r, k, h1, _, h3⟩ := h
  exact List.mem_flatten.mpr ⟨r, List.mem_of_getElem? h1, List.mem_of_getElem? h3⟩
theorem Rl.fn (hu : UK ds) {x y x' y' : T3} (h : Rl ds x y) (h' : Rl ds x' y') (e : ky x = ky x') : y = y' := by
  obtain ⟨i, r, k, h1, h2, h3⟩ := h
  obtain ⟨j, r', l, g1, g2, g3⟩ := h'
  obtain ⟨rfl, rfl⟩ := uk_pos hu h1 h2 g1 g2 e
  rw [h1] at g1; cases g1
  rw [h3] at g3; cases g3; rfl
theorem Rl.inj (hu : UK ds) {x y x' y' : T3} (h : Rl ds x y) (h' : Rl ds x' y') (e : ky y = ky y') : x = x' := by
  obtain ⟨i, r, k, h1, h2, h3⟩ := h
  obtain ⟨j, r', l, g1, g2, g3⟩ := h'
  obtain ⟨rfl, e2⟩ := uk_pos hu h1 h3 g1 g3 e
  rw [h1] at g1; cases g1
  have hk := (List.getElem?_eq_some_iff.mp h2).1
  have hl := (List.getElem?_eq_some_iff.mp g2).1
  have := succ_inj hk hl e2
  subst this
  rw [h2] at g2; cases g2; rfl
theorem Rl.next {x : T3} (h : x ∈ ds.flatten) : ∃ y, Rl ds x y := by
  obtain ⟨r, hr, hx⟩ := List.mem_flatten.mp h
  obtain ⟨i, hi⟩ := List.mem_iff_getElem?.mp hr
  obtain ⟨k, hk⟩ := List.mem_iff_getElem?.mp hx
  have hl := (List.getElem?_eq_some_iff.mp hk).1
  have h2 : (k + 1) % r.length < r.length := Nat.mod_lt _ (by omega)
  exact ⟨_, i, r, k, hi, hk, List.getElem?_eq_getElem h2⟩
end
theorem zip_mem {α : Type} {r : List α} {x : α × Nat} (h : x ∈ r.zipIdx) : r[x.2]? = some x.1 := by
  obtain ⟨a, n⟩ := x
  have hm := List.mem_zipIdx h
  simp at hm
  rw [hm.2]; exact List.getElem?_eq_getElem _
def T0 : T3 := ⟨0, 0, 0⟩
/-- pairs: a passing and the next -/
def nxR (r : List T3) : List (T3 × T3) := r.zipIdx.map fun x => (x.1, r.getD ((x.2 + 1) % r.length) T0)
def nxA (ds : Drw) : List (T3 × T3) := ds.flatMap nxR
theorem nxA_mem {ds : Drw} {e : T3 × T3} : e ∈ nxA ds ↔ Rl ds e.1 e.2 := by
  unfold nxA nxR
  simp only [List.mem_flatMap, List.mem_map]
  constructor
  · rintro ⟨r, hr, x, hx, rfl⟩
    obtain ⟨i, hi⟩ := List.mem_iff_getElem?.mp hr
    have h1 := zip_mem hx
    have hl := (List.getElem?_eq_some_iff.mp h1).1
    have h2 : (x.2 + 1) % r.length < r.length := Nat.mod_lt _ (by omega)
    refine ⟨i, r, x.2, hi, h1, ?_⟩
    show r[(x.2 + 1) % r.length]? = some (r.getD ((x.2 + 1) % r.length) T0)
    rw [List.getD_eq_getElem?_getD, List.getElem?_eq_getElem h2]; rfl
  · rintro ⟨i, r, k, h1, h2, h3⟩
    refine ⟨r, List.mem_of_getElem? h1, (e.1, k), ?_, ?_⟩
    · rw [List.mem_iff_getElem?]
      exact ⟨k, by rw [List.getElem?_zipIdx, h2]; simp⟩
    · show (e.1, r.getD ((k + 1) % r.length) T0) = e
      rw [List.getD_eq_getElem?_getD, h3]; rfl
def nxP (ds : Drw) : List ((Int × Int) × (Int × Int)) := pts (fun e : T3 × T3 => ky e.1) (fun e => ky e.2) (nxA ds) []
theorem nxP_lk {ds : Drw} (hu : UK ds) {x y : T3} (h : Rl ds x y) : lk (nxP ds) (ky x) = some (ky y) := by
  refine pts_in _ _ _ _ (fun e he e2 => ?_) (.inl ⟨(x, y), nxA_mem.mpr h, rfl⟩)
  have := Rl.fn hu (nxA_mem.mp he) h e2
  rw [this]
theorem foldl_flat {α β γ : Type} (f : γ → β → γ) (g : α → List β) : ∀ (xs : List α) (s : γ), (xs.flatMap g).foldl f s = xs.foldl (fun s x => (g x).foldl f s) s
  | [], s => rfl
  | x :: xs, s => by rw [List.flatMap_cons, List.foldl_append, foldl_flat f g xs]; rfl
theorem next_is (ds : Drw) (h : ds.flatten.length ≤ 1000) : F_next_of [encD ds] = .ok (encK2 t2 (nxP ds)) := by
  refine Tells.eq ?_
  simp only [F_next_of, m_next_of, runD]
  simp -implicitDefEqProofs [encD, encK2_nil t2]
  refine loop_thenF (fun p : List ((Int × Int) × (Int × Int)) => [some (0, .lst (ds.map encR)), some (1, encK2 t2 p), none, none, none, none]) encR (fun p r => pts (fun e : T3 × T3 => ky e.1) (fun e => ky e.2) (nxR r) p) (fun i p => p.length ≤ (ds.take i).flatten.length) ds [] rfl rfl (Nat.le_refl _) ?_ ?_
  · intro i p r hr hp
    have hl : (ds.take (i + 1)).flatten.length = (ds.take i).flatten.length + r.length := by
      rw [List.take_succ, hr]; simp
    have hle : (ds.take (i + 1)).flatten.length ≤ 1000 := by
      have e : ds.flatten = (ds.take (i + 1)).flatten ++ (ds.drop (i + 1)).flatten := by rw [← List.flatten_append, List.take_append_drop]
      have := congrArg List.length e
      rw [List.length_append] at this
      omega
    have hnl : (nxR r).length = r.length := by unfold nxR; simp
    refine ⟨by have := pts_len (key := fun e : T3 × T3 => ky e.1) (val := fun e => ky e.2) (nxR r) p; omega, ?_⟩
    refine Tells.eq ?_
    simp -implicitDefEqProofs [encR, enumD_map]
    refine loop_thenF (fun p : List ((Int × Int) × (Int × Int)) => [some (0, .lst (ds.map encR)), some (1, encK2 t2 p), some (0, .lst (r.map t3)), none, none, none]) (fun x : T3 × Nat => D.tup [.int (x.2 : Nat), t3 x.1]) (fun p x => pt p (ky x.1) (ky (r.getD ((x.2 + 1) % r.length) T0))) (fun j q => q.length ≤ p.length + j) r.zipIdx p rfl rfl (by omega) ?_ ?_
    · intro j q x hx hq
      have hj := (List.getElem?_eq_some_iff.mp hx).1
      rw [List.length_zipIdx] at hj
      refine ⟨by have := pt_len q (ky x.1) (ky (r.getD ((x.2 + 1) % r.length) T0)); omega, ?_⟩
      have h2 : (x.2 + 1) % r.length < r.length := Nat.mod_lt _ (by omega)
      have gm : Mir.gMod (.int ((x.2 : Int) + 1)) (.int (r.length : Int)) = .ok (.int (((x.2 + 1) % r.length : Nat) : Int)) := by
        rw [e_gMod _ _ (by omega)]; congr 2
      have gi : gIx (.lst (r.map t3)) (.int (((x.2 + 1) % r.length : Nat) : Int)) = .ok (t3 (r.getD ((x.2 + 1) % r.length) T0)) := gIx_map (by rw [List.getD_eq_getElem?_getD, List.getElem?_eq_getElem h2]; rfl)
      have e := dSet_K2 t2 q (ky x.1) (ky (r.getD ((x.2 + 1) % r.length) T0)) (sizeLine_lt (by omega))
      obtain ⟨y, hy⟩ : ∃ y, y = r.getD ((x.2 + 1) % r.length) T0 := ⟨_, rfl⟩
      rw [← hy] at gi e ⊢
      rw [show (((x.2 + 1) % r.length : Nat) : Int) = ((x.2 : Int) + 1) % (r.length : Int) by simp] at gi gm
      have e' : dSet (encK2 t2 q) (.tup [.int x.1.a, .int x.1.b]) (.tup [.int y.a, .int y.b]) = .ok (encK2 t2 (pt q (ky x.1) (ky y))) := e
      simp -implicitDefEqProofs [gm, gi, e']
    · intro _
      have e : r.zipIdx.foldl (fun p x => pt p (ky x.1) (ky (r.getD ((x.2 + 1) % r.length) T0))) p = pts (fun e : T3 × T3 => ky e.1) (fun e => ky e.2) (nxR r) p := by
        unfold pts nxR; rw [List.foldl_map]
      rw [e]
      exact Tells.eqI (by simp -implicitDefEqProofs)
  · intro _
    have e : ds.foldl (fun p r => pts (fun e : T3 × T3 => ky e.1) (fun e => ky e.2) (nxR r) p) [] = nxP ds := by
      unfold nxP nxA pts
      rw [foldl_flat]
    rw [e]
    exact Tells.eqI (by simp -implicitDefEqProofs [immAt_K2])
/-! drawings whose passings are all unlike -/
structure WD (S : Nat) (ds : Drw) (C : List Crs) : Prop where
  di : DI S ds C
  pm : ds.flatten.Perm (psg C)
  hd : ∀ c ∈ C, c.c = 1 ∨ c.c = -1
section
variable {S : Nat} {ds : Drw} {C : List Crs}
theorem psg_ky (C : List Crs) (h : (C.map (·.n)).Nodup) : ((psg C).map ky).Nodup := by
  induction C with
  | nil => exact List.nodup_nil
  | cons c C ih =>
    obtain ⟨h1, h2⟩ := List.nodup_cons.mp h
    show ((c.n, (0 : Int)) :: (c.n, (1 : Int)) :: (psg C).map ky).Nodup
    have hm : ∀ w : Int, (c.n, w) ∉ (psg C).map ky := fun w hm => by
      obtain ⟨x, hx, e⟩ := List.mem_map.mp hm
      unfold psg at hx
      obtain ⟨d, hd, hx⟩ := List.mem_flatMap.mp hx
      have hn : d.n = c.n := by
        rcases List.mem_cons.mp hx with hx | hx
        · rw [hx] at e; exact congrArg Prod.fst e
        · rw [List.mem_singleton.mp hx] at e; exact congrArg Prod.fst e
      exact h1 (by show c.n ∈ _; rw [← hn]; exact List.mem_map_of_mem (f := (·.n)) hd)
    refine List.nodup_cons.mpr ⟨fun hz => ?_, List.nodup_cons.mpr ⟨hm 1, ih h2⟩⟩
    rcases List.mem_cons.mp hz with e | hz
    · have e := congrArg Prod.snd e
      have e : (0 : Int) = 1 := e
      omega
    · exact hm 0 hz
theorem WD.uk (h : WD S ds C) : UK ds := (h.pm.map ky).nodup_iff.mpr (psg_ky C h.di.nd)
theorem WD.mem (h : WD S ds C) {x : T3} : x ∈ ds.flatten ↔ ∃ c ∈ C, x = ⟨c.n, 0, c.c⟩ ∨ x = ⟨c.n, 1, c.c⟩ := by
  rw [h.pm.mem_iff]
  unfold psg
  simp only [List.mem_flatMap, List.mem_cons, List.not_mem_nil, or_false]
theorem psg_len (C : List Crs) : (psg C).length = 2 * C.length := by
  induction C with
  | nil => rfl
  | cons c C ih =>
    show (_ :: _ :: psg C).length = _
    rw [List.length_cons, List.length_cons, ih, List.length_cons]; omega
theorem WD.len (h : WD S ds C) : ds.flatten.length = 2 * C.length := by rw [h.pm.length_eq, psg_len]
theorem WD.way (h : WD S ds C) {x : T3} (hx : x ∈ ds.flatten) : x.b = 0 ∨ x.b = 1 := by
  obtain ⟨c, _, e⟩ := h.mem.mp hx
  rcases e with e | e <;> rw [e]
  · exact .inl rfl
  · exact .inr rfl
/-! the spots -/
def rowK (x : List T3 × Nat) : List (Int × Int) := (if x.1 = [] then [((x.2 : Int), (2 : Int))] else []) ++ x.1.map ky
def spk (ds : Drw) : List (Int × Int) := ds.zipIdx.flatMap rowK
theorem flatMap_perm {α β : Type} (f g : α → List β) : ∀ l : List α, (l.flatMap fun x => f x ++ g x).Perm (l.flatMap f ++ l.flatMap g)
  | [] => .refl _
  | x :: l => by
    rw [List.flatMap_cons, List.flatMap_cons, List.flatMap_cons, List.append_assoc, List.append_assoc]
    refine List.Perm.append_left _ ?_
    refine ((flatMap_perm f g l).append_left (g x)).trans ?_
    rw [← List.append_assoc, ← List.append_assoc]
    exact List.perm_append_comm.append_right _
theorem spk_mem {k : Int × Int} : k ∈ spk ds ↔ (∃ x ∈ ds.flatten, ky x = k) ∨ ∃ i : Nat, ds[i]? = some [] ∧ k = ((i : Int), 2) := by
  unfold spk rowK
  rw [List.mem_flatMap]
  constructor
  · rintro ⟨x, hx, hk⟩
    rcases List.mem_append.mp hk with hk | hk
    · split at hk
      · rename_i e
        have := zip_mem hx
        rw [e] at this
        exact .inr ⟨x.2, this, List.mem_singleton.mp hk⟩
      · cases hk
    · obtain ⟨y, hy, e⟩ := List.mem_map.mp hk
      exact .inl ⟨y, List.mem_flatten.mpr ⟨x.1, List.mem_of_getElem? (zip_mem hx), hy⟩, e⟩
  · rintro (⟨x, hx, e⟩ | ⟨i, hi, e⟩)
    · obtain ⟨r, hr, hx⟩ := List.mem_flatten.mp hx
      obtain ⟨i, hi⟩ := List.mem_iff_getElem?.mp hr
      exact ⟨(r, i), List.mem_iff_getElem?.mpr ⟨i, by rw [List.getElem?_zipIdx, hi]; simp⟩, List.mem_append_right _ (e ▸ List.mem_map_of_mem hx)⟩
    · refine ⟨([], i), List.mem_iff_getElem?.mpr ⟨i, by rw [List.getElem?_zipIdx, hi]; simp⟩, ?_⟩
      rw [e]; simp
theorem spk_len : ∀ (xs : List (List T3 × Nat)), (xs.flatMap rowK).length ≤ xs.length + (xs.map fun x => x.1.length).sum
  | [] => Nat.le_refl _
  | x :: xs => by
    have h := spk_len xs
    rw [List.flatMap_cons, List.length_append, List.length_cons, List.map_cons, List.sum_cons]
    have : (rowK x).length ≤ 1 + x.1.length := by
      unfold rowK
      rw [List.length_append, List.length_map]
      split <;> simp
    omega
theorem WD.spk_le (h : WD S ds C) : (spk ds).length ≤ S + 2 * C.length := by
  have h1 := spk_len ds.zipIdx
  have e : (ds.zipIdx.map fun x => x.1.length).sum = ds.flatten.length := by
    rw [List.length_flatten]
    congr 1
    have : ∀ (ds : Drw) (n : Nat), ((ds.zipIdx n).map fun x => x.1.length) = ds.map List.length := by
      intro ds
      induction ds with
      | nil => intro n; rfl
      | cons r ds ih => intro n; rw [List.zipIdx_cons, List.map_cons, ih, List.map_cons]
    exact this ds 0
  rw [e, h.len, List.length_zipIdx, h.di.len] at h1
  exact h1
end

section
def seat : List T3 → List T3
  | [] => []
  | r :: rs => (r :: rs).drop ((r :: rs).idxOf (minOf r rs)) ++ (r :: rs).take ((r :: rs).idxOf (minOf r rs))
theorem seated_is (R : List T3) (h : R.length ≤ 1000000) : F_seated [encR R] = .ok (encR (seat R)) := by
  cases R with
  | nil =>
    simp only [F_seated, m_seated, runD, encR]
    simp -implicitDefEqProofs
    rfl
  | cons r rs =>
    have h1 : gMin (.lst ((r :: rs).map t3)) = .ok (t3 (minOf r rs)) := gMin_enc r rs (by decide) fun _ => rfl
    have h2 : gIndex (.lst ((r :: rs).map t3)) (t3 (minOf r rs)) = _ := gIndex_enc (minOf r rs) (r :: rs) (by decide) (minOf_mem r rs)
    have h3 : (r :: rs).idxOf (minOf r rs) < (r :: rs).length := List.idxOf_lt_length_iff.mpr (minOf_mem r rs)
    have h0 : gTru (.lst ((r :: rs).map t3)) = .ok true := rfl
    simp only [F_seated, m_seated, runD, seat, encR]
    generalize r :: rs = R at *
    generalize R.idxOf (minOf r rs) = j at *
    have h4 := cutD_from t3 R j (by omega)
    have h5 := cutD_to t3 R j (by omega)
    have h6 : ((R.map t3).drop j).length + ((R.map t3).take j).length ≤ sizeLine := sizeLine_big (by simp; omega)
    simp -implicitDefEqProofs [h0, h1, h2, mCat, h4, h5, -List.length_drop, -List.length_take, h6]
end

/-! ### the law's own seating; rows turned -/
theorem split_uni {α : Type} {m : α} : ∀ {u v u' v' : List α}, u ++ m :: v = u' ++ m :: v' → m ∉ u → m ∉ u' → u = u' ∧ v = v'
  | [], v, [], v', h, _, _ => by
    simp at h
    exact ⟨rfl, h⟩
  | [], v, y :: u', v', h, _, h2 => by
    simp at h
    exact absurd (by rw [h.1]; exact List.mem_cons_self) h2
  | x :: u, v, [], v', h, h1, _ => by
    simp at h
    exact absurd (by rw [h.1]; exact List.mem_cons_self) h1
  | x :: u, v, y :: u', v', h, h1, h2 => by
    rw [List.cons_append, List.cons_append, List.cons.injEq] at h
    obtain ⟨a, b⟩ := split_uni h.2 (fun z => h1 (List.mem_cons_of_mem _ z)) (fun z => h2 (List.mem_cons_of_mem _ z))
    rw [h.1, a, b]
    exact ⟨rfl, rfl⟩
def Rot {α : Type} (a b : List α) : Prop := ∃ u v, a = u ++ v ∧ b = v ++ u
/-- turned to begin with m -/
theorem rot_at {α : Type} {a b : List α} (h : Rot a b) (nd : a.Nodup) {m : α} {u v u' v' : List α} (ha : a = u ++ m :: v) (hb : b = u' ++ m :: v') : v' ++ u' = v ++ u := by
  obtain ⟨p, q, e1, e2⟩ := h
  have ndu : m ∉ u := fun z => by
    rw [ha] at nd
    exact (List.nodup_append.mp nd).2.2 m z m List.mem_cons_self rfl
  have nb : b.Nodup := by
    rw [e2]
    rw [e1] at nd
    exact List.perm_append_comm.nodup_iff.mp nd
  have ndu' : m ∉ u' := fun z => by
    rw [hb] at nb
    exact (List.nodup_append.mp nb).2.2 m z m List.mem_cons_self rfl
  have hm : m ∈ p ++ q := by rw [← e1, ha]; simp
  have mp_q : m ∈ p → m ∉ q := fun h1 h2 => by
    rw [e1] at nd
    exact (List.nodup_append.mp nd).2.2 m h1 m h2 rfl
  rcases List.mem_append.mp hm with hp | hq
  · obtain ⟨p1, p2, ep⟩ := List.append_of_mem hp
    have hp1 : m ∉ p1 := fun z => by
      rw [e1, ep, List.append_assoc] at nd
      exact (List.nodup_append.mp nd).2.2 m z m (by simp) rfl
    have s1 : u ++ m :: v = p1 ++ m :: (p2 ++ q) := by rw [← ha, e1, ep]; simp
    have s2 : u' ++ m :: v' = (q ++ p1) ++ m :: p2 := by rw [← hb, e2, ep]; simp
    obtain ⟨a1, a2⟩ := split_uni s1 ndu hp1
    obtain ⟨b1, b2⟩ := split_uni s2 ndu' (fun z => (List.mem_append.mp z).elim (mp_q hp) hp1)
    rw [a1, a2, b1, b2]; simp
  · obtain ⟨q1, q2, eq⟩ := List.append_of_mem hq
    have hq1 : m ∉ q1 := fun z => by
      rw [e1, eq] at nd
      have := (List.nodup_append.mp nd).2.1
      exact (List.nodup_append.mp this).2.2 m z m (by simp) rfl
    have s1 : u ++ m :: v = (p ++ q1) ++ m :: q2 := by rw [← ha, e1, eq]; simp
    have s2 : u' ++ m :: v' = q1 ++ m :: (q2 ++ p) := by rw [← hb, e2, eq]; simp
    obtain ⟨a1, a2⟩ := split_uni s1 ndu (fun z => (List.mem_append.mp z).elim (fun y => mp_q y hq) hq1)
    obtain ⟨b1, b2⟩ := split_uni s2 ndu' hq1
    rw [a1, a2, b1, b2]; simp
theorem Rot.map {α β : Type} (g : α → β) {a b : List α} (h : Rot a b) : Rot (a.map g) (b.map g) := by
  obtain ⟨u, v, rfl, rfl⟩ := h
  exact ⟨u.map g, v.map g, by simp, by simp⟩
theorem seat_rot (R : List T3) : Rot R (seat R) := by
  cases R with
  | nil => exact ⟨[], [], rfl, rfl⟩
  | cons r rs => exact ⟨_, _, (List.take_append_drop _ _).symm, rfl⟩
/-- the passing that a row begins with -/
theorem seat_first {R : List T3} (hR : R ≠ []) : ∃ m u v, R = u ++ m :: v ∧ seat R = m :: v ++ u ∧ ∀ y ∈ R, Dat.lt y m = false := by
  cases R with
  | nil => exact absurd rfl hR
  | cons r rs =>
    have hm := minOf_mem r rs
    have hj := List.idxOf_lt_length_iff.mpr hm
    refine ⟨minOf r rs, (r :: rs).take ((r :: rs).idxOf (minOf r rs)), (r :: rs).drop ((r :: rs).idxOf (minOf r rs) + 1), ?_, ?_, fun y hy => minOf_le r rs y hy⟩
    · have := List.drop_eq_getElem_cons hj
      rw [List.getElem_idxOf hj] at this
      conv => lhs; rw [← List.take_append_drop ((r :: rs).idxOf (minOf r rs)) (r :: rs), this]
    · have := List.drop_eq_getElem_cons hj
      rw [List.getElem_idxOf hj] at this
      show (r :: rs).drop _ ++ (r :: rs).take _ = _
      rw [this]
theorem ky_lt {x y : T3} (h : x.a < y.a ∨ (x.a = y.a ∧ x.b < y.b)) : Dat.lt x y = true := by
  show T3.lt x y = true
  unfold T3.lt
  refine decide_eq_true ?_
  rcases h with h | ⟨h1, h2⟩
  · exact .inl h
  · exact .inr ⟨h1, .inl h2⟩
def kl (x y : T3) : Prop := x.a < y.a ∨ (x.a = y.a ∧ x.b < y.b)
instance (x y : T3) : Decidable (kl x y) := by unfold kl; infer_instance
/-- a row turned is seated alike -/
theorem seat_turn {R R' : List T3} (h : Rot R R') (nd : (R.map ky).Nodup) : seat R' = seat R := by
  have pm : R.Perm R' := by
    obtain ⟨a, b, rfl, rfl⟩ := h
    exact List.perm_append_comm
  by_cases hR : R = []
  · subst hR
    have := pm.length_eq
    have : R' = [] := List.length_eq_zero_iff.mp this.symm
    rw [this]
  have hR' : R' ≠ [] := fun e => by
    rw [e] at pm
    exact hR (List.length_eq_zero_iff.mp pm.length_eq)
  obtain ⟨m, u, v, e1, e2, e3⟩ := seat_first hR
  obtain ⟨m', u', v', f1, f2, f3⟩ := seat_first hR'
  have hmm : m' = m := by
    have a1 := e3 m' (pm.mem_iff.mpr (by rw [f1]; simp))
    have a2 := f3 m (pm.mem_iff.mp (by rw [e1]; simp))
    have k1 : ¬ kl m' m := fun h => by rw [ky_lt h] at a1; cases a1
    have k2 : ¬ kl m m' := fun h => by rw [ky_lt h] at a2; cases a2
    have hk : ky m' = ky m := by
      unfold kl at k1 k2
      exact Prod.ext (show m'.a = m.a by omega) (show m'.b = m.b by omega)
    have h1 : m' ∈ R := pm.mem_iff.mpr (by rw [f1]; simp)
    have h2 : m ∈ R := by rw [e1]; simp
    obtain ⟨i, hi⟩ := List.mem_iff_getElem?.mp h1
    obtain ⟨j, hj⟩ := List.mem_iff_getElem?.mp h2
    have b1 : (R.map ky)[i]? = some (ky m) := by rw [List.getElem?_map, hi, ← hk]; rfl
    have b2 : (R.map ky)[j]? = some (ky m) := by rw [List.getElem?_map, hj]; rfl
    have := (List.getElem?_inj (by rw [List.length_map]; exact (List.getElem?_eq_some_iff.mp hi).1) nd).mp (b1.trans b2.symm)
    rw [this, hj] at hi
    exact (Option.some.inj hi).symm
  subst hmm
  have ndR : R.Nodup := (List.pairwise_map.mp nd).imp fun h e => h (by rw [e])
  have := rot_at h ndR e1 f1
  rw [e2, f2, List.cons_append, List.cons_append, this]

/-! ### drawings alike but for beginnings and names settle alike -/
theorem Rot.refl' {α : Type} (a : List α) : Rot a a := ⟨[], a, rfl, by simp⟩
def RotL : Drw → Drw → Prop
  | [], [] => True
  | r :: ds, t :: T => Rot r t ∧ RotL ds T
  | [], _ :: _ => False
  | _ :: _, [] => False
theorem RotL.refl' : ∀ ds : Drw, RotL ds ds
  | [] => trivial
  | r :: ds => ⟨Rot.refl' r, RotL.refl' ds⟩
theorem RotL.len : ∀ {a b : Drw}, RotL a b → b.length = a.length
  | [], [], _ => rfl
  | r :: ds, t :: T, h => by rw [List.length_cons, List.length_cons, RotL.len h.2]
  | [], _ :: _, h => h.elim
  | _ :: _, [], h => h.elim
theorem RotL.flat : ∀ {a b : Drw}, RotL a b → b.flatten.Perm a.flatten
  | [], [], _ => List.Perm.refl _
  | r :: ds, t :: T, h => by
    obtain ⟨u, v, h1, h2⟩ := h.1
    rw [List.flatten_cons, List.flatten_cons]
    refine List.Perm.append ?_ (RotL.flat h.2)
    rw [h1, h2]; exact List.perm_append_comm
  | [], _ :: _, h => h.elim
  | _ :: _, [], h => h.elim
theorem RotL.map (f : T3 → T3) : ∀ {a b : Drw}, RotL a b → RotL (a.map fun r => r.map f) (b.map fun r => r.map f)
  | [], [], _ => trivial
  | r :: ds, t :: T, h => ⟨Rot.map f h.1, RotL.map f h.2⟩
  | [], _ :: _, h => h.elim
  | _ :: _, [], h => h.elim
/-! ### near: the law's side -/
theorem app_loop {α β : Type} {t : Nat → D → Mir.Env → Res Mir.Env} {body : Mir.Env → Res Ctl} {fg : List Nat} (mk : List β → Mir.Env) (enc : α → D) (g : α → List β) (c B : Nat) : ∀ (xs : List α), (∀ a ∈ xs, (g a).length ≤ c) → (∀ a ∈ xs, ∀ acc, acc.length + c ≤ B → (t 0 (enc a) (mk acc) >>= fun e => body e >>= stepc fg) = .ok (mk (acc ++ g a))) → ∀ acc, acc.length + xs.length * c ≤ B → loop t body fg (xs.map enc) (mk acc) = .ok (.nx (mk (acc ++ xs.flatMap g)))
  | [], _, _, acc, _ => by rw [List.flatMap_nil, List.append_nil]; rfl
  | x :: xs, hc, hs, acc, h => by
    rw [List.length_cons, Nat.add_mul, Nat.one_mul] at h
    have h1 := hc x List.mem_cons_self
    have ih := app_loop (t := t) (body := body) (fg := fg) mk enc g c B xs (fun a ha => hc a (List.mem_cons_of_mem _ ha)) (fun a ha => hs a (List.mem_cons_of_mem _ ha)) (acc ++ g x) (by rw [List.length_append]; omega)
    rw [List.map_cons, loop_step (hs x List.mem_cons_self acc (by omega)), ih, List.flatMap_cons, List.append_assoc]
theorem flat_one {α β : Type} (f : α → β) : ∀ l : List α, (l.flatMap fun a => [f a]) = l.map f
  | [] => rfl
  | x :: l => by rw [List.flatMap_cons, flat_one f l]; rfl
theorem zip_snoc {ds : Drw} {k : Nat} {r : List T3} (h : ds[k]? = some r) : ds.zipIdx.take (k + 1) = ds.zipIdx.take k ++ [(r, k)] := by
  have : ds.zipIdx[k]? = some (r, k) := by rw [List.getElem?_zipIdx, h]; simp
  rw [List.take_succ, this]; rfl
theorem rng_at {n i k : Nat} (hk : (List.range n)[i]? = some k) : k = i ∧ i < n := by
  have h1 := (List.getElem?_eq_some_iff.mp hk).1
  rw [List.length_range] at h1
  rw [List.getElem?_range h1] at hk
  cases hk; exact ⟨rfl, h1⟩
theorem gTru_R (r : List T3) : gTru (encR r) = .ok (!decide (r = [])) := by
  cases r <;> rfl
theorem lnames0 {ds : Drw} (hl : ds.flatten.length ≤ 1000) : F__law_names [encD ds] = .ok (.lst (((ds.flatten.filter fun x => decide (x.b = 0)).map (·.a)).map D.int)) := by
  suffices Hs : Tells (F__law_names [encD ds]) fun d => d = .lst (((ds.flatten.filter fun x => decide (x.b = 0)).map (·.a)).map D.int) from Hs.eq
  have fo : ∀ (r : List T3) (q : List Int), r.foldl (fun q x => if x.b = 0 then q ++ [x.a] else q) q = q ++ (r.filter fun x => decide (x.b = 0)).map (·.a) := fun r => by
    induction r with
    | nil => intro q; simp
    | cons x r ih =>
      intro q
      rw [List.foldl_cons, ih]
      by_cases e : x.b = 0 <;> simp [e]
  have fo2 : ∀ (ds : Drw) (q : List Int), ds.foldl (fun q r => r.foldl (fun q x => if x.b = 0 then q ++ [x.a] else q) q) q = q ++ (ds.flatten.filter fun x => decide (x.b = 0)).map (·.a) := fun ds => by
    induction ds with
    | nil => intro q; simp
    | cons r ds ih =>
      intro q
      rw [List.foldl_cons, ih, fo]
      simp
  simp only [F__law_names, m__law_names, runD]
  simp -implicitDefEqProofs [encD]
  refine loop_thenF (fun q : List Int => [some (0, .lst (ds.map encR)), some (1, .lst (q.map D.int)), none, none]) encR (fun q r => r.foldl (fun q x => if x.b = 0 then q ++ [x.a] else q) q) (fun i q => q.length ≤ (ds.take i).flatten.length) ds [] rfl rfl (Nat.le_refl _) ?_ ?_
  · intro i q r hr hq
    have hlr : (ds.take (i + 1)).flatten.length = (ds.take i).flatten.length + r.length := by
      rw [List.take_succ, hr]; simp
    have hle : (ds.take (i + 1)).flatten.length ≤ 1000 := by
      have e : ds.flatten = (ds.take (i + 1)).flatten ++ (ds.drop (i + 1)).flatten := by rw [← List.flatten_append, List.take_append_drop]
      have := congrArg List.length e
      rw [List.length_append] at this
      omega
    refine ⟨?_, ?_⟩
    · rw [fo, List.length_append, List.length_map, hlr]
      have := List.length_filter_le (fun x : T3 => decide (x.b = 0)) r
      omega
    refine Tells.eq ?_
    simp -implicitDefEqProofs [encR]
    refine loop_thenF (fun q : List Int => [some (0, .lst (ds.map encR)), some (1, .lst (q.map D.int)), some (0, .lst (r.map t3)), none]) t3 (fun q x => if x.b = 0 then q ++ [x.a] else q) (fun j p => p.length ≤ q.length + j) r q rfl rfl (by omega) ?_ ?_
    · intro j p x hx hp
      have hj := (List.getElem?_eq_some_iff.mp hx).1
      have hz : p.length < sizeLine := sizeLine_lt (by omega)
      by_cases e : x.b = 0
      · simp -implicitDefEqProofs [e, hz]; omega
      · simp -implicitDefEqProofs [e]; omega
    · intro _
      exact Tells.eqI (by simp -implicitDefEqProofs)
  · intro _
    rw [fo2]
    exact Tells.eqI (by simp -implicitDefEqProofs)
theorem WD.more {S : Nat} {ds : Drw} {C : List Crs} (h : WD S ds C) (c : Crs) (hn : c.n ∉ C.map (·.n)) (hi : c.i < S) (hj : c.j < S) (hc : c.c = 1 ∨ c.c = -1) (p q : Nat) : WD S (ins (ins ds c.i p ⟨c.n, 0, c.c⟩) c.j q ⟨c.n, 1, c.c⟩) (C ++ [c]) := by
  refine ⟨h.di.more c hn hi hj p q, ?_, fun d hd => ?_⟩
  · have p1 := ins_flat (ds := ds) (k := c.i) (by rw [h.di.len]; exact hi) p ⟨c.n, 0, c.c⟩
    have p2 := ins_flat (ds := ins ds c.i p ⟨c.n, 0, c.c⟩) (k := c.j) (by rw [ins_len, h.di.len]; exact hj) q ⟨c.n, 1, c.c⟩
    rw [psg_snoc]
    refine (p2.trans ((p1.trans (h.pm.cons _)).cons _)).trans ?_
    refine (List.Perm.swap _ _ _).trans ?_
    exact (List.perm_append_comm (l₁ := [⟨c.n, 0, c.c⟩, ⟨c.n, 1, c.c⟩]) (l₂ := psg C))
  · rcases List.mem_append.mp hd with hd | hd
    · exact h.hd d hd
    · rw [List.mem_singleton.mp hd]; exact hc
/-! spots and their strings -/
theorem pt_val {β κ : Type} [DecidableEq κ] {p : List (κ × β)} {k : κ} {v : β} {y : κ × β} (h : y ∈ pt p k v) : y.2 = v ∨ y ∈ p := by
  unfold pt at h
  split at h
  · obtain ⟨x, hx, rfl⟩ := List.mem_map.mp h
    by_cases e : x.1 = k
    · rw [if_pos e]; exact .inl rfl
    · rw [if_neg e]; exact .inr hx
  · rcases List.mem_append.mp h with h | h
    · exact .inr h
    · rw [List.mem_singleton.mp h]; exact .inl rfl
theorem look_ok {α : Type} {t : Nat → D → Mir.Env → Res Mir.Env} {body : Mir.Env → Res Ctl} {fg : List Nat} {env : Mir.Env} (enc : α → D) : ∀ (xs : List α), (∀ a ∈ xs, (t 0 (enc a) env >>= fun e => body e >>= stepc fg) = .ok env) → loop t body fg (xs.map enc) env = .ok (.nx env)
  | [], _ => rfl
  | x :: xs, h => by
    rw [List.map_cons, loop_step (h x List.mem_cons_self)]
    exact look_ok enc xs fun a ha => h a (List.mem_cons_of_mem _ ha)
theorem s_seq2 {m1 m2 : Mir.Env → Res Ctl} {env e : Mir.Env} {r : Res Ctl} (h : m1 env = .ok (.nx e)) (h2 : m2 e = r) : mSeq m1 m2 env = r := by
  unfold mSeq
  rw [h]; exact h2
theorem for_of {it : Mir.Env → Res (List D)} {t : Nat → D → Mir.Env → Res Mir.Env} {b : Mir.Env → Res Ctl} {fg : List Nat} {env : Mir.Env} {ds : List D} {r : Res Ctl} (h : it env = .ok ds) (hl : loop t b fg ds env = r) : mFor it t b fg env = r := by
  unfold mFor
  rw [h]; exact hl

/-! ### moves as data -/
def okB (r : Res D) (i : Bool) : Bool := match r with
  | .ok (.bl j) => decide (j = i)
  | _ => false
theorem okB_eq {r : Res D} {i : Bool} (h : okB r i = true) : r = .ok (.bl i) := by
  unfold okB at h
  split at h
  · rw [of_decide_eq_true h]
  · cases h
section
variable {κ : Str → Addr} {c f m : Str} {cs ns : List Str} {as ds : List D} {d : D} {kr : Nat}
theorem fld_is (hc : c ∈ cs) (hl : ns.length = as.length) (hk : (ns.zip as).lookup f = some d) : gFld κ cs f (.ob c (κ c) ns as) = .ok d := by
  show (if (c ∈ cs ∧ κ c = κ c) ∧ ns.length = as.length then (match (ns.zip as).lookup f with | some d => Res.ok d | none => .bad) else .bad) = _
  rw [if_pos ⟨⟨hc, rfl⟩, hl⟩, hk]
theorem make_is (hi : immAll ds = true) (hl : ds.length = ns.length) : gMake κ c ns ds = .ok (.ob c (κ c) ns ds) := if_pos ⟨hi, hl⟩
theorem meth_is {t : List (Str × (List D → Res D))} {F : List D → Res D} (ht : t.lookup c = some F) (hm : m ∉ ns) (h : F (.ob c (κ c) ns as :: ds) = .ok d) (hi : immAt kr d = true) : gMeth κ t m kr (.ob c (κ c) ns as) ds = .ok d := by
  show (match t.lookup c with
    | some F => if κ c = κ c ∧ m ∉ ns then F (.ob c (κ c) ns as :: ds) >>= fun d => if immAt kr d then .ok d else .bad else .bad
    | none => .bad) = _
  rw [ht]
  show (if κ c = κ c ∧ m ∉ ns then F (.ob c (κ c) ns as :: ds) >>= fun d => if immAt kr d then .ok d else .bad else .bad) = _
  rw [if_pos ⟨rfl, hm⟩, h]
  show (if immAt kr d = true then Res.ok d else .bad) = _
  rw [if_pos hi]
end
inductive Mv where
  | lay (n s : Int) (o u : Int × Int) (t h : Int)
  | slide (n s t d : Int)
  | curl (n : Int) (p : Int × Int) (f h : Int)
  | prt (n s : Int)
  | uncurl (n : Int)
inductive Pt where
  | i (x : Int)
  | s (p : Int × Int)
def encPt : Pt → D
  | .i x => .int x
  | .s p => t2 p
def Mv.word : Mv → Str
  | .lay .. => Str.ofString "lay"
  | .slide .. => Str.ofString "slide"
  | .curl .. => Str.ofString "curl"
  | .prt .. => Str.ofString "part"
  | .uncurl .. => Str.ofString "uncurl"
def Mv.pts : Mv → List Pt
  | .lay n s o u t h => [.i n, .i s, .s o, .s u, .i t, .i h]
  | .slide n s t d => [.i n, .i s, .i t, .i d]
  | .curl n p f h => [.i n, .s p, .i f, .i h]
  | .prt n s => [.i n, .i s]
  | .uncurl n => [.i n]
def Mv.told (m : Mv) : D := .tup (.str m.word :: m.pts.map encPt)

def ob_lay (κ : Str → Addr) (x0 x1 x2 x3 x4 x5 : D) : D := .ob "Lay" (κ "Lay") ["name", "second", "over", "under", "turned", "hand"] [x0, x1, x2, x3, x4, x5]
def ob_slide (κ : Str → Addr) (x0 x1 x2 x3 : D) : D := .ob "Slide" (κ "Slide") ["name", "second", "third", "turn"] [x0, x1, x2, x3]
def ob_curl (κ : Str → Addr) (x0 x1 x2 x3 : D) : D := .ob "Curl" (κ "Curl") ["name", "spot", "first", "hand"] [x0, x1, x2, x3]
def ob_part (κ : Str → Addr) (x0 x1 : D) : D := .ob "Part" (κ "Part") ["name", "second"] [x0, x1]
def ob_uncurl (κ : Str → Addr) (x0 : D) : D := .ob "Uncurl" (κ "Uncurl") ["name"] [x0]
def Mv.ob (κ : Str → Addr) : Mv → D
  | .lay n s o u t h => ob_lay κ (.int n) (.int s) (t2 o) (t2 u) (.int t) (.int h)
  | .slide n s t d => ob_slide κ (.int n) (.int s) (.int t) (.int d)
  | .curl n p f h => ob_curl κ (.int n) (t2 p) (.int f) (.int h)
  | .prt n s => ob_part κ (.int n) (.int s)
  | .uncurl n => ob_uncurl κ (.int n)
theorem fld_lay_name (κ : Str → Addr) (x0 x1 x2 x3 x4 x5 : D) : gFld κ ["Lay"] "name" (ob_lay κ x0 x1 x2 x3 x4 x5) = .ok x0 := fld_is (by decide) rfl rfl
theorem fld_lay_second (κ : Str → Addr) (x0 x1 x2 x3 x4 x5 : D) : gFld κ ["Lay"] "second" (ob_lay κ x0 x1 x2 x3 x4 x5) = .ok x1 := fld_is (by decide) rfl rfl
theorem fld_lay_over (κ : Str → Addr) (x0 x1 x2 x3 x4 x5 : D) : gFld κ ["Lay"] "over" (ob_lay κ x0 x1 x2 x3 x4 x5) = .ok x2 := fld_is (by decide) rfl rfl
theorem fld_lay_under (κ : Str → Addr) (x0 x1 x2 x3 x4 x5 : D) : gFld κ ["Lay"] "under" (ob_lay κ x0 x1 x2 x3 x4 x5) = .ok x3 := fld_is (by decide) rfl rfl
theorem fld_lay_turned (κ : Str → Addr) (x0 x1 x2 x3 x4 x5 : D) : gFld κ ["Lay"] "turned" (ob_lay κ x0 x1 x2 x3 x4 x5) = .ok x4 := fld_is (by decide) rfl rfl
theorem fld_lay_hand (κ : Str → Addr) (x0 x1 x2 x3 x4 x5 : D) : gFld κ ["Lay"] "hand" (ob_lay κ x0 x1 x2 x3 x4 x5) = .ok x5 := fld_is (by decide) rfl rfl
theorem mk_lay (κ : Str → Addr) (x0 x1 x2 x3 x4 x5 : D) (h : immAll [x0, x1, x2, x3, x4, x5] = true) : gMake κ "Lay" ["name", "second", "over", "under", "turned", "hand"] [x0, x1, x2, x3, x4, x5] = .ok (ob_lay κ x0 x1 x2 x3 x4 x5) := make_is h rfl
theorem fld_slide_name (κ : Str → Addr) (x0 x1 x2 x3 : D) : gFld κ ["Slide"] "name" (ob_slide κ x0 x1 x2 x3) = .ok x0 := fld_is (by decide) rfl rfl
theorem fld_slide_second (κ : Str → Addr) (x0 x1 x2 x3 : D) : gFld κ ["Slide"] "second" (ob_slide κ x0 x1 x2 x3) = .ok x1 := fld_is (by decide) rfl rfl
theorem fld_slide_third (κ : Str → Addr) (x0 x1 x2 x3 : D) : gFld κ ["Slide"] "third" (ob_slide κ x0 x1 x2 x3) = .ok x2 := fld_is (by decide) rfl rfl
theorem fld_slide_turn (κ : Str → Addr) (x0 x1 x2 x3 : D) : gFld κ ["Slide"] "turn" (ob_slide κ x0 x1 x2 x3) = .ok x3 := fld_is (by decide) rfl rfl
theorem mk_slide (κ : Str → Addr) (x0 x1 x2 x3 : D) (h : immAll [x0, x1, x2, x3] = true) : gMake κ "Slide" ["name", "second", "third", "turn"] [x0, x1, x2, x3] = .ok (ob_slide κ x0 x1 x2 x3) := make_is h rfl
theorem fld_curl_name (κ : Str → Addr) (x0 x1 x2 x3 : D) : gFld κ ["Curl"] "name" (ob_curl κ x0 x1 x2 x3) = .ok x0 := fld_is (by decide) rfl rfl
theorem fld_curl_spot (κ : Str → Addr) (x0 x1 x2 x3 : D) : gFld κ ["Curl"] "spot" (ob_curl κ x0 x1 x2 x3) = .ok x1 := fld_is (by decide) rfl rfl
theorem fld_curl_first (κ : Str → Addr) (x0 x1 x2 x3 : D) : gFld κ ["Curl"] "first" (ob_curl κ x0 x1 x2 x3) = .ok x2 := fld_is (by decide) rfl rfl
theorem fld_curl_hand (κ : Str → Addr) (x0 x1 x2 x3 : D) : gFld κ ["Curl"] "hand" (ob_curl κ x0 x1 x2 x3) = .ok x3 := fld_is (by decide) rfl rfl
theorem mk_curl (κ : Str → Addr) (x0 x1 x2 x3 : D) (h : immAll [x0, x1, x2, x3] = true) : gMake κ "Curl" ["name", "spot", "first", "hand"] [x0, x1, x2, x3] = .ok (ob_curl κ x0 x1 x2 x3) := make_is h rfl
theorem fld_part_name (κ : Str → Addr) (x0 x1 : D) : gFld κ ["Part"] "name" (ob_part κ x0 x1) = .ok x0 := fld_is (by decide) rfl rfl
theorem fld_part_second (κ : Str → Addr) (x0 x1 : D) : gFld κ ["Part"] "second" (ob_part κ x0 x1) = .ok x1 := fld_is (by decide) rfl rfl
theorem mk_part (κ : Str → Addr) (x0 x1 : D) (h : immAll [x0, x1] = true) : gMake κ "Part" ["name", "second"] [x0, x1] = .ok (ob_part κ x0 x1) := make_is h rfl
theorem fld_uncurl_name (κ : Str → Addr) (x0 : D) : gFld κ ["Uncurl"] "name" (ob_uncurl κ x0) = .ok x0 := fld_is (by decide) rfl rfl
theorem mk_uncurl (κ : Str → Addr) (x0 : D) (h : immAll [x0] = true) : gMake κ "Uncurl" ["name"] [x0] = .ok (ob_uncurl κ x0) := make_is h rfl
theorem w_lay_lay : gEq (.str (Str.ofString "lay")) (.str (Str.ofString "lay")) = .ok (.bl true) := okB_eq (by decide +kernel)
theorem w_lay_slide : gEq (.str (Str.ofString "lay")) (.str (Str.ofString "slide")) = .ok (.bl false) := okB_eq (by decide +kernel)
theorem w_lay_curl : gEq (.str (Str.ofString "lay")) (.str (Str.ofString "curl")) = .ok (.bl false) := okB_eq (by decide +kernel)
theorem w_lay_part : gEq (.str (Str.ofString "lay")) (.str (Str.ofString "part")) = .ok (.bl false) := okB_eq (by decide +kernel)
theorem w_lay_uncurl : gEq (.str (Str.ofString "lay")) (.str (Str.ofString "uncurl")) = .ok (.bl false) := okB_eq (by decide +kernel)
theorem w_slide_lay : gEq (.str (Str.ofString "slide")) (.str (Str.ofString "lay")) = .ok (.bl false) := okB_eq (by decide +kernel)
theorem w_slide_slide : gEq (.str (Str.ofString "slide")) (.str (Str.ofString "slide")) = .ok (.bl true) := okB_eq (by decide +kernel)
theorem w_slide_curl : gEq (.str (Str.ofString "slide")) (.str (Str.ofString "curl")) = .ok (.bl false) := okB_eq (by decide +kernel)
theorem w_slide_part : gEq (.str (Str.ofString "slide")) (.str (Str.ofString "part")) = .ok (.bl false) := okB_eq (by decide +kernel)
theorem w_slide_uncurl : gEq (.str (Str.ofString "slide")) (.str (Str.ofString "uncurl")) = .ok (.bl false) := okB_eq (by decide +kernel)
theorem w_curl_lay : gEq (.str (Str.ofString "curl")) (.str (Str.ofString "lay")) = .ok (.bl false) := okB_eq (by decide +kernel)
theorem w_curl_slide : gEq (.str (Str.ofString "curl")) (.str (Str.ofString "slide")) = .ok (.bl false) := okB_eq (by decide +kernel)
theorem w_curl_curl : gEq (.str (Str.ofString "curl")) (.str (Str.ofString "curl")) = .ok (.bl true) := okB_eq (by decide +kernel)
theorem w_curl_part : gEq (.str (Str.ofString "curl")) (.str (Str.ofString "part")) = .ok (.bl false) := okB_eq (by decide +kernel)
theorem w_curl_uncurl : gEq (.str (Str.ofString "curl")) (.str (Str.ofString "uncurl")) = .ok (.bl false) := okB_eq (by decide +kernel)
theorem w_part_lay : gEq (.str (Str.ofString "part")) (.str (Str.ofString "lay")) = .ok (.bl false) := okB_eq (by decide +kernel)
theorem w_part_slide : gEq (.str (Str.ofString "part")) (.str (Str.ofString "slide")) = .ok (.bl false) := okB_eq (by decide +kernel)
theorem w_part_curl : gEq (.str (Str.ofString "part")) (.str (Str.ofString "curl")) = .ok (.bl false) := okB_eq (by decide +kernel)
theorem w_part_part : gEq (.str (Str.ofString "part")) (.str (Str.ofString "part")) = .ok (.bl true) := okB_eq (by decide +kernel)
theorem w_part_uncurl : gEq (.str (Str.ofString "part")) (.str (Str.ofString "uncurl")) = .ok (.bl false) := okB_eq (by decide +kernel)
theorem w_uncurl_lay : gEq (.str (Str.ofString "uncurl")) (.str (Str.ofString "lay")) = .ok (.bl false) := okB_eq (by decide +kernel)
theorem w_uncurl_slide : gEq (.str (Str.ofString "uncurl")) (.str (Str.ofString "slide")) = .ok (.bl false) := okB_eq (by decide +kernel)
theorem w_uncurl_curl : gEq (.str (Str.ofString "uncurl")) (.str (Str.ofString "curl")) = .ok (.bl false) := okB_eq (by decide +kernel)
theorem w_uncurl_part : gEq (.str (Str.ofString "uncurl")) (.str (Str.ofString "part")) = .ok (.bl false) := okB_eq (by decide +kernel)
theorem w_uncurl_uncurl : gEq (.str (Str.ofString "uncurl")) (.str (Str.ofString "uncurl")) = .ok (.bl true) := okB_eq (by decide +kernel)

/-! ### what moves tell -/
theorem told_imm (m : Mv) : m.told.imm = true := by cases m <;> rfl
theorem moveof_is (κ : Str → Addr) (m : Mv) : F_move_of κ [m.told] = .ok (m.ob κ) := by
  cases m with
  | lay n s o u t h =>
    have g1 : gIx (Mv.lay n s o u t h).told (.int 1) = .ok (.int n) := rfl
    have g2 : gIx (Mv.lay n s o u t h).told (.int 2) = .ok (.int s) := rfl
    have g3 : gIx (Mv.lay n s o u t h).told (.int 3) = .ok (t2 o) := rfl
    have g4 : gIx (Mv.lay n s o u t h).told (.int 4) = .ok (t2 u) := rfl
    have g5 : gIx (Mv.lay n s o u t h).told (.int 5) = .ok (.int t) := rfl
    have g6 : gIx (Mv.lay n s o u t h).told (.int 6) = .ok (.int h) := rfl
    have hm := mk_lay κ (.int n) (.int s) (t2 o) (t2 u) (.int t) (.int h) rfl
    have g0 : gIx (Mv.lay n s o u t h).told (.int 0) = .ok (.str (Str.ofString "lay")) := rfl
    have ho : (Mv.lay n s o u t h).ob κ = ob_lay κ (.int n) (.int s) (t2 o) (t2 u) (.int t) (.int h) := rfl
    rw [ho]
    generalize (Mv.lay n s o u t h).told = TT at *
    generalize ob_lay κ (.int n) (.int s) (t2 o) (t2 u) (.int t) (.int h) = O at *
    generalize t2 o = T_o at *
    generalize t2 u = T_u at *
    simp only [F_move_of, m_move_of, runD]
    simp -implicitDefEqProofs [g0, g1, g2, g3, g4, g5, g6, w_lay_lay, w_lay_slide, w_lay_curl, w_lay_part, w_lay_uncurl, hm]
  | slide n s t d =>
    have g1 : gIx (Mv.slide n s t d).told (.int 1) = .ok (.int n) := rfl
    have g2 : gIx (Mv.slide n s t d).told (.int 2) = .ok (.int s) := rfl
    have g3 : gIx (Mv.slide n s t d).told (.int 3) = .ok (.int t) := rfl
    have g4 : gIx (Mv.slide n s t d).told (.int 4) = .ok (.int d) := rfl
    have hm := mk_slide κ (.int n) (.int s) (.int t) (.int d) rfl
    have g0 : gIx (Mv.slide n s t d).told (.int 0) = .ok (.str (Str.ofString "slide")) := rfl
    have ho : (Mv.slide n s t d).ob κ = ob_slide κ (.int n) (.int s) (.int t) (.int d) := rfl
    rw [ho]
    generalize (Mv.slide n s t d).told = TT at *
    generalize ob_slide κ (.int n) (.int s) (.int t) (.int d) = O at *
    simp only [F_move_of, m_move_of, runD]
    simp -implicitDefEqProofs [g0, g1, g2, g3, g4, w_slide_lay, w_slide_slide, w_slide_curl, w_slide_part, w_slide_uncurl, hm]
  | curl n p f h =>
    have g1 : gIx (Mv.curl n p f h).told (.int 1) = .ok (.int n) := rfl
    have g2 : gIx (Mv.curl n p f h).told (.int 2) = .ok (t2 p) := rfl
    have g3 : gIx (Mv.curl n p f h).told (.int 3) = .ok (.int f) := rfl
    have g4 : gIx (Mv.curl n p f h).told (.int 4) = .ok (.int h) := rfl
    have hm := mk_curl κ (.int n) (t2 p) (.int f) (.int h) rfl
    have g0 : gIx (Mv.curl n p f h).told (.int 0) = .ok (.str (Str.ofString "curl")) := rfl
    have ho : (Mv.curl n p f h).ob κ = ob_curl κ (.int n) (t2 p) (.int f) (.int h) := rfl
    rw [ho]
    generalize (Mv.curl n p f h).told = TT at *
    generalize ob_curl κ (.int n) (t2 p) (.int f) (.int h) = O at *
    generalize t2 p = T_p at *
    simp only [F_move_of, m_move_of, runD]
    simp -implicitDefEqProofs [g0, g1, g2, g3, g4, w_curl_lay, w_curl_slide, w_curl_curl, w_curl_part, w_curl_uncurl, hm]
  | prt n s =>
    have g1 : gIx (Mv.prt n s).told (.int 1) = .ok (.int n) := rfl
    have g2 : gIx (Mv.prt n s).told (.int 2) = .ok (.int s) := rfl
    have hm := mk_part κ (.int n) (.int s) rfl
    have g0 : gIx (Mv.prt n s).told (.int 0) = .ok (.str (Str.ofString "part")) := rfl
    have ho : (Mv.prt n s).ob κ = ob_part κ (.int n) (.int s) := rfl
    rw [ho]
    generalize (Mv.prt n s).told = TT at *
    generalize ob_part κ (.int n) (.int s) = O at *
    simp only [F_move_of, m_move_of, runD]
    simp -implicitDefEqProofs [g0, g1, g2, w_part_lay, w_part_slide, w_part_curl, w_part_part, w_part_uncurl, hm]
  | uncurl n =>
    have g1 : gIx (Mv.uncurl n).told (.int 1) = .ok (.int n) := rfl
    have hm := mk_uncurl κ (.int n) rfl
    have g0 : gIx (Mv.uncurl n).told (.int 0) = .ok (.str (Str.ofString "uncurl")) := rfl
    have ho : (Mv.uncurl n).ob κ = ob_uncurl κ (.int n) := rfl
    rw [ho]
    generalize (Mv.uncurl n).told = TT at *
    generalize ob_uncurl κ (.int n) = O at *
    simp only [F_move_of, m_move_of, runD]
    simp -implicitDefEqProofs [g0, g1, w_uncurl_lay, w_uncurl_slide, w_uncurl_curl, w_uncurl_part, w_uncurl_uncurl, hm]
/-! ### passings put behind a spot -/
def putR (k : Int × Int) (ps : List T3) (r : List T3) : List T3 := r.flatMap fun x => x :: (if ky x = k then ps else [])
def putK (k : Int × Int) (ps : List T3) (p : List T3 × Nat) : List T3 := (if p.1 = [] ∧ k = ((p.2 : Int), 2) then ps else []) ++ putR k ps p.1
def putL (ds : Drw) (k : Int × Int) (ps : List T3) : Drw := ds.zipIdx.map (putK k ps)
theorem Rot.flatMap {α β : Type} (g : α → List β) {a b : List α} (h : Rot a b) : Rot (a.flatMap g) (b.flatMap g) := by
  obtain ⟨u, v, rfl, rfl⟩ := h
  exact ⟨u.flatMap g, v.flatMap g, by rw [List.flatMap_append], by rw [List.flatMap_append]⟩
theorem Rot.nil_iff {α : Type} {a b : List α} (h : Rot a b) : a = [] ↔ b = [] := by
  obtain ⟨u, v, rfl, rfl⟩ := h
  simp [and_comm]
theorem Rot.perm' {α : Type} {a b : List α} (h : Rot a b) : b.Perm a := by
  obtain ⟨u, v, rfl, rfl⟩ := h
  exact List.perm_append_comm
theorem Rot.putKr {k : Int × Int} {ps r t : List T3} {n : Nat} (h : Rot r t) : Rot (putK k ps (r, n)) (putK k ps (t, n)) := by
  by_cases hr : r = []
  · have ht := h.nil_iff.mp hr
    rw [hr, ht]; exact Rot.refl' _
  · have ht : t ≠ [] := fun e => hr (h.nil_iff.mpr e)
    unfold putK
    rw [if_neg (fun z => hr z.1), if_neg (fun z => ht z.1)]
    exact Rot.flatMap _ h
theorem RotL.putF {k : Int × Int} {ps : List T3} : ∀ {a b : Drw} (n : Nat), RotL a b → RotL ((a.zipIdx n).map (putK k ps)) ((b.zipIdx n).map (putK k ps))
  | [], [], _, _ => trivial
  | r :: ds, t :: T, n, h => ⟨h.1.putKr, RotL.putF (n + 1) h.2⟩
  | [], _ :: _, _, h => h.elim
  | _ :: _, [], _, h => h.elim
theorem RotL.put {k : Int × Int} {ps : List T3} {a b : Drw} (h : RotL a b) : RotL (putL a k ps) (putL b k ps) := RotL.putF 0 h
theorem RotL.seatL : ∀ ds : Drw, RotL ds (ds.map seat)
  | [] => trivial
  | r :: ds => ⟨seat_rot r, RotL.seatL ds⟩
theorem RotL.seatedL : ∀ {a b : Drw}, RotL a b → (∀ r ∈ a, (r.map ky).Nodup) → b.map seat = a.map seat
  | [], [], _, _ => rfl
  | r :: ds, t :: T, h, hn => by
    rw [List.map_cons, List.map_cons, seat_turn h.1 (hn r List.mem_cons_self), RotL.seatedL h.2 fun q hq => hn q (List.mem_cons_of_mem _ hq)]
  | [], _ :: _, h, _ => h.elim
  | _ :: _, [], h, _ => h.elim
theorem RotL.get : ∀ {a b : Drw} {i : Nat} {r : List T3}, RotL a b → a[i]? = some r → ∃ t, b[i]? = some t ∧ Rot r t
  | r :: ds, t :: T, 0, q, h, e => by
    cases e
    exact ⟨t, rfl, h.1⟩
  | r :: ds, t :: T, i + 1, q, h, e => RotL.get (i := i) h.2 (by simpa using e)
  | [], [], _, _, _, e => by simp at e
  | [], _ :: _, _, _, h, _ => h.elim
  | _ :: _, [], _, _, h, _ => h.elim
theorem uk_rows {ds : Drw} (hu : UK ds) : ∀ r ∈ ds, (r.map ky).Nodup := fun r hr => by
  obtain ⟨X, Y, e⟩ := List.append_of_mem hr
  unfold UK at hu
  rw [e, List.flatten_append, List.flatten_cons, List.map_append, List.map_append] at hu
  exact (List.nodup_append.mp (List.nodup_append.mp hu).2.1).1
theorem RotL.uk {a b : Drw} (h : RotL a b) (hu : UK a) : UK b := (h.flat.map ky).nodup_iff.mpr hu
/-! how often -/
theorem putR_perm (k : Int × Int) (ps : List T3) : ∀ r : List T3, (putR k ps r).Perm (r ++ (List.replicate ((r.map ky).count k) ps).flatten)
  | [] => by simp [putR]
  | x :: r => by
    have ih := putR_perm k ps r
    have e : putR k ps (x :: r) = x :: ((if ky x = k then ps else []) ++ putR k ps r) := rfl
    rw [e, List.map_cons, List.count_cons, List.cons_append]
    refine List.Perm.cons x ?_
    by_cases h : ky x = k
    · rw [if_pos h, if_pos (by simp [h]), List.replicate_succ, List.flatten_cons]
      refine (List.Perm.append_left ps ih).trans ?_
      rw [← List.append_assoc, ← List.append_assoc]
      exact List.Perm.append_right _ List.perm_append_comm
    · rw [if_neg h, if_neg (by simpa using h), List.nil_append, Nat.add_zero]
      exact ih
theorem putK_perm (k : Int × Int) (ps : List T3) (p : List T3 × Nat) : (putK k ps p).Perm (p.1 ++ (List.replicate ((rowK p).count k) ps).flatten) := by
  unfold putK rowK
  rw [List.count_append]
  by_cases h1 : p.1 = []
  · by_cases h2 : k = ((p.2 : Int), 2)
    · rw [if_pos ⟨h1, h2⟩, if_pos h1, h1, h2]
      simp [putR]
    · rw [if_neg (fun z => h2 z.2), if_pos h1, h1]
      have : List.count k [((p.2 : Int), (2 : Int))] = 0 := by
        rw [List.count_eq_zero]
        intro hm
        exact h2 (List.mem_singleton.mp hm)
      rw [this]
      simp [putR]
  · rw [if_neg (fun z => h1 z.1), if_neg h1, List.nil_append, List.count_nil, Nat.zero_add]
    exact putR_perm k ps p.1
theorem putL_perm' (k : Int × Int) (ps : List T3) : ∀ xs : List (List T3 × Nat), ((xs.map (putK k ps)).flatten).Perm ((xs.map (·.1)).flatten ++ (List.replicate ((xs.flatMap rowK).count k) ps).flatten)
  | [] => by simp
  | p :: xs => by
    have ih := putL_perm' k ps xs
    rw [List.map_cons, List.flatten_cons, List.map_cons, List.flatten_cons, List.flatMap_cons, List.count_append, ← List.replicate_append_replicate, List.flatten_append]
    refine ((putK_perm k ps p).append ih).trans ?_
    rw [List.append_assoc, List.append_assoc]
    refine List.Perm.append_left _ ?_
    rw [← List.append_assoc, ← List.append_assoc]
    exact List.Perm.append_right _ List.perm_append_comm
theorem putL_perm {ds : Drw} {k : Int × Int} (ps : List T3) (hn : (spk ds).Nodup) (hk : k ∈ spk ds) : (putL ds k ps).flatten.Perm (ds.flatten ++ ps) := by
  have h := putL_perm' k ps ds.zipIdx
  have hc : (ds.zipIdx.flatMap rowK).count k = 1 := by
    show (spk ds).count k = 1
    rw [hn.count, if_pos hk]
  rw [hc] at h
  have e : ds.zipIdx.map (·.1) = ds := List.zipIdx_map_fst 0 ds
  rw [e] at h
  unfold putL
  simpa using h
/-! what is put, taken out -/
theorem RotL.filter (f : T3 → Bool) : ∀ {a b : Drw}, RotL a b → RotL (a.map (·.filter f)) (b.map (·.filter f))
  | [], [], _ => trivial
  | r :: ds, t :: T, h => ⟨by
      obtain ⟨u, v, rfl, rfl⟩ := h.1
      exact ⟨u.filter f, v.filter f, by simp, by simp⟩, RotL.filter f h.2⟩
  | [], _ :: _, h => h.elim
  | _ :: _, [], h => h.elim
/-! where what is put stands -/
/-! neighbours in rows that are begun elsewhere -/
theorem adj_rot {α : Type} {r t : List α} (h : Rot r t) {k : Nat} {x y : α} (h1 : r[k]? = some x) (h2 : r[(k + 1) % r.length]? = some y) : ∃ j, t[j]? = some x ∧ t[(j + 1) % t.length]? = some y := by
  obtain ⟨u, v, rfl, rfl⟩ := h
  have hk := (List.getElem?_eq_some_iff.mp h1).1
  rw [List.length_append] at hk h2 ⊢
  have hm : (k + 1) % (u.length + v.length) = if k + 1 = u.length + v.length then 0 else k + 1 := by
    split
    · rename_i e; rw [e, Nat.mod_self]
    · exact Nat.mod_eq_of_lt (by omega)
  rw [hm] at h2
  by_cases c : k < u.length
  · rw [List.getElem?_append_left c] at h1
    refine ⟨v.length + k, by rw [List.getElem?_append_right (by omega)]; rw [show v.length + k - v.length = k by omega]; exact h1, ?_⟩
    by_cases c2 : k + 1 = u.length
    · rw [show v.length + k + 1 = v.length + u.length by omega, Nat.mod_self]
      by_cases c3 : v.length = 0
      · have : v = [] := List.length_eq_zero_iff.mp c3
        subst this
        rw [if_pos (by simp; omega)] at h2
        simpa using h2
      · rw [if_neg (by omega), List.getElem?_append_right (by omega)] at h2
        rw [List.getElem?_append_left (by omega), show 0 = k + 1 - u.length by omega]
        exact h2
    · rw [Nat.mod_eq_of_lt (by omega), List.getElem?_append_right (by omega), show v.length + k + 1 - v.length = k + 1 by omega]
      rw [if_neg (by omega), List.getElem?_append_left (by omega)] at h2
      exact h2
  · rw [List.getElem?_append_right (by omega)] at h1
    refine ⟨k - u.length, by rw [List.getElem?_append_left (by omega)]; exact h1, ?_⟩
    by_cases c2 : k + 1 = u.length + v.length
    · rw [if_pos c2] at h2
      by_cases c3 : u.length = 0
      · have : u = [] := List.length_eq_zero_iff.mp c3
        subst this
        rw [show k - ([] : List α).length + 1 = v.length by simp at c2 ⊢; omega, show v.length + ([] : List α).length = v.length by simp, Nat.mod_self]
        simpa using h2
      · rw [List.getElem?_append_left (by omega)] at h2
        rw [show k - u.length + 1 = v.length by omega, Nat.mod_eq_of_lt (by omega), List.getElem?_append_right (by omega), Nat.sub_self]
        exact h2
    · rw [if_neg c2, List.getElem?_append_right (by omega)] at h2
      rw [Nat.mod_eq_of_lt (by omega), List.getElem?_append_left (by omega), show k - u.length + 1 = k + 1 - u.length by omega]
      exact h2
theorem RotL.rl {a b : Drw} (h : RotL a b) {x y : T3} (r : Rl a x y) : Rl b x y := by
  obtain ⟨i, q, k, h1, h2, h3⟩ := r
  obtain ⟨t, ht, hr⟩ := h.get h1
  obtain ⟨j, e1, e2⟩ := adj_rot hr h2 h3
  exact ⟨i, t, j, ht, e1, e2⟩
/-! ### the defs that put -/
theorem gEq_pp (a b : Int × Int) : gEq (t2 a) (t2 b) = .ok (.bl (decide (a = b))) := gEq_enc (α := Int × Int) a b (by decide)
theorem immT3 (r : List T3) : immAll (r.map t3) = true := by simp
/-! ### put_behind -/
abbrev pbI : Mir.Env → Res Ctl := (mSeq (mAppend 7 0 [] (mImm (mVar 8))) (mIf (mTb (mOp gEq (mImm (mTup (mConsE (mImm (mOp gIx (mVar 8) (mC (.int 0)))) [] (mConsE (mImm (mOp gIx (mVar 8) (mC (.int 1)))) [] mNilA)))) (mVar 1))) (mSeq (mExtend 7 0 (fun env => (mVar 2) env >>= fun d => itemsL d >>= immL)) (mSet 4 0 [] (mC (.bl true)))) mSkip))
abbrev pbO : Mir.Env → Res Ctl := (mSeq (mSet 7 1 [] (mLst mNilA)) (mSeq (mIf (mAndB (mNotB (fun env => (mVar 6) env >>= gTru)) (mTb (mOp gEq (mVar 1) (mImm (mTup (mConsE (mImm (mVar 5)) [] (mConsE (mC (.int 2)) [] mNilA))))))) (mSeq (mExtend 7 0 (fun env => (mVar 2) env >>= fun d => itemsL d >>= immL)) (mSet 4 0 [] (mC (.bl true)))) mSkip) (mSeq (mFor (fun env => (mVarK 6 0) env >>= itemsL) (tName 8) pbI [8]) (mAppend 3 1 [7] (mVarK 7 1)))))
theorem pb_in (A : D) (k : Int × Int) (ps : List T3) (q i rr : Option (Nat × D)) (hps : ps.length ≤ 4) : ∀ (r acc : List T3) (fl : Bool), acc.length + r.length * 5 ≤ 1000 →
    loop (tName 8) pbI [8] (r.map t3) [some (0, A), some (0, t2 k), some (0, encR ps), q, some (0, .bl fl), i, rr, some (1, encR acc), none] = .ok (.nx [some (0, A), some (0, t2 k), some (0, encR ps), q, some (0, .bl (fl || decide (k ∈ r.map ky))), i, rr, some (1, encR (acc ++ putR k ps r)), none])
  | [], acc, fl, _ => by
    rw [show acc ++ putR k ps [] = acc by simp [putR], show (fl || decide (k ∈ ([] : List T3).map ky)) = fl by simp]; rfl
  | x :: r, acc, fl, h => by
    rw [List.length_cons, Nat.add_mul] at h
    have e : putR k ps (x :: r) = x :: ((if ky x = k then ps else []) ++ putR k ps r) := rfl
    have hz : (acc.map t3).length < sizeLine := sizeLine_lt (by rw [List.length_map]; omega)
    have g0 : gIx (t3 x) (.int 0) = .ok (.int x.a) := rfl
    have g1 : gIx (t3 x) (.int 1) = .ok (.int x.b) := rfl
    have hi : (t3 x).imm = true := rfl
    have hq : gEq (t2 (x.a, x.b)) (t2 k) = .ok (.bl (decide (ky x = k))) := gEq_pp _ _
    have e2 : t2 (x.a, x.b) = .tup [.int x.a, .int x.b] := rfl
    rw [e2] at hq
    have hPi : itemsL (encR ps) = .ok (ps.map t3) := rfl
    have hpi := immT3 ps
    have ha1 : immAll (acc.map t3 ++ [t3 x]) = true := by
      have := immT3 (acc ++ [x])
      rw [List.map_append] at this
      exact this
    by_cases hk : ky x = k
    · have ih := pb_in A k ps q i rr hps r (acc ++ [x] ++ ps) true (by rw [List.length_append, List.length_append, List.length_singleton]; omega)
      have e' : putR k ps (x :: r) = x :: (ps ++ putR k ps r) := by rw [e, if_pos hk]
      have ef : (fl || decide (k ∈ (x :: r).map ky)) = true := by
        rw [List.map_cons, decide_eq_true (show k ∈ ky x :: r.map ky by rw [hk]; exact List.mem_cons_self), Bool.or_true]
      rw [e', List.map_cons, ef]
      have hz2 : (acc.map t3 ++ [t3 x]).length + (ps.map t3).length ≤ sizeLine := sizeLine_big (by rw [List.length_append, List.length_map, List.length_map, List.length_singleton]; omega)
      rw [decide_eq_true hk] at hq
      have hs : (tName 8 0 (t3 x) [some (0, A), some (0, t2 k), some (0, encR ps), q, some (0, .bl fl), i, rr, some (1, encR acc), none] >>= fun e => pbI e >>= stepc [8]) = .ok [some (0, A), some (0, t2 k), some (0, encR ps), q, some (0, .bl true), i, rr, some (1, encR (acc ++ [x] ++ ps)), none] := by
        have e1 : encR (acc ++ [x] ++ ps) = .lst (acc.map t3 ++ [t3 x] ++ ps.map t3) := by unfold encR; simp
        have e3 : encR acc = .lst (acc.map t3) := rfl
        rw [e1, e3]
        generalize acc.map t3 = AC at *
        generalize t3 x = XX at *
        generalize encR ps = PP at *
        generalize ps.map t3 = PL at *
        generalize t2 k = KK at *
        have hz2' : AC.length + 1 + PL.length ≤ sizeLine := by simpa using hz2
        simp -implicitDefEqProofs [g0, g1, hi, hq, hz, hPi, immL, hpi, ha1, mExtend, hz2']
      rw [loop_step hs, ih]
      simp
    · have ih := pb_in A k ps q i rr hps r (acc ++ [x]) fl (by rw [List.length_append, List.length_singleton]; omega)
      have e' : putR k ps (x :: r) = x :: putR k ps r := by rw [e, if_neg hk]; rfl
      have ef : (fl || decide (k ∈ (x :: r).map ky)) = (fl || decide (k ∈ r.map ky)) := by
        congr 1
        refine decide_eq_decide.mpr ?_
        rw [List.map_cons, List.mem_cons]
        exact ⟨fun z => z.resolve_left fun w => hk w.symm, .inr⟩
      rw [e', List.map_cons, ef]
      rw [decide_eq_false hk] at hq
      have hs : (tName 8 0 (t3 x) [some (0, A), some (0, t2 k), some (0, encR ps), q, some (0, .bl fl), i, rr, some (1, encR acc), none] >>= fun e => pbI e >>= stepc [8]) = .ok [some (0, A), some (0, t2 k), some (0, encR ps), q, some (0, .bl fl), i, rr, some (1, encR (acc ++ [x])), none] := by
        have e1 : encR (acc ++ [x]) = .lst (acc.map t3 ++ [t3 x]) := by unfold encR; simp
        have e3 : encR acc = .lst (acc.map t3) := rfl
        rw [e1, e3]
        generalize acc.map t3 = AC at *
        generalize t3 x = XX at *
        generalize encR ps = PP at *
        generalize t2 k = KK at *
        simp -implicitDefEqProofs [g0, g1, hi, hq, hz]
      rw [loop_step hs, ih]
      simp
theorem pb_step (A : D) (k : Int × Int) (ps : List T3) (hps : ps.length ≤ 4) (r : List T3) (hrl : r.length ≤ 100) (i : Nat) (acc : Drw) (fl : Bool) (ha : acc.length ≤ 10) :
    (tTupT 2 (tCons (tName 5) (tCons (tName 6) tNil)) 0 (.tup [.int (i : Int), encR r]) [some (0, A), some (0, t2 k), some (0, encR ps), some (2, encD acc), some (0, .bl fl), none, none, none, none] >>= fun e => pbO e >>= stepc [5, 6, 7, 8]) = .ok [some (0, A), some (0, t2 k), some (0, encR ps), some (2, encD (acc ++ [putK k ps (r, i)])), some (0, .bl (fl || decide (k ∈ rowK (r, i)))), none, none, none, none] := by
  obtain ⟨b0, hb0⟩ : ∃ b0, b0 = (if r = [] ∧ k = ((i : Int), 2) then ps else []) := ⟨_, rfl⟩
  obtain ⟨f0, hf0⟩ : ∃ f0, f0 = (fl || decide (r = [] ∧ k = ((i : Int), 2))) := ⟨_, rfl⟩
  have hpk : putK k ps (r, i) = b0 ++ putR k ps r := by rw [hb0]; rfl
  have hff : (fl || decide (k ∈ rowK (r, i))) = (f0 || decide (k ∈ r.map ky)) := by
    rw [hf0, Bool.or_assoc]
    congr 1
    rw [← Bool.decide_or]
    refine decide_eq_decide.mpr ?_
    unfold rowK
    rw [List.mem_append]
    refine or_congr ?_ Iff.rfl
    by_cases h : r = []
    · simp [h]
    · simp [h]
  have hbl : b0.length ≤ 4 := by
    rw [hb0]; split
    · exact hps
    · exact Nat.zero_le _
  have L := pb_in A k ps (some (2, encD acc)) (some (0, .int (i : Int))) (some (0, encR r)) hps r b0 f0 (by omega)
  rw [← hpk, ← hff] at L
  have hR : itemsL (encR r) = .ok (r.map t3) := rfl
  have hT : gTru (encR r) = .ok (!decide (r = [])) := gTru_R r
  have hq := gEq_pp k ((i : Int), 2)
  have e2 : t2 ((i : Int), 2) = .tup [.int (i : Int), .int 2] := rfl
  rw [e2] at hq
  have hz : (acc.map encR).length < sizeLine := sizeLine_lt (by rw [List.length_map]; omega)
  have e4 : encD (acc ++ [putK k ps (r, i)]) = .lst (acc.map encR ++ [encR (putK k ps (r, i))]) := by unfold encD; simp
  have hPi : itemsL (encR ps) = .ok (ps.map t3) := rfl
  have hpi := immT3 ps
  have hz3 : (ps.map t3).length ≤ sizeLine := sizeLine_big (by rw [List.length_map]; omega)
  refine (congrArg (fun r => r >>= stepc [5, 6, 7, 8]) (s_seq2 (e := [some (0, A), some (0, t2 k), some (0, encR ps), some (2, encD acc), some (0, .bl fl), some (0, .int (i : Int)), some (0, encR r), some (1, encR []), none]) ?_ (s_seq2 (e := [some (0, A), some (0, t2 k), some (0, encR ps), some (2, encD acc), some (0, .bl f0), some (0, .int (i : Int)), some (0, encR r), some (1, encR b0), none]) ?_ (s_seq2 (e := [some (0, A), some (0, t2 k), some (0, encR ps), some (2, encD acc), some (0, .bl (fl || decide (k ∈ rowK (r, i)))), some (0, .int (i : Int)), some (0, encR r), some (1, encR (putK k ps (r, i))), none]) ?_ (r := .ok (.nx [some (0, A), some (0, t2 k), some (0, encR ps), some (2, encD (acc ++ [putK k ps (r, i)])), some (0, .bl (fl || decide (k ∈ rowK (r, i)))), some (0, .int (i : Int)), some (0, encR r), none, none])) ?_)))).trans ?_
  · generalize encD acc = AA at *
    generalize t2 k = KK at *
    generalize encR ps = PP at *
    generalize encR r = RR at *
    simp -implicitDefEqProofs [encR]
  · by_cases hr : r = []
    · rw [decide_eq_true hr] at hT
      by_cases hk : k = ((i : Int), 2)
      · rw [decide_eq_true hk] at hq
        have e5 : b0 = ps := by rw [hb0, if_pos ⟨hr, hk⟩]
        have e5' : f0 = true := by rw [hf0, decide_eq_true ⟨hr, hk⟩, Bool.or_true]
        rw [e5, e5']
        have e6 : encR ps = .lst (ps.map t3) := rfl
        have e8 : encR [] = .lst [] := rfl
        generalize encD acc = AA at *
        generalize t2 k = KK at *
        generalize encR r = RR at *
        rw [e8]
        rw [e6] at hPi ⊢
        generalize ps.map t3 = PL at *
        simp -implicitDefEqProofs [hT, hq, hPi, immL, hpi, mExtend, hz3]
      · rw [decide_eq_false hk] at hq
        have e5 : b0 = [] := by rw [hb0, if_neg (fun z => hk z.2)]
        have e5' : f0 = fl := by rw [hf0, decide_eq_false (fun z => hk z.2), Bool.or_false]
        rw [e5, e5']
        generalize encD acc = AA at *
        generalize t2 k = KK at *
        generalize encR r = RR at *
        generalize encR ps = PP at *
        generalize encR [] = R0 at *
        simp -implicitDefEqProofs [hT, hq]
    · rw [decide_eq_false hr] at hT
      have e5 : b0 = [] := by rw [hb0, if_neg (fun z => hr z.1)]
      have e5' : f0 = fl := by rw [hf0, decide_eq_false (fun z => hr z.1), Bool.or_false]
      rw [e5, e5']
      generalize encD acc = AA at *
      generalize t2 k = KK at *
      generalize encR r = RR at *
      generalize encR ps = PP at *
      generalize encR [] = R0 at *
      simp -implicitDefEqProofs [hT]
  · refine Eq.trans ?_ L
    generalize encD acc = AA at *
    generalize t2 k = KK at *
    generalize encR ps = PP at *
    generalize encR r = RR at *
    generalize encR b0 = B0 at *
    simp -implicitDefEqProofs [hR]
  · rw [e4]
    have e7 : encD acc = .lst (acc.map encR) := rfl
    rw [e7]
    generalize acc.map encR = AA at *
    generalize t2 k = KK at *
    generalize encR ps = PP at *
    generalize encR r = RR at *
    generalize encR (putK k ps (r, i)) = Q at *
    simp -implicitDefEqProofs [hz]
  · generalize t2 k = KK at *
    generalize encR ps = PP at *
    generalize encD (acc ++ [putK k ps (r, i)]) = Q at *
    simp -implicitDefEqProofs
theorem pb_is {ds : Drw} {k : Int × Int} {ps : List T3} (hd : ds.length ≤ 10) (hr : ∀ r ∈ ds, r.length ≤ 100) (hps : ps.length ≤ 4) (hk : k ∈ spk ds) : F_put_behind [encD ds, t2 k, encR ps] = .ok (encD (putL ds k ps)) := by
  have L : ∀ (A : D) (xs : Drw) (n : Nat) (acc : Drw) (fl : Bool), acc.length + xs.length ≤ 10 → (∀ r ∈ xs, r.length ≤ 100) → loop (tTupT 2 (tCons (tName 5) (tCons (tName 6) tNil))) pbO [5, 6, 7, 8] (enumD n (xs.map encR)) [some (0, A), some (0, t2 k), some (0, encR ps), some (2, encD acc), some (0, .bl fl), none, none, none, none] = .ok (.nx [some (0, A), some (0, t2 k), some (0, encR ps), some (2, encD (acc ++ (xs.zipIdx n).map (putK k ps))), some (0, .bl (fl || decide (k ∈ (xs.zipIdx n).flatMap rowK))), none, none, none, none]) := fun A xs => by
    induction xs with
    | nil => intro n acc fl _ _; simp [enumD]; rfl
    | cons r xs ih =>
      intro n acc fl h1 h2
      rw [List.length_cons] at h1
      have hs := pb_step A k ps hps r (h2 r List.mem_cons_self) n acc fl (by omega)
      rw [List.map_cons, enumD, loop_step hs, ih (n + 1) (acc ++ [putK k ps (r, n)]) _ (by rw [List.length_append, List.length_singleton]; omega) fun q hq => h2 q (List.mem_cons_of_mem _ hq)]
      rw [List.zipIdx_cons, List.map_cons, List.flatMap_cons, List.append_assoc, Bool.or_assoc, ← Bool.decide_or]
      have : (decide (k ∈ rowK (r, n) ∨ k ∈ (xs.zipIdx (n + 1)).flatMap rowK)) = decide (k ∈ rowK (r, n) ++ (xs.zipIdx (n + 1)).flatMap rowK) := decide_eq_decide.mpr List.mem_append.symm
      rw [this]; rfl
  have hDi : itemsL (encD ds) = .ok (ds.map encR) := rfl
  have L0 := L (encD ds) ds 0 [] false (by simp; omega) hr
  rw [show (false || decide (k ∈ (ds.zipIdx 0).flatMap rowK)) = true by rw [decide_eq_true (show k ∈ ds.zipIdx.flatMap rowK from hk)]; rfl, List.nil_append] at L0
  refine Tells.eq ?_
  simp only [F_put_behind, m_put_behind, runD]
  refine t_seq (e := [some (0, encD ds), some (0, t2 k), some (0, encR ps), some (2, encD []), none, none, none, none, none]) (by
    generalize encD ds = DD at *
    generalize t2 k = KK at *
    generalize encR ps = PP at *
    simp -implicitDefEqProofs [encD]) ?_
  refine t_seq (e := [some (0, encD ds), some (0, t2 k), some (0, encR ps), some (2, encD []), some (0, .bl false), none, none, none, none]) (by
    generalize encD ds = DD at *
    generalize t2 k = KK at *
    generalize encR ps = PP at *
    generalize encD [] = D0 at *
    simp -implicitDefEqProofs) ?_
  refine t_seq (e := [some (0, encD ds), some (0, t2 k), some (0, encR ps), some (2, encD (putL ds k ps)), some (0, .bl true), none, none, none, none]) (by
    first | refine for_of ?_ L0 | refine mN_of (for_of ?_ L0)
    generalize ds.map encR = XS at *
    generalize encD ds = DD at *
    generalize t2 k = KK at *
    generalize encR ps = PP at *
    generalize encD [] = D0 at *
    simp -implicitDefEqProofs [hDi]) ?_
  refine Tells.eqI ?_
  generalize encD ds = DD at *
  generalize t2 k = KK at *
  generalize encR ps = PP at *
  generalize encD (putL ds k ps) = Q at *
  simp -implicitDefEqProofs

/-! ### rows begun, names looked at, passings taken out -/
/-- new names of which none is taken -/
theorem new_is {ds : Drw} (hf : ds.flatten.length ≤ 100) {ns : List Int} (h12 : (hnds ds).length + ns.length ≤ 12) (hn : ∀ n ∈ ns, ∀ x ∈ ds.flatten, x.a ≠ n) (hd : ns.Nodup) : F_look_at_new [encD ds, .lst (ns.map D.int)] = .ok .non := by
  have hnm := names_is ds (by omega) (by omega)
  obtain ⟨N, hN⟩ : ∃ N, N = sortI ((hnds ds).map (·.1)) := ⟨_, rfl⟩
  have hNl : N.length = (hnds ds).length := by rw [hN, (sortI_perm _).length_eq, List.length_map]
  have hNm : ∀ n ∈ ns, n ∉ N := fun n hn' hm => by
    rw [hN, (sortI_perm _).mem_iff] at hm
    rcases (pts_mem (key := T3.a) (val := T3.c) ds.flatten [] n).mp hm with h | ⟨x, hx, e⟩
    · cases h
    · exact hn n hn' x hx e
  rw [← hN] at hnm
  have iN : immAt 1 (.lst (N.map D.int)) = true := by simp
  have gl1 : gLen (.lst (N.map D.int)) = .ok (.int (N.length : Nat)) := by
    show Res.ok (D.int (((N.map D.int).length : Nat) : Int)) = _
    rw [List.length_map]
  have gl2 : gLen (.lst (ns.map D.int)) = .ok (.int (ns.length : Nat)) := by
    show Res.ok (D.int (((ns.map D.int).length : Nat) : Int)) = _
    rw [List.length_map]
  have h12' : ¬ (12 : Int) < (N.length : Nat) + (ns.length : Nat) := by omega
  have hni : itemsL (.lst (ns.map D.int)) = .ok (ns.map D.int) := rfl
  have hii : immAll (ns.map D.int) = true := by simp
  have look : ∀ (t : Nat → D → Mir.Env → Res Mir.Env) (body : Mir.Env → Res Ctl), (∀ (ys zs : List Int) (z : Int), ns = ys ++ z :: zs → (t 0 (.tup [.int ((ys.length : Nat) : Int), .int z]) [some (0, encD ds), some (0, .lst (ns.map D.int)), some (1, .lst (N.map D.int)), none, none] >>= fun e => body e >>= stepc [3, 4]) = .ok [some (0, encD ds), some (0, .lst (ns.map D.int)), some (1, .lst (N.map D.int)), none, none]) → ∀ (zs ys : List Int), ns = ys ++ zs → loop t body [3, 4] (enumD ys.length (zs.map D.int)) [some (0, encD ds), some (0, .lst (ns.map D.int)), some (1, .lst (N.map D.int)), none, none] = .ok (.nx [some (0, encD ds), some (0, .lst (ns.map D.int)), some (1, .lst (N.map D.int)), none, none]) := fun t body hb zs => by
    induction zs with
    | nil => intro ys _; rfl
    | cons z zs ih =>
      intro ys he
      rw [List.map_cons, enumD, loop_step (hb ys zs z he)]
      have := ih (ys ++ [z]) (by rw [he]; simp)
      rw [List.length_append, List.length_singleton] at this
      exact this
  have L0 := fun t body hb => look t body hb ns [] rfl
  refine Tells.eq ?_
  simp only [F_look_at_new, m_look_at_new, runD]
  refine t_seq (e := [some (0, encD ds), some (0, .lst (ns.map D.int)), some (1, .lst (N.map D.int)), none, none]) (by
    generalize encD ds = DD at *
    generalize N.map D.int = NN at *
    generalize ns.map D.int = MM at *
    simp -implicitDefEqProofs [hnm, iN]) ?_
  refine t_seq (e := [some (0, encD ds), some (0, .lst (ns.map D.int)), some (1, .lst (N.map D.int)), none, none]) (by
    generalize encD ds = DD at *
    generalize N.map D.int = NN at *
    generalize ns.map D.int = MM at *
    simp -implicitDefEqProofs [gl1, gl2, h12']) ?_
  refine Tells.eqI ?_
  rw [for_of (ds := enumD 0 (ns.map D.int)) (by
    generalize encD ds = DD at *
    generalize N.map D.int = NN at *
    generalize ns.map D.int = MM at *
    simp -implicitDefEqProofs [hni]) (L0 _ _ fun ys zs z he => by
      have hzN := hNm z (by rw [he]; simp)
      have hzy : z ∉ ys := fun hm => by
        rw [he] at hd
        exact (List.nodup_append.mp hd).2.2 z hm z List.mem_cons_self rfl
      have hc : cutD (ns.map D.int) none (some ((ys.length : Nat) : Int)) = ys.map D.int := by
        rw [cutD_to D.int ns ys.length (by rw [he]; simp)]
        congr 1
        rw [he]; simp
      have g1 := gIn_int z N
      have g2 := gIn_int z ys
      rw [decide_eq_false hzN] at g1
      rw [decide_eq_false hzy] at g2
      generalize encD ds = DD at *
      generalize N.map D.int = NN at *
      generalize ns.map D.int = MM at *
      generalize ys.map D.int = YY at *
      generalize ((ys.length : Nat) : Int) = L at *
      simp -implicitDefEqProofs [g1, hii, immL, mSlice, hc, g2])]
  rfl
/-- names that are crossings' -/
theorem old_is {ds : Drw} (hf : ds.flatten.length ≤ 100) {ns : List Int} (hn : ∀ n ∈ ns, ∃ c, lk (hnds ds) n = some c) : F_look_at_old [encD ds, .lst (ns.map D.int)] = .ok .non := by
  have hni : itemsL (.lst (ns.map D.int)) = .ok (ns.map D.int) := rfl
  refine Tells.eq ?_
  simp only [F_look_at_old, m_look_at_old, runD]
  refine Tells.eqI ?_
  show (mFor _ _ _ _ [some (0, encD ds), some (0, .lst (ns.map D.int)), none] >>= _) = _
  rw [for_of (by
    generalize encD ds = DD at *
    generalize ns.map D.int = MM at *
    simp -implicitDefEqProofs [hni]) (look_ok D.int ns fun n hn' => by
    obtain ⟨c, hc⟩ := hn n hn'
    have := hand_is ds (by omega) hc
    generalize encD ds = DD at *
    generalize D.lst (ns.map D.int) = MM at *
    simp -implicitDefEqProofs [mExpr, this])]
  rfl
theorem without_is {ds : Drw} {ns : List Int} (hd : ds.length ≤ 1000) (hr : ∀ r ∈ ds, r.length ≤ 1000) : F_without [encD ds, .lst (ns.map D.int)] = .ok (encD (ds.map (·.filter fun x => decide (x.a ∉ ns)))) := by
  have hDi : itemsL (encD ds) = .ok (ds.map encR) := rfl
  have L := app_loop (t := tName 3) (fg := [3, 4]) (body := mAppend 2 1 [] (mLc (fun env => (mVarK 3 0) env >>= itemsL) (tName 4) (mTb (mOp gNotIn (mOp gIx (mVar 4) (mC (.int 0))) (mVar 1))) (mImm (mVar 4)) [4])) (fun q : Drw => [some (0, encD ds), some (0, .lst (ns.map D.int)), some (2, encD q), none, none]) encR (fun r => [r.filter fun x => decide (x.a ∉ ns)]) 1 1000 ds (fun _ _ => Nat.le_refl _) (fun r hr' acc hacc => by
    have hz : (acc.map encR).length < sizeLine := sizeLine_lt (by rw [List.length_map]; omega)
    have e1 : encD (acc ++ [r.filter fun x => decide (x.a ∉ ns)]) = .lst (acc.map encR ++ [.lst ((r.filter fun x => decide (x.a ∉ ns)).map t3)]) := by unfold encD encR; simp
    have e3 : encD acc = .lst (acc.map encR) := rfl
    have hR : itemsL (encR r) = .ok (r.map t3) := rfl
    have hlc := lc_run (t := tName 4) (mt := mTb (mOp gNotIn (mOp gIx (mVar 4) (mC (.int 0))) (mVar 1))) (me := mImm (mVar 4)) (env := [some (0, encD ds), some (0, .lst (ns.map D.int)), some (2, encD acc), some (0, encR r), none]) t3 (fun x => decide (x.a ∉ ns)) t3 r (fun x _ => by
      have g0 : gIx (t3 x) (.int 0) = .ok (.int x.a) := rfl
      have gn := gNotIn_int x.a ns
      have hi : (t3 x).imm = true := rfl
      generalize encD ds = DD at *
      generalize encD acc = AA at *
      generalize D.lst (ns.map D.int) = MM at *
      generalize encR r = RR at *
      generalize t3 x = XX at *
      refine ⟨[some (0, DD), some (0, MM), some (2, AA), some (0, RR), some (0, XX)], by simp -implicitDefEqProofs, ?_, ?_⟩
      · simp -implicitDefEqProofs [g0, gn]
      · simp -implicitDefEqProofs [hi])
    have hzl : ((r.filter fun x => decide (x.a ∉ ns)).map t3).length ≤ sizeLine := sizeLine_big (by
      rw [List.length_map]
      have := List.length_filter_le (fun x : T3 => decide (x.a ∉ ns)) r
      have := hr r hr'
      omega)
    show (tName 3 0 (encR r) [some (0, encD ds), some (0, .lst (ns.map D.int)), some (2, encD acc), none, none] >>= fun e => _) = .ok [some (0, encD ds), some (0, .lst (ns.map D.int)), some (2, encD (acc ++ [r.filter fun x => decide (x.a ∉ ns)])), none, none]
    rw [e1]
    rw [e3] at hlc ⊢
    generalize acc.map encR = AC at *
    generalize encD ds = DD at *
    generalize D.lst (ns.map D.int) = MM at *
    generalize encR r = RR at *
    generalize (r.filter fun x => decide (x.a ∉ ns)).map t3 = FF at *
    simp -implicitDefEqProofs [e_mLc, hR, hlc, hzl, hz]) [] (by simp; omega)
  rw [List.nil_append, flat_one] at L
  refine Tells.eq ?_
  simp only [F_without, m_without, runD]
  refine t_seq (e := [some (0, encD ds), some (0, .lst (ns.map D.int)), some (2, encD []), none, none]) (by
    generalize encD ds = DD at *
    generalize D.lst (ns.map D.int) = MM at *
    simp -implicitDefEqProofs [encD]) ?_
  refine t_seq (e := [some (0, encD ds), some (0, .lst (ns.map D.int)), some (2, encD (ds.map (·.filter fun x => decide (x.a ∉ ns)))), none, none]) (for_of (by
    generalize encD ds = DD at *
    generalize D.lst (ns.map D.int) = MM at *
    generalize encD [] = D0 at *
    simp -implicitDefEqProofs [hDi]) L) ?_
  refine Tells.eqI ?_
  generalize encD (ds.map (·.filter fun x => decide (x.a ∉ ns))) = Q at *
  simp -implicitDefEqProofs

/-! ### the nearest spot ahead -/
/-! ### curls and uncurls -/
def frsh (n f h : Int) : List T3 := [⟨n, f, h⟩, ⟨n, 1 - f, h⟩]
abbrev madeT (κ : Str → Addr) : List (Str × (List D → Res D)) := [("Curl", F_Curl_made κ), ("Lay", F_Lay_made κ), ("Part", F_Part_made κ), ("Slide", F_Slide_made κ), ("Uncurl", F_Uncurl_made κ)]
abbrev doneT (κ : Str → Addr) : List (Str × (List D → Res D)) := [("Curl", F_Move_done κ), ("Lay", F_Move_done κ), ("Part", F_Move_done κ), ("Slide", F_Move_done κ), ("Uncurl", F_Move_done κ)]
/-- a drawing of which defs may be asked -/
structure Siz (ds : Drw) : Prop where
  len : ds.length ≤ 10
  row : ∀ r ∈ ds, r.length ≤ 100
  fl : ds.flatten.length ≤ 100
theorem siz_of {ds : Drw} (h1 : ds.length ≤ 10) (h2 : ds.flatten.length ≤ 100) : Siz ds := ⟨h1, fun r hr => by
  obtain ⟨X, Y, e⟩ := List.append_of_mem hr
  rw [e, List.flatten_append, List.flatten_cons, List.length_append, List.length_append] at h2
  omega, h2⟩
theorem curl_made (κ : Str → Addr) {ds : Drw} (hs : Siz ds) {n f h : Int} {k : Int × Int} (h12 : (hnds ds).length + 1 ≤ 12) (hn : ∀ x ∈ ds.flatten, x.a ≠ n) (hk : k ∈ spk ds) : F_Curl_made κ [(Mv.curl n k f h).ob κ, encD ds] = .ok (encD (putL ds k (frsh n f h))) := by
  have ho : (Mv.curl n k f h).ob κ = ob_curl κ (.int n) (t2 k) (.int f) (.int h) := rfl
  rw [ho]
  have f0 := fld_curl_name κ (.int n) (t2 k) (.int f) (.int h)
  have f1 := fld_curl_spot κ (.int n) (t2 k) (.int f) (.int h)
  have f2 := fld_curl_first κ (.int n) (t2 k) (.int f) (.int h)
  have f3 := fld_curl_hand κ (.int n) (t2 k) (.int f) (.int h)
  have hnew := new_is (ds := ds) hs.fl (ns := [n]) h12 (fun m hm => by rw [List.mem_singleton.mp hm]; exact hn) (by simp)
  have e1 : [n].map D.int = [.int n] := rfl
  rw [e1] at hnew
  have hpb := pb_is (ps := frsh n f h) hs.len hs.row (by show 2 ≤ 4; omega) hk
  have e2 : encR (frsh n f h) = .lst [.tup [.int n, .int f, .int h], .tup [.int n, .int (1 - f), .int h]] := rfl
  rw [e2] at hpb
  have gs : gSub (.int 1) (.int f) = .ok (.int (1 - f)) := rfl
  have i2 : immAt 2 (encD (putL ds k (frsh n f h))) = true := by simp
  have hz : (2 : Nat) ≤ sizeLine := by decide
  have hz1 : (1 : Nat) ≤ sizeLine := by decide
  generalize ob_curl κ (.int n) (t2 k) (.int f) (.int h) = O at *
  generalize t2 k = KK at *
  generalize encD (putL ds k (frsh n f h)) = Q at *
  generalize encD ds = DD at *
  simp only [F_Curl_made, m_Curl_made, runD]
  simp -implicitDefEqProofs [-e_gSub, mExpr, f0, f1, f2, f3, hnew, gs, hpb, i2, hz, hz1]
theorem done_of (κ : Str → Addr) {m : Mv} {D0 : D} {E : Drw} (hE : Siz E) (h : gMeth κ (madeT κ) "made" 2 (m.ob κ) [D0] = .ok (encD E)) : gMeth κ (doneT κ) "done" 2 (m.ob κ) [D0] = .ok (encD (E.map seat)) := by
  have i2 : immAt 2 (encD (E.map seat)) = true := by simp
  have hDi : itemsL (encD E) = .ok (E.map encR) := rfl
  have key : F_Move_done κ [m.ob κ, D0] = .ok (encD (E.map seat)) := by
    have hlc := lc_all (t := tName 2) (me := mCall 1 F_seated (mConsA (mVar 2) mNilA)) encR (fun r => encR (seat r)) E (env := [some (0, m.ob κ), some (0, D0), none]) (fun r hr => by
      have hp := seated_is r (Nat.le_trans (hE.row r hr) (by decide))
      have i1 : immAt 1 (encR (seat r)) = true := by simp
      generalize encR r = X at *
      generalize encR (seat r) = Y at *
      generalize m.ob κ = O at *
      simp -implicitDefEqProofs [hp, i1])
    have hz : (E.map fun r => encR (seat r)).length ≤ sizeLine := sizeLine_big (by rw [List.length_map]; have := hE.len; omega)
    have eD : encD (E.map seat) = .lst (E.map fun r => encR (seat r)) := by unfold encD; rw [List.map_map]; rfl
    rw [eD]
    generalize m.ob κ = O at *
    generalize encD E = EE at *
    generalize (E.map fun r => encR (seat r)) = RR at *
    simp only [F_Move_done, m_Move_done, runD]
    simp -implicitDefEqProofs [e_mLc, h, hDi, hlc, hz]
  cases m with
  | lay => exact meth_is (F := F_Move_done κ) rfl (by decide) key i2
  | slide => exact meth_is (F := F_Move_done κ) rfl (by decide) key i2
  | curl => exact meth_is (F := F_Move_done κ) rfl (by decide) key i2
  | prt => exact meth_is (F := F_Move_done κ) rfl (by decide) key i2
  | uncurl => exact meth_is (F := F_Move_done κ) rfl (by decide) key i2
theorem curl_madeM (κ : Str → Addr) {t : List (Str × (List D → Res D))} (ht : t.lookup (Str.ofString "Curl") = some (F_Curl_made κ)) {ds : Drw} (hs : Siz ds) {n f h : Int} {k : Int × Int} (h12 : (hnds ds).length + 1 ≤ 12) (hn : ∀ x ∈ ds.flatten, x.a ≠ n) (hk : k ∈ spk ds) : gMeth κ t "made" 2 ((Mv.curl n k f h).ob κ) [encD ds] = .ok (encD (putL ds k (frsh n f h))) :=
  meth_is (F := F_Curl_made κ) ht (by decide) (curl_made κ hs h12 hn hk) (by simp)
/-- the passings of n are neighbours in E -/
structure Cu (E : Drw) (n h : Int) : Prop where
  sz : Siz E
  uk : UK E
  hd : lk (hnds E) n = some h
  nb : ∃ a b : Int × Int, lk (nxP E) (n, 0) = some a ∧ lk (nxP E) (n, 1) = some b ∧ (a = (n, 1) ∨ b = (n, 0))
theorem uncurl_look (κ : Str → Addr) {E : Drw} {n h : Int} (c : Cu E n h) : gMeth κ [("Uncurl", F_Uncurl_look κ)] "look" 0 ((Mv.uncurl n).ob κ) [encD E] = .ok .non := by
  refine meth_is (F := F_Uncurl_look κ) rfl (by decide) ?_ rfl
  show F_Uncurl_look κ [(Mv.uncurl n).ob κ, encD E] = .ok .non
  obtain ⟨a, b, h1, h2, h3⟩ := c.nb
  have ho2 : (Mv.uncurl n).ob κ = ob_uncurl κ (.int n) := rfl
  rw [ho2]
  have f0 := fld_uncurl_name κ (.int n)
  have hold := old_is (ds := E) c.sz.fl (ns := [n]) (fun m hm => by rw [List.mem_singleton.mp hm]; exact ⟨h, c.hd⟩)
  have e1 : [n].map D.int = [.int n] := rfl
  rw [e1] at hold
  have hnx := next_is E (by have := c.sz.fl; omega)
  have d0 := gDGet_K2 t2 h1
  have d1 := gDGet_K2 t2 h2
  have q1 := gEq_pp a (n, 1)
  have q2 := gEq_pp b (n, 0)
  have e0 : t2 (n, 0) = .tup [.int n, .int 0] := rfl
  have e11 : t2 (n, 1) = .tup [.int n, .int 1] := rfl
  have i1 : immAt 1 (encK2 t2 (nxP E)) = true := immAt_K2 t2 (fun _ => rfl) _
  have hside : F_side_by_side [encK2 t2 (nxP E), .tup [.int n, .int 0], .tup [.int n, .int 1]] = .ok (.bl true) := by
    rw [e0] at d0 q2
    rw [e11] at d1 q1
    generalize encK2 t2 (nxP E) = K at *
    generalize D.tup [.int n, .int 0] = T0 at *
    generalize D.tup [.int n, .int 1] = T1 at *
    generalize t2 a = TA at *
    generalize t2 b = TB at *
    simp only [F_side_by_side, m_side_by_side, runD]
    by_cases ha : a = (n, 1)
    · rw [decide_eq_true ha] at q1
      simp -implicitDefEqProofs [d0, q1]
    · rw [decide_eq_false ha] at q1
      rw [decide_eq_true (h3.resolve_left ha)] at q2
      simp -implicitDefEqProofs [d0, q1, d1, q2]
  have hun : F_uncurls [encK2 t2 (nxP E), .int n] = .ok (.bl true) := by
    generalize encK2 t2 (nxP E) = K at *
    simp only [F_uncurls, m_uncurls, runD]
    simp -implicitDefEqProofs [hside]
  have hz1 : (1 : Nat) ≤ sizeLine := by decide
  generalize ob_uncurl κ (.int n) = O at *
  generalize encK2 t2 (nxP E) = K at *
  generalize encD E = EE at *
  simp only [F_Uncurl_look, m_Uncurl_look, runD]
  simp -implicitDefEqProofs [mExpr, f0, hold, hnx, i1, hun, hz1]
theorem uncurl_made (κ : Str → Addr) {E : Drw} {n h : Int} (c : Cu E n h) : gMeth κ (madeT κ) "made" 2 ((Mv.uncurl n).ob κ) [encD E] = .ok (encD (E.map (·.filter fun x => decide (x.a ∉ [n])))) := by
  refine meth_is (F := F_Uncurl_made κ) rfl (by decide) ?_ (by simp)
  show F_Uncurl_made κ [(Mv.uncurl n).ob κ, encD E] = _
  have hl := uncurl_look κ c
  have hw := without_is (ds := E) (ns := [n]) (by have := c.sz.len; omega) (fun r hr => by have := c.sz.row r hr; omega)
  have e1 : [n].map D.int = [.int n] := rfl
  rw [e1] at hw
  have ho2 : (Mv.uncurl n).ob κ = ob_uncurl κ (.int n) := rfl
  rw [ho2] at hl ⊢
  have f0 := fld_uncurl_name κ (.int n)
  have i2 : immAt 2 (encD (E.map (·.filter fun x => decide (x.a ∉ [n])))) = true := by simp
  have hz1 : (1 : Nat) ≤ sizeLine := by decide
  generalize encD (E.map (·.filter fun x => decide (x.a ∉ [n]))) = Q at *
  generalize ob_uncurl κ (.int n) = O at *
  generalize encD E = EE at *
  simp only [F_Uncurl_made, m_Uncurl_made, runD]
  simp -implicitDefEqProofs [mExpr, hl, f0, hw, i2, hz1]
/-! ### what a curl leads to, and back -/
structure Vd (ds : Drw) : Prop where
  sz : Siz ds
  uk : UK ds
  wy : ∀ x ∈ ds.flatten, x.b = 0 ∨ x.b = 1
theorem Vd.spkn {ds : Drw} (h : Vd ds) : (spk ds).Nodup := by
  have hp := flatMap_perm (fun x : List T3 × Nat => if x.1 = [] then [((x.2 : Int), (2 : Int))] else []) (fun x => x.1.map ky) ds.zipIdx
  have e2 : ds.zipIdx.flatMap (fun x => x.1.map ky) = ds.flatten.map ky := by
    have : ∀ (ds : Drw) (n : Nat), (ds.zipIdx n).flatMap (fun x => x.1.map ky) = ds.flatten.map ky := by
      intro ds
      induction ds with
      | nil => intro n; rfl
      | cons r ds ih => intro n; rw [List.zipIdx_cons, List.flatMap_cons, ih, List.flatten_cons, List.map_append]
    exact this ds 0
  have hp2 : (spk ds).Perm _ := hp
  rw [e2] at hp2
  refine hp2.nodup_iff.mpr (List.nodup_append.mpr ⟨?_, h.uk, ?_⟩)
  · have : ∀ (ds : Drw) (n : Nat), ((ds.zipIdx n).flatMap fun x : List T3 × Nat => if x.1 = [] then [((x.2 : Int), (2 : Int))] else []).Nodup ∧ ∀ k ∈ ((ds.zipIdx n).flatMap fun x : List T3 × Nat => if x.1 = [] then [((x.2 : Int), (2 : Int))] else []), (n : Int) ≤ k.1 := by
      intro ds
      induction ds with
      | nil => intro n; exact ⟨List.nodup_nil, fun k hk => by cases hk⟩
      | cons r ds ih =>
        intro n
        rw [List.zipIdx_cons, List.flatMap_cons]
        obtain ⟨i1, i2⟩ := ih (n + 1)
        by_cases e : r = []
        · rw [if_pos e]
          refine ⟨List.nodup_cons.mpr ⟨fun hm => ?_, i1⟩, fun k hk => ?_⟩
          · have := i2 _ hm; dsimp only at this; omega
          · rcases List.mem_cons.mp hk with e | hk
            · rw [e]; exact Int.le_refl _
            · have := i2 _ hk; omega
        · rw [if_neg e]
          exact ⟨i1, fun k hk => by have := i2 k hk; omega⟩
    exact (this ds 0).1
  · intro a ha b hb e
    obtain ⟨x, _, hx⟩ := List.mem_flatMap.mp ha
    split at hx
    · obtain ⟨y, hy, e2⟩ := List.mem_map.mp hb
      have hw := h.wy y hy
      rw [List.mem_singleton.mp hx] at e
      rw [← e2] at e
      have e3 : (2 : Int) = y.b := congrArg Prod.snd e
      omega
    · cases hx
theorem RotL.siz {a b : Drw} (h : RotL a b) (hs : Siz a) : Siz b := siz_of (by rw [h.len]; exact hs.len) (by rw [h.flat.length_eq]; exact hs.fl)
theorem RotL.vd {a b : Drw} (h : RotL a b) (hv : Vd a) : Vd b := ⟨h.siz hv.sz, h.uk hv.uk, fun x hx => hv.wy x (h.flat.mem_iff.mp hx)⟩
theorem RotL.spk {a b : Drw} (h : RotL a b) {k : Int × Int} (hk : k ∈ spk a) : k ∈ spk b := by
  rcases spk_mem.mp hk with ⟨x, hx, e⟩ | ⟨i, hi, e⟩
  · exact spk_mem.mpr (.inl ⟨x, h.flat.mem_iff.mpr hx, e⟩)
  · obtain ⟨t, ht, hr⟩ := h.get hi
    rw [hr.nil_iff.mp rfl] at ht
    exact spk_mem.mpr (.inr ⟨i, ht, e⟩)
theorem put_vd {ds : Drw} (hv : Vd ds) (hf : ds.flatten.length ≤ 90) {k : Int × Int} (hk : k ∈ spk ds) {ps : List T3} (hl : ps.length ≤ 4) (hn : (ps.map ky).Nodup) (hd : ∀ x ∈ ds.flatten, ∀ p ∈ ps, ky x ≠ ky p) (hw : ∀ p ∈ ps, p.b = 0 ∨ p.b = 1) : Vd (putL ds k ps) := by
  have hp := putL_perm ps hv.spkn hk
  refine ⟨siz_of ?_ ?_, ?_, fun x hx => ?_⟩
  · unfold putL
    rw [List.length_map, List.length_zipIdx]; exact hv.sz.len
  · rw [hp.length_eq, List.length_append]; omega
  · refine (hp.map ky).nodup_iff.mpr ?_
    rw [List.map_append]
    refine List.nodup_append.mpr ⟨hv.uk, hn, fun a ha b hb e => ?_⟩
    obtain ⟨x, hx, rfl⟩ := List.mem_map.mp ha
    obtain ⟨p, hp', rfl⟩ := List.mem_map.mp hb
    exact hd x hx p hp' e
  · rcases List.mem_append.mp (hp.mem_iff.mp hx) with h | h
    · exact hv.wy x h
    · exact hw x h
/-! ### what is told is as it is due -/
/-! ### what the law asks -/
theorem gNe_ii (i : Int) : gNe (.int i) (.int i) = .ok (.bl false) := by
  have := gNe_enc (α := Int) i i (by decide)
  rw [show (Dat.enc i : D) = .int i from rfl] at this
  rw [this]; simp
/-! ### the told rows are spoilt -/
theorem WD.vd {S : Nat} {ds : Drw} {C : List Crs} (h : WD S ds C) (hS : S ≤ 3) (hC : C.length ≤ 12) : Vd ds :=
  ⟨siz_of (by rw [h.di.len]; omega) (by rw [h.len]; omega), h.uk, fun _ hx => h.way hx⟩
theorem spk_ne {ds : Drw} (h : ds ≠ []) : spk ds ≠ [] := fun e => by
  cases ds with
  | nil => exact h rfl
  | cons r ds =>
    cases r with
    | nil =>
      have : (((0 : Nat) : Int), (2 : Int)) ∈ spk ([] :: ds) := spk_mem.mpr (.inr ⟨0, rfl, rfl⟩)
      rw [e] at this
      cases this
    | cons x r =>
      have : ky x ∈ spk ((x :: r) :: ds) := spk_mem.mpr (.inl ⟨x, by simp, rfl⟩)
      rw [e] at this
      cases this

/-! ### blocks taken out and put back -/
theorem RotL.of : ∀ {a b : Drw}, a.length = b.length → (∀ (i : Nat) (r t : List T3), a[i]? = some r → b[i]? = some t → Rot r t) → RotL a b
  | [], [], _, _ => trivial
  | r :: ds, t :: T, hl, h => ⟨h 0 r t rfl rfl, RotL.of (by simpa using hl) fun i r t h1 h2 => h (i + 1) r t (by simpa using h1) (by simpa using h2)⟩
  | [], _ :: _, h, _ => by simp at h
  | _ :: _, [], h, _ => by simp at h
theorem spk_put {A : Drw} {k j : Int × Int} {ps : List T3} (hn : (spk A).Nodup) (hk : k ∈ spk A) (hp : ps ≠ []) : j ∈ spk (putL A k ps) ↔ (∃ x ∈ A.flatten, ky x = j) ∨ (∃ p ∈ ps, ky p = j) ∨ ∃ i : Nat, A[i]? = some [] ∧ j = ((i : Int), 2) ∧ k ≠ ((i : Int), 2) := by
  have hpm := putL_perm ps hn hk
  have hget : ∀ {i : Nat} {r : List T3}, A[i]? = some r → (putL A k ps)[i]? = some (putK k ps (r, i)) := fun {i r} h => by
    unfold putL
    rw [List.getElem?_map, List.getElem?_zipIdx, h]
    simp
  rw [spk_mem]
  constructor
  · rintro (⟨x, hx, e⟩ | ⟨i, hi, e⟩)
    · rcases List.mem_append.mp (hpm.mem_iff.mp hx) with h | h
      · exact .inl ⟨x, h, e⟩
      · exact .inr (.inl ⟨x, h, e⟩)
    · have hl : i < A.length := by
        have := (List.getElem?_eq_some_iff.mp hi).1
        unfold putL at this
        rw [List.length_map, List.length_zipIdx] at this
        exact this
      obtain ⟨r, hr⟩ : ∃ r, A[i]? = some r := ⟨_, List.getElem?_eq_getElem hl⟩
      rw [hget hr] at hi
      have hi := Option.some.inj hi
      unfold putK at hi
      obtain ⟨e1, e2⟩ := List.append_eq_nil_iff.mp hi
      have hr0 : r = [] := by
        cases r with
        | nil => rfl
        | cons x r => cases e2
      subst hr0
      refine .inr (.inr ⟨i, hr, e, fun e3 => ?_⟩)
      rw [if_pos ⟨rfl, e3⟩] at e1
      exact hp e1
  · rintro (⟨x, hx, e⟩ | ⟨p, hp', e⟩ | ⟨i, hi, e, hne⟩)
    · exact .inl ⟨x, hpm.mem_iff.mpr (List.mem_append_left _ hx), e⟩
    · exact .inl ⟨p, hpm.mem_iff.mpr (List.mem_append_right _ hp'), e⟩
    · refine .inr ⟨i, ?_, e⟩
      rw [hget hi]
      unfold putK
      rw [if_neg (fun z => hne z.2)]; rfl

/-! ### lays and parts -/
def ovs2 (a b c : Int) : List T3 := [⟨a, 0, c⟩, ⟨b, 0, -c⟩]
def uns2 (a b c t : Int) : List T3 := if t = 1 then [⟨b, 1, -c⟩, ⟨a, 1, c⟩] else [⟨a, 1, c⟩, ⟨b, 1, -c⟩]
theorem uns2_len (a b c t : Int) : (uns2 a b c t).length = 2 := by unfold uns2; split <;> rfl
def laidL (ds : Drw) (a b : Int) (o u : Int × Int) (t c : Int) : Drw := putL (putL ds o (ovs2 a b c)) u (uns2 a b c t)
theorem lay_made (κ : Str → Addr) {ds : Drw} (hs : Siz ds) {a b c t : Int} {o u : Int × Int} (h12 : (hnds ds).length + 2 ≤ 12) (hna : ∀ x ∈ ds.flatten, x.a ≠ a) (hnb : ∀ x ∈ ds.flatten, x.a ≠ b) (hab : a ≠ b) (ht : t = 0 ∨ t = 1) (ho : o ∈ spk ds) (hs2 : Siz (putL ds o (ovs2 a b c))) (hu : u ∈ spk (putL ds o (ovs2 a b c))) (hne : u ≠ (a, 0)) : F_Lay_made κ [(Mv.lay a b o u t c).ob κ, encD ds] = .ok (encD (laidL ds a b o u t c)) := by
  have hob : (Mv.lay a b o u t c).ob κ = ob_lay κ (.int a) (.int b) (t2 o) (t2 u) (.int t) (.int c) := rfl
  rw [hob]
  have f0 := fld_lay_name κ (.int a) (.int b) (t2 o) (t2 u) (.int t) (.int c)
  have f1 := fld_lay_second κ (.int a) (.int b) (t2 o) (t2 u) (.int t) (.int c)
  have f2 := fld_lay_over κ (.int a) (.int b) (t2 o) (t2 u) (.int t) (.int c)
  have f3 := fld_lay_under κ (.int a) (.int b) (t2 o) (t2 u) (.int t) (.int c)
  have f4 := fld_lay_turned κ (.int a) (.int b) (t2 o) (t2 u) (.int t) (.int c)
  have f5 := fld_lay_hand κ (.int a) (.int b) (t2 o) (t2 u) (.int t) (.int c)
  have hnew := new_is (ds := ds) hs.fl (ns := [a, b]) h12 (fun m hm => by
    rcases List.mem_cons.mp hm with rfl | hm
    · exact hna
    · rw [List.mem_singleton.mp hm]; exact hnb) (List.nodup_cons.mpr ⟨fun hm => hab (List.mem_singleton.mp hm), List.nodup_cons.mpr ⟨List.not_mem_nil, List.nodup_nil⟩⟩)
  have e1 : [a, b].map D.int = [.int a, .int b] := rfl
  rw [e1] at hnew
  have hp1 := pb_is (ps := ovs2 a b c) hs.len hs.row (by show 2 ≤ 4; omega) ho
  have hp2 := pb_is (ps := uns2 a b c t) hs2.len hs2.row (by rw [uns2_len]; omega) hu
  have e2 : encR (ovs2 a b c) = .lst [.tup [.int a, .int 0, .int c], .tup [.int b, .int 0, .int (-c)]] := rfl
  rw [e2] at hp1
  have gn : gNeg (.int c) = .ok (.int (-c)) := rfl
  have q1 := gEq_pp u (a, 0)
  rw [decide_eq_false hne] at q1
  have ea : t2 (a, 0) = .tup [.int a, .int 0] := rfl
  rw [ea] at q1
  have i1 : immAt 2 (encD (putL ds o (ovs2 a b c))) = true := by simp
  have i2 : immAt 2 (encD (laidL ds a b o u t c)) = true := by simp
  have hz : (2 : Nat) ≤ sizeLine := by decide
  have hz3 : (3 : Nat) ≤ sizeLine := by decide
  generalize ob_lay κ (.int a) (.int b) (t2 o) (t2 u) (.int t) (.int c) = O at *
  have eL : laidL ds a b o u t c = putL (putL ds o (ovs2 a b c)) u (uns2 a b c t) := rfl
  rw [← eL] at hp2
  generalize encD (laidL ds a b o u t c) = Q2 at *
  generalize encD (putL ds o (ovs2 a b c)) = Q at *
  generalize encD ds = DD at *
  generalize t2 o = KO at *
  generalize t2 u = KU at *
  simp only [F_Lay_made, m_Lay_made, runD]
  rcases ht with rfl | rfl
  · have e3 : encR (uns2 a b c 0) = .lst [.tup [.int a, .int 1, .int c], .tup [.int b, .int 1, .int (-c)]] := by unfold uns2; rw [if_neg (by decide)]; rfl
    rw [e3] at hp2
    simp -implicitDefEqProofs [mExpr, f0, f1, f2, f3, f4, f5, hnew, gn, hp1, hp2, q1, i1, i2, hz, hz3]
  · have e3 : encR (uns2 a b c 1) = .lst [.tup [.int b, .int 1, .int (-c)], .tup [.int a, .int 1, .int c]] := by unfold uns2; rw [if_pos rfl]; rfl
    rw [e3] at hp2
    have x0 : gIx (.lst [.tup [.int a, .int 1, .int c], .tup [.int b, .int 1, .int (-c)]]) (.int 0) = .ok (.tup [.int a, .int 1, .int c]) := rfl
    have x1 : gIx (.lst [.tup [.int a, .int 1, .int c], .tup [.int b, .int 1, .int (-c)]]) (.int 1) = .ok (.tup [.int b, .int 1, .int (-c)]) := rfl
    simp -implicitDefEqProofs [mExpr, f0, f1, f2, f3, f4, f5, hnew, gn, hp1, hp2, q1, i1, i2, hz, hz3, x0, x1]
/-- two crossings of E that can be taken out together -/
structure Pt2 (E : Drw) (a b c : Int) : Prop where
  vd : Vd E
  ne : a ≠ b
  hc : c = 1 ∨ c = -1
  ha : lk (hnds E) a = some c
  hb : lk (hnds E) b = some (-c)
  ov : Rl E ⟨a, 0, c⟩ ⟨b, 0, -c⟩ ∨ Rl E ⟨b, 0, -c⟩ ⟨a, 0, c⟩
  un : Rl E ⟨a, 1, c⟩ ⟨b, 1, -c⟩ ∨ Rl E ⟨b, 1, -c⟩ ⟨a, 1, c⟩
theorem Pt2.symm {E : Drw} {a b c : Int} (h : Pt2 E a b c) : Pt2 E b a (-c) :=
  ⟨h.vd, h.ne.symm, by rcases h.hc with e | e <;> rw [e] <;> simp, h.hb, by rw [Int.neg_neg]; exact h.ha, by rw [Int.neg_neg]; exact h.ov.symm, by rw [Int.neg_neg]; exact h.un.symm⟩
theorem sbs_is {E : Drw} (hu : UK E) {x y : T3} (h : Rl E x y ∨ Rl E y x) : F_side_by_side [encK2 t2 (nxP E), t2 (ky x), t2 (ky y)] = .ok (.bl true) := by
  have hx : x ∈ E.flatten := h.elim (fun h => h.left) (fun h => h.right)
  have hy : y ∈ E.flatten := h.elim (fun h => h.right) (fun h => h.left)
  obtain ⟨z, hz⟩ := Rl.next hx
  obtain ⟨w, hw⟩ := Rl.next hy
  have d0 := gDGet_K2 t2 (nxP_lk hu hz)
  have d1 := gDGet_K2 t2 (nxP_lk hu hw)
  have q1 := gEq_pp (ky z) (ky y)
  have q2 := gEq_pp (ky w) (ky x)
  have h3 : ky z = ky y ∨ ky w = ky x := by
    rcases h with h | h
    · exact .inl (by rw [Rl.fn hu hz h rfl])
    · exact .inr (by rw [Rl.fn hu hw h rfl])
  generalize encK2 t2 (nxP E) = K at *
  generalize t2 (ky x) = T0 at *
  generalize t2 (ky y) = T1 at *
  generalize t2 (ky z) = TA at *
  generalize t2 (ky w) = TB at *
  simp only [F_side_by_side, m_side_by_side, runD]
  by_cases ha : ky z = ky y
  · rw [decide_eq_true ha] at q1
    simp -implicitDefEqProofs [d0, q1]
  · rw [decide_eq_false ha] at q1
    rw [decide_eq_true (h3.resolve_left ha)] at q2
    simp -implicitDefEqProofs [d0, q1, d1, q2]
theorem part_look (κ : Str → Addr) {E : Drw} {a b c : Int} (p : Pt2 E a b c) : gMeth κ [("Part", F_Part_look κ)] "look" 0 ((Mv.prt a b).ob κ) [encD E] = .ok .non := by
  refine meth_is (F := F_Part_look κ) rfl (by decide) ?_ rfl
  show F_Part_look κ [(Mv.prt a b).ob κ, encD E] = .ok .non
  have ho2 : (Mv.prt a b).ob κ = ob_part κ (.int a) (.int b) := rfl
  rw [ho2]
  have f0 := fld_part_name κ (.int a) (.int b)
  have f1 := fld_part_second κ (.int a) (.int b)
  have hold := old_is (ds := E) p.vd.sz.fl (ns := [a, b]) (fun m hm => by
    rcases List.mem_cons.mp hm with rfl | hm
    · exact ⟨_, p.ha⟩
    · rw [List.mem_singleton.mp hm]; exact ⟨_, p.hb⟩)
  have e1 : [a, b].map D.int = [.int a, .int b] := rfl
  rw [e1] at hold
  have hfl := p.vd.sz.fl
  have hnx := next_is E (by omega)
  have hha := hands_is E (by omega)
  have s1 := sbs_is p.vd.uk p.ov
  have s2 := sbs_is p.vd.uk p.un
  have k1 : t2 (ky (⟨a, 0, c⟩ : T3)) = .tup [.int a, .int 0] := rfl
  have k2' : t2 (ky (⟨b, 0, -c⟩ : T3)) = .tup [.int b, .int 0] := rfl
  have k3 : t2 (ky (⟨a, 1, c⟩ : T3)) = .tup [.int a, .int 1] := rfl
  have k4 : t2 (ky (⟨b, 1, -c⟩ : T3)) = .tup [.int b, .int 1] := rfl
  rw [k1, k2'] at s1
  rw [k3, k4] at s2
  have d0 := gDGet_K D.int p.ha
  have d1 := gDGet_K D.int p.hb
  have qab : gEq (.int a) (.int b) = .ok (.bl false) := by
    have := gEq_enc (α := Int) a b (by decide)
    rw [show (Dat.enc a : D) = .int a from rfl, show (Dat.enc b : D) = .int b from rfl] at this
    rw [this, decide_eq_false p.ne]
  have qcc : gEq (.int c) (.int (-c)) = .ok (.bl false) := by
    have := gEq_enc (α := Int) c (-c) (by decide)
    rw [show (Dat.enc c : D) = .int c from rfl, show (Dat.enc (-c) : D) = .int (-c) from rfl] at this
    rw [this, decide_eq_false (by rcases p.hc with e | e <;> rw [e] <;> decide)]
  have i1 : immAt 1 (encK2 t2 (nxP E)) = true := immAt_K2 t2 (fun _ => rfl) _
  have i2 : immAt 1 (encK D.int (hnds E)) = true := immAt_K D.int (fun _ => rfl) _
  rw [encP_K] at hha
  have hpt : F_parts [encK2 t2 (nxP E), encK D.int (hnds E), .int a, .int b] = .ok (.bl true) := by
    generalize encK2 t2 (nxP E) = K at *
    generalize encK D.int (hnds E) = H at *
    refine Tells.eq ?_
    simp only [F_parts, m_parts, runD]
    refine t_seq (e := [some (0, K), some (0, H), some (0, .int a), some (0, .int b)]) (by simp -implicitDefEqProofs [qab, d0, d1, qcc, -e_gEq_int]) ?_
    refine t_seq (e := [some (0, K), some (0, H), some (0, .int a), some (0, .int b)]) (by simp -implicitDefEqProofs [s1]) ?_
    refine Tells.eqI ?_
    simp -implicitDefEqProofs [s2]
  have hz2 : (2 : Nat) ≤ sizeLine := by decide
  generalize ob_part κ (.int a) (.int b) = O at *
  generalize encK2 t2 (nxP E) = K at *
  generalize encK D.int (hnds E) = H at *
  generalize encD E = EE at *
  simp only [F_Part_look, m_Part_look, runD]
  simp -implicitDefEqProofs [mExpr, f0, f1, hold, hnx, hha, i1, i2, hpt, hz2]
theorem part_made (κ : Str → Addr) {E : Drw} {a b c : Int} (p : Pt2 E a b c) : gMeth κ (madeT κ) "made" 2 ((Mv.prt a b).ob κ) [encD E] = .ok (encD (E.map (·.filter fun x => decide (x.a ∉ [a, b])))) := by
  refine meth_is (F := F_Part_made κ) rfl (by decide) ?_ (by simp)
  show F_Part_made κ [(Mv.prt a b).ob κ, encD E] = _
  have hl := part_look κ p
  have hw := without_is (ds := E) (ns := [a, b]) (by have := p.vd.sz.len; omega) (fun r hr => by have := p.vd.sz.row r hr; omega)
  have e1 : [a, b].map D.int = [.int a, .int b] := rfl
  rw [e1] at hw
  have ho2 : (Mv.prt a b).ob κ = ob_part κ (.int a) (.int b) := rfl
  rw [ho2] at hl ⊢
  have f0 := fld_part_name κ (.int a) (.int b)
  have f1 := fld_part_second κ (.int a) (.int b)
  have i2 : immAt 2 (encD (E.map (·.filter fun x => decide (x.a ∉ [a, b])))) = true := by simp
  have hz2 : (2 : Nat) ≤ sizeLine := by decide
  generalize encD (E.map (·.filter fun x => decide (x.a ∉ [a, b]))) = Q at *
  generalize ob_part κ (.int a) (.int b) = O at *
  generalize encD E = EE at *
  simp only [F_Part_made, m_Part_made, runD]
  simp -implicitDefEqProofs [mExpr, hl, f0, f1, hw, i2, hz2]

/-! ### the back of a part -/
/-! ### the law's own lays -/
theorem lays_vd1 {ds : Drw} (hv : Vd ds) (hfl : ds.flatten.length ≤ 80) {a b c : Int} {o : Int × Int} (hna : ∀ x ∈ ds.flatten, x.a ≠ a) (hnb : ∀ x ∈ ds.flatten, x.a ≠ b) (hab : a ≠ b) (ho : o ∈ spk ds) : Vd (putL ds o (ovs2 a b c)) := by
  refine put_vd hv (by omega) ho (by show 2 ≤ 4; omega) ?_ (fun x hx p hp e => ?_) fun p hp => ?_
  · show [((a : Int), (0 : Int)), (b, 0)].Nodup
    exact List.nodup_cons.mpr ⟨fun hm => hab (congrArg Prod.fst (List.mem_singleton.mp hm)), List.nodup_cons.mpr ⟨List.not_mem_nil, List.nodup_nil⟩⟩
  · have e1 : x.a = p.a := congrArg Prod.fst e
    rcases List.mem_cons.mp hp with rfl | hp
    · exact hna x hx e1
    · rw [List.mem_singleton.mp hp] at e1
      exact hnb x hx e1
  · rcases List.mem_cons.mp hp with rfl | hp
    · exact .inl rfl
    · rw [List.mem_singleton.mp hp]; exact .inl rfl
theorem sum_zip : ∀ (xs : Drw) (n : Nat), ((xs.zipIdx n).map fun x => x.1.length).sum = xs.flatten.length
  | [], _ => rfl
  | r :: xs, n => by
    rw [List.zipIdx_cons, List.map_cons, List.sum_cons, sum_zip xs (n + 1), List.flatten_cons, List.length_append]
/-! ### parted and laid again -/
/-! ### drawings: hands, who is behind whom -/
def nx (E : Drw) (k : Int × Int) : Int × Int := (lk (nxP E) k).getD (0, 0)
def hof (E : Drw) (n : Int) : Int := (lk (hnds E) n).getD 0
structure Dr (E : Drw) : Prop where
  vd : Vd E
  bt : ∀ x ∈ E.flatten, (⟨x.a, 0, x.c⟩ : T3) ∈ E.flatten ∧ (⟨x.a, 1, x.c⟩ : T3) ∈ E.flatten
  sg : ∀ x ∈ E.flatten, x.c = 1 ∨ x.c = -1
/-- a crossing's name -/
structure Nm (E : Drw) (n : Int) : Prop where
  o : (⟨n, 0, hof E n⟩ : T3) ∈ E.flatten
  u : (⟨n, 1, hof E n⟩ : T3) ∈ E.flatten
  lk : lk (hnds E) n = some (hof E n)
  sg : hof E n = 1 ∨ hof E n = -1
section
variable {E F : Drw}
theorem Dr.same (h : Dr E) {x y : T3} (hx : x ∈ E.flatten) (hy : y ∈ E.flatten) (e : y.a = x.a) : y.c = x.c := by
  have h1 := uk_eq h.vd.uk (h.bt x hx).1 (h.bt y hy).1 (by show (x.a, (0 : Int)) = (y.a, 0); rw [e])
  exact (congrArg T3.c h1).symm
theorem Dr.lkh (h : Dr E) {x : T3} (hx : x ∈ E.flatten) : lk (hnds E) x.a = some x.c := hnds_at E x.a x.c ⟨x, hx, rfl⟩ fun y hy e => h.same hx hy e
theorem Dr.hofc (h : Dr E) {x : T3} (hx : x ∈ E.flatten) : hof E x.a = x.c := by
  show (lk (hnds E) x.a).getD 0 = _
  rw [h.lkh hx]; rfl
theorem Dr.nm (h : Dr E) {x : T3} (hx : x ∈ E.flatten) : Nm E x.a := by
  have h2 := h.hofc hx
  refine ⟨?_, ?_, ?_, ?_⟩ <;> rw [h2]
  · exact (h.bt x hx).1
  · exact (h.bt x hx).2
  · exact h.lkh hx
  · exact h.sg x hx
theorem Dr.eta (h : Dr E) {x : T3} (hx : x ∈ E.flatten) : x = ⟨(ky x).1, (ky x).2, hof E (ky x).1⟩ := by
  cases x with
  | mk a b c => exact congrArg (T3.mk a b) (h.hofc hx).symm
theorem nx_lk (hu : UK E) {x : T3} (hx : x ∈ E.flatten) : lk (nxP E) (ky x) = some (nx E (ky x)) := by
  obtain ⟨y, hy⟩ := Rl.next hx
  show _ = some ((lk (nxP E) (ky x)).getD (0, 0))
  rw [nxP_lk hu hy]; rfl
theorem rl_nx (hu : UK E) {x y : T3} (h : Rl E x y) : nx E (ky x) = ky y := by
  show (lk (nxP E) (ky x)).getD (0, 0) = _
  rw [nxP_lk hu h]; rfl
theorem nx_rl (hu : UK E) {x y : T3} (hx : x ∈ E.flatten) (hy : y ∈ E.flatten) (h : nx E (ky x) = ky y) : Rl E x y := by
  obtain ⟨z, hz⟩ := Rl.next hx
  rw [rl_nx hu hz] at h
  rw [← uk_eq hu hz.right hy h]; exact hz
theorem RotL.dr (h : RotL E F) (hd : Dr E) : Dr F := by
  have hm : ∀ x, x ∈ F.flatten ↔ x ∈ E.flatten := fun x => h.flat.mem_iff
  exact ⟨h.vd hd.vd, fun x hx => ⟨(hm _).mpr (hd.bt x ((hm x).mp hx)).1, (hm _).mpr (hd.bt x ((hm x).mp hx)).2⟩, fun x hx => hd.sg x ((hm x).mp hx)⟩
theorem Dr.hof_eq (hE : Dr E) (hF : Dr F) (hm : ∀ x, x ∈ F.flatten ↔ x ∈ E.flatten) {n : Int} (hn : Nm E n) : hof F n = hof E n := by
  have h1 := hF.hofc ((hm _).mpr hn.o)
  exact h1
theorem Dr.nm_eq (hE : Dr E) (hF : Dr F) (hm : ∀ x, x ∈ F.flatten ↔ x ∈ E.flatten) {n : Int} (hn : Nm E n) : Nm F n := hF.nm ((hm _).mpr hn.o)
end
/-! ### pairs exchanged -/
def xcF (a b c : Int) (k : Int × Int) : Int × Int := if k = (a, 0) then (b, 0) else if k = (b, 0) then (a, 0) else if k = (a, 1) then (c, 0) else if k = (c, 0) then (a, 1) else if k = (b, 1) then (c, 1) else if k = (c, 1) then (b, 1) else k
theorem xcF_inv {a b c : Int} (h1 : a ≠ b) (h2 : a ≠ c) (h3 : b ≠ c) (k : Int × Int) : xcF a b c (xcF a b c k) = k := by
  obtain ⟨n, w⟩ := k
  unfold xcF
  grind
def xcT (E : Drw) (a b c : Int) (x : T3) : T3 := ⟨(xcF a b c (ky x)).1, (xcF a b c (ky x)).2, hof E (xcF a b c (ky x)).1⟩
def xc (E : Drw) (a b c : Int) : Drw := E.map fun r => r.map (xcT E a b c)
theorem xcT_ky (E : Drw) (a b c : Int) (x : T3) : ky (xcT E a b c x) = xcF a b c (ky x) := rfl
/-- three crossings of a drawing -/
structure Tr3 (E : Drw) (a b c : Int) : Prop where
  d : Dr E
  ab : a ≠ b
  ac : a ≠ c
  bc : b ≠ c
  na : Nm E a
  nb : Nm E b
  nc : Nm E c
section
variable {E F : Drw} {a b c : Int}
theorem Tr3.inv (h : Tr3 E a b c) (k : Int × Int) : xcF a b c (xcF a b c k) = k := xcF_inv h.ab h.ac h.bc k
theorem Tr3.has (h : Tr3 E a b c) {x : T3} (hx : x ∈ E.flatten) : ∃ y ∈ E.flatten, ky y = xcF a b c (ky x) := by
  unfold xcF
  split
  · exact ⟨_, h.nb.o, rfl⟩
  split
  · exact ⟨_, h.na.o, rfl⟩
  split
  · exact ⟨_, h.nc.o, rfl⟩
  split
  · exact ⟨_, h.na.u, rfl⟩
  split
  · exact ⟨_, h.nc.u, rfl⟩
  split
  · exact ⟨_, h.nb.u, rfl⟩
  · exact ⟨x, hx, rfl⟩
theorem Tr3.mem (h : Tr3 E a b c) {x : T3} : x ∈ (xc E a b c).flatten ↔ x ∈ E.flatten := by
  have e : (xc E a b c).flatten = E.flatten.map (xcT E a b c) := by
    show (E.map fun r => r.map (xcT E a b c)).flatten = _
    rw [List.map_flatten]
  have key : ∀ y ∈ E.flatten, xcT E a b c y ∈ E.flatten := fun y hy => by
    obtain ⟨z, hz, ez⟩ := h.has hy
    have : xcT E a b c y = z := by
      rw [h.d.eta hz, ez]; rfl
    rw [this]; exact hz
  have key2 : ∀ y ∈ E.flatten, xcT E a b c (xcT E a b c y) = y := fun y hy => by
    have e2 := h.d.eta hy
    show (⟨(xcF a b c (ky (xcT E a b c y))).1, (xcF a b c (ky (xcT E a b c y))).2, hof E (xcF a b c (ky (xcT E a b c y))).1⟩ : T3) = y
    rw [xcT_ky, h.inv]
    exact e2.symm
  rw [e, List.mem_map]
  constructor
  · rintro ⟨y, hy, rfl⟩; exact key y hy
  · intro hx; exact ⟨_, key x hx, key2 x hx⟩
theorem Tr3.uk (h : Tr3 E a b c) : UK (xc E a b c) := by
  have e : (xc E a b c).flatten.map ky = (E.flatten.map ky).map (xcF a b c) := by
    show (E.map fun r => r.map (xcT E a b c)).flatten.map ky = _
    rw [← List.map_flatten, List.map_map, List.map_map]; rfl
  show ((xc E a b c).flatten.map ky).Nodup
  rw [e]
  have hn := h.d.vd.uk
  show List.Nodup _
  refine List.Pairwise.map _ (fun p q hpq z => hpq ?_) hn
  rw [← h.inv p, z, h.inv q]
theorem Tr3.flen (E : Drw) (a b c : Int) : (xc E a b c).flatten.length = E.flatten.length := by
  show (E.map fun r => r.map (xcT E a b c)).flatten.length = _
  rw [← List.map_flatten, List.length_map]
theorem Tr3.dr (h : Tr3 E a b c) : Dr (xc E a b c) :=
  ⟨⟨siz_of (by rw [show (xc E a b c).length = E.length from List.length_map _]; exact h.d.vd.sz.len) (by rw [Tr3.flen]; exact h.d.vd.sz.fl), h.uk, fun x hx => h.d.vd.wy x (h.mem.mp hx)⟩,
   fun x hx => ⟨h.mem.mpr (h.d.bt x (h.mem.mp hx)).1, h.mem.mpr (h.d.bt x (h.mem.mp hx)).2⟩, fun x hx => h.d.sg x (h.mem.mp hx)⟩
theorem Tr3.hofx (h : Tr3 E a b c) {n : Int} (hn : Nm E n) : hof (xc E a b c) n = hof E n := h.d.hof_eq h.dr (fun _ => h.mem) hn
theorem Tr3.tr (h : Tr3 E a b c) : Tr3 (xc E a b c) a b c :=
  ⟨h.dr, h.ab, h.ac, h.bc, h.d.nm_eq h.dr (fun _ => h.mem) h.na, h.d.nm_eq h.dr (fun _ => h.mem) h.nb, h.d.nm_eq h.dr (fun _ => h.mem) h.nc⟩
/-- twice is none -/
theorem Tr3.xx (h : Tr3 E a b c) : xc (xc E a b c) a b c = E := by
  have key2 : ∀ y ∈ E.flatten, xcT (xc E a b c) a b c (xcT E a b c y) = y := fun y hy => by
    show (⟨(xcF a b c (ky (xcT E a b c y))).1, (xcF a b c (ky (xcT E a b c y))).2, hof (xc E a b c) (xcF a b c (ky (xcT E a b c y))).1⟩ : T3) = y
    rw [xcT_ky, h.inv]
    show (⟨y.a, y.b, hof (xc E a b c) y.a⟩ : T3) = y
    rw [h.hofx (h.d.nm hy)]
    exact (h.d.eta hy).symm
  show (E.map fun r => r.map (xcT E a b c)).map (fun r => r.map (xcT (xc E a b c) a b c)) = E
  rw [List.map_map]
  refine (List.map_congr_left fun r hr => ?_).trans (List.map_id _)
  show (r.map (xcT E a b c)).map (xcT (xc E a b c) a b c) = r
  rw [List.map_map]
  exact (List.map_congr_left fun y hy => key2 y (List.mem_flatten.mpr ⟨r, hr, hy⟩)).trans (List.map_id _)
theorem Tr3.xrot (h : Tr3 E a b c) (r : RotL E F) : RotL (xc E a b c) (xc F a b c) := by
  have hm : ∀ x, x ∈ F.flatten ↔ x ∈ E.flatten := fun x => r.flat.mem_iff
  have h1 := r.map (xcT E a b c)
  have e : (F.map fun r => r.map (xcT E a b c)) = xc F a b c := by
    refine List.map_congr_left fun s hs => List.map_congr_left fun y hy => ?_
    obtain ⟨z, hz, ez⟩ := h.has ((hm y).mp (List.mem_flatten.mpr ⟨s, hs, hy⟩))
    have hn := h.d.nm hz
    have e1 : (xcF a b c (ky y)).1 = z.a := by rw [← ez]; rfl
    show (⟨(xcF a b c (ky y)).1, (xcF a b c (ky y)).2, hof E (xcF a b c (ky y)).1⟩ : T3) = ⟨(xcF a b c (ky y)).1, (xcF a b c (ky y)).2, hof F (xcF a b c (ky y)).1⟩
    rw [e1, h.d.hof_eq (r.dr h.d) hm hn]
  rw [e] at h1
  exact h1
theorem Tr3.there (h : Tr3 E a b c) : (xc ((xc E a b c).map seat) a b c).map seat = E.map seat := by
  have r := RotL.seatL (xc E a b c)
  have r2 := h.tr.xrot r
  rw [h.xx] at r2
  exact r2.seatedL (uk_rows h.d.vd.uk)
end
/-! ### whether a slide fits -/
def rbB (E : Drw) (k l : Int × Int) (w : Int) : Bool := if w = 1 then decide (nx E k = l) else decide (nx E l = k)
def slB (E : Drw) (a b c t : Int) : Bool := if a = b ∨ a = c ∨ b = c then false else rbB E (a, 0) (b, 0) t && (rbB E (a, 1) (c, 0) (t * hof E b * hof E c) && rbB E (b, 1) (c, 1) (t * hof E a * hof E c))
theorem pm_mul {x y : Int} (hx : x = 1 ∨ x = -1) (hy : y = 1 ∨ y = -1) : x * y = 1 ∨ x * y = -1 := by
  rcases hx with rfl | rfl <;> rcases hy with rfl | rfl <;> decide
section
variable {E F : Drw} {a b c t : Int}
theorem slB_tr (hd : Dr E) (na : Nm E a) (nb : Nm E b) (nc : Nm E c) (h : slB E a b c t = true) : Tr3 E a b c := by
  unfold slB at h
  split at h
  · cases h
  · rename_i hn
    exact ⟨hd, fun e => hn (.inl e), fun e => hn (.inr (.inl e)), fun e => hn (.inr (.inr e)), na, nb, nc⟩
end

/-! ### slides walked -/
theorem nxlk_is {E : Drw} (hu : UK E) {x : T3} (hx : x ∈ E.flatten) : gDGet (encK2 t2 (nxP E)) (t2 (ky x)) = .ok (t2 (nx E (ky x))) := gDGet_K2 t2 (nx_lk hu hx)
theorem rb_is {E : Drw} (hu : UK E) {x y : T3} (hx : x ∈ E.flatten) (hy : y ∈ E.flatten) (w : Int) : F_right_behind [encK2 t2 (nxP E), t2 (ky x), t2 (ky y), .int w] = .ok (.bl (rbB E (ky x) (ky y) w)) := by
  have d0 := nxlk_is hu hx
  have d1 := nxlk_is hu hy
  have q1 := gEq_pp (nx E (ky x)) (ky y)
  have q2 := gEq_pp (nx E (ky y)) (ky x)
  have qw : gEq (.int w) (.int 1) = .ok (.bl (decide (w = 1))) := gEq_enc (α := Int) w 1 (by decide)
  unfold rbB
  generalize encK2 t2 (nxP E) = K at *
  generalize t2 (ky x) = T0 at *
  generalize t2 (ky y) = T1 at *
  generalize t2 (nx E (ky x)) = TA at *
  generalize t2 (nx E (ky y)) = TB at *
  simp only [F_right_behind, m_right_behind, runD]
  by_cases hw : w = 1
  · rw [decide_eq_true hw] at qw
    rw [if_pos hw]
    simp -implicitDefEqProofs [qw, d0, q1, -e_gEq_int]
  · rw [decide_eq_false hw] at qw
    rw [if_neg hw]
    simp -implicitDefEqProofs [qw, d1, q2, -e_gEq_int]
theorem gEq_i (a b : Int) : gEq (.int a) (.int b) = .ok (.bl (decide (a = b))) := gEq_enc (α := Int) a b (by decide)
theorem pm_sm {x : Int} (h : x = 1 ∨ x = -1) : -(2 ^ 64) < x ∧ x < 2 ^ 64 := by rcases h with rfl | rfl <;> decide
theorem slides_is {E : Drw} (hd : Dr E) {a b c t : Int} (na : Nm E a) (nb : Nm E b) (nc : Nm E c) (ht : t = 1 ∨ t = -1) : F_slides [encK2 t2 (nxP E), encK D.int (hnds E), .lst [.int a, .int b, .int c], .int t] = .ok (.bl (slB E a b c t)) := by
  have da := gDGet_K D.int na.lk
  have db := gDGet_K D.int nb.lk
  have dc := gDGet_K D.int nc.lk
  have r1 := rb_is hd.vd.uk na.o nb.o t
  have r2 := rb_is hd.vd.uk na.u nc.o (t * hof E b * hof E c)
  have r3 := rb_is hd.vd.uk nb.u nc.u (t * hof E a * hof E c)
  have m1 := e_gMul t (hof E b) (.inl (pm_sm ht))
  have m2 := e_gMul (t * hof E b) (hof E c) (.inl (pm_sm (pm_mul ht nb.sg)))
  have m3 := e_gMul t (hof E a) (.inl (pm_sm ht))
  have m4 := e_gMul (t * hof E a) (hof E c) (.inl (pm_sm (pm_mul ht na.sg)))
  have q1 := gEq_i a b
  have q2 := gEq_i a c
  have q3 := gEq_i b c
  have k1 : t2 (ky (⟨a, 0, hof E a⟩ : T3)) = .tup [.int a, .int 0] := rfl
  have k2' : t2 (ky (⟨b, 0, hof E b⟩ : T3)) = .tup [.int b, .int 0] := rfl
  have k3 : t2 (ky (⟨a, 1, hof E a⟩ : T3)) = .tup [.int a, .int 1] := rfl
  have k4 : t2 (ky (⟨c, 0, hof E c⟩ : T3)) = .tup [.int c, .int 0] := rfl
  have k5 : t2 (ky (⟨b, 1, hof E b⟩ : T3)) = .tup [.int b, .int 1] := rfl
  have k6 : t2 (ky (⟨c, 1, hof E c⟩ : T3)) = .tup [.int c, .int 1] := rfl
  rw [k1, k2'] at r1
  rw [k3, k4] at r2
  rw [k5, k6] at r3
  have e : slB E a b c t = if a = b ∨ a = c ∨ b = c then false else rbB E (a, 0) (b, 0) t && (rbB E (a, 1) (c, 0) (t * hof E b * hof E c) && rbB E (b, 1) (c, 1) (t * hof E a * hof E c)) := rfl
  have r1' : F_right_behind [encK2 t2 (nxP E), .tup [.int a, .int 0], .tup [.int b, .int 0], .int t] = .ok (.bl (rbB E (a, 0) (b, 0) t)) := r1
  have r2' : F_right_behind [encK2 t2 (nxP E), .tup [.int a, .int 1], .tup [.int c, .int 0], .int (t * hof E b * hof E c)] = .ok (.bl (rbB E (a, 1) (c, 0) (t * hof E b * hof E c))) := r2
  have r3' : F_right_behind [encK2 t2 (nxP E), .tup [.int b, .int 1], .tup [.int c, .int 1], .int (t * hof E a * hof E c)] = .ok (.bl (rbB E (b, 1) (c, 1) (t * hof E a * hof E c))) := r3
  clear r1 r2 r3 k1 k2' k3 k4 k5 k6
  rw [e]
  generalize rbB E (a, 0) (b, 0) t = B1 at *
  generalize rbB E (a, 1) (c, 0) (t * hof E b * hof E c) = B2 at *
  generalize rbB E (b, 1) (c, 1) (t * hof E a * hof E c) = B3 at *
  generalize encK2 t2 (nxP E) = K at *
  generalize encK D.int (hnds E) = H at *
  generalize hof E a = ha at *
  generalize hof E b = hb at *
  generalize hof E c = hc at *
  refine Tells.eq ?_
  simp only [F_slides, m_slides, runD]
  refine t_seq (e := [some (0, K), some (0, H), some (0, .lst [.int a, .int b, .int c]), some (0, .int t), some (0, .int a), some (0, .int b), some (0, .int c)]) (by simp -implicitDefEqProofs [mAsg]) ?_
  by_cases hne : a = b ∨ a = c ∨ b = c
  · rw [if_pos hne]
    refine t_seqR (d := .bl false) ?_ (Tells.ok rfl)
    by_cases h1 : a = b
    · rw [decide_eq_true h1] at q1
      simp -implicitDefEqProofs [q1, -e_gEq_int]
    · rw [decide_eq_false h1] at q1
      by_cases h2 : a = c
      · rw [decide_eq_true h2] at q2
        simp -implicitDefEqProofs [q1, q2, -e_gEq_int]
      · rw [decide_eq_false h2] at q2
        rw [decide_eq_true ((hne.resolve_left h1).resolve_left h2)] at q3
        simp -implicitDefEqProofs [q1, q2, q3, -e_gEq_int]
  · rw [if_neg hne]
    rw [decide_eq_false fun z => hne (.inl z)] at q1
    rw [decide_eq_false fun z => hne (.inr (.inl z))] at q2
    rw [decide_eq_false fun z => hne (.inr (.inr z))] at q3
    refine t_seq (e := [some (0, K), some (0, H), some (0, .lst [.int a, .int b, .int c]), some (0, .int t), some (0, .int a), some (0, .int b), some (0, .int c)]) (by simp -implicitDefEqProofs [q1, q2, q3, -e_gEq_int]) ?_
    cases B1
    · refine t_seqR (d := .bl false) (by simp -implicitDefEqProofs [r1']) (Tells.ok rfl)
    · refine t_seq (e := [some (0, K), some (0, H), some (0, .lst [.int a, .int b, .int c]), some (0, .int t), some (0, .int a), some (0, .int b), some (0, .int c)]) (by simp -implicitDefEqProofs [r1']) ?_
      cases B2
      · refine t_seqR (d := .bl false) (by simp -implicitDefEqProofs [db, dc, m1, m2, r2']) (Tells.ok rfl)
      · refine t_seq (e := [some (0, K), some (0, H), some (0, .lst [.int a, .int b, .int c]), some (0, .int t), some (0, .int a), some (0, .int b), some (0, .int c)]) (by simp -implicitDefEqProofs [db, dc, m1, m2, r2']) ?_
        refine Tells.eqI ?_
        simp -implicitDefEqProofs [da, dc, m3, m4, r3']

/-! ### a loop that appends -/
theorem for_app {α β : Type} {it : Mir.Env → Res (List D)} {t : Nat → D → Mir.Env → Res Mir.Env} {body : Mir.Env → Res Ctl} {fg : List Nat} {env e' : Mir.Env} (mk : List β → Mir.Env) (enc : α → D) (f : α → β) (B : Nat) (xs : List α) (hit : it env = .ok (xs.map enc)) (h0 : env = mk []) (h1 : mk (xs.map f) = e') (hl : xs.length ≤ B)
    (hs : ∀ a ∈ xs, ∀ acc, acc.length < B → (t 0 (enc a) (mk acc) >>= fun e => body e >>= stepc fg) = .ok (mk (acc ++ [f a]))) : mFor it t body fg env = .ok (.nx e') := by
  have L := app_loop (t := t) (body := body) (fg := fg) mk enc (fun a => [f a]) 1 B xs (fun _ _ => Nat.le_refl _) (fun a ha acc hacc => hs a ha acc (by omega)) [] (by rw [List.length_nil]; omega)
  rw [List.nil_append, flat_one, h1, ← h0] at L
  exact for_of hit L
/-- a loop that changes a state -/
theorem for_fold {α σ : Type} {it : Mir.Env → Res (List D)} {t : Nat → D → Mir.Env → Res Mir.Env} {body : Mir.Env → Res Ctl} {fg : List Nat} {env e' : Mir.Env} (mk : σ → Mir.Env) (enc : α → D) (f : σ → α → σ) (xs : List α) (s : σ) (hit : it env = .ok (xs.map enc)) (h0 : env = mk s) (h1 : mk (xs.foldl f s) = e')
    (hs : ∀ (i : Nat) (a : α), xs[i]? = some a → (t 0 (enc a) (mk ((xs.take i).foldl f s)) >>= fun e => body e >>= stepc fg) = .ok (mk (f ((xs.take i).foldl f s) a))) : mFor it t body fg env = .ok (.nx e') := by
  have L : ∀ (zs ys : List α), xs = ys ++ zs → loop t body fg (zs.map enc) (mk (ys.foldl f s)) = .ok (.nx (mk (xs.foldl f s))) := fun zs => by
    induction zs with
    | nil => intro ys h; rw [h, List.append_nil]; rfl
    | cons z zs ih =>
      intro ys h
      have h2 := hs ys.length z (by rw [h]; simp)
      rw [h, List.take_left' rfl] at h2
      rw [List.map_cons, loop_step h2]
      have := ih (ys ++ [z]) (by rw [h]; simp)
      rw [List.foldl_append] at this
      exact this
  have L0 := L xs [] rfl
  rw [List.foldl_nil, ← h0, h1] at L0
  exact for_of hit L0
/-- .. a state of which P holds -/
theorem for_run {α σ : Type} {it : Mir.Env → Res (List D)} {t : Nat → D → Mir.Env → Res Mir.Env} {body : Mir.Env → Res Ctl} {fg : List Nat} {env : Mir.Env} (mk : σ → Mir.Env) (enc : α → D) (P : Nat → σ → Prop) (xs : List α) (s : σ) (hit : it env = .ok (xs.map enc)) (h0 : env = mk s) (hp : P 0 s)
    (hs : ∀ (i : Nat) (a : α) (s : σ), xs[i]? = some a → P i s → ∃ s', P (i + 1) s' ∧ (t 0 (enc a) (mk s) >>= fun e => body e >>= stepc fg) = .ok (mk s')) : ∃ s', P xs.length s' ∧ mFor it t body fg env = .ok (.nx (mk s')) := by
  have L : ∀ (zs ys : List α) (s : σ), xs = ys ++ zs → P ys.length s → ∃ s', P xs.length s' ∧ loop t body fg (zs.map enc) (mk s) = .ok (.nx (mk s')) := fun zs => by
    induction zs with
    | nil => intro ys s h hp; exact ⟨s, by rw [h, List.append_nil]; exact hp, rfl⟩
    | cons z zs ih =>
      intro ys s h hp
      obtain ⟨s1, hp1, h2⟩ := hs ys.length z s (by rw [h]; simp) hp
      obtain ⟨s2, hp2, h3⟩ := ih (ys ++ [z]) s1 (by rw [h]; simp) (by rw [List.length_append]; exact hp1)
      exact ⟨s2, hp2, by rw [List.map_cons, loop_step h2]; exact h3⟩
  obtain ⟨s2, h1, h2⟩ := L xs [] s rfl hp
  exact ⟨s2, h1, for_of hit (by rw [h0]; exact h2)⟩
theorem step_of {t : Nat → D → Mir.Env → Res Mir.Env} {body : Mir.Env → Res Ctl} {fg : List Nat} {x : D} {env e1 e2 env' : Mir.Env} (h1 : t 0 x env = .ok e1) (h2 : body e1 = .ok (.nx e2)) (h3 : clear e2 fg = env') : (t 0 x env >>= fun e => body e >>= stepc fg) = .ok env' := by
  rw [h1, ok_bind, h2, ← h3]; rfl
/-- a loop that appends a few things at each turn -/
theorem for_appF {α β : Type} {it : Mir.Env → Res (List D)} {t : Nat → D → Mir.Env → Res Mir.Env} {body : Mir.Env → Res Ctl} {fg : List Nat} {env e' : Mir.Env} (mk : List β → Mir.Env) (enc : α → D) (g : α → List β) (c B : Nat) (xs : List α) (acc : List β) (hit : it env = .ok (xs.map enc)) (h0 : env = mk acc) (h1 : mk (acc ++ xs.flatMap g) = e') (hc : ∀ a ∈ xs, (g a).length ≤ c) (hl : acc.length + xs.length * c ≤ B)
    (hs : ∀ a ∈ xs, ∀ acc, acc.length + c ≤ B → (t 0 (enc a) (mk acc) >>= fun e => body e >>= stepc fg) = .ok (mk (acc ++ g a))) : mFor it t body fg env = .ok (.nx e') := by
  have L := app_loop (t := t) (body := body) (fg := fg) mk enc g c B xs hc hs acc hl
  rw [h1, ← h0] at L
  exact for_of hit L
/-- what of xs has p, made by f -/
def flt {α β : Type} (p : α → Bool) (f : α → β) (xs : List α) : List β := xs.flatMap fun a => if p a then [f a] else []
theorem flt_eq {α β : Type} (p : α → Bool) (f : α → β) : ∀ xs : List α, flt p f xs = (xs.filter p).map f
  | [] => rfl
  | x :: xs => by
    have ih := flt_eq p f xs
    unfold flt at ih ⊢
    rw [List.flatMap_cons, ih]
    cases h : p x <;> simp [h]
theorem flt_len {α β : Type} (p : α → Bool) (f : α → β) (xs : List α) : (flt p f xs).length ≤ xs.length := by
  rw [flt_eq, List.length_map]
  exact List.length_filter_le _ _
theorem flt_mem {α β : Type} {p : α → Bool} {f : α → β} {xs : List α} {y : β} : y ∈ flt p f xs ↔ ∃ a ∈ xs, p a = true ∧ f a = y := by
  rw [flt_eq, List.mem_map]
  constructor
  · rintro ⟨a, ha, rfl⟩
    rw [List.mem_filter] at ha
    exact ⟨a, ha.1, ha.2, rfl⟩
  · rintro ⟨a, ha, hp, rfl⟩
    exact ⟨a, List.mem_filter.mpr ⟨ha, hp⟩, rfl⟩

/-! ### pairs exchanged, walked -/
def xcP (a b c : Int) : List ((Int × Int) × (Int × Int)) := [((a, 0), (b, 0)), ((b, 0), (a, 0)), ((a, 1), (c, 0)), ((c, 0), (a, 1)), ((b, 1), (c, 1)), ((c, 1), (b, 1))]
def xcQ (a b c : Int) : List ((Int × Int) × (Int × Int)) := [((a, 0), (b, 0)), ((a, 1), (c, 0)), ((b, 1), (c, 1))]
theorem xcP_pt {a b c : Int} (h1 : a ≠ b) (h2 : a ≠ c) (h3 : b ≠ c) : (xcQ a b c).foldl (fun p e => pt (pt p e.1 e.2) e.2 e.1) [] = xcP a b c := by
  have e1 := h1.symm
  have e2 := h2.symm
  have e3 := h3.symm
  simp [xcQ, xcP, pt, h1, h2, h3, e1, e2, e3]
theorem xcP_lk (a b c : Int) (k : Int × Int) : (lk (xcP a b c) k).getD k = xcF a b c k := by
  unfold xcP xcF
  simp only [lk_cons, lk_nil]
  have s : ∀ p : Int × Int, (p = k) = (k = p) := fun p => propext ⟨fun h => h.symm, fun h => h.symm⟩
  simp only [s]
  repeat' split
  all_goals rfl
def pr2 (e : (Int × Int) × (Int × Int)) : D := .tup [t2 e.1, t2 e.2]
theorem partner_step (P : List ((Int × Int) × (Int × Int))) (k v : Int × Int) (h : P.length ≤ 1000) : dSet (encK2 t2 P) (t2 k) (t2 v) = .ok (encK2 t2 (pt P k v)) := dSet_K2 t2 P k v (sizeLine_lt (by omega))
section
variable {E : Drw} {a b c : Int}
theorem xcP_foldlen (a b c : Int) (i : Nat) : (((xcQ a b c).take i).foldl (fun p e => pt (pt p e.1 e.2) e.2 e.1) []).length ≤ 10 := by
  have gen : ∀ (xs : List ((Int × Int) × (Int × Int))) (p : List ((Int × Int) × (Int × Int))), (xs.foldl (fun p e => pt (pt p e.1 e.2) e.2 e.1) p).length ≤ p.length + 2 * xs.length := fun xs => by
    induction xs with
    | nil => intro p; exact Nat.le_refl _
    | cons x xs ih =>
      intro p
      have h1 := ih (pt (pt p x.1 x.2) x.2 x.1)
      have h2 := pt_len p x.1 x.2
      have h3 := pt_len (pt p x.1 x.2) x.2 x.1
      rw [List.foldl_cons, List.length_cons]
      omega
  have := gen ((xcQ a b c).take i) []
  have h2 : ((xcQ a b c).take i).length ≤ 3 := by rw [List.length_take]; exact Nat.min_le_right _ _
  rw [List.length_nil] at this
  omega
theorem exchanged_is (h : Tr3 E a b c) : F_exchanged [encD E, .lst ((xcQ a b c).map pr2)] = .ok (encD (xc E a b c)) := by
  have hfl := h.d.vd.sz.fl
  have hha := hands_is E (by omega)
  rw [encP_K] at hha
  have i1 : immAt 1 (encK D.int (hnds E)) = true := immAt_K D.int (fun _ => rfl) _
  have hDi : itemsL (encD E) = .ok (E.map encR) := rfl
  obtain ⟨PL, hPL⟩ : ∃ PL, PL = D.lst ((xcQ a b c).map pr2) := ⟨_, rfl⟩
  have hPi : itemsL PL = .ok ((xcQ a b c).map pr2) := by rw [hPL]; rfl
  rw [← hPL]
  refine Tells.eq ?_
  simp only [F_exchanged, m_exchanged, runD]
  refine t_seq (e := [some (0, encD E), some (0, PL), some (1, encK D.int (hnds E)), none, none, none, none, none, none, none, none]) (by
    generalize encK D.int (hnds E) = HH at *
    generalize encD E = EE at *
    simp -implicitDefEqProofs [hha, i1]) ?_
  refine t_seq (e := [some (0, encD E), some (0, PL), some (1, encK D.int (hnds E)), some (1, encK2 t2 []), none, none, none, none, none, none, none]) (by
    generalize encK D.int (hnds E) = HH at *
    generalize encD E = EE at *
    simp -implicitDefEqProofs [encK2_nil t2]) ?_
  refine t_seq (e := [some (0, encD E), some (0, PL), some (1, encK D.int (hnds E)), some (1, encK2 t2 (xcP a b c)), none, none, none, none, none, none, none]) (by
    refine for_fold (fun p => [some (0, encD E), some (0, PL), some (1, encK D.int (hnds E)), some (1, encK2 t2 p), none, none, none, none, none, none, none]) pr2 (fun p e => pt (pt p e.1 e.2) e.2 e.1) (xcQ a b c) [] ?_ rfl (by rw [xcP_pt h.ab h.ac h.bc]) ?_
    · generalize encK D.int (hnds E) = HH at *
      generalize encD E = EE at *
      generalize encK2 t2 [] = K0 at *
      simp -implicitDefEqProofs [hPi]
    · intro i e he
      have hl := xcP_foldlen a b c i
      generalize ((xcQ a b c).take i).foldl (fun p e => pt (pt p e.1 e.2) e.2 e.1) [] = P at *
      have s1 := partner_step P e.1 e.2 (by omega)
      have s2 := partner_step (pt P e.1 e.2) e.2 e.1 (by have := pt_len P e.1 e.2; omega)
      have j1 : (t2 e.1).imm = true := rfl
      have j2 : (t2 e.2).imm = true := rfl
      have ep : pr2 e = .tup [t2 e.1, t2 e.2] := rfl
      rw [ep]
      generalize encK2 t2 (pt (pt P e.1 e.2) e.2 e.1) = K2 at *
      generalize encK2 t2 (pt P e.1 e.2) = K1 at *
      generalize encK2 t2 P = K0 at *
      generalize encK D.int (hnds E) = HH at *
      generalize encD E = EE at *
      generalize t2 e.1 = A1 at *
      generalize t2 e.2 = A2 at *
      simp -implicitDefEqProofs [s1, s2, j1, j2]) ?_
  refine t_seq (e := [some (0, encD E), some (0, PL), some (1, encK D.int (hnds E)), some (1, encK2 t2 (xcP a b c)), none, none, some (2, encD []), none, none, none, none]) (by
    generalize encK D.int (hnds E) = HH at *
    generalize encD E = EE at *
    generalize encK2 t2 (xcP a b c) = K0 at *
    simp -implicitDefEqProofs [encD]) ?_
  refine t_seq (e := [some (0, encD E), some (0, PL), some (1, encK D.int (hnds E)), some (1, encK2 t2 (xcP a b c)), none, none, some (2, encD (xc E a b c)), none, none, none, none]) (by
    refine for_app (fun q : Drw => [some (0, encD E), some (0, PL), some (1, encK D.int (hnds E)), some (1, encK2 t2 (xcP a b c)), none, none, some (2, encD q), none, none, none, none]) encR (fun r => r.map (xcT E a b c)) 1000 E ?_ rfl rfl (by have := h.d.vd.sz.len; omega) ?_
    · generalize encK D.int (hnds E) = HH at *
      generalize E.map encR = ER at *
      generalize encD E = EE at *
      generalize encD [] = E0 at *
      generalize encK2 t2 (xcP a b c) = K0 at *
      simp -implicitDefEqProofs [hDi]
    · intro r hr acc hacc
      have hrl := h.d.vd.sz.row r hr
      have hR : itemsL (encR r) = .ok (r.map t3) := rfl
      refine (congrArg (fun r => r >>= stepc [7, 8, 9, 10]) (s_seq2 (e := [some (0, encD E), some (0, PL), some (1, encK D.int (hnds E)), some (1, encK2 t2 (xcP a b c)), none, none, some (2, encD acc), some (0, encR r), some (1, encR []), none, none]) ?_ (s_seq2 (e := [some (0, encD E), some (0, PL), some (1, encK D.int (hnds E)), some (1, encK2 t2 (xcP a b c)), none, none, some (2, encD acc), some (0, encR r), some (1, encR (r.map (xcT E a b c))), none, none]) ?_ (r := .ok (.nx [some (0, encD E), some (0, PL), some (1, encK D.int (hnds E)), some (1, encK2 t2 (xcP a b c)), none, none, some (2, encD (acc ++ [r.map (xcT E a b c)])), some (0, encR r), none, none, none])) ?_))).trans ?_
      · generalize encK D.int (hnds E) = HH at *
        generalize encD E = EE at *
        generalize encD acc = AA at *
        generalize encK2 t2 (xcP a b c) = K0 at *
        simp -implicitDefEqProofs [encR]
      · refine for_app (fun q : List T3 => [some (0, encD E), some (0, PL), some (1, encK D.int (hnds E)), some (1, encK2 t2 (xcP a b c)), none, none, some (2, encD acc), some (0, encR r), some (1, encR q), none, none]) t3 (xcT E a b c) 1000 r ?_ rfl rfl (by omega) ?_
        · generalize encK D.int (hnds E) = HH at *
          generalize encD E = EE at *
          generalize encD acc = AA at *
          generalize encK2 t2 (xcP a b c) = K0 at *
          generalize encR [] = R0 at *
          generalize r.map t3 = RL at *
          generalize encR r = RR at *
          simp -implicitDefEqProofs [hR]
        · intro x hx q hq
          obtain ⟨z, hz, ez⟩ := h.has (List.mem_flatten.mpr ⟨r, hr, hx⟩)
          have hh := gDGet_K D.int (h.d.nm hz).lk
          have eT : t3 (xcT E a b c x) = .tup [.int (xcF a b c (ky x)).1, .int (xcF a b c (ky x)).2, .int (hof E (xcF a b c (ky x)).1)] := rfl
          have ef : (xcF a b c (ky x)).1 = z.a := by rw [← ez]; rfl
          rw [← ef] at hh
          have g0 : gIx (t3 x) (.int 0) = .ok (.int x.a) := rfl
          have g1 : gIx (t3 x) (.int 1) = .ok (.int x.b) := rfl
          have e2 : t2 (ky x) = .tup [.int x.a, .int x.b] := rfl
          have hin := gDIn_K2 t2 (xcP a b c) (ky x)
          have hP := xcP_lk a b c (ky x)
          have hz1 : (q.map t3).length < sizeLine := sizeLine_lt (by rw [List.length_map]; omega)
          have e5 : encR (q ++ [xcT E a b c x]) = .lst (q.map t3 ++ [t3 (xcT E a b c x)]) := by unfold encR; simp
          have e6 : encR q = .lst (q.map t3) := rfl
          show (tName 9 0 (t3 x) [some (0, encD E), some (0, PL), some (1, encK D.int (hnds E)), some (1, encK2 t2 (xcP a b c)), none, none, some (2, encD acc), some (0, encR r), some (1, encR q), none, none] >>= fun e => _) = .ok [some (0, encD E), some (0, PL), some (1, encK D.int (hnds E)), some (1, encK2 t2 (xcP a b c)), none, none, some (2, encD acc), some (0, encR r), some (1, encR (q ++ [xcT E a b c x])), none, none]
          rw [e5, e6, eT]
          have ek0 : gIx (t2 (xcF a b c (ky x))) (.int 0) = .ok (.int (xcF a b c (ky x)).1) := rfl
          have ek1 : gIx (t2 (xcF a b c (ky x))) (.int 1) = .ok (.int (xcF a b c (ky x)).2) := rfl
          have jk : (t2 (xcF a b c (ky x))).imm = true := rfl
          have jk2 : (t2 (ky x)).imm = true := rfl
          cases hl : lk (xcP a b c) (ky x) with
          | none =>
            rw [hl] at hP hin
            have hP' : ky x = xcF a b c (ky x) := hP
            rw [← hP'] at hh ek0 ek1 jk ⊢
            have e2' : (t2 (ky x)) = .tup [.int x.a, .int x.b] := rfl
            have a1 : (ky x).1 = x.a := rfl
            have a2 : (ky x).2 = x.b := rfl
            rw [e2'] at hin ek0 ek1
            rw [a1] at hh ek0 ⊢
            rw [a2] at ek1 ⊢
            generalize encK D.int (hnds E) = HH at *
            generalize encD E = EE at *
            generalize encD acc = AA at *
            generalize encK2 t2 (xcP a b c) = K0 at *
            generalize encR r = RR at *
            generalize q.map t3 = QQ at *
            generalize t3 x = XX at *
            generalize hof E x.a = HX at *
            simp -implicitDefEqProofs [g0, g1, hin, ek0, ek1, hh, hz1]
          | some v =>
            rw [hl] at hP hin
            have hP' : v = xcF a b c (ky x) := hP
            have hg := gDGet_K2 t2 hl
            rw [hP'] at hg
            rw [e2] at hin hg
            generalize xcF a b c (ky x) = K5 at *
            generalize encK D.int (hnds E) = HH at *
            generalize encD E = EE at *
            generalize encD acc = AA at *
            generalize encK2 t2 (xcP a b c) = K0 at *
            generalize encR r = RR at *
            generalize q.map t3 = QQ at *
            generalize t3 x = XX at *
            generalize t2 K5 = TK at *
            generalize hof E K5.1 = HX at *
            simp -implicitDefEqProofs [g0, g1, hin, hg, jk, ek0, ek1, hh, hz1]
      · have e5 : encD (acc ++ [r.map (xcT E a b c)]) = .lst (acc.map encR ++ [encR (r.map (xcT E a b c))]) := by unfold encD; simp
        have e6 : encD acc = .lst (acc.map encR) := rfl
        have hz1 : (acc.map encR).length < sizeLine := sizeLine_lt (by rw [List.length_map]; omega)
        rw [e5, e6]
        generalize encK D.int (hnds E) = HH at *
        generalize encD E = EE at *
        generalize acc.map encR = AA at *
        generalize encK2 t2 (xcP a b c) = K0 at *
        generalize encR r = RR at *
        generalize encR (r.map (xcT E a b c)) = R2 at *
        simp -implicitDefEqProofs [hz1]
      · generalize encK D.int (hnds E) = HH at *
        generalize encD E = EE at *
        generalize encD (acc ++ [r.map (xcT E a b c)]) = AA at *
        generalize encK2 t2 (xcP a b c) = K0 at *
        generalize encR r = RR at *
        simp -implicitDefEqProofs) ?_
  refine Tells.eqI ?_
  have i2 : immAt 2 (encD (xc E a b c)) = true := by simp
  generalize encD (xc E a b c) = Q at *
  generalize encK D.int (hnds E) = HH at *
  generalize encD E = EE at *
  generalize encK2 t2 (xcP a b c) = K0 at *
  simp -implicitDefEqProofs [i2]
end

/-! ### slides made and refused -/
section
variable (κ : Str → Addr) {E : Drw} {a b c t : Int}
theorem old3_is (hd : Dr E) (na : Nm E a) (nb : Nm E b) (nc : Nm E c) : F_look_at_old [encD E, .lst [.int a, .int b, .int c]] = .ok .non := by
  have hold := old_is (ds := E) hd.vd.sz.fl (ns := [a, b, c]) (fun m hm => by
    rcases List.mem_cons.mp hm with rfl | hm
    · exact ⟨_, na.lk⟩
    rcases List.mem_cons.mp hm with rfl | hm
    · exact ⟨_, nb.lk⟩
    · rw [List.mem_singleton.mp hm]; exact ⟨_, nc.lk⟩)
  exact hold
theorem slide_made (h : Tr3 E a b c) (ht : t = 1 ∨ t = -1) (hs : slB E a b c t = true) : F_Slide_made κ [(Mv.slide a b c t).ob κ, encD E] = .ok (encD (xc E a b c)) := by
  have hob : (Mv.slide a b c t).ob κ = ob_slide κ (.int a) (.int b) (.int c) (.int t) := rfl
  rw [hob]
  have f0 := fld_slide_name κ (.int a) (.int b) (.int c) (.int t)
  have f1 := fld_slide_second κ (.int a) (.int b) (.int c) (.int t)
  have f2 := fld_slide_third κ (.int a) (.int b) (.int c) (.int t)
  have f3 := fld_slide_turn κ (.int a) (.int b) (.int c) (.int t)
  have hold := old3_is h.d h.na h.nb h.nc
  have hfl := h.d.vd.sz.fl
  have hnx := next_is E (by omega)
  have hha := hands_is E (by omega)
  rw [encP_K] at hha
  have i1 : immAt 1 (encK2 t2 (nxP E)) = true := immAt_K2 t2 (fun _ => rfl) _
  have i2 : immAt 1 (encK D.int (hnds E)) = true := immAt_K D.int (fun _ => rfl) _
  have i3 : immAt 2 (encD (xc E a b c)) = true := by simp
  have hsl := slides_is h.d h.na h.nb h.nc ht
  rw [hs] at hsl
  have hex := exchanged_is h
  have eq : D.lst ((xcQ a b c).map pr2) = .lst [.tup [.tup [.int a, .int 0], .tup [.int b, .int 0]], .tup [.tup [.int a, .int 1], .tup [.int c, .int 0]], .tup [.tup [.int b, .int 1], .tup [.int c, .int 1]]] := rfl
  rw [eq] at hex
  have hz2 : (2 : Nat) ≤ sizeLine := by decide
  have hz3 : (3 : Nat) ≤ sizeLine := by decide
  generalize ob_slide κ (.int a) (.int b) (.int c) (.int t) = O at *
  generalize encD (xc E a b c) = Q at *
  generalize encK2 t2 (nxP E) = K at *
  generalize encK D.int (hnds E) = H at *
  generalize encD E = EE at *
  simp only [F_Slide_made, m_Slide_made, runD]
  simp -implicitDefEqProofs [mExpr, f0, f1, f2, f3, hold, hnx, hha, i1, i2, i3, hsl, hex, hz2, hz3]
theorem slide_madeM {tt : List (Str × (List D → Res D))} (hl : tt.lookup (Str.ofString "Slide") = some (F_Slide_made κ)) (h : Tr3 E a b c) (ht : t = 1 ∨ t = -1) (hs : slB E a b c t = true) : gMeth κ tt "made" 2 ((Mv.slide a b c t).ob κ) [encD E] = .ok (encD (xc E a b c)) :=
  meth_is (F := F_Slide_made κ) hl (by decide) (slide_made κ h ht hs) (by simp)
end

/-! ### the law's own slides -/
theorem lhands_is {E : Drw} (h : E.flatten.length ≤ 1000) : F__law_hands [encD E] = .ok (encK D.int (hnds E)) := by
  rw [← encP_K]
  exact hands_is E h
section
variable {E : Drw} {a b c t : Int}
end

section
variable {E : Drw} {a b c t : Int}
end

/-! ### slides there and back, or refused -/
section
variable {E : Drw} {a b c t : Int}
theorem Tr3.siz (h : Tr3 E a b c) : Siz (xc E a b c) := h.dr.vd.sz
end

/-! ### three crossings put as blocks -/
/-! ### three crossings more -/
/-! ### drawings by their crossings -/
theorem psg_mem {C : List Crs} {x : T3} : x ∈ psg C ↔ ∃ c ∈ C, x = ⟨c.n, 0, c.c⟩ ∨ x = ⟨c.n, 1, c.c⟩ := by
  unfold psg
  rw [List.mem_flatMap]
  constructor
  · rintro ⟨c, hc, hx⟩
    refine ⟨c, hc, ?_⟩
    simpa using hx
  · rintro ⟨c, hc, hx⟩
    exact ⟨c, hc, by simpa using hx⟩
theorem Dr.of_psg {E : Drw} {C : List Crs} (hl : E.length ≤ 10) (hC : C.length ≤ 40) (hp : E.flatten.Perm (psg C)) (hn : (C.map (·.n)).Nodup) (hh : ∀ c ∈ C, c.c = 1 ∨ c.c = -1) : Dr E := by
  have hm : ∀ x, x ∈ E.flatten ↔ ∃ c ∈ C, x = ⟨c.n, 0, c.c⟩ ∨ x = ⟨c.n, 1, c.c⟩ := fun x => hp.mem_iff.trans psg_mem
  refine ⟨⟨siz_of hl (by rw [hp.length_eq, psg_len]; omega), (hp.map ky).nodup_iff.mpr (psg_ky C hn), fun x hx => ?_⟩, fun x hx => ?_, fun x hx => ?_⟩
  · obtain ⟨c, hc, rfl | rfl⟩ := (hm x).mp hx
    · exact .inl rfl
    · exact .inr rfl
  · obtain ⟨c, hc, rfl | rfl⟩ := (hm x).mp hx
    · exact ⟨(hm _).mpr ⟨c, hc, .inl rfl⟩, (hm _).mpr ⟨c, hc, .inr rfl⟩⟩
    · exact ⟨(hm _).mpr ⟨c, hc, .inl rfl⟩, (hm _).mpr ⟨c, hc, .inr rfl⟩⟩
  · obtain ⟨c, hc, rfl | rfl⟩ := (hm x).mp hx
    · exact hh c hc
    · exact hh c hc
/-! ### rows begun elsewhere -/
theorem RotL.of_map {E : Drw} (f : List T3 → List T3) (h : ∀ r ∈ E, Rot r (f r)) : RotL E (E.map f) := RotL.of (by rw [List.length_map]) fun i r t h1 h2 => by
  rw [List.getElem?_map, h1] at h2
  cases h2
  exact h r (List.mem_of_getElem? h1)
/-! ### hands turned -/
def hxT (ns : List Int) (x : T3) : T3 := ⟨x.a, x.b, if x.a ∈ ns then -x.c else x.c⟩
def hxL (ns : List Int) (E : Drw) : Drw := E.map fun r => r.map (hxT ns)
theorem hxL_mem {ns : List Int} {E : Drw} {x : T3} : x ∈ (hxL ns E).flatten ↔ ∃ y ∈ E.flatten, x = hxT ns y := by
  have e : (hxL ns E).flatten = E.flatten.map (hxT ns) := by
    show (E.map fun r => r.map (hxT ns)).flatten = _
    rw [List.map_flatten]
  rw [e, List.mem_map]
  exact ⟨fun ⟨y, hy, h⟩ => ⟨y, hy, h.symm⟩, fun ⟨y, hy, h⟩ => ⟨y, hy, h.symm⟩⟩
theorem Dr.hx {E : Drw} (h : Dr E) (ns : List Int) : Dr (hxL ns E) := by
  have e : (hxL ns E).flatten = E.flatten.map (hxT ns) := by
    show (E.map fun r => r.map (hxT ns)).flatten = _
    rw [List.map_flatten]
  refine ⟨⟨siz_of (by show (E.map _).length ≤ 10; rw [List.length_map]; exact h.vd.sz.len) (by rw [e, List.length_map]; exact h.vd.sz.fl), ?_, fun x hx => ?_⟩, fun x hx => ?_, fun x hx => ?_⟩
  · show ((hxL ns E).flatten.map ky).Nodup
    rw [e, List.map_map]
    exact h.vd.uk
  · obtain ⟨y, hy, rfl⟩ := hxL_mem.mp hx
    exact h.vd.wy y hy
  · obtain ⟨y, hy, rfl⟩ := hxL_mem.mp hx
    exact ⟨hxL_mem.mpr ⟨_, (h.bt y hy).1, rfl⟩, hxL_mem.mpr ⟨_, (h.bt y hy).2, rfl⟩⟩
  · obtain ⟨y, hy, rfl⟩ := hxL_mem.mp hx
    show (if y.a ∈ ns then -y.c else y.c) = 1 ∨ (if y.a ∈ ns then -y.c else y.c) = -1
    have := h.sg y hy
    split <;> omega
/-! ### a drawing made -/
theorem WD.zero (S : Nat) : WD S (List.replicate S []) [] := ⟨⟨by simp, List.nodup_nil, fun c hc => absurd hc List.not_mem_nil, fun k r hk x => by
      have : r = [] := by
        have := List.mem_of_getElem? hk
        rw [List.mem_replicate] at this
        exact this.2
      subst this
      exact ⟨fun h => absurd h List.not_mem_nil, fun ⟨c, hc, _⟩ => absurd hc List.not_mem_nil⟩, fun r hr => by
      rw [List.mem_replicate] at hr
      rw [hr.2]; exact Nat.zero_le _⟩, by rw [List.flatten_replicate_nil]; exact List.Perm.refl _, fun c hc => absurd hc List.not_mem_nil⟩
theorem psg3 (a b c ha hb hc : Int) (C : List Crs) : (([⟨b, 1, hb⟩, ⟨c, 1, hc⟩] : List T3) ++ (([⟨a, 1, ha⟩, ⟨c, 0, hc⟩] : List T3) ++ (([⟨a, 0, ha⟩, ⟨b, 0, hb⟩] : List T3) ++ psg C))).Perm (psg (([⟨a, 0, 0, ha⟩, ⟨b, 0, 0, hb⟩, ⟨c, 0, 0, hc⟩] : List Crs) ++ C)) := by
  have e : psg (([⟨a, 0, 0, ha⟩, ⟨b, 0, 0, hb⟩, ⟨c, 0, 0, hc⟩] : List Crs) ++ C) = ([⟨a, 0, ha⟩, ⟨a, 1, ha⟩, ⟨b, 0, hb⟩, ⟨b, 1, hb⟩, ⟨c, 0, hc⟩, ⟨c, 1, hc⟩] : List T3) ++ psg C := by
    unfold psg; simp
  rw [e, ← List.append_assoc, ← List.append_assoc]
  refine List.Perm.append_right _ ?_
  show ([⟨b, 1, hb⟩, ⟨c, 1, hc⟩, ⟨a, 1, ha⟩, ⟨c, 0, hc⟩, ⟨a, 0, ha⟩, ⟨b, 0, hb⟩] : List T3).Perm _
  rw [List.perm_iff_count]
  intro x
  simp only [List.count_cons, List.count_nil]
  omega
/-- the names of a drawing, as the law tells them -/
def nmsL (ds : Drw) : List Int := (ds.flatten.filter fun x => decide (x.b = 0)).map (·.a)
theorem nmsL_len (ds : Drw) : (nmsL ds).length ≤ ds.flatten.length := by
  unfold nmsL
  rw [List.length_map]
  exact List.length_filter_le _ _
/-! ### the other drawing -/
/-! ### the linking table -/
def ent (C : List Crs) (a b : Nat) : Int := ((C.filter fun c => decide (c.i = a ∧ c.j = b ∧ a ≠ b)).map (·.c)).sum
def tbl (S : Nat) (C : List Crs) : Mat := (List.range S).map fun a => (List.range S).map fun b => ent C a b
theorem ent_perm {C L : List Crs} (h : L.Perm C) (a b : Nat) : ent L a b = ent C a b := perm_sum ((h.filter _).map _)
theorem tbl_perm {S : Nat} {C L : List Crs} (h : L.Perm C) : tbl S L = tbl S C := by
  unfold tbl
  refine List.map_congr_left fun a _ => List.map_congr_left fun b _ => ent_perm h a b
theorem ent_snoc (C : List Crs) (c : Crs) (a b : Nat) : ent (C ++ [c]) a b = ent C a b + if c.i = a ∧ c.j = b ∧ a ≠ b then c.c else 0 := by
  unfold ent
  rw [List.filter_append, List.map_append, List.sum_append]
  congr 1
  by_cases h : c.i = a ∧ c.j = b ∧ a ≠ b
  · rw [if_pos h, List.filter_cons_of_pos (by simpa using h)]; simp
  · rw [if_neg h, List.filter_cons_of_neg (by simpa using h)]; simp
theorem tbl_get {S : Nat} (C : List Crs) {a : Nat} (h : a < S) : (tbl S C)[a]? = some ((List.range S).map fun b => ent C a b) := by
  unfold tbl
  rw [List.getElem?_map, List.getElem?_range h]; rfl
theorem row_get {S : Nat} (C : List Crs) (a : Nat) {b : Nat} (h : b < S) : ((List.range S).map fun b => ent C a b)[b]? = some (ent C a b) := by
  rw [List.getElem?_map, List.getElem?_range h]; rfl
theorem tbl_same {S : Nat} (C : List Crs) (c : Crs) (h : c.i = c.j) : tbl S (C ++ [c]) = tbl S C := by
  unfold tbl
  refine List.map_congr_left fun a _ => List.map_congr_left fun b _ => ?_
  rw [ent_snoc, if_neg (by omega), Int.add_zero]
theorem tbl_more {S : Nat} (C : List Crs) (c : Crs) (h : c.i ≠ c.j) (hi : c.i < S) (hj : c.j < S) : tbl S (C ++ [c]) = (tbl S C).set c.i (((List.range S).map fun b => ent C c.i b).set c.j (ent C c.i c.j + c.c)) := by
  refine List.ext_getElem? fun a => ?_
  by_cases ha : a < S
  · rw [tbl_get _ ha]
    by_cases e : a = c.i
    · subst e
      rw [List.getElem?_set_self (by unfold tbl; simpa using hi)]
      congr 1
      refine List.ext_getElem? fun b => ?_
      by_cases hb : b < S
      · rw [row_get _ _ hb, ent_snoc]
        by_cases e2 : b = c.j
        · subst e2
          rw [List.getElem?_set_self (by simpa using hj), if_pos ⟨rfl, rfl, h⟩]
        · rw [List.getElem?_set_ne (Ne.symm e2), row_get _ _ hb, if_neg (by omega), Int.add_zero]
      · rw [List.getElem?_eq_none (by simp; omega), List.getElem?_eq_none (by simp; omega)]
    · rw [List.getElem?_set_ne (Ne.symm e), tbl_get _ ha]
      congr 1
      refine List.map_congr_left fun b _ => ?_
      rw [ent_snoc, if_neg (by omega), Int.add_zero]
  · rw [List.getElem?_eq_none (by unfold tbl; simp; omega), List.getElem?_eq_none (by unfold tbl; simp; omega)]
theorem tbl_nil (S : Nat) : tbl S [] = List.replicate S (List.replicate S 0) := by
  refine List.ext_getElem? fun a => ?_
  by_cases ha : a < S
  · rw [tbl_get _ ha, List.getElem?_replicate, if_pos ha]
    congr 1
    refine List.ext_getElem? fun b => ?_
    by_cases hb : b < S
    · rw [row_get _ _ hb, List.getElem?_replicate, if_pos hb]; rfl
    · rw [List.getElem?_eq_none (by simp; omega), List.getElem?_eq_none (by simp; omega)]
  · rw [List.getElem?_eq_none (by unfold tbl; simp; omega), List.getElem?_eq_none (by simp; omega)]
theorem linking_is {S : Nat} {ds : Drw} {C : List Crs} (h : DI S ds C) (hS : S ≤ 3) (hC : C.length ≤ 20) : F_linking [encD ds] = .ok (encM (tbl S C)) := by
  obtain ⟨L, hL, hs⟩ := h.sorted
  have hf := h.flat hS (by omega)
  have hk : (hnds ds).length < 64 := by
    have := h.keys.length_eq
    rw [List.length_map, List.length_map] at this
    omega
  have hn := names_is ds hf hk
  rw [hs] at hn
  have hr : ∀ r ∈ ds, r.length ≤ 100 := fun r hr => by have := h.cnt r hr; omega
  have hdl : ds.length ≤ 100 := by rw [h.len]; omega
  refine Tells.eq ?_
  have hrow : ∀ r ∈ ds, (tName 5 0 (encR r) [some (0, encD ds), none, none, none, none, none] >>= mOp gRep (mLst (mConsE (mC (.int 0)) [] mNilA)) (mUn gLen (mVar 0))) = .ok (.lst ((List.replicate S (0 : Int)).map D.int)) := fun r hr => by
    have h1 := gRep_one (n := ds.length) (D.int 0) rfl (by omega)
    simp -implicitDefEqProofs [encD, h1, h.len]
    rw [h.len] at h1
    exact h1
  have hlc := lc_all (t := tName 5) (env := [some (0, encD ds), none, none, none, none, none]) (me := mOp gRep (mLst (mConsE (mC (.int 0)) [] mNilA)) (mUn gLen (mVar 0))) encR (fun _ => D.lst ((List.replicate S (0 : Int)).map D.int)) ds hrow
  have hmap : (ds.map fun _ => D.lst ((List.replicate S (0 : Int)).map D.int)) = (tbl S []).map fun r => D.lst (r.map D.int) := by
    rw [tbl_nil]
    have : ∀ ds : Drw, (ds.map fun _ => D.lst ((List.replicate S (0 : Int)).map D.int)) = (List.replicate ds.length (List.replicate S 0)).map fun r => D.lst (r.map D.int) := by
      intro ds
      induction ds with
      | nil => rfl
      | cons r ds ih => rw [List.map_cons, ih, List.length_cons, List.replicate_succ, List.map_cons]
    rw [this, h.len]
  rw [hmap] at hlc
  have hsz : (tbl S []).length ≤ sizeLine := sizeLine_big (by unfold tbl; simp; omega)
  simp only [F_linking, m_linking, runD]
  simp -implicitDefEqProofs [e_mLc, hlc, hn, hsz]
  refine loop_then (fun i : Nat => [some (0, encD ds), some (2, encM (tbl S (L.take i))), none, none, none, none]) (fun c : Crs => D.int c.n) (fun i s => s = i) L 0 rfl rfl rfl ?_ ?_
  · intro i s c hc e
    subst e
    have hcL := hL.mem_iff.mp (List.mem_of_getElem? hc)
    obtain ⟨hi, hj⟩ := h.bd c hcL
    have s1 := string_is ds hdl hr (h.spO hcL)
    have s2 := string_is ds hdl hr (h.spU hcL)
    have s3 := hand_is ds hf (h.hand hcL)
    have hne : gNe (.int (c.i : Int)) (.int (c.j : Int)) = .ok (.bl (!decide (c.i = c.j))) := by
      rw [e_gNe_int]
      by_cases e : c.i = c.j <;> simp [e]; omega
    refine ⟨s + 1, rfl, ?_⟩
    rw [List.take_succ, hc]
    have hsame := tbl_same (S := S) (L.take s) c
    have hmore := tbl_more (L.take s) c (hi := hi) (hj := hj)
    have t1 := tbl_get (L.take s) hi
    have t2 := row_get (L.take s) c.i hj
    have t3 : c.j < ((List.range S).map fun b => ent (L.take s) c.i b).length := by simpa using hj
    generalize ((List.range S).map fun b => ent (L.take s) c.i b) = row at *
    generalize tbl S (L.take s) = T at *
    generalize ent (L.take s) c.i c.j = old at *
    have g1 := gIx_M t1
    have g2 := gIx_I t2
    have g3 := putIIm_M (j := 1) (k := 0) (v := old + c.c) (env := [some (0, encD ds), some (2, encM T), some (0, .int c.n), some (0, .int c.i), some (0, .int c.j), none]) t1 (b := c.j) t3
    by_cases e : c.i = c.j
    · have hne : gNe (.int (c.i : Int)) (.int (c.j : Int)) = .ok (.bl false) := by rw [hne]; simp [e]
      simp -implicitDefEqProofs [ofP, s1, s2, hne]
      rw [hsame e]
    · have hne : gNe (.int (c.i : Int)) (.int (c.j : Int)) = .ok (.bl true) := by rw [hne]; simp [e]
      simp -implicitDefEqProofs [ofP, s1, s2, s3, hne, g1, g2, g3]
      rw [hmore e]
  · intro s e
    subst e
    rw [List.take_length, tbl_perm hL]
    exact Tells.eqI (by simp)

/-! ### the writhe -/
theorem writhe_is {S : Nat} {ds : Drw} {C : List Crs} (h : DI S ds C) (hS : S ≤ 3) (hC : C.length ≤ 20) : F_writhe [encD ds] = .ok (.int (C.map (·.c)).sum) := by
  obtain ⟨L, hL, hs⟩ := h.sorted
  have hf := h.flat hS (by omega)
  have hk : (hnds ds).length < 64 := by
    have := h.keys.length_eq
    rw [List.length_map, List.length_map] at this
    omega
  have hn := names_is ds hf hk
  rw [hs] at hn
  have hlc := lc_all (t := tName 1) (env := [some (0, encD ds), none]) (me := mCall 0 F_hand_of (mConsA (mVar 0) (mConsA (mVar 1) mNilA))) (fun c : Crs => D.int c.n) (fun c => D.int c.c) L (fun c hc => by
    have s3 := hand_is ds hf (h.hand (hL.mem_iff.mp hc))
    simp -implicitDefEqProofs [s3])
  have e1 : (L.map fun c => D.int c.c) = (L.map (·.c)).map D.int := by rw [List.map_map]; rfl
  have e2 : (L.map fun c => D.int c.n) = (L.map (·.n)).map D.int := by rw [List.map_map]; rfl
  have hg := gSum_int (L.map (·.c))
  have hp := perm_sum (hL.map (·.c))
  have hl : (L.map (·.c)).length ≤ sizeLine := sizeLine_big (by rw [List.length_map, hL.length_eq]; omega)
  rw [e1, e2] at hlc
  generalize L.map (·.c) = cs at *
  generalize L.map (·.n) = ns at *
  simp only [F_writhe, m_writhe, runD]
  simp -implicitDefEqProofs [e_mLc, hn, hlc, hg, hl, hp]

theorem set_split {α : Type} {ds : List α} {a : Nat} {r : α} (h : ds[a]? = some r) : ∃ A B, ds = A ++ r :: B ∧ ∀ r', ds.set a r' = A ++ r' :: B := by
  induction ds generalizing a with
  | nil => simp at h
  | cons d ds ih =>
    cases a with
    | zero =>
      simp at h
      subst h
      exact ⟨[], ds, rfl, fun r' => rfl⟩
    | succ a =>
      obtain ⟨A, B, e1, e2⟩ := ih (by simpa using h)
      exact ⟨d :: A, B, by rw [e1]; rfl, fun r' => by rw [List.set_cons_succ, e2]; rfl⟩

/-! ### a drawing, as the brackets see it -/
structure DB (ds : Drw) (H : List (Int × Int)) : Prop where
  nd : (H.map (·.1)).Nodup
  pm : ds.flatten.Perm (H.flatMap fun c => [(⟨c.1, 0, c.2⟩ : T3), ⟨c.1, 1, c.2⟩])
  hd : ∀ c ∈ H, c.2 = 1 ∨ c.2 = -1
section
variable {ds : Drw} {H : List (Int × Int)}
theorem DB.mem (h : DB ds H) {x : T3} : x ∈ ds.flatten ↔ ∃ c ∈ H, x = ⟨c.1, 0, c.2⟩ ∨ x = ⟨c.1, 1, c.2⟩ := by
  rw [h.pm.mem_iff, List.mem_flatMap]
  simp
theorem pair_ky : ∀ {H : List (Int × Int)}, (H.map (·.1)).Nodup → ((H.flatMap fun c => [(⟨c.1, 0, c.2⟩ : T3), ⟨c.1, 1, c.2⟩]).map ky).Nodup
  | [], _ => List.nodup_nil
  | c :: H, h => by
    rw [List.map_cons, List.nodup_cons] at h
    obtain ⟨h1, h2⟩ := h
    have ih := pair_ky h2
    have hm : ∀ w : Int, (c.1, w) ∉ (H.flatMap fun c => [(⟨c.1, 0, c.2⟩ : T3), ⟨c.1, 1, c.2⟩]).map ky := fun w hm => by
      obtain ⟨x, hx, e⟩ := List.mem_map.mp hm
      obtain ⟨d, hd, hx⟩ := List.mem_flatMap.mp hx
      have e3 : d.1 = c.1 := by
        rcases List.mem_cons.mp hx with hx | hx
        · rw [hx] at e; exact (congrArg (fun z : Int × Int => z.1) e :)
        · rw [List.mem_singleton.mp hx] at e; exact (congrArg (fun z : Int × Int => z.1) e :)
      exact h1 (List.mem_map.mpr ⟨d, hd, e3⟩)
    show ((c.1, (0 : Int)) :: (c.1, (1 : Int)) :: (H.flatMap fun c => [(⟨c.1, 0, c.2⟩ : T3), ⟨c.1, 1, c.2⟩]).map ky).Nodup
    refine List.nodup_cons.mpr ⟨fun hz => ?_, List.nodup_cons.mpr ⟨hm 1, ih⟩⟩
    rcases List.mem_cons.mp hz with e | hz
    · have e : (0 : Int) = 1 := congrArg Prod.snd e
      omega
    · exact hm 0 hz
theorem DB.uk (h : DB ds H) : UK ds := (h.pm.map ky).nodup_iff.mpr (pair_ky h.nd)
theorem pair_len : ∀ H : List (Int × Int), (H.flatMap fun c => [(⟨c.1, 0, c.2⟩ : T3), ⟨c.1, 1, c.2⟩]).length = 2 * H.length
  | [] => rfl
  | c :: H => by
    rw [List.flatMap_cons, List.length_append, pair_len H, List.length_cons]
    simp only [List.length_cons, List.length_nil]
    omega
theorem DB.len (h : DB ds H) : ds.flatten.length = 2 * H.length := by rw [h.pm.length_eq, pair_len]
end

/-! ### drawings built by the law: copies, free names, passings put in -/
theorem t3s_imm (r : List T3) : immAll (r.map t3) = true := immAll_iff.mpr fun d hd => by
  obtain ⟨p, _, rfl⟩ := List.mem_map.mp hd
  rfl
theorem copy_is (ds : Drw) (h : ds.length ≤ 1000) : F__law_copy [encD ds] = .ok (encD ds) := by
  simp only [F__law_copy, m__law_copy, runD]
  simp -implicitDefEqProofs [e_mLc, encD]
  rw [lc_all encR encR ds fun r _ => by
    have := immAll_iff.mpr fun d hd => by
      obtain ⟨p, _, rfl⟩ := List.mem_map.mp (show d ∈ r.map t3 from hd)
      exact (rfl : (t3 p).imm = true)
    simp -implicitDefEqProofs [encR, immL, this]]
  have hz : ds.length ≤ sizeLine := sizeLine_big (by omega)
  simp -implicitDefEqProofs [hz]
theorem free_run (N : List Int) (x0 : Option (Nat × D)) (hx : x0 = some (0, .lst (N.map D.int))) : ∀ (m : Nat) (a : Int) (F : Nat), 1 ≤ a → a ≤ 999 → m < F → (∀ k : Nat, k < m → ((a - 1 + k) % 999 + 1) ∈ N) → ((a - 1 + m) % 999 + 1) ∉ N →
    wloop (mTb (mOp gIn (mVar 1) (mVar 0))) (mSet 1 0 [] (mOp gAdd (mOp gMod (mVar 1) (mC (.int 999))) (mC (.int 1)))) [] F [x0, some (0, .int a)] = .ok (.nx [x0, some (0, .int ((a - 1 + m) % 999 + 1))])
  | m, a, 0, _, _, h, _, _ => by omega
  | 0, a, F + 1, h1, h2, _, _, hn => by
    subst hx
    have e : (a - 1 + (0 : Nat)) % 999 + 1 = a := by omega
    rw [e] at hn ⊢
    have hin : gIn (.int a) (.lst (N.map D.int)) = .ok (.bl (decide (a ∈ N))) := gIn_enc a N (by decide)
    rw [decide_eq_false hn] at hin
    rw [wloop_succ]
    simp -implicitDefEqProofs [hin]
  | m + 1, a, F + 1, h1, h2, hF, hm, hn => by
    subst hx
    have h0 := hm 0 (by omega)
    have e : (a - 1 + (0 : Nat)) % 999 + 1 = a := by omega
    rw [e] at h0
    have hin : gIn (.int a) (.lst (N.map D.int)) = .ok (.bl (decide (a ∈ N))) := gIn_enc a N (by decide)
    rw [decide_eq_true h0] at hin
    have gm : Mir.gMod (.int a) (.int 999) = .ok (.int (a % 999)) := e_gMod a 999 (by decide)
    rw [wloop_succ]
    simp -implicitDefEqProofs [hin, gm]
    have ih := free_run N _ rfl m (a % 999 + 1) F (by omega) (by omega) (by omega) (fun k hk => by
      have := hm (k + 1) (by omega)
      rw [show ((a % 999 + 1 - 1 + (k : Int)) % 999 + 1) = (a - 1 + ((k + 1 : Nat) : Int)) % 999 + 1 by omega]
      exact this) (by
      rw [show ((a % 999 + 1 - 1 + (m : Int)) % 999 + 1) = (a - 1 + ((m + 1 : Nat) : Int)) % 999 + 1 by omega]
      exact hn)
    rw [ih]
    rw [show ((a % 999 + 1 - 1 + (m : Int)) % 999 + 1) = (a - 1 + ((m : Int) + 1)) % 999 + 1 by omega]
theorem free_is (N : List Int) (hN : N.length ≤ 900) (a : Int) (h1 : 1 ≤ a) (h2 : a ≤ 999) : ∃ n : Int, F__law_free [.lst (N.map D.int), .int a] = .ok (.int n) ∧ n ∉ N ∧ 1 ≤ n ∧ n ≤ 999 := by
  have ex : ∃ m : Nat, m ≤ N.length ∧ ((a - 1 + m) % 999 + 1) ∉ N := Classical.byContradiction fun hno => by
    have all : ∀ m : Nat, m ≤ N.length → ((a - 1 + m) % 999 + 1) ∈ N := fun m hm => Classical.byContradiction fun h => hno ⟨m, hm, h⟩
    have hnd : ((List.range (N.length + 1)).map fun m : Nat => (a - 1 + m) % 999 + 1).Nodup := by
      refine List.pairwise_map.mpr (List.Pairwise.imp_of_mem (fun {x y} hx hy hne => ?_) List.nodup_range)
      have hx := List.mem_range.mp hx
      have hy := List.mem_range.mp hy
      intro e
      exact hne (by omega)
    have := nodup_sub_len hnd (m := N) fun x hx => by
      obtain ⟨m, hm, rfl⟩ := List.mem_map.mp hx
      exact all m (by have := List.mem_range.mp hm; omega)
    simp at this
    omega
  obtain ⟨m0, hm0, hm1⟩ := ex
  -- the least one
  have least : ∃ m : Nat, m ≤ N.length ∧ ((a - 1 + m) % 999 + 1) ∉ N ∧ ∀ k : Nat, k < m → ((a - 1 + k) % 999 + 1) ∈ N := by
    induction m0 using Nat.strongRecOn with
    | _ m0 ih =>
      by_cases h : ∃ k : Nat, k < m0 ∧ ((a - 1 + k) % 999 + 1) ∉ N
      · obtain ⟨k, hk, hk2⟩ := h
        exact ih k hk (by omega) hk2
      · exact ⟨m0, hm0, hm1, fun k hk => Classical.byContradiction fun h2 => h ⟨k, hk, h2⟩⟩
  obtain ⟨m, hm, hn, hall⟩ := least
  refine ⟨(a - 1 + m) % 999 + 1, ?_, hn, by omega, by omega⟩
  have := free_run N _ rfl m a 4096 h1 h2 (by omega) hall hn
  simp only [F__law_free, m__law_free, runD]
  simp -implicitDefEqProofs [this]
def insM (ds : Drw) (a p : Nat) (more : List T3) : Drw := ds.set a ((ds.getD a []).take p ++ more ++ (ds.getD a []).drop p)
theorem put_is (ds : Drw) (hd : ds.length ≤ 1000) (a : Nat) (ha : a < ds.length) (place : Int) (more : List T3) (hm : more.length ≤ 1000) (hr : (ds.getD a []).length ≤ 1000) : F__law_put [encD ds, .int a, .int place, .lst (more.map t3)] = .ok (encD (insM ds a (place % ((ds.getD a []).length + 1 : Nat)).toNat more)) := by
  have hc := copy_is ds hd
  obtain ⟨r, hra⟩ : ∃ r, r = ds.getD a [] := ⟨_, rfl⟩
  have hget : ds[a]? = some r := by rw [hra, List.getD_eq_getElem?_getD, List.getElem?_eq_getElem ha]; rfl
  have hix : gIx (encD ds) (.int a) = .ok (encR r) := gIx_map hget
  rw [← hra] at hr ⊢
  have h0 := Int.emod_nonneg place (b := (r.length : Int) + 1) (by omega)
  have h1 := Int.emod_lt_of_pos place (b := (r.length : Int) + 1) (by omega)
  obtain ⟨q, hq⟩ : ∃ q : Nat, q = (place % ((r.length + 1 : Nat) : Int)).toNat := ⟨_, rfl⟩
  rw [← hq]
  have hqe : place % ((r.length : Int) + 1) = (q : Nat) := by rw [hq, show ((r.length + 1 : Nat) : Int) = (r.length : Int) + 1 by omega]; omega
  have hql : q ≤ r.length := by omega
  have gm : Mir.gMod (.int place) (.int ((r.length : Int) + 1)) = .ok (.int (q : Nat)) := by rw [e_gMod _ _ (by omega), hqe]
  have i1 := immAll_iff.mpr fun d hd => by
    obtain ⟨p, _, rfl⟩ := List.mem_map.mp (show d ∈ r.map t3 from hd)
    exact (rfl : (t3 p).imm = true)
  have i2 := immAll_iff.mpr fun d hd => by
    obtain ⟨p, _, rfl⟩ := List.mem_map.mp (show d ∈ more.map t3 from hd)
    exact (rfl : (t3 p).imm = true)
  have c1 := cutD_to t3 r q hql
  have c2 := cutD_from t3 r q hql
  have z1 : (r.take q).length + more.length ≤ sizeLine := sizeLine_big (by rw [List.length_take]; omega)
  have z2 : (r.take q ++ more).length + (r.drop q).length ≤ sizeLine := sizeLine_big (by rw [List.length_append, List.length_take, List.length_drop]; omega)
  unfold encR at hix
  have hpi := putIm_nat encR (j := 4) (k := 1) (cs := []) (v := r.take q ++ more ++ r.drop q) (i := a) (xs := ds) (env := [some (0, encD ds), some (0, .int a), some (0, .int q), some (0, .lst (more.map t3)), some (2, encD ds)]) ha
  unfold insM
  rw [List.getD_eq_getElem?_getD, hget]
  simp only [F__law_put, m__law_put, runD]
  simp -implicitDefEqProofs [hc, hix, gm, immL, i1, i2, mCat, c1, c2]
  have z3 : min q r.length + more.length ≤ sizeLine := by rw [List.length_take] at z1; exact z1
  have i3 : immAll (List.take q (List.map t3 r) ++ List.map t3 more) = true := by rw [← List.map_take, ← List.map_append]; exact t3s_imm _
  have z4 : (List.take q (List.map t3 r) ++ List.map t3 more).length + (r.length - q) ≤ sizeLine := by
    rw [List.length_append, List.length_drop, List.length_take] at z2
    rw [List.length_append, List.length_take, List.length_map, List.length_map]
    exact z2
  have e9 : encR (r.take q ++ more ++ r.drop q) = D.lst (List.take q (List.map t3 r) ++ (List.map t3 more ++ List.drop q (List.map t3 r))) := by
    unfold encR
    rw [List.map_append, List.map_append, List.map_take, List.map_drop, List.append_assoc]
  rw [e9] at hpi
  rw [if_pos z3, ok_bind]
  simp -implicitDefEqProofs only [itemsL, ok_bind]
  rw [if_pos i3, ok_bind, if_pos z4, ok_bind, List.append_assoc, hpi]
  simp -implicitDefEqProofs
  unfold encD
  rw [List.map_set]

/-! ### the drawing built crossing by crossing -/
abbrev prs (H : List (Int × Int)) : List T3 := H.flatMap fun c => [(⟨c.1, 0, c.2⟩ : T3), ⟨c.1, 1, c.2⟩]
theorem prs_snoc (H : List (Int × Int)) (c : Int × Int) : prs (H ++ [c]) = prs H ++ [⟨c.1, 0, c.2⟩, ⟨c.1, 1, c.2⟩] := by
  unfold prs; rw [List.flatMap_append]; rfl
theorem insM_split {ds : Drw} {a : Nat} (ha : a < ds.length) (p : Nat) (more : List T3) : ∃ A B u v, ds = A ++ (u ++ v) :: B ∧ insM ds a p more = A ++ (u ++ more ++ v) :: B := by
  have hg : ds[a]? = some ds[a] := List.getElem?_eq_getElem ha
  obtain ⟨A, B, e1, e2⟩ := set_split hg
  refine ⟨A, B, ds[a].take p, ds[a].drop p, ?_, ?_⟩
  · rw [List.take_append_drop]; exact e1
  · unfold insM
    rw [List.getD_eq_getElem?_getD, hg]
    exact e2 _
theorem insM_flat {ds : Drw} {a : Nat} (ha : a < ds.length) (p : Nat) (more : List T3) : (insM ds a p more).flatten.Perm (more ++ ds.flatten) := by
  obtain ⟨A, B, u, v, e1, e2⟩ := insM_split ha p more
  rw [e2, e1]
  rw [List.flatten_append, List.flatten_append, List.flatten_cons, List.flatten_cons]
  refine List.Perm.trans ?_ (List.perm_append_comm_assoc A.flatten more _)
  refine List.Perm.append_left _ ?_
  rw [← List.append_assoc more]
  refine List.Perm.append_right _ ?_
  rw [List.append_assoc]
  exact List.perm_append_comm_assoc u more v
theorem insM_len (ds : Drw) (a p : Nat) (more : List T3) : (insM ds a p more).length = ds.length := by unfold insM; rw [List.length_set]
structure BI (S : Nat) (ds : Drw) (H : List (Int × Int)) : Prop where
  len : ds.length = S
  db : DB ds H
  nm : ∀ c ∈ H, 1 ≤ c.1 ∧ c.1 ≤ 999
theorem row_le {ds : Drw} {H : List (Int × Int)} (h : DB ds H) (a : Nat) : (ds.getD a []).length ≤ 2 * H.length := by
  rw [← h.len]
  rw [List.getD_eq_getElem?_getD]
  cases e : ds[a]? with
  | none => simp
  | some r =>
    have := (List.sublist_flatten_of_mem (List.mem_of_getElem? e)).length_le
    exact this
theorem DB.two {ds : Drw} {H : List (Int × Int)} (h : DB ds H) {n hd : Int} (hn : n ∉ H.map (·.1)) (hh : hd = 1 ∨ hd = -1) {ds2 : Drw} (hp : ds2.flatten.Perm (⟨n, 0, hd⟩ :: ⟨n, 1, hd⟩ :: ds.flatten)) : DB ds2 (H ++ [(n, hd)]) := by
  refine ⟨?_, ?_, fun c hc => ?_⟩
  · rw [List.map_append]
    refine List.nodup_append.mpr ⟨h.nd, by simp, fun a ha b hb e => hn ?_⟩
    have : b = n := by simpa using hb
    rw [← this, ← e]; exact ha
  · have e := prs_snoc H (n, hd)
    unfold prs at e
    rw [e]
    refine hp.trans (((h.pm.cons _).cons _).trans ?_)
    exact List.perm_append_comm (l₁ := [_, _])
  · rcases List.mem_append.mp hc with hc | hc
    · exact h.hd c hc
    · rw [List.mem_singleton.mp hc]; exact hh
theorem pick_n (c p : Int) (m : Nat) (hp : 0 < p) (hm : 0 < m) : ∃ k : Nat, k < m ∧ F__law_pick [.int c, .int p, .int m] = .ok (.int k) := by
  have h0 := Int.emod_nonneg (c * 48271 % p) (b := (m : Int)) (by omega)
  have h1 := Int.emod_lt_of_pos (c * 48271 % p) (b := (m : Int)) (by omega)
  refine ⟨(c * 48271 % p % m).toNat, by omega, ?_⟩
  rw [pick c p m hp (by omega)]
  congr 2; omega
def BQ (k S : Nat) (d : D) : Prop := ∃ ds H, d = encD ds ∧ BI S ds H ∧ H.length = k

/-! ### the digits of a cell; the drawing that is built with them -/
abbrev primesD : D := .lst [.int 10007, .int 10009, .int 10037, .int 10039, .int 10061, .int 10067, .int 10069, .int 10079, .int 10091, .int 10093]
theorem prime_ix (i : Nat) (hi : i < 10) : ∃ p : Int, 0 < p ∧ gIx primesD (.int i) = .ok (.int p) := by
  match i, hi with
  | 0, _ => exact ⟨10007, by decide, rfl⟩
  | 1, _ => exact ⟨10009, by decide, rfl⟩
  | 2, _ => exact ⟨10037, by decide, rfl⟩
  | 3, _ => exact ⟨10039, by decide, rfl⟩
  | 4, _ => exact ⟨10061, by decide, rfl⟩
  | 5, _ => exact ⟨10067, by decide, rfl⟩
  | 6, _ => exact ⟨10069, by decide, rfl⟩
  | 7, _ => exact ⟨10079, by decide, rfl⟩
  | 8, _ => exact ⟨10091, by decide, rfl⟩
  | 9, _ => exact ⟨10093, by decide, rfl⟩
theorem digits_is (c : Int) (sizes : List Nat) (hl : sizes.length ≤ 10) (hs : ∀ s ∈ sizes, 1 ≤ s ∧ s ≤ 100000) : ∃ xs : List Nat, F__law_digits [.int c, .lst (sizes.map fun s : Nat => D.int s)] = .ok (.lst (xs.map fun x : Nat => D.int x)) ∧ xs.length = sizes.length ∧ ∀ (i x s : Nat), xs[i]? = some x → sizes[i]? = some s → x < s := by
  suffices Hs : Tells (F__law_digits [.int c, .lst (sizes.map fun s : Nat => D.int s)]) fun d => ∃ xs : List Nat, d = .lst (xs.map fun x : Nat => D.int x) ∧ xs.length = sizes.length ∧ ∀ (i x s : Nat), xs[i]? = some x → sizes[i]? = some s → x < s by
    obtain ⟨d, e, xs, rfl, h1, h2⟩ := Hs
    exact ⟨xs, e, h1, h2⟩
  have d2 := e_gFdv c 2 (by decide) (by decide)
  have m2 := e_gMod c 2 (by decide)
  simp only [F__law_digits, m__law_digits, runD]
  simp -implicitDefEqProofs [d2, enumD_map]
  generalize hPr : D.lst [.int 10007, .int 10009, .int 10037, .int 10039, .int 10061, .int 10067, .int 10069, .int 10079, .int 10091, .int 10093] = Pr
  refine loop_then (fun s : Int × List Nat => [some (0, .int c), some (0, .lst (sizes.map fun s : Nat => D.int s)), some (1, Pr), some (0, .int s.1), some (1, .lst (s.2.map fun x : Nat => D.int x)), none, none]) (fun x : Nat × Nat => D.tup [.int (x.2 : Nat), .int (x.1 : Nat)]) (fun i s => s.2.length = i ∧ ∀ (j x z : Nat), s.2[j]? = some x → sizes[j]? = some z → x < z) (sizes.zipIdx 0) (c / 2, []) rfl rfl ⟨rfl, fun j x z h => by simp at h⟩ ?_ ?_
  · rintro i ⟨left, xs⟩ ⟨sz, k⟩ hik ⟨hp1, hp2⟩
    dsimp only at hp1 hp2
    rw [List.getElem?_zipIdx] at hik
    obtain ⟨sz', h1, h2⟩ := Option.map_eq_some_iff.mp hik
    have hi := (List.getElem?_eq_some_iff.mp h1).1
    obtain ⟨rfl, rfl⟩ : sz' = sz ∧ 0 + i = k := by
      injection h2 with a b
      exact ⟨a, b⟩
    rw [Nat.zero_add]
    obtain ⟨s1, s2⟩ := hs sz' (List.mem_of_getElem? h1)
    have hz : xs.length < sizeLine := sizeLine_lt (by omega)
    have step : ∀ v : Nat, v < sz' → (xs ++ [v]).length = i + 1 ∧ ∀ (j x z : Nat), (xs ++ [v])[j]? = some x → sizes[j]? = some z → x < z := fun v hv => by
      refine ⟨by simp [hp1], fun j x z hj hz => ?_⟩
      by_cases hji : j < xs.length
      · rw [List.getElem?_append_left hji] at hj
        exact hp2 j x z hj hz
      · have hjl := (List.getElem?_eq_some_iff.mp hj).1
        rw [List.length_append, List.length_singleton] at hjl
        have hje : j = i := by omega
        subst hje
        rw [List.getElem?_append_right (by omega), hp1, Nat.sub_self] at hj
        rw [h1] at hz
        cases hj; cases hz
        exact hv
    by_cases hc : c % 2 = 0
    · obtain ⟨v, hv, hve⟩ : ∃ v : Nat, v < sz' ∧ left % (sz' : Int) = v := by
        have h0 := Int.emod_nonneg left (b := (sz' : Int)) (by omega)
        have h1 := Int.emod_lt_of_pos left (b := (sz' : Int)) (by omega)
        exact ⟨(left % (sz' : Int)).toNat, by omega, by omega⟩
      have mm := e_gMod left (sz' : Int) (by omega)
      have dd := e_gFdv left (sz' : Int) (by omega) (by omega)
      rw [hve] at mm
      refine ⟨(left / sz', xs ++ [v]), step v hv, ?_⟩
      simp -implicitDefEqProofs [m2, hc, mm, dd, hz]
    · obtain ⟨p, hp, hpe⟩ := prime_ix i (by omega)
      obtain ⟨v, hv, hve⟩ := pick_n c p sz' hp (by omega)
      have hpe' : gIx Pr (.int i) = .ok (.int p) := by rw [← hPr]; exact hpe
      refine ⟨(left, xs ++ [v]), step v hv, ?_⟩
      simp -implicitDefEqProofs [m2, hc, hpe', hve, hz]
  · rintro ⟨left, xs⟩ ⟨h1, h2⟩
    rw [List.length_zipIdx] at h1
    exact Tells.ok ⟨xs, rfl, h1, h2⟩
abbrev envD (cl : D) (S sp : Nat) (s : Drw × List (Int × Int)) (c : Int) (pt : D) (n : Int) : Mir.Env := [some (0, cl), some (0, .int S), some (0, .int sp), some (2, encD s.1), some (1, .lst ((s.2.map (·.1)).map D.int)), some (0, .int c), some (1, pt), some (0, .int n), none, none]
abbrev wayD : Mir.Env → Res Ctl := (mSet 3 2 [] (mCall 2 F__law_put (mConsA (mVar 3) (mConsA (mOp gIx (mVar 6) (mOp gAdd (mC (.int 2)) (mOp gMul (mC (.int 2)) (mVar 8)))) (mConsA (mOp gIx (mVar 6) (mOp gAdd (mC (.int 3)) (mOp gMul (mC (.int 2)) (mVar 8)))) (mConsA (mLst (mConsA (mImm (mTup (mConsE (mImm (mVar 7)) [] (mConsE (mImm (mVar 8)) [] (mConsE (mOp gSub (mC (.int 1)) (mOp gMul (mC (.int 2)) (mOp gIx (mVar 6) (mC (.int 1))))) [] mNilA))))) mNilA)) mNilA))))))
theorem wayD_step (cl : D) (S sp : Nat) (N : List (Int × Int)) (ds : Drw) (hds : ds.length = S) (hS2 : S ≤ 1000) (hr : ∀ a, (ds.getD a []).length ≤ 900) (n c hd : Int) (w : Int) (hw : w = 0 ∨ w = 1) {pt : D} {b a q : Nat} (ha : a < S)
    (p1 : gIx pt (.int 1) = .ok (.int b)) (hb : 1 - 2 * (b : Int) = hd) (p2 : gIx pt (.int (2 + 2 * w)) = .ok (.int a)) (p3 : gIx pt (.int (3 + 2 * w)) = .ok (.int q)) :
    ∃ p, (tName 8 0 (.int w) (envD cl S sp (ds, N) c pt n) >>= fun e => wayD e >>= stepc [8]) = .ok (envD cl S sp (insM ds a p [⟨n, w, hd⟩], N) c pt n) := by
  have m1 : gMul (.int 2) (.int w) = .ok (.int (2 * w)) := e_gMul _ _ (.inl (by decide))
  have m2 : gMul (.int 2) (.int (b : Int)) = .ok (.int (2 * (b : Int))) := e_gMul _ _ (.inl (by decide))
  have hput := put_is ds (by omega) a (by omega) q [⟨n, w, hd⟩] (by simp) (by have := hr a; omega)
  obtain ⟨p, hp⟩ : ∃ p, p = ((q : Int) % ((ds.getD a []).length + 1 : Nat)).toNat := ⟨_, rfl⟩
  rw [← hp] at hput
  refine ⟨p, ?_⟩
  have e3 : D.lst [D.tup [.int n, .int w, .int hd]] = .lst (([⟨n, w, hd⟩] : List T3).map t3) := rfl
  simp -implicitDefEqProofs [m1, m2, p1, p2, p3, hb]
  simp -implicitDefEqProofs only [e3]
  rw [hput]
  simp -implicitDefEqProofs
theorem nat6 {xs : List Nat} (h : xs.length = 6) : ∃ a b c d e f, xs = [a, b, c, d, e, f] := by
  match xs, h with
  | [a, b, c, d, e, f], _ => exact ⟨a, b, c, d, e, f, rfl⟩
theorem drawing_isD (cells : List Int) (hc : cells.length ≤ 14) (S : Nat) (hS1 : 1 ≤ S) (hS3 : S ≤ 3) (sp : Nat) (hsp : 1 ≤ sp ∧ sp ≤ 999) : ∃ ds H, F__law_drawing [.lst (cells.map D.int), .int S, .int sp] = .ok (encD ds) ∧ BI S ds H ∧ H.length = cells.length := by
  suffices Hs : Tells (F__law_drawing [.lst (cells.map D.int), .int S, .int sp]) (BQ cells.length S) by
    obtain ⟨d, e, ds, H, rfl, h1, h2⟩ := Hs
    exact ⟨ds, H, e, h1, h2⟩
  have hg := gRng1_d (n := S) (by omega)
  have hg2 : gRng1 (.int 2) = .ok [.int 0, .int 1] := by
    have := gRng1_d (n := 2) (by omega)
    exact this
  have l1 := lc_all (t := tName 9) (me := mLst mNilA) (fun i : Nat => D.int i) (fun _ => encR []) (List.range S) (env := [some (0, D.lst (cells.map D.int)), some (0, D.int S), some (0, D.int sp), none, none, none, none, none, none, none]) (fun a _ => by simp -implicitDefEqProofs [encR])
  have e1 : ((List.range S).map fun _ => encR []) = (List.replicate S ([] : List T3)).map encR := by rw [List.map_replicate]; simp [List.map_const']
  have sz1 : ((List.replicate S ([] : List T3)).map encR).length ≤ sizeLine := sizeLine_big (by simp; omega)
  simp only [F__law_drawing, m__law_drawing, runD]
  simp -implicitDefEqProofs [e_mLc, hg]
  rw [l1, ok_bind, e1, if_pos sz1, ok_bind, ofD]
  refine loop_then (fun s : Drw × List (Int × Int) => [some (0, .lst (cells.map D.int)), some (0, .int S), some (0, .int sp), some (2, encD s.1), some (1, .lst ((s.2.map (·.1)).map D.int)), none, none, none, none, none]) D.int (fun i s => BI S s.1 s.2 ∧ s.2.length = i) cells (List.replicate S [], []) rfl rfl ⟨⟨by simp, ⟨by simp, by simp, fun c hc => absurd hc List.not_mem_nil⟩, fun c hc => absurd hc List.not_mem_nil⟩, rfl⟩ ?_ ?_
  · intro i s c hcc hp
    obtain ⟨ds, H⟩ := s
    obtain ⟨hb, hl⟩ := hp
    dsimp only at hb hl
    have hi := (List.getElem?_eq_some_iff.mp hcc).1
    obtain ⟨xs, x1, x2, x3⟩ := digits_is c [sp, 2, S, 10000, S, 10000] (by show 6 ≤ 10; decide) (fun s hs => by
      simp only [List.mem_cons, List.not_mem_nil, or_false] at hs
      rcases hs with rfl | rfl | rfl | rfl | rfl | rfl <;> omega)
    obtain ⟨k, h2, a, q, b, r, rfl⟩ := nat6 x2
    have hk := x3 0 k sp rfl rfl
    have hh2 := x3 1 h2 2 rfl rfl
    have ha := x3 2 a S rfl rfl
    have hbS := x3 4 b S rfl rfl
    have x1' : F__law_digits [.int c, .lst [.int sp, .int 2, .int S, .int 10000, .int S, .int 10000]] = .ok (.lst [.int k, .int h2, .int a, .int q, .int b, .int r]) := x1
    obtain ⟨n, f1, f2, f3, f4⟩ := free_is (H.map (·.1)) (by simp; omega) (1 + (k : Int)) (by omega) (by omega)
    obtain ⟨hd, hhd⟩ : ∃ hd : Int, hd = 1 - 2 * (h2 : Int) := ⟨_, rfl⟩
    have hhd2 : hd = 1 ∨ hd = -1 := by omega
    generalize hPt : D.lst [.int k, .int h2, .int a, .int q, .int b, .int r] = pt at *
    have ipt : immAt 1 pt = true := by rw [← hPt]; rfl
    have g0 : gIx pt (.int 0) = .ok (.int k) := by rw [← hPt]; rfl
    have g1 : gIx pt (.int 1) = .ok (.int h2) := by rw [← hPt]; rfl
    have g2 : gIx pt (.int (2 + 2 * 0)) = .ok (.int a) := by rw [← hPt]; rfl
    have g3 : gIx pt (.int (3 + 2 * 0)) = .ok (.int q) := by rw [← hPt]; rfl
    have g4 : gIx pt (.int (2 + 2 * 1)) = .ok (.int b) := by rw [← hPt]; rfl
    have g5 : gIx pt (.int (3 + 2 * 1)) = .ok (.int r) := by rw [← hPt]; rfl
    have hr : ∀ a, (ds.getD a []).length ≤ 900 := fun a => by have := row_le hb.db a; omega
    obtain ⟨pp, w0⟩ := wayD_step (.lst (cells.map D.int)) S sp (H ++ [(n, hd)]) ds hb.len (by omega) hr n c hd 0 (.inl rfl) ha g1 hhd.symm g2 g3
    have hl1 : (insM ds a pp [⟨n, 0, hd⟩]).length = S := by rw [insM_len]; exact hb.len
    have hr1 : ∀ b, ((insM ds a pp [⟨n, 0, hd⟩]).getD b []).length ≤ 900 := fun b => by
      rw [List.getD_eq_getElem?_getD]
      cases e : (insM ds a pp [⟨n, 0, hd⟩])[b]? with
      | none => simp
      | some r =>
        have h1 := (List.sublist_flatten_of_mem (List.mem_of_getElem? e)).length_le
        have h2 := (insM_flat (by rw [hb.len]; omega : a < ds.length) pp [⟨n, 0, hd⟩]).length_eq
        have h3 := hb.db.len
        rw [List.length_append] at h2
        simp only [List.length_cons, List.length_nil] at h2
        show r.length ≤ 900
        omega
    obtain ⟨qq, w1⟩ := wayD_step (.lst (cells.map D.int)) S sp (H ++ [(n, hd)]) _ hl1 (by omega) hr1 n c hd 1 (.inr rfl) hbS g1 hhd.symm g4 g5
    have hflat : (insM (insM ds a pp [⟨n, 0, hd⟩]) b qq [⟨n, 1, hd⟩]).flatten.Perm (⟨n, 0, hd⟩ :: ⟨n, 1, hd⟩ :: ds.flatten) := by
      refine (insM_flat (by rw [hl1]; omega) qq _).trans ?_
      refine ((insM_flat (by rw [hb.len]; omega) pp _).cons _).trans ?_
      exact List.Perm.swap _ _ _
    refine ⟨(insM (insM ds a pp [⟨n, 0, hd⟩]) b qq [⟨n, 1, hd⟩], H ++ [(n, hd)]), ⟨⟨by rw [insM_len]; exact hl1, hb.db.two f2 hhd2 hflat, fun d hd' => ?_⟩, by simp [hl]⟩, ?_⟩
    · rcases List.mem_append.mp hd' with hd' | hd'
      · exact hb.nm d hd'
      · rw [List.mem_singleton.mp hd']; exact ⟨f3, f4⟩
    · have hloop : loop (tName 8) wayD [8] [.int 0, .int 1] (envD (.lst (cells.map D.int)) S sp (ds, H ++ [(n, hd)]) c pt n) = .ok (.nx (envD (.lst (cells.map D.int)) S sp (insM (insM ds a pp [⟨n, 0, hd⟩]) b qq [⟨n, 1, hd⟩], H ++ [(n, hd)]) c pt n)) := by
        rw [loop_step w0, loop_step w1]; rfl
      have hz : H.length < sizeLine := sizeLine_lt (by omega)
      unfold envD wayD at hloop
      simp -implicitDefEqProofs [x1', ipt, g0, hg2, hz]
      simp -implicitDefEqProofs at f1 hloop
      rw [f1]
      simp -implicitDefEqProofs [hloop]
  · intro s hp
    exact Tells.ok ⟨s.1, s.2, rfl, hp.1, hp.2⟩

/-! ### moves that add no crossing, as data -/
inductive Wd3 where
  | p | s | u
  deriving DecidableEq
def Wd3.str : Wd3 → Str
  | .p => Str.ofString "part"
  | .s => Str.ofString "slide"
  | .u => Str.ofString "uncurl"
def Wd3.ix : Wd3 → Nat
  | .p => 0
  | .s => 1
  | .u => 2
instance : Dat Wd3 where
  enc w := .str w.str
  lt a b := decide (a.ix < b.ix)
  dep := 1
  eqv a b := by cases a <;> cases b <;> decide +kernel
  alike a b := by cases a <;> cases b <;> decide +kernel
  lay a := by cases a <;> decide +kernel
  depth a := by cases a <;> decide +kernel
  dlt a b := by
    show PySem.W.dataLt (.str a.str) (.str b.str) = _
    rw [PySem.W.dataLt_str]
    cases a <;> cases b <;> decide +kernel
  nn a := by simp
  tot a b := by cases a <;> cases b <;> decide
  tr a b c := by cases a <;> cases b <;> cases c <;> decide
  asy a b := by cases a <;> cases b <;> decide
structure Lm where
  w : Wd3
  xs : List Int
  deriving DecidableEq
def lmE (m : Lm) : D := .tup (.str m.w.str :: m.xs.map D.int)
theorem Lm.eta (m : Lm) : m = ⟨m.w, m.xs⟩ := rfl
instance : Dat Lm where
  enc := lmE
  lt a b := if a.w = b.w then listLt Dat.lt a.xs b.xs else Dat.lt a.w b.w
  dep := 2
  eqv a b := by
    have h1 := Dat.eqv a.w b.w
    have h2 := eqvAll_enc a.xs b.xs
    show PyData.eqv (D.tup _).py (D.tup _).py = _
    simp only [D.py, pyAll, PyData.eqv, PyData.eqvAll]
    have e1 : (Dat.enc a.w : D).py = PyData.str a.w.str := by rw [show (Dat.enc a.w : D) = .str a.w.str from rfl, D.py]
    have e2 : (Dat.enc b.w : D).py = PyData.str b.w.str := by rw [show (Dat.enc b.w : D) = .str b.w.str from rfl, D.py]
    rw [e1, e2] at h1
    rw [show PyData.eqvAll (pyAll (a.xs.map D.int)) (pyAll (b.xs.map D.int)) = decide (a.xs = b.xs) from h2]
    have h1' : PyData.eqv (PyData.str a.w.str) (PyData.str b.w.str) = decide (a.w = b.w) := h1
    simp only [PyData.eqv] at h1'
    rw [h1']
    cases a; cases b
    rename_i w1 x1 w2 x2
    by_cases q1 : w1 = w2 <;> by_cases q2 : x1 = x2 <;> simp [q1, q2]
  alike a b := by
    have h2 := alikeAll_enc a.xs b.xs
    show PySem.W.alike (D.tup _).py (D.tup _).py = true
    simp only [D.py, pyAll, PySem.W.alike, PySem.W.alikeAll, Bool.true_and]
    exact h2
  lay a := by
    have h2 := layAll_enc a.xs
    have h1 := Dat.lay a.w
    show PyData.canLay0 (D.tup _).py = true
    simp only [D.py, pyAll, PyData.canLay0, PyData.canLayAll0, Bool.true_and, Bool.and_eq_true]
    have h1' : PyData.canLay0 (D.str a.w.str).py = true := h1
    simp only [D.py, PyData.canLay0] at h1'
    exact ⟨h1', h2⟩
  depth a := by
    have h2 := depthAll_enc a.xs
    show (D.tup _).py.depth ≤ 2
    simp only [D.py, pyAll, PyData.depth, PyData.depthAll]
    have h3 : PyData.depthAll (pyAll (a.xs.map D.int)) ≤ 1 := h2
    omega
  dlt a b := by
    show PySem.W.dataLt (D.tup _).py (D.tup _).py = _
    simp only [D.py, pyAll, PySem.W.dataLt_tuple]
    have h := consTok a.w b.w (pyAll (a.xs.map D.int)) (pyAll (b.xs.map D.int))
    have e1 : ∀ w : Wd3, (Dat.enc w : D).py = PyData.str w.str := fun w => by rw [show (Dat.enc w : D) = .str w.str from rfl, D.py]
    rw [e1, e1] at h
    rw [h]
    have h2 := lexAll_enc a.xs b.xs
    by_cases q : a.w = b.w
    · rw [if_pos q, if_pos q]; exact h2
    · rw [if_neg q, if_neg q]
  nn a := by simp [lmE]
  tot a b h1 h2 := by
    cases a with
    | mk a1 a2 =>
      cases b with
      | mk b1 b2 =>
        dsimp only at h1 h2
        by_cases e : a1 = b1
        · subst e
          rw [if_pos rfl] at h1 h2
          rw [listLt_tot Dat.tot _ _ h1 h2]
        · rw [if_neg e] at h1
          rw [if_neg (Ne.symm e)] at h2
          exact absurd (Dat.tot _ _ h1 h2) e
  tr a b c h1 h2 := by
    cases a with
    | mk a1 a2 =>
      cases b with
      | mk b1 b2 =>
        cases c with
        | mk c1 c2 =>
          dsimp only at h1 h2 ⊢
          by_cases e : a1 = b1
          · subst e
            rw [if_pos rfl] at h1
            by_cases e2 : a1 = c1
            · rw [if_pos e2] at h2 ⊢
              exact listLt_tr Dat.tr Dat.asy _ _ _ h1 h2
            · rw [if_neg e2] at h2 ⊢
              exact h2
          · rw [if_neg e] at h1
            by_cases e2 : b1 = c1
            · subst e2
              rw [if_neg e]; exact h1
            · rw [if_neg e2] at h2
              have h3 := Dat.tr _ _ _ h1 h2
              have e3 : a1 ≠ c1 := fun e => by
                subst e
                rw [Dat.asy _ _ h1] at h2
                cases h2
              rw [if_neg e3]; exact h3
  asy a b h1 := by
    cases a with
    | mk a1 a2 =>
      cases b with
      | mk b1 b2 =>
        dsimp only at h1 ⊢
        by_cases e : a1 = b1
        · subst e
          rw [if_pos rfl] at h1 ⊢
          exact listLt_asy Dat.asy _ _ h1
        · rw [if_neg e] at h1
          rw [if_neg (Ne.symm e)]
          exact Dat.asy _ _ h1
theorem gSort_Lm (xs : List Lm) : gSort (.lst (xs.map lmE)) = .ok (.lst ((sorted xs).map lmE)) := gSort_enc xs (by decide) (by
  unfold sortB
  rw [pyAll_map, List.map_map, Bool.or_eq_true]
  left
  rw [List.all_eq_true]
  intro d hd
  obtain ⟨x, _, rfl⟩ := List.mem_map.mp hd
  rfl)

/-! ### which moves fit -/
def nL (E : Drw) : List Int := sortI ((hnds E).map (·.1))
def sbB (E : Drw) (k l : Int × Int) : Bool := decide (nx E k = l) || decide (nx E l = k)
def ptB (E : Drw) (a b : Int) : Bool := if a = b ∨ hof E a = hof E b then false else sbB E (a, 0) (b, 0) && sbB E (a, 1) (b, 1)
section
variable {E : Drw}
theorem nL_pw (E : Drw) : (nL E).Pairwise (· < ·) := sortI_strict (pts_nodup (key := T3.a) (val := T3.c) E.flatten (p := []) List.nodup_nil)
theorem nL_mem (hd : Dr E) {n : Int} : n ∈ nL E ↔ Nm E n := by
  unfold nL
  rw [(sortI_perm _).mem_iff]
  constructor
  · intro h
    rcases (pts_mem (key := T3.a) (val := T3.c) E.flatten [] n).mp h with h | ⟨x, hx, e⟩
    · cases h
    · rw [← e]; exact hd.nm hx
  · intro h
    exact (pts_mem (key := T3.a) (val := T3.c) E.flatten [] n).mpr (.inr ⟨_, h.o, rfl⟩)
theorem nL_len (E : Drw) : (nL E).length = (hnds E).length := by
  unfold nL
  rw [(sortI_perm _).length_eq, List.length_map]
theorem gsD_is (E : Drw) (h : (hnds E).length < 64) : gSortD (encK D.int (hnds E)) = .ok (.lst ((nL E).map D.int)) := gSortD_K D.int (hnds E) h
theorem sb_is (hu : UK E) {x y : T3} (hx : x ∈ E.flatten) (hy : y ∈ E.flatten) : F_side_by_side [encK2 t2 (nxP E), t2 (ky x), t2 (ky y)] = .ok (.bl (sbB E (ky x) (ky y))) := by
  have d0 := nxlk_is hu hx
  have d1 := nxlk_is hu hy
  have q1 := gEq_pp (nx E (ky x)) (ky y)
  have q2 := gEq_pp (nx E (ky y)) (ky x)
  unfold sbB
  generalize decide (nx E (ky x) = ky y) = B1 at *
  generalize decide (nx E (ky y) = ky x) = B2 at *
  generalize encK2 t2 (nxP E) = K at *
  generalize t2 (nx E (ky x)) = TA at *
  generalize t2 (nx E (ky y)) = TB at *
  generalize t2 (ky x) = T0 at *
  generalize t2 (ky y) = T1 at *
  simp only [F_side_by_side, m_side_by_side, runD]
  cases B1 <;> simp -implicitDefEqProofs [d0, q1, d1, q2]
theorem sb4 {a b : Int} (na : Nm E a) (nb : Nm E b) {F : List D → Res D} (h : ∀ x y : T3, x ∈ E.flatten → y ∈ E.flatten → F [encK2 t2 (nxP E), t2 (ky x), t2 (ky y)] = .ok (.bl (sbB E (ky x) (ky y)))) : F [encK2 t2 (nxP E), .tup [.int a, .int 0], .tup [.int b, .int 0]] = .ok (.bl (sbB E (a, 0) (b, 0))) ∧ F [encK2 t2 (nxP E), .tup [.int a, .int 1], .tup [.int b, .int 1]] = .ok (.bl (sbB E (a, 1) (b, 1))) ∧ F [encK2 t2 (nxP E), .tup [.int a, .int 0], .tup [.int a, .int 1]] = .ok (.bl (sbB E (a, 0) (a, 1))) :=
  ⟨h ⟨a, 0, hof E a⟩ ⟨b, 0, hof E b⟩ na.o nb.o, h ⟨a, 1, hof E a⟩ ⟨b, 1, hof E b⟩ na.u nb.u, h ⟨a, 0, hof E a⟩ ⟨a, 1, hof E a⟩ na.o na.u⟩
theorem uncurls_is (hd : Dr E) {a : Int} (na : Nm E a) : F_uncurls [encK2 t2 (nxP E), .int a] = .ok (.bl (sbB E (a, 0) (a, 1))) := by
  have s := (sb4 na na (F := F_side_by_side) fun x y => sb_is hd.vd.uk).2.2
  have hz2 : (2 : Nat) ≤ sizeLine := by decide
  generalize encK2 t2 (nxP E) = K at *
  generalize sbB E (a, 0) (a, 1) = B at *
  simp only [F_uncurls, m_uncurls, runD]
  simp -implicitDefEqProofs [s, hz2]
theorem parts_is (hd : Dr E) {a b : Int} (na : Nm E a) (nb : Nm E b) : F_parts [encK2 t2 (nxP E), encK D.int (hnds E), .int a, .int b] = .ok (.bl (ptB E a b)) := by
  have s := sb4 na nb (F := F_side_by_side) fun x y => sb_is hd.vd.uk
  have s1 := s.1
  have s2 := s.2.1
  have d0 := gDGet_K D.int na.lk
  have d1 := gDGet_K D.int nb.lk
  have q1 := gEq_i a b
  have q2 := gEq_i (hof E a) (hof E b)
  have hz2 : (2 : Nat) ≤ sizeLine := by decide
  have e : ptB E a b = if a = b ∨ hof E a = hof E b then false else sbB E (a, 0) (b, 0) && sbB E (a, 1) (b, 1) := rfl
  rw [e]
  clear s
  generalize sbB E (a, 0) (b, 0) = B1 at *
  generalize sbB E (a, 1) (b, 1) = B2 at *
  generalize encK2 t2 (nxP E) = K at *
  generalize encK D.int (hnds E) = H at *
  generalize hof E a = ha at *
  generalize hof E b = hb at *
  simp only [F_parts, m_parts, runD]
  by_cases h1 : a = b
  · rw [decide_eq_true h1] at q1
    rw [if_pos (.inl h1)]
    simp -implicitDefEqProofs [q1, -e_gEq_int]
  · rw [decide_eq_false h1] at q1
    by_cases h2 : ha = hb
    · rw [decide_eq_true h2] at q2
      rw [if_pos (.inr h2)]
      simp -implicitDefEqProofs [q1, d0, d1, q2, -e_gEq_int]
    · rw [decide_eq_false h2] at q2
      rw [if_neg fun z => z.elim h1 h2]
      cases B1 <;> simp -implicitDefEqProofs [q1, d0, d1, q2, s1, s2, hz2, -e_gEq_int]
/-! the lists -/
def uL (E : Drw) : List Lm := flt (fun n => sbB E (n, 0) (n, 1)) (fun n => ⟨.u, [n]⟩) (nL E)
def pP (E : Drw) : List Lm := (nL E).zipIdx.flatMap fun x => flt (fun s => ptB E x.1 s) (fun s => ⟨.p, [x.1, s]⟩) ((nL E).drop (x.2 + 1))
def sOn (E : Drw) (a b t : Int) : List Lm := flt (fun c => slB E a b c t) (fun c => ⟨.s, [a, b, c, t]⟩) (nL E)
def sP (E : Drw) : List Lm := (nL E).flatMap fun n => if (nx E (n, 0)).2 = 0 then sOn E n (nx E (n, 0)).1 1 ++ sOn E (nx E (n, 0)).1 n (-1) else []
def pW (E : Drw) : List Lm := (nL E).flatMap fun a => flt (fun b => decide (a < b) && ptB E a b) (fun b => ⟨.p, [a, b]⟩) (nL E)
def sW (E : Drw) : List Lm := (nL E).flatMap fun a => (nL E).flatMap fun b => if sbB E (a, 0) (b, 0) then (nL E).flatMap fun c => flt (fun t => slB E a b c t) (fun t => ⟨.s, [a, b, c, t]⟩) [-1, 1] else []
def dueL (E : Drw) : List Lm := pW E ++ sW E ++ uL E
theorem slB_sb (E : Drw) {a b c t : Int} (ht : t = 1 ∨ t = -1) (h : slB E a b c t = true) : a ≠ b ∧ a ≠ c ∧ b ≠ c ∧ rbB E (a, 0) (b, 0) t = true := by
  unfold slB at h
  split at h
  · cases h
  · rename_i hn
    rw [Bool.and_eq_true] at h
    exact ⟨fun e => hn (.inl e), fun e => hn (.inr (.inl e)), fun e => hn (.inr (.inr e)), h.1⟩
theorem nx_name (hd : Dr E) {n : Int} (hn : Nm E n) (h : (nx E (n, 0)).2 = 0) : Nm E (nx E (n, 0)).1 ∧ nx E (n, 0) = ((nx E (n, 0)).1, 0) := by
  obtain ⟨y, hy⟩ := Rl.next hn.o
  have e : nx E (n, 0) = ky y := rl_nx hd.vd.uk hy
  rw [e] at h ⊢
  exact ⟨hd.nm hy.right, by rw [← h]⟩
theorem mem_uL (hd : Dr E) {m : Lm} : m ∈ uL E ↔ ∃ n, Nm E n ∧ sbB E (n, 0) (n, 1) = true ∧ m = ⟨.u, [n]⟩ := by
  unfold uL
  rw [flt_mem]
  exact ⟨fun ⟨n, h1, h2, h3⟩ => ⟨n, (nL_mem hd).mp h1, h2, h3.symm⟩, fun ⟨n, h1, h2, h3⟩ => ⟨n, (nL_mem hd).mpr h1, h2, h3.symm⟩⟩
theorem mem_pW (hd : Dr E) {m : Lm} : m ∈ pW E ↔ ∃ a b, Nm E a ∧ Nm E b ∧ a < b ∧ ptB E a b = true ∧ m = ⟨.p, [a, b]⟩ := by
  unfold pW
  rw [List.mem_flatMap]
  constructor
  · rintro ⟨a, ha, h⟩
    obtain ⟨b, hb, hp, rfl⟩ := flt_mem.mp h
    rw [Bool.and_eq_true, decide_eq_true_eq] at hp
    exact ⟨a, b, (nL_mem hd).mp ha, (nL_mem hd).mp hb, hp.1, hp.2, rfl⟩
  · rintro ⟨a, b, ha, hb, hl, hp, rfl⟩
    exact ⟨a, (nL_mem hd).mpr ha, flt_mem.mpr ⟨b, (nL_mem hd).mpr hb, by rw [Bool.and_eq_true, decide_eq_true_eq]; exact ⟨hl, hp⟩, rfl⟩⟩
theorem mem_pP (hd : Dr E) {m : Lm} : m ∈ pP E ↔ ∃ a b, Nm E a ∧ Nm E b ∧ a < b ∧ ptB E a b = true ∧ m = ⟨.p, [a, b]⟩ := by
  have hp := nL_pw E
  unfold pP
  rw [List.mem_flatMap]
  constructor
  · rintro ⟨⟨a, i⟩, hx, h⟩
    obtain ⟨b, hb, hpt, rfl⟩ := flt_mem.mp h
    obtain ⟨j, hj⟩ := List.mem_iff_getElem?.mp hb
    rw [List.getElem?_drop] at hj
    have hi := List.mem_zipIdx_iff_getElem?.mp hx
    have hlt : a < b := by
      obtain ⟨h1, e1⟩ := List.getElem?_eq_some_iff.mp hi
      obtain ⟨h2, e2⟩ := List.getElem?_eq_some_iff.mp hj
      have := List.pairwise_iff_getElem.mp hp i (i + 1 + j) h1 h2 (by omega)
      rw [e1, e2] at this
      exact this
    exact ⟨a, b, (nL_mem hd).mp (List.mem_of_getElem? hi), (nL_mem hd).mp (List.mem_of_getElem? hj), hlt, hpt, rfl⟩
  · rintro ⟨a, b, ha, hb, hl, hpt, rfl⟩
    obtain ⟨i, hi⟩ := List.mem_iff_getElem?.mp ((nL_mem hd).mpr ha)
    obtain ⟨j, hj⟩ := List.mem_iff_getElem?.mp ((nL_mem hd).mpr hb)
    have hij : i < j := by
      obtain ⟨h1, e1⟩ := List.getElem?_eq_some_iff.mp hi
      obtain ⟨h2, e2⟩ := List.getElem?_eq_some_iff.mp hj
      rcases Nat.lt_trichotomy i j with h | h | h
      · exact h
      · subst h
        have : (nL E)[i] = (nL E)[i] := rfl
        rw [hi] at hj
        have := Option.some.inj hj
        omega
      · have := List.pairwise_iff_getElem.mp hp j i h2 h1 h
        rw [e1, e2] at this
        omega
    exact ⟨(a, i), List.mem_zipIdx_iff_getElem?.mpr hi, flt_mem.mpr ⟨b, List.mem_iff_getElem?.mpr ⟨j - (i + 1), by rw [List.getElem?_drop, show i + 1 + (j - (i + 1)) = j by omega]; exact hj⟩, hpt, rfl⟩⟩
def SlFit (E : Drw) (m : Lm) : Prop := ∃ a b c t, Nm E a ∧ Nm E b ∧ Nm E c ∧ (t = 1 ∨ t = -1) ∧ slB E a b c t = true ∧ m = ⟨.s, [a, b, c, t]⟩
theorem mem_sW (hd : Dr E) {m : Lm} : m ∈ sW E ↔ SlFit E m := by
  unfold sW
  rw [List.mem_flatMap]
  constructor
  · rintro ⟨a, ha, h⟩
    obtain ⟨b, hb, h⟩ := List.mem_flatMap.mp h
    split at h
    · obtain ⟨c, hc, h⟩ := List.mem_flatMap.mp h
      obtain ⟨t, ht, hp, rfl⟩ := flt_mem.mp h
      exact ⟨a, b, c, t, (nL_mem hd).mp ha, (nL_mem hd).mp hb, (nL_mem hd).mp hc, by simp at ht; exact ht.symm, hp, rfl⟩
    · cases h
  · rintro ⟨a, b, c, t, ha, hb, hc, ht, hp, rfl⟩
    refine ⟨a, (nL_mem hd).mpr ha, List.mem_flatMap.mpr ⟨b, (nL_mem hd).mpr hb, ?_⟩⟩
    have hr := (slB_sb E ht hp).2.2.2
    have hs : sbB E (a, 0) (b, 0) = true := by
      unfold sbB
      unfold rbB at hr
      rw [Bool.or_eq_true]
      split at hr
      · exact .inl hr
      · exact .inr hr
    rw [if_pos hs]
    exact List.mem_flatMap.mpr ⟨c, (nL_mem hd).mpr hc, flt_mem.mpr ⟨t, by rcases ht with rfl | rfl <;> simp, hp, rfl⟩⟩
theorem mem_sP (hd : Dr E) {m : Lm} : m ∈ sP E ↔ SlFit E m := by
  unfold sP
  rw [List.mem_flatMap]
  constructor
  · rintro ⟨n, hn, h⟩
    have nn := (nL_mem hd).mp hn
    split at h
    · rename_i h2
      have nb := (nx_name hd nn h2).1
      rcases List.mem_append.mp h with h | h
      · obtain ⟨c, hc, hp, rfl⟩ := flt_mem.mp h
        exact ⟨_, _, c, 1, nn, nb, (nL_mem hd).mp hc, .inl rfl, hp, rfl⟩
      · obtain ⟨c, hc, hp, rfl⟩ := flt_mem.mp h
        exact ⟨_, _, c, -1, nb, nn, (nL_mem hd).mp hc, .inr rfl, hp, rfl⟩
    · cases h
  · rintro ⟨a, b, c, t, ha, hb, hc, ht, hp, rfl⟩
    have hr := (slB_sb E ht hp).2.2.2
    unfold rbB at hr
    rcases ht with rfl | rfl
    · rw [if_pos rfl, decide_eq_true_eq] at hr
      refine ⟨a, (nL_mem hd).mpr ha, ?_⟩
      rw [hr, if_pos rfl]
      exact List.mem_append.mpr (.inl (flt_mem.mpr ⟨c, (nL_mem hd).mpr hc, hp, rfl⟩))
    · rw [if_neg (by decide), decide_eq_true_eq] at hr
      refine ⟨b, (nL_mem hd).mpr hb, ?_⟩
      rw [hr, if_pos rfl]
      exact List.mem_append.mpr (.inr (flt_mem.mpr ⟨c, (nL_mem hd).mpr hc, hp, rfl⟩))
/-! rising -/
theorem pw_flatMap {α β : Type} {R : β → β → Prop} {S : α → α → Prop} {f : α → List β} : ∀ {xs : List α}, xs.Pairwise S → (∀ a ∈ xs, (f a).Pairwise R) → (∀ a b, S a b → ∀ x ∈ f a, ∀ y ∈ f b, R x y) → (xs.flatMap f).Pairwise R
  | [], _, _, _ => List.Pairwise.nil
  | x :: xs, h, h1, h2 => by
    rw [List.pairwise_cons] at h
    rw [List.flatMap_cons, List.pairwise_append]
    refine ⟨h1 x List.mem_cons_self, pw_flatMap h.2 (fun a ha => h1 a (List.mem_cons_of_mem _ ha)) h2, fun u hu v hv => ?_⟩
    obtain ⟨b, hb, hv⟩ := List.mem_flatMap.mp hv
    exact h2 x b (h.1 b hb) u hu v hv
theorem pw_flt {α β : Type} {R : β → β → Prop} {S : α → α → Prop} {p : α → Bool} {f : α → β} {xs : List α} (h : xs.Pairwise S) (h2 : ∀ a b, S a b → R (f a) (f b)) : (flt p f xs).Pairwise R := by
  refine pw_flatMap h (fun a _ => ?_) (fun a b hs x hx y hy => ?_)
  · split
    · exact List.pairwise_singleton _ _
    · exact List.Pairwise.nil
  · split at hx
    · split at hy
      · rw [List.mem_singleton.mp hx, List.mem_singleton.mp hy]; exact h2 a b hs
      · cases hy
    · cases hx
theorem ltI {a b : Int} (h : a < b) : (Dat.lt a b : Bool) = true := decide_eq_true h
theorem lm_lt {w : Wd3} {xs ys : List Int} (h : listLt (Dat.lt (α := Int)) xs ys = true) : (Dat.lt (⟨w, xs⟩ : Lm) ⟨w, ys⟩ : Bool) = true := by
  show (if w = w then listLt Dat.lt xs ys else _) = true
  rw [if_pos rfl]; exact h
theorem lm_ltw {w v : Wd3} {xs ys : List Int} (h : (Dat.lt w v : Bool) = true) (hn : w ≠ v) : (Dat.lt (⟨w, xs⟩ : Lm) ⟨v, ys⟩ : Bool) = true := by
  show (if w = v then listLt Dat.lt xs ys else Dat.lt w v) = true
  rw [if_neg hn]; exact h
theorem ll_hd {a b : Int} {xs ys : List Int} (h : a < b) : listLt (Dat.lt (α := Int)) (a :: xs) (b :: ys) = true := by
  show (if a = b then _ else Dat.lt a b) = true
  rw [if_neg (by omega)]; exact ltI h
theorem ll_tl {a : Int} {xs ys : List Int} (h : listLt (Dat.lt (α := Int)) xs ys = true) : listLt (Dat.lt (α := Int)) (a :: xs) (a :: ys) = true := by
  show (if a = a then _ else Dat.lt a a) = true
  rw [if_pos rfl]; exact h
theorem uL_pw (E : Drw) : (uL E).Pairwise fun a b => (Dat.lt a b : Bool) = true := pw_flt (nL_pw E) fun a b h => lm_lt (ll_hd h)
theorem pW_pw (E : Drw) : (pW E).Pairwise fun a b => (Dat.lt a b : Bool) = true := pw_flatMap (nL_pw E) (fun a _ => pw_flt (nL_pw E) fun b c h => lm_lt (ll_tl (ll_hd h))) fun a b h x hx y hy => by
  obtain ⟨_, _, _, rfl⟩ := flt_mem.mp hx
  obtain ⟨_, _, _, rfl⟩ := flt_mem.mp hy
  exact lm_lt (ll_hd h)
theorem sW_pw (E : Drw) : (sW E).Pairwise fun a b => (Dat.lt a b : Bool) = true := by
  refine pw_flatMap (nL_pw E) (fun a _ => pw_flatMap (nL_pw E) (fun b _ => ?_) fun b b' h x hx y hy => ?_) fun a a' h x hx y hy => ?_
  · split
    · refine pw_flatMap (nL_pw E) (fun c _ => pw_flt (S := (· < ·)) (by simp) fun t t' h => lm_lt (ll_tl (ll_tl (ll_tl (ll_hd h))))) fun c c' h x hx y hy => ?_
      obtain ⟨_, _, _, rfl⟩ := flt_mem.mp hx
      obtain ⟨_, _, _, rfl⟩ := flt_mem.mp hy
      exact lm_lt (ll_tl (ll_tl (ll_hd h)))
    · exact List.Pairwise.nil
  · split at hx
    · split at hy
      · obtain ⟨_, _, hx⟩ := List.mem_flatMap.mp hx
        obtain ⟨_, _, hy⟩ := List.mem_flatMap.mp hy
        obtain ⟨_, _, _, rfl⟩ := flt_mem.mp hx
        obtain ⟨_, _, _, rfl⟩ := flt_mem.mp hy
        exact lm_lt (ll_tl (ll_hd h))
      · cases hy
    · cases hx
  · obtain ⟨_, _, hx⟩ := List.mem_flatMap.mp hx
    obtain ⟨_, _, hy⟩ := List.mem_flatMap.mp hy
    split at hx
    · split at hy
      · obtain ⟨_, _, hx⟩ := List.mem_flatMap.mp hx
        obtain ⟨_, _, hy⟩ := List.mem_flatMap.mp hy
        obtain ⟨_, _, _, rfl⟩ := flt_mem.mp hx
        obtain ⟨_, _, _, rfl⟩ := flt_mem.mp hy
        exact lm_lt (ll_hd h)
      · cases hy
    · cases hx
theorem due_pw (hd : Dr E) : (dueL E).Pairwise fun a b => (Dat.lt a b : Bool) = true := by
  unfold dueL
  rw [List.pairwise_append, List.pairwise_append]
  refine ⟨⟨pW_pw E, sW_pw E, fun x hx y hy => ?_⟩, uL_pw E, fun x hx y hy => ?_⟩
  · obtain ⟨_, _, _, _, _, _, rfl⟩ := (mem_pW hd).mp hx
    obtain ⟨_, _, _, _, _, _, _, _, _, rfl⟩ := (mem_sW hd).mp hy
    exact lm_ltw (by decide) (by decide)
  · obtain ⟨_, _, _, rfl⟩ := (mem_uL hd).mp hy
    rcases List.mem_append.mp hx with hx | hx
    · obtain ⟨_, _, _, _, _, _, rfl⟩ := (mem_pW hd).mp hx
      exact lm_ltw (by decide) (by decide)
    · obtain ⟨_, _, _, _, _, _, _, _, _, rfl⟩ := (mem_sW hd).mp hx
      exact lm_ltw (by decide) (by decide)
theorem nd_of_pw {xs : List Lm} (h : xs.Pairwise fun a b => (Dat.lt a b : Bool) = true) : xs.Nodup := h.imp fun {a b} h e => by
  subst e
  rw [Dat.irr] at h; cases h
theorem pP_nd (E : Drw) : (pP E).Nodup := by
  refine pw_flatMap (S := fun x y : Int × Nat => x.1 < y.1) ?_ (fun x _ => pw_flt ((nL_pw E).sublist (List.drop_sublist _ _)) fun b c h e => ?_) fun x y h u hu v hv e => ?_
  · have h := nL_pw E
    rw [List.pairwise_iff_getElem] at h ⊢
    intro i j hi hj hij
    rw [List.getElem_zipIdx, List.getElem_zipIdx]
    exact h i j (by rw [List.length_zipIdx] at hi; exact hi) (by rw [List.length_zipIdx] at hj; exact hj) hij
  · have := congrArg Lm.xs e
    simp at this
    omega
  · obtain ⟨_, _, _, rfl⟩ := flt_mem.mp hu
    obtain ⟨_, _, _, rfl⟩ := flt_mem.mp hv
    have := congrArg Lm.xs e
    simp at this
    omega
theorem sP_nd (E : Drw) : (sP E).Nodup := by
  have on : ∀ a b t, (sOn E a b t).Nodup := fun a b t => pw_flt (nL_pw E) fun c d h e => by
    have := congrArg Lm.xs e
    simp at this
    omega
  refine pw_flatMap (nL_pw E) (fun n _ => ?_) fun n n' h u hu v hv e => ?_
  · split
    · rw [List.pairwise_append]
      refine ⟨on _ _ _, on _ _ _, fun u hu v hv e => ?_⟩
      obtain ⟨_, _, _, rfl⟩ := flt_mem.mp hu
      obtain ⟨_, _, _, rfl⟩ := flt_mem.mp hv
      have := congrArg Lm.xs e
      simp at this
    · exact List.Pairwise.nil
  · split at hu
    · split at hv
      · rcases List.mem_append.mp hu with hu | hu <;> rcases List.mem_append.mp hv with hv | hv <;> obtain ⟨_, _, _, rfl⟩ := flt_mem.mp hu <;> obtain ⟨_, _, _, rfl⟩ := flt_mem.mp hv <;> have := congrArg Lm.xs e <;> simp at this <;> omega
      · cases hv
    · cases hu
theorem due_perm (hd : Dr E) : (uL E ++ pP E ++ sP E).Perm (dueL E) := by
  have h1 : (pP E).Perm (pW E) := (List.perm_ext_iff_of_nodup (pP_nd E) (nd_of_pw (pW_pw E))).mpr fun m => (mem_pP hd).trans (mem_pW hd).symm
  have h2 : (sP E).Perm (sW E) := (List.perm_ext_iff_of_nodup (sP_nd E) (nd_of_pw (sW_pw E))).mpr fun m => (mem_sP hd).trans (mem_sW hd).symm
  unfold dueL
  refine ((h1.append_left _).append h2).trans ?_
  rw [List.append_assoc]
  exact List.perm_append_comm
theorem due_sorted (hd : Dr E) : sorted (uL E ++ pP E ++ sP E) = dueL E := sorted_eq (due_perm hd) ((due_pw hd).imp fun h => Dat.asy _ _ h)
end

/-! ### which moves fit, walked -/
def encM (ms : List Lm) : D := .lst (ms.map lmE)
theorem encM_app (xs ys : List Lm) : encM (xs ++ ys) = .lst (xs.map lmE ++ ys.map lmE) := by unfold encM; simp
theorem immM (ms : List Lm) : immAll (ms.map lmE) = true := by
  rw [e_immAll_map, List.all_eq_true]
  intro m _
  show immAll _ = true
  rw [e_immAll_cons]
  simp
theorem immAtM (ms : List Lm) : immAt 1 (encM ms) = true := by
  show immAt 1 (.lst _) = true
  unfold immAt
  rw [immAtL0]; exact immM ms
section
variable {E : Drw}
theorem uncurlsof_is (hd : Dr E) (h12 : (hnds E).length ≤ 12) : F_uncurls_of [encK2 t2 (nxP E), .lst ((nL E).map D.int)] = .ok (encM (uL E)) := by
  have hl := nL_len E
  obtain ⟨N, hN⟩ : ∃ N, N = D.lst ((nL E).map D.int) := ⟨_, rfl⟩
  have hi : itemsL N = .ok ((nL E).map D.int) := by rw [hN]; rfl
  rw [← hN]
  have hlc := lc_run (t := tName 2) (mt := mTb (mCall 0 F_uncurls (mConsA (mVar 0) (mConsA (mVar 2) mNilA)))) (me := mImm (mTup (mConsE (mC (.str (Str.ofString "uncurl"))) [] (mConsE (mImm (mVar 2)) [] mNilA)))) (env := [some (0, encK2 t2 (nxP E)), some (0, N), none]) D.int (fun n => sbB E (n, 0) (n, 1)) (fun n => lmE ⟨.u, [n]⟩) (nL E) (fun n hn => by
    have hu := uncurls_is hd ((nL_mem hd).mp hn)
    have e : lmE ⟨.u, [n]⟩ = .tup [.str (Str.ofString "uncurl"), .int n] := rfl
    have hz2 : (2 : Nat) ≤ sizeLine := by decide
    refine ⟨[some (0, encK2 t2 (nxP E)), some (0, N), some (0, .int n)], rfl, ?_, fun _ => ?_⟩
    · generalize sbB E (n, 0) (n, 1) = B at *
      generalize encK2 t2 (nxP E) = K at *
      simp -implicitDefEqProofs [hu]
    · rw [e]
      generalize encK2 t2 (nxP E) = K at *
      simp -implicitDefEqProofs [hz2])
  have eU : encM (uL E) = .lst (((nL E).filter fun n => sbB E (n, 0) (n, 1)).map fun n => lmE ⟨.u, [n]⟩) := by
    unfold encM uL
    rw [flt_eq, List.map_map]; rfl
  have hz : (((nL E).filter fun n => sbB E (n, 0) (n, 1)).map fun n => lmE ⟨.u, [n]⟩).length ≤ sizeLine := sizeLine_big (by
    rw [List.length_map]
    have := List.length_filter_le (fun n => sbB E (n, 0) (n, 1)) (nL E)
    omega)
  have i1 := immAtM (uL E)
  rw [eU] at i1 ⊢
  generalize (((nL E).filter fun n => sbB E (n, 0) (n, 1)).map fun n => lmE ⟨.u, [n]⟩) = R at *
  generalize encK2 t2 (nxP E) = K at *
  generalize (nL E).map D.int = NL at *
  simp only [F_uncurls_of, m_uncurls_of, runD]
  simp -implicitDefEqProofs [e_mLc, hi, hlc, hz]
theorem partsof_is (hd : Dr E) (h12 : (hnds E).length ≤ 12) : F_parts_of [encK2 t2 (nxP E), encK D.int (hnds E), .lst ((nL E).map D.int)] = .ok (encM (pP E)) := by
  have hl := nL_len E
  obtain ⟨N, hN⟩ : ∃ N, N = D.lst ((nL E).map D.int) := ⟨_, rfl⟩
  have hi : itemsL N = .ok ((nL E).map D.int) := by rw [hN]; rfl
  have hin : immAll ((nL E).map D.int) = true := by simp
  rw [← hN]
  obtain ⟨K, hK⟩ : ∃ K, K = encK2 t2 (nxP E) := ⟨_, rfl⟩
  obtain ⟨H, hH⟩ : ∃ H, H = encK D.int (hnds E) := ⟨_, rfl⟩
  have hpt : ∀ a b : Int, a ∈ nL E → b ∈ nL E → F_parts [K, H, .int a, .int b] = .ok (.bl (ptB E a b)) := fun a b ha hb => by
    rw [hK, hH]
    exact parts_is hd ((nL_mem hd).mp ha) ((nL_mem hd).mp hb)
  rw [← hK, ← hH]
  have hz3 : (3 : Nat) ≤ sizeLine := by decide
  refine Tells.eq ?_
  simp only [F_parts_of, m_parts_of, runD]
  refine t_seq (e := [some (0, K), some (0, H), some (0, N), some (1, encM []), none, none, none]) (by simp -implicitDefEqProofs [encM]) ?_
  refine t_seq (e := [some (0, K), some (0, H), some (0, N), some (1, encM (pP E)), none, none, none]) (by
    refine for_appF (fun q : List Lm => [some (0, K), some (0, H), some (0, N), some (1, encM q), none, none, none]) (fun x : Int × Nat => D.tup [.int (x.2 : Nat), .int x.1]) (fun x => flt (fun s => ptB E x.1 s) (fun s => ⟨.p, [x.1, s]⟩) ((nL E).drop (x.2 + 1))) 12 1000 (nL E).zipIdx [] ?_ rfl rfl (fun x _ => by
        have := flt_len (fun s => ptB E x.1 s) (fun s => (⟨.p, [x.1, s]⟩ : Lm)) ((nL E).drop (x.2 + 1))
        rw [List.length_drop] at this
        omega) (by rw [List.length_zipIdx, List.length_nil]; omega) ?_
    · generalize encM [] = M0 at *
      have := enumD_map D.int (nL E) 0
      rw [← this]
      generalize (nL E).map D.int = NL at *
      simp -implicitDefEqProofs [hi]
    · rintro ⟨a, i⟩ hx acc hacc
      have hai := List.mem_zipIdx_iff_getElem?.mp hx
      have ha := List.mem_of_getElem? hai
      have hil := (List.getElem?_eq_some_iff.mp hai).1
      have hc := cutD_from D.int (nL E) (i + 1) (by dsimp only at hil; omega)
      refine step_of (e1 := [some (0, K), some (0, H), some (0, N), some (1, encM acc), some (0, .int (i : Nat)), some (0, .int a), none]) (e2 := [some (0, K), some (0, H), some (0, N), some (1, encM (acc ++ flt (fun s => ptB E a s) (fun s => ⟨.p, [a, s]⟩) ((nL E).drop (i + 1)))), some (0, .int (i : Nat)), some (0, .int a), none]) rfl ?_ rfl
      refine for_appF (fun q : List Lm => [some (0, K), some (0, H), some (0, N), some (1, encM q), some (0, .int (i : Nat)), some (0, .int a), none]) D.int (fun s => if ptB E a s then [⟨.p, [a, s]⟩] else []) 1 2000 ((nL E).drop (i + 1)) acc ?_ rfl rfl (fun s _ => by split <;> simp) (by rw [List.length_drop]; omega) ?_
      · rw [show ((i + 1 : Nat) : Int) = (i : Int) + 1 by omega] at hc
        generalize ((nL E).drop (i + 1)).map D.int = DL at *
        generalize (nL E).map D.int = NL at *
        generalize encM acc = M0 at *
        simp -implicitDefEqProofs [hi, immL, hin, mSlice, hc]
      · intro s hs q hq
        have hp := hpt a s ha (List.mem_of_mem_drop hs)
        have e1 : lmE ⟨.p, [a, s]⟩ = .tup [.str (Str.ofString "part"), .int a, .int s] := rfl
        have e5 : encM (q ++ [⟨.p, [a, s]⟩]) = .lst (q.map lmE ++ [lmE ⟨.p, [a, s]⟩]) := encM_app _ _
        have e6 : encM q = .lst (q.map lmE) := rfl
        have hzq : (q.map lmE).length < sizeLine := sizeLine_lt (by rw [List.length_map]; omega)
        show (tName 6 0 (.int s) [some (0, K), some (0, H), some (0, N), some (1, encM q), some (0, .int (i : Nat)), some (0, .int a), none] >>= fun e => _) = .ok [some (0, K), some (0, H), some (0, N), some (1, encM (q ++ if ptB E a s = true then [⟨.p, [a, s]⟩] else [])), some (0, .int (i : Nat)), some (0, .int a), none]
        cases hb : ptB E a s with
        | true =>
          rw [hb] at hp
          rw [if_pos rfl, e5, e6, e1]
          generalize q.map lmE = QL at *
          simp -implicitDefEqProofs [hp, hz3, hzq]
        | false =>
          rw [hb] at hp
          rw [if_neg (by decide), List.append_nil]
          generalize encM q = QL at *
          simp -implicitDefEqProofs [hp]) ?_
  refine Tells.eqI ?_
  have i1 := immAtM (pP E)
  generalize encM (pP E) = Q at *
  simp -implicitDefEqProofs [i1]
theorem slideson_is (hd : Dr E) (h12 : (hnds E).length ≤ 12) {a b t : Int} (na : Nm E a) (nb : Nm E b) (ht : t = 1 ∨ t = -1) : F_slides_on [encK2 t2 (nxP E), encK D.int (hnds E), .tup [.int a, .int b], .int t] = .ok (encM (sOn E a b t)) := by
  have hl := nL_len E
  have hg := gsD_is E (by omega)
  obtain ⟨K, hK⟩ : ∃ K, K = encK2 t2 (nxP E) := ⟨_, rfl⟩
  obtain ⟨H, hH⟩ : ∃ H, H = encK D.int (hnds E) := ⟨_, rfl⟩
  have hs : ∀ c : Int, c ∈ nL E → F_slides [K, H, .lst [.int a, .int b, .int c], .int t] = .ok (.bl (slB E a b c t)) := fun c hc => by
    rw [hK, hH]
    exact slides_is hd na nb ((nL_mem hd).mp hc) ht
  rw [← hH] at hg
  rw [← hK, ← hH]
  have hz3 : (3 : Nat) ≤ sizeLine := by decide
  have hz5 : (5 : Nat) ≤ sizeLine := by decide
  obtain ⟨P, hP⟩ : ∃ P, P = D.tup [.int a, .int b] := ⟨_, rfl⟩
  have x0 : gIx P (.int 0) = .ok (.int a) := by rw [hP]; rfl
  have x1 : gIx P (.int 1) = .ok (.int b) := by rw [hP]; rfl
  rw [← hP]
  refine Tells.eq ?_
  simp only [F_slides_on, m_slides_on, runD]
  refine t_seq (e := [some (0, K), some (0, H), some (0, P), some (0, .int t), some (1, encM []), none]) (by simp -implicitDefEqProofs [encM]) ?_
  refine t_seq (e := [some (0, K), some (0, H), some (0, P), some (0, .int t), some (1, encM (sOn E a b t)), none]) (by
    refine for_appF (fun q : List Lm => [some (0, K), some (0, H), some (0, P), some (0, .int t), some (1, encM q), none]) D.int (fun c => if slB E a b c t then [⟨.s, [a, b, c, t]⟩] else []) 1 2000 (nL E) [] ?_ rfl rfl (fun s _ => by split <;> simp) (by rw [List.length_nil]; omega) ?_
    · generalize (nL E).map D.int = NL at *
      generalize encM [] = M0 at *
      simp -implicitDefEqProofs [hg]
    · intro c hc q hq
      have hp := hs c hc
      have e1 : lmE ⟨.s, [a, b, c, t]⟩ = .tup [.str (Str.ofString "slide"), .int a, .int b, .int c, .int t] := rfl
      have e5 : encM (q ++ [⟨.s, [a, b, c, t]⟩]) = .lst (q.map lmE ++ [lmE ⟨.s, [a, b, c, t]⟩]) := encM_app _ _
      have e6 : encM q = .lst (q.map lmE) := rfl
      have hzq : (q.map lmE).length < sizeLine := sizeLine_lt (by rw [List.length_map]; omega)
      show (tName 5 0 (.int c) [some (0, K), some (0, H), some (0, P), some (0, .int t), some (1, encM q), none] >>= fun e => _) = .ok [some (0, K), some (0, H), some (0, P), some (0, .int t), some (1, encM (q ++ if slB E a b c t = true then [⟨.s, [a, b, c, t]⟩] else [])), none]
      cases hb : slB E a b c t with
      | true =>
        rw [hb] at hp
        rw [if_pos rfl, e5, e6, e1]
        generalize q.map lmE = QL at *
        simp -implicitDefEqProofs [hp, x0, x1, hz3, hz5, hzq]
      | false =>
        rw [hb] at hp
        rw [if_neg (by decide), List.append_nil]
        generalize encM q = QL at *
        simp -implicitDefEqProofs [hp, x0, x1, hz3]) ?_
  refine Tells.eqI ?_
  have i1 := immAtM (sOn E a b t)
  generalize encM (sOn E a b t) = Q at *
  simp -implicitDefEqProofs [i1]
theorem sOn_len (E : Drw) (a b t : Int) : (sOn E a b t).length ≤ (nL E).length := flt_len _ _ _
theorem slidesof_is (hd : Dr E) (h12 : (hnds E).length ≤ 12) : F_slides_of [encK2 t2 (nxP E), encK D.int (hnds E), .lst ((nL E).map D.int)] = .ok (encM (sP E)) := by
  have hl := nL_len E
  obtain ⟨N, hN⟩ : ∃ N, N = D.lst ((nL E).map D.int) := ⟨_, rfl⟩
  have hi : itemsL N = .ok ((nL E).map D.int) := by rw [hN]; rfl
  rw [← hN]
  obtain ⟨K, hK⟩ : ∃ K, K = encK2 t2 (nxP E) := ⟨_, rfl⟩
  obtain ⟨H, hH⟩ : ∃ H, H = encK D.int (hnds E) := ⟨_, rfl⟩
  have hon : ∀ a b t : Int, Nm E a → Nm E b → (t = 1 ∨ t = -1) → F_slides_on [K, H, .tup [.int a, .int b], .int t] = .ok (encM (sOn E a b t)) := fun a b t na nb ht => by
    rw [hK, hH]
    exact slideson_is hd h12 na nb ht
  have hnx : ∀ a : Int, Nm E a → gDGet K (.tup [.int a, .int 0]) = .ok (t2 (nx E (a, 0))) := fun a na => by
    rw [hK]
    exact nxlk_is hd.vd.uk na.o
  rw [← hK, ← hH]
  have hz2 : (2 : Nat) ≤ sizeLine := by decide
  refine Tells.eq ?_
  simp only [F_slides_of, m_slides_of, runD]
  refine t_seq (e := [some (0, K), some (0, H), some (0, N), some (1, encM []), none, none]) (by simp -implicitDefEqProofs [encM]) ?_
  refine t_seq (e := [some (0, K), some (0, H), some (0, N), some (1, encM (sP E)), none, none]) (by
    refine for_appF (fun q : List Lm => [some (0, K), some (0, H), some (0, N), some (1, encM q), none, none]) D.int (fun n => if (nx E (n, 0)).2 = 0 then sOn E n (nx E (n, 0)).1 1 ++ sOn E (nx E (n, 0)).1 n (-1) else []) 24 2000 (nL E) [] ?_ rfl rfl (fun n _ => by
        split
        · have h1 := sOn_len E n (nx E (n, 0)).1 1
          have h2 := sOn_len E (nx E (n, 0)).1 n (-1)
          rw [List.length_append]; omega
        · simp) (by rw [List.length_nil]; omega) ?_
    · generalize (nL E).map D.int = NL at *
      generalize encM [] = M0 at *
      simp -implicitDefEqProofs [hi]
    · intro n hn q hq
      have nn := (nL_mem hd).mp hn
      have hx := hnx n nn
      have x0 : gIx (t2 (nx E (n, 0))) (.int 0) = .ok (.int (nx E (n, 0)).1) := rfl
      have x1 : gIx (t2 (nx E (n, 0))) (.int 1) = .ok (.int (nx E (n, 0)).2) := rfl
      have jx : (t2 (nx E (n, 0))).imm = true := rfl
      have qe := gEq_i (nx E (n, 0)).2 0
      have gn1 : gNeg (.int 1) = .ok (.int (-1)) := rfl
      show (tName 4 0 (.int n) [some (0, K), some (0, H), some (0, N), some (1, encM q), none, none] >>= fun e => _) = .ok [some (0, K), some (0, H), some (0, N), some (1, encM (q ++ if (nx E (n, 0)).2 = 0 then sOn E n (nx E (n, 0)).1 1 ++ sOn E (nx E (n, 0)).1 n (-1) else [])), none, none]
      by_cases h2 : (nx E (n, 0)).2 = 0
      · have nb := (nx_name hd nn h2).1
        have o1 := hon n (nx E (n, 0)).1 1 nn nb (.inl rfl)
        have o2 := hon (nx E (n, 0)).1 n (-1) nb nn (.inr rfl)
        have l1 := sOn_len E n (nx E (n, 0)).1 1
        have l2 := sOn_len E (nx E (n, 0)).1 n (-1)
        rw [if_pos h2]
        rw [decide_eq_true h2] at qe
        generalize sOn E n (nx E (n, 0)).1 1 = S1 at *
        generalize sOn E (nx E (n, 0)).1 n (-1) = S2 at *
        have e1 : encM (q ++ (S1 ++ S2)) = .lst ((q.map lmE ++ S1.map lmE) ++ S2.map lmE) := by unfold encM; simp
        have e2 : encM q = .lst (q.map lmE) := rfl
        have e3 : encM S1 = .lst (S1.map lmE) := rfl
        have e4 : encM S2 = .lst (S2.map lmE) := rfl
        have i1 := immM S1
        have i2 := immM S2
        have j1 := immAtM S1
        have j2 := immAtM S2
        have z1 : (q.map lmE).length + (S1.map lmE).length ≤ sizeLine := sizeLine_big (by rw [List.length_map, List.length_map]; omega)
        have z2 : ((q.map lmE) ++ (S1.map lmE)).length + (S2.map lmE).length ≤ sizeLine := sizeLine_big (by rw [List.length_append, List.length_map, List.length_map, List.length_map]; omega)
        rw [e1, e2]
        rw [e3] at o1 j1
        rw [e4] at o2 j2
        generalize q.map lmE = QL at *
        generalize S1.map lmE = L1 at *
        generalize S2.map lmE = L2 at *
        generalize t2 (nx E (n, 0)) = TX at *
        generalize (nx E (n, 0)).1 = B at *
        generalize (nx E (n, 0)).2 = B2 at *
        have z2' : QL.length + L1.length + L2.length ≤ sizeLine := by rw [List.length_append] at z2; exact z2
        simp -implicitDefEqProofs [hx, jx, x0, x1, qe, o1, o2, j1, j2, immL, i1, i2, mExtend, z1, z2', gn1, hz2, -e_gEq_int]
      · rw [if_neg h2, List.append_nil]
        rw [decide_eq_false h2] at qe
        generalize encM q = QL at *
        generalize t2 (nx E (n, 0)) = TX at *
        generalize (nx E (n, 0)).1 = B at *
        generalize (nx E (n, 0)).2 = B2 at *
        simp -implicitDefEqProofs [hx, jx, x0, x1, qe, hz2, -e_gEq_int]) ?_
  refine Tells.eqI ?_
  have i1 := immAtM (sP E)
  generalize encM (sP E) = Q at *
  simp -implicitDefEqProofs [i1]
theorem sP_len (E : Drw) (h : (nL E).length ≤ 12) : (sP E).length ≤ 288 := by
  have : ∀ xs : List Int, (xs.flatMap fun n => if (nx E (n, 0)).2 = 0 then sOn E n (nx E (n, 0)).1 1 ++ sOn E (nx E (n, 0)).1 n (-1) else []).length ≤ xs.length * 24 := fun xs => by
    induction xs with
    | nil => simp
    | cons n xs ih =>
      rw [List.flatMap_cons, List.length_append, List.length_cons, Nat.add_mul]
      have h1 := sOn_len E n (nx E (n, 0)).1 1
      have h2 := sOn_len E (nx E (n, 0)).1 n (-1)
      split
      · rw [List.length_append]; omega
      · rw [List.length_nil]; omega
  have := this (nL E)
  show (sP E).length ≤ 288
  unfold sP
  omega
theorem pP_len (E : Drw) (h : (nL E).length ≤ 12) : (pP E).length ≤ 144 := by
  have : ∀ xs : List (Int × Nat), (xs.flatMap fun x => flt (fun s => ptB E x.1 s) (fun s => (⟨.p, [x.1, s]⟩ : Lm)) ((nL E).drop (x.2 + 1))).length ≤ xs.length * 12 := fun xs => by
    induction xs with
    | nil => simp
    | cons x xs ih =>
      rw [List.flatMap_cons, List.length_append, List.length_cons, Nat.add_mul]
      have h1 := flt_len (fun s => ptB E x.1 s) (fun s => (⟨.p, [x.1, s]⟩ : Lm)) ((nL E).drop (x.2 + 1))
      rw [List.length_drop] at h1
      omega
  have := this (nL E).zipIdx
  rw [List.length_zipIdx] at this
  unfold pP
  omega
theorem uL_len (E : Drw) : (uL E).length ≤ (nL E).length := flt_len _ _ _
theorem lessening_is (hd : Dr E) (h12 : (hnds E).length ≤ 12) : F_lessening [encD E] = .ok (encM (dueL E)) := by
  have hfl := hd.vd.sz.fl
  have hl := nL_len E
  have hnx := next_is E (by omega)
  have hha := hands_is E (by omega)
  rw [encP_K] at hha
  have hnm := names_is E (by omega) (by omega)
  have hnm' : F_names_of [encD E] = .ok (.lst ((nL E).map D.int)) := hnm
  have j1 : immAt 1 (encK2 t2 (nxP E)) = true := immAt_K2 t2 (fun _ => rfl) _
  have j2 : immAt 1 (encK D.int (hnds E)) = true := immAt_K D.int (fun _ => rfl) _
  have j3 : immAt 1 (.lst ((nL E).map D.int)) = true := by simp
  have hu := uncurlsof_is hd h12
  have hp := partsof_is hd h12
  have hs := slidesof_is hd h12
  have hso := gSort_Lm (uL E ++ pP E ++ sP E)
  rw [due_sorted hd, List.map_append, List.map_append] at hso
  have b1 := uL_len E
  have b2 := pP_len E (by omega)
  have b3 := sP_len E (by omega)
  have eU : encM (uL E) = .lst ((uL E).map lmE) := rfl
  have eP : encM (pP E) = .lst ((pP E).map lmE) := rfl
  have eS : encM (sP E) = .lst ((sP E).map lmE) := rfl
  have eD : encM (dueL E) = .lst ((dueL E).map lmE) := rfl
  have i1 := immM (uL E)
  have i2 := immM (pP E)
  have i3 := immM (sP E)
  have k1 := immAtM (uL E)
  have k2' := immAtM (pP E)
  have k3 := immAtM (sP E)
  have k4 := immAtM (dueL E)
  have i12 : immAll ((uL E).map lmE ++ (pP E).map lmE) = true := by
    have := immM (uL E ++ pP E)
    rw [List.map_append] at this
    exact this
  have i123 : immAll ((uL E).map lmE ++ (pP E).map lmE ++ (sP E).map lmE) = true := by
    have := immM (uL E ++ pP E ++ sP E)
    rw [List.map_append, List.map_append] at this
    exact this
  have z1 : ((uL E).map lmE).length + ((pP E).map lmE).length ≤ sizeLine := sizeLine_big (by rw [List.length_map, List.length_map]; omega)
  have z2 : ((uL E).map lmE).length + ((pP E).map lmE).length + ((sP E).map lmE).length ≤ sizeLine := sizeLine_big (by rw [List.length_map, List.length_map, List.length_map]; omega)
  rw [eU] at hu k1
  rw [eP] at hp k2'
  rw [eS] at hs k3
  rw [eD] at k4 ⊢
  generalize (uL E).map lmE = U at *
  generalize (pP E).map lmE = P at *
  generalize (sP E).map lmE = S at *
  generalize (dueL E).map lmE = DU at *
  generalize encK2 t2 (nxP E) = K at *
  generalize encK D.int (hnds E) = H at *
  generalize (nL E).map D.int = NL at *
  generalize encD E = EE at *
  refine Tells.eq ?_
  simp only [F_lessening, m_lessening, runD]
  refine t_seq (e := [some (0, EE), some (1, K), none, none, none]) (by simp -implicitDefEqProofs [hnx, j1]) ?_
  refine t_seq (e := [some (0, EE), some (1, K), some (1, H), none, none]) (by simp -implicitDefEqProofs [hha, j2]) ?_
  refine t_seq (e := [some (0, EE), some (1, K), some (1, H), some (1, .lst NL), none]) (by simp -implicitDefEqProofs [hnm', j3]) ?_
  refine t_seq (e := [some (0, EE), some (1, K), some (1, H), some (1, .lst NL), some (1, .lst (U ++ P))]) (by simp -implicitDefEqProofs [hu, hp, k1, k2', mCat, immL, i1, i2, z1]) ?_
  refine Tells.eqI ?_
  simp -implicitDefEqProofs [hs, k3, k4, mCat, immL, i12, i3, z2, i123, hso, -List.append_assoc]
end

/-! ### drawings grown, counted; what a fitting move makes -/
theorem Dr.add {ds F : Drw} (hd : Dr ds) (hl : F.length ≤ 10) (hf : F.flatten.length ≤ 100) {C : List Crs} (hp : F.flatten.Perm (ds.flatten ++ psg C)) (hn : (C.map (·.n)).Nodup) (hh : ∀ c ∈ C, c.c = 1 ∨ c.c = -1) (hfr : ∀ c ∈ C, ∀ x ∈ ds.flatten, x.a ≠ c.n) : Dr F := by
  have hm : ∀ x, x ∈ F.flatten ↔ x ∈ ds.flatten ∨ x ∈ psg C := fun x => hp.mem_iff.trans List.mem_append
  refine ⟨⟨siz_of hl hf, ?_, fun x hx => ?_⟩, fun x hx => ?_, fun x hx => ?_⟩
  · refine (hp.map ky).nodup_iff.mpr ?_
    rw [List.map_append, List.nodup_append]
    refine ⟨hd.vd.uk, psg_ky C hn, fun k hk l hl e => ?_⟩
    obtain ⟨x, hx, rfl⟩ := List.mem_map.mp hk
    obtain ⟨y, hy, rfl⟩ := List.mem_map.mp hl
    obtain ⟨c, hc, rfl | rfl⟩ := psg_mem.mp hy
    · exact hfr c hc x hx (congrArg Prod.fst e)
    · exact hfr c hc x hx (congrArg Prod.fst e)
  · rcases (hm x).mp hx with h | h
    · exact hd.vd.wy x h
    · obtain ⟨c, hc, rfl | rfl⟩ := psg_mem.mp h
      · exact .inl rfl
      · exact .inr rfl
  · rcases (hm x).mp hx with h | h
    · exact ⟨(hm _).mpr (.inl (hd.bt x h).1), (hm _).mpr (.inl (hd.bt x h).2)⟩
    · obtain ⟨c, hc, rfl | rfl⟩ := psg_mem.mp h
      · exact ⟨(hm _).mpr (.inr (psg_mem.mpr ⟨c, hc, .inl rfl⟩)), (hm _).mpr (.inr (psg_mem.mpr ⟨c, hc, .inr rfl⟩))⟩
      · exact ⟨(hm _).mpr (.inr (psg_mem.mpr ⟨c, hc, .inl rfl⟩)), (hm _).mpr (.inr (psg_mem.mpr ⟨c, hc, .inr rfl⟩))⟩
  · rcases (hm x).mp hx with h | h
    · exact hd.sg x h
    · obtain ⟨c, hc, rfl | rfl⟩ := psg_mem.mp h
      · exact hh c hc
      · exact hh c hc
theorem Dr.cnt {E : Drw} (hd : Dr E) : E.flatten.length = 2 * (hnds E).length := by
  have h1 : (E.flatten.map ky).Perm ((nL E).flatMap fun n => [(n, (0 : Int)), (n, 1)]) := by
    refine (List.perm_ext_iff_of_nodup hd.vd.uk ?_).mpr fun k => ?_
    · refine pw_flatMap (nL_pw E) (fun n _ => by simp) fun a b h x hx y hy e => ?_
      subst e
      simp at hx hy
      rcases hx with rfl | rfl <;> simp at hy <;> omega
    · rw [List.mem_map, List.mem_flatMap]
      constructor
      · rintro ⟨x, hx, rfl⟩
        refine ⟨x.a, (nL_mem hd).mpr (hd.nm hx), ?_⟩
        rcases hd.vd.wy x hx with h | h
        · simp [ky, h]
        · simp [ky, h]
      · rintro ⟨n, hn, hk⟩
        have := (nL_mem hd).mp hn
        simp at hk
        rcases hk with rfl | rfl
        · exact ⟨_, this.o, rfl⟩
        · exact ⟨_, this.u, rfl⟩
  have h2 := h1.length_eq
  rw [List.length_map] at h2
  rw [h2, ← nL_len]
  have : ∀ xs : List Int, (xs.flatMap fun n => [(n, (0 : Int)), (n, 1)]).length = 2 * xs.length := fun xs => by
    induction xs with
    | nil => rfl
    | cons n xs ih =>
      rw [List.flatMap_cons, List.length_append, ih]
      show 2 + 2 * xs.length = 2 * (xs.length + 1)
      omega
  exact this _
theorem ptB_pt {E : Drw} (hd : Dr E) {a b : Int} (na : Nm E a) (nb : Nm E b) (h : ptB E a b = true) : hof E b = -hof E a ∧ Pt2 E a b (hof E a) := by
  unfold ptB at h
  split at h
  · cases h
  · rename_i hn
    rw [Bool.and_eq_true] at h
    have hne : a ≠ b := fun e => hn (.inl e)
    have hhe : hof E a ≠ hof E b := fun e => hn (.inr e)
    have hb : hof E b = -hof E a := by
      rcases na.sg with e1 | e1 <;> rcases nb.sg with e2 | e2 <;> omega
    have rl : ∀ {x y : T3}, x ∈ E.flatten → y ∈ E.flatten → sbB E (ky x) (ky y) = true → Rl E x y ∨ Rl E y x := fun {x y} hx hy hs => by
      unfold sbB at hs
      rw [Bool.or_eq_true, decide_eq_true_eq, decide_eq_true_eq] at hs
      exact hs.imp (nx_rl hd.vd.uk hx hy) (nx_rl hd.vd.uk hy hx)
    refine ⟨hb, ⟨hd.vd, hne, na.sg, na.lk, by rw [← hb]; exact nb.lk, ?_, ?_⟩⟩
    · rw [← hb]; exact rl na.o nb.o h.1
    · rw [← hb]; exact rl na.u nb.u h.2
theorem sbB_cu {E : Drw} (hd : Dr E) {n : Int} (nn : Nm E n) (h : sbB E (n, 0) (n, 1) = true) : Cu E n (hof E n) := by
  unfold sbB at h
  rw [Bool.or_eq_true, decide_eq_true_eq, decide_eq_true_eq] at h
  exact ⟨hd.vd.sz, hd.vd.uk, nn.lk, nx E (n, 0), nx E (n, 1), nx_lk hd.vd.uk nn.o, nx_lk hd.vd.uk nn.u, h⟩
/-! ### the list told; a lay put in -/
theorem spk_le {ds : Drw} : (spk ds).length ≤ ds.length + ds.flatten.length := by
  have hs := spk_len ds.zipIdx
  have e : (spk ds).length = (ds.zipIdx.flatMap rowK).length := rfl
  rw [e]
  rw [List.length_zipIdx, sum_zip ds 0] at hs
  exact hs
theorem lay_psg (a b c t : Int) (X : List T3) : (X ++ ovs2 a b c ++ uns2 a b c t).Perm (X ++ psg [⟨a, 0, 0, c⟩, ⟨b, 0, 0, -c⟩]) := by
  rw [List.append_assoc]
  refine List.Perm.append_left _ ?_
  have e : psg [⟨a, 0, 0, c⟩, ⟨b, 0, 0, -c⟩] = [⟨a, 0, c⟩, ⟨a, 1, c⟩, ⟨b, 0, -c⟩, ⟨b, 1, -c⟩] := rfl
  rw [e, List.perm_iff_count]
  intro x
  unfold ovs2 uns2
  split <;> simp only [List.count_cons, List.count_nil, List.cons_append, List.nil_append] <;> omega
theorem lay_dr {ds : Drw} (hd : Dr ds) (hfl : ds.flatten.length ≤ 80) {a b c t : Int} {o u : Int × Int} (hna : ∀ x ∈ ds.flatten, x.a ≠ a) (hnb : ∀ x ∈ ds.flatten, x.a ≠ b) (hab : a ≠ b) (hc : c = 1 ∨ c = -1) (ho : o ∈ spk ds) (hu : u ∈ spk (putL ds o (ovs2 a b c))) : Dr (laidL ds a b o u t c) ∧ (laidL ds a b o u t c).flatten.length = ds.flatten.length + 4 := by
  have h1 := lays_vd1 hd.vd hfl (c := c) hna hnb hab ho
  have p1 := putL_perm (ovs2 a b c) hd.vd.spkn ho
  have p2 := putL_perm (uns2 a b c t) h1.spkn hu
  have hp : (laidL ds a b o u t c).flatten.Perm (ds.flatten ++ psg [⟨a, 0, 0, c⟩, ⟨b, 0, 0, -c⟩]) := (p2.trans (p1.append_right _)).trans (lay_psg a b c t _)
  have hl : (laidL ds a b o u t c).flatten.length = ds.flatten.length + 4 := by
    rw [hp.length_eq, List.length_append]; rfl
  refine ⟨Dr.add hd (by
    show (putL (putL _ _ _) _ _).length ≤ 10
    unfold putL
    rw [List.length_map, List.length_zipIdx, List.length_map, List.length_zipIdx]
    exact hd.vd.sz.len) (by omega) hp (by
    show [a, b].Nodup
    simp [hab]) (fun x hx => ?_) (fun x hx y hy => ?_), hl⟩
  · have : x = ⟨a, 0, 0, c⟩ ∨ x = ⟨b, 0, 0, -c⟩ := by simpa using hx
    rcases this with rfl | rfl
    · exact hc
    · show -c = 1 ∨ -c = -1
      omega
  · have : x = ⟨a, 0, 0, c⟩ ∨ x = ⟨b, 0, 0, -c⟩ := by simpa using hx
    rcases this with rfl | rfl
    · exact hna y hy
    · exact hnb y hy
theorem nms_free {ds : Drw} (hd : Dr ds) {n : Int} (h : n ∉ nmsL ds) : ∀ x ∈ ds.flatten, x.a ≠ n := fun x hx e => h (by
  subst e
  exact List.mem_map.mpr ⟨⟨x.a, 0, x.c⟩, List.mem_filter.mpr ⟨(hd.bt x hx).1, rfl⟩, rfl⟩)
/-! ### three free names, and three crossings of these -/
theorem WD.dr {S : Nat} {ds : Drw} {C : List Crs} (h : WD S ds C) (hS : S ≤ 3) (hC : C.length ≤ 12) : Dr ds := Dr.of_psg (by rw [h.di.len]; omega) (by omega) h.pm h.di.nd h.hd

theorem nmsL_cnt {E : Drw} (hd : Dr E) : (nmsL E).length = (hnds E).length := by
  rw [← nL_len]
  refine ((List.perm_ext_iff_of_nodup ?_ ?_).mpr fun n => ?_ : (nmsL E).Perm (nL E)).length_eq
  · unfold nmsL
    have h : ((E.flatten.filter fun x => decide (x.b = 0)).map ky).Nodup := List.Nodup.sublist (List.filter_sublist.map ky) hd.vd.uk
    have e : ((E.flatten.filter fun x => decide (x.b = 0)).map ky) = ((E.flatten.filter fun x => decide (x.b = 0)).map (·.a)).map fun n => (n, (0 : Int)) := by
      rw [List.map_map]
      refine List.map_congr_left fun x hx => ?_
      have := of_decide_eq_true (List.mem_filter.mp hx).2
      show (x.a, x.b) = (x.a, 0)
      rw [this]
    rw [e] at h
    exact List.Pairwise.of_map (fun n : Int => (n, (0 : Int))) (fun a b h e => h (by rw [e])) h
  · exact (nL_pw E).imp fun h => by omega
  · rw [nL_mem hd]
    constructor
    · intro h
      obtain ⟨x, hx, rfl⟩ := List.mem_map.mp h
      exact hd.nm (List.mem_filter.mp hx).1
    · intro h
      exact List.mem_map.mpr ⟨_, List.mem_filter.mpr ⟨h.o, rfl⟩, rfl⟩

/-! ### an entry by a number taken over the length; counted from the end -/
/-! ### moves that fit, what they make, and back -/
inductive Fit (E : Drw) : Mv → Prop where
  | curl {n f h : Int} {k : Int × Int} : (∀ x ∈ E.flatten, x.a ≠ n) → k ∈ spk E → (f = 0 ∨ f = 1) → (h = 1 ∨ h = -1) → Fit E (.curl n k f h)
  | lay {a b t c : Int} {o u : Int × Int} : (∀ x ∈ E.flatten, x.a ≠ a) → (∀ x ∈ E.flatten, x.a ≠ b) → a ≠ b → o ∈ spk E → u ∈ spk (putL E o (ovs2 a b c)) → u ≠ (a, 0) → (t = 0 ∨ t = 1) → (c = 1 ∨ c = -1) → Fit E (.lay a b o u t c)
  | prt {a b : Int} : Nm E a → Nm E b → ptB E a b = true → Fit E (.prt a b)
  | uncurl {n : Int} : Nm E n → sbB E (n, 0) (n, 1) = true → Fit E (.uncurl n)
  | slide {a b c t : Int} : Nm E a → Nm E b → Nm E c → (t = 1 ∨ t = -1) → slB E a b c t = true → Fit E (.slide a b c t)
def wo (ns : List Int) (E : Drw) : Drw := E.map (·.filter fun x => decide (x.a ∉ ns))
def mkM (E : Drw) : Mv → Drw
  | .curl n k f h => putL E k (frsh n f h)
  | .lay a b o u t c => laidL E a b o u t c
  | .prt a b => wo [a, b] E
  | .uncurl n => wo [n] E
  | .slide a b c _ => xc E a b c
/-- how many crossings a move adds -/
def rm : Mv → Nat
  | .curl .. => 1
  | .lay .. => 2
  | _ => 0
theorem rm_le (m : Mv) : rm m ≤ 2 := by cases m <;> simp [rm]
theorem wo_flat (ns : List Int) (E : Drw) : (wo ns E).flatten = E.flatten.filter fun x => decide (x.a ∉ ns) := by
  unfold wo
  induction E with
  | nil => rfl
  | cons r E ih => rw [List.map_cons, List.flatten_cons, List.flatten_cons, List.filter_append, ih]
theorem wo_mem {ns : List Int} {E : Drw} {x : T3} : x ∈ (wo ns E).flatten ↔ x ∈ E.flatten ∧ x.a ∉ ns := by
  rw [wo_flat, List.mem_filter, decide_eq_true_eq]
theorem wo_dr {E : Drw} (hd : Dr E) (ns : List Int) : Dr (wo ns E) := by
  refine ⟨⟨siz_of (by unfold wo; rw [List.length_map]; exact hd.vd.sz.len) (by rw [wo_flat]; exact Nat.le_trans (List.length_filter_le _ _) hd.vd.sz.fl), ?_, fun x hx => hd.vd.wy x (wo_mem.mp hx).1⟩, fun x hx => ?_, fun x hx => hd.sg x (wo_mem.mp hx).1⟩
  · show ((wo ns E).flatten.map ky).Nodup
    rw [wo_flat]
    exact List.Nodup.sublist (List.filter_sublist.map ky) hd.vd.uk
  · obtain ⟨h1, h2⟩ := wo_mem.mp hx
    exact ⟨wo_mem.mpr ⟨(hd.bt x h1).1, h2⟩, wo_mem.mpr ⟨(hd.bt x h1).2, h2⟩⟩
theorem curl_psg (n f h : Int) (hf : f = 0 ∨ f = 1) (X : List T3) : (X ++ frsh n f h).Perm (X ++ psg [⟨n, 0, 0, h⟩]) := by
  refine List.Perm.append_left _ ?_
  have e : psg [⟨n, 0, 0, h⟩] = [⟨n, 0, h⟩, ⟨n, 1, h⟩] := rfl
  rw [e]
  rcases hf with rfl | rfl
  · exact List.Perm.refl _
  · exact List.Perm.swap _ _ _
theorem curl_dr {ds : Drw} (hd : Dr ds) (hfl : ds.flatten.length ≤ 80) {n f h : Int} {k : Int × Int} (hn : ∀ x ∈ ds.flatten, x.a ≠ n) (hk : k ∈ spk ds) (hf : f = 0 ∨ f = 1) (hh : h = 1 ∨ h = -1) : Dr (putL ds k (frsh n f h)) ∧ (putL ds k (frsh n f h)).flatten.length = ds.flatten.length + 2 := by
  have p := (putL_perm (frsh n f h) hd.vd.spkn hk).trans (curl_psg n f h hf _)
  have hl : (putL ds k (frsh n f h)).flatten.length = ds.flatten.length + 2 := by
    rw [p.length_eq, List.length_append]; rfl
  refine ⟨Dr.add hd (by
    unfold putL
    rw [List.length_map, List.length_zipIdx]
    exact hd.vd.sz.len) (by omega) p (by simp) (fun x hx => ?_) (fun x hx y hy => ?_), hl⟩
  · rw [List.mem_singleton.mp hx]; exact hh
  · rw [List.mem_singleton.mp hx]; exact hn y hy
section
variable {E : Drw} {m : Mv}
theorem putL_len (ds : Drw) (k : Int × Int) (ps : List T3) : (putL ds k ps).length = ds.length := by
  unfold putL
  rw [List.length_map, List.length_zipIdx]
theorem fit_dr (hd : Dr E) (hfl : E.flatten.length ≤ 80) (h : Fit E m) : Dr (mkM E m) ∧ (mkM E m).length = E.length ∧ (mkM E m).flatten.length ≤ E.flatten.length + 4 := by
  cases h with
  | curl hn hk hf hh =>
    have := curl_dr hd hfl hn hk hf hh
    exact ⟨this.1, putL_len _ _ _, by show (putL _ _ _).flatten.length ≤ _; rw [this.2]; omega⟩
  | @lay a b t c o u hna hnb hab ho hu hne ht hc =>
    have := lay_dr hd (t := t) hfl hna hnb hab hc ho hu
    exact ⟨this.1, by show (putL (putL _ _ _) _ _).length = _; rw [putL_len, putL_len], Nat.le_of_eq this.2⟩
  | prt na nb hp => exact ⟨wo_dr hd _, List.length_map _, by show (wo _ E).flatten.length ≤ _; rw [wo_flat]; exact Nat.le_trans (List.length_filter_le _ _) (by omega)⟩
  | uncurl nn hp => exact ⟨wo_dr hd _, List.length_map _, by show (wo _ E).flatten.length ≤ _; rw [wo_flat]; exact Nat.le_trans (List.length_filter_le _ _) (by omega)⟩
  | slide na nb nc ht hs =>
    have h := slB_tr hd na nb nc hs
    exact ⟨h.dr, List.length_map _, by show (xc _ _ _ _).flatten.length ≤ _; rw [Tr3.flen]; omega⟩
/-! what is asked of a move at a drawing begun elsewhere -/
theorem fit_made2 (κ : Str → Addr) (hd : Dr E) (h12 : (hnds E).length + rm m ≤ 12) (hfl : E.flatten.length ≤ 40) (h : Fit E m) : gMeth κ (madeT κ) "made" 2 (m.ob κ) [encD E] = .ok (encD (mkM E m)) := by
  cases h with
  | curl hn hk hf hh => exact curl_madeM κ rfl hd.vd.sz (by simp only [rm] at h12; omega) hn hk
  | @lay a b t c o u hna hnb hab ho hu hne ht hc =>
    exact meth_is (F := F_Lay_made κ) rfl (by decide) (lay_made κ hd.vd.sz h12 hna hnb hab ht ho (lays_vd1 hd.vd (by omega) hna hnb hab ho).sz hu hne) (by simp)
  | prt na nb hp => exact part_made κ (ptB_pt hd na nb hp).2
  | uncurl nn hp => exact uncurl_made κ (sbB_cu hd nn hp)
  | slide na nb nc ht hs => exact slide_madeM κ rfl (slB_tr hd na nb nc hs) ht hs
theorem fit_done2 (κ : Str → Addr) (hd : Dr E) (h12 : (hnds E).length + rm m ≤ 12) (hfl : E.flatten.length ≤ 40) (h : Fit E m) : gMeth κ (doneT κ) "done" 2 (m.ob κ) [encD E] = .ok (encD ((mkM E m).map seat)) :=
  done_of κ (fit_dr hd (by omega) h).1.vd.sz (fit_made2 κ hd h12 hfl h)
theorem seat_dr (hd : Dr E) : Dr (E.map seat) := (RotL.seatL E).dr hd
end

/-! ### the strings of the crossings, kept by moves -/
def InR (E : Drw) (k : Nat) (x : T3) : Prop := ∃ r, E[k]? = some r ∧ x ∈ r
theorem InR.fl {E : Drw} {k : Nat} {x : T3} (h : InR E k x) : x ∈ E.flatten := by
  obtain ⟨r, h1, h2⟩ := h
  exact List.mem_flatten.mpr ⟨r, List.mem_of_getElem? h1, h2⟩
theorem InR.lt {E : Drw} {k : Nat} {x : T3} (h : InR E k x) : k < E.length := by
  obtain ⟨r, h1, h2⟩ := h
  exact (List.getElem?_eq_some_iff.mp h1).1
theorem inr_of {E : Drw} {x : T3} (h : x ∈ E.flatten) : ∃ k, InR E k x := by
  obtain ⟨r, h1, h2⟩ := List.mem_flatten.mp h
  obtain ⟨k, hk⟩ := List.getElem?_of_mem h1
  exact ⟨k, r, hk, h2⟩
theorem InR.same {E : Drw} (hu : UK E) {k l : Nat} {x y : T3} (h1 : InR E k x) (h2 : InR E l y) (e : ky x = ky y) : k = l := by
  obtain ⟨r, hr, hx⟩ := h1
  obtain ⟨q, hq, hy⟩ := h2
  obtain ⟨i, hi⟩ := List.getElem?_of_mem hx
  obtain ⟨j, hj⟩ := List.getElem?_of_mem hy
  exact (uk_pos hu hr hi hq hj e).1
theorem Rl.inr {E : Drw} {x y : T3} (h : Rl E x y) : ∃ k, InR E k x ∧ InR E k y := by
  obtain ⟨i, r, k, h1, h2, h3⟩ := h
  exact ⟨i, ⟨r, h1, List.mem_of_getElem? h2⟩, ⟨r, h1, List.mem_of_getElem? h3⟩⟩
section
variable {S : Nat} {E : Drw} {C : List Crs}
theorem DI.inr (h : DI S E C) (k : Nat) (x : T3) : InR E k x ↔ ∃ c ∈ C, (x = ⟨c.n, 0, c.c⟩ ∧ k = c.i) ∨ (x = ⟨c.n, 1, c.c⟩ ∧ k = c.j) := by
  constructor
  · rintro ⟨r, hr, hx⟩
    exact (h.mem k r hr x).mp hx
  · rintro ⟨c, hc, h1 | h1⟩
    · obtain ⟨r, hr, hm⟩ := h.over hc
      rw [h1.1, h1.2]
      exact ⟨r, hr, hm⟩
    · obtain ⟨r, hr, hm⟩ := h.under hc
      rw [h1.1, h1.2]
      exact ⟨r, hr, hm⟩
theorem di_of (hd : Dr E) (hl : E.length = S) (hn : (C.map (·.n)).Nodup) (hb : ∀ c ∈ C, c.i < S ∧ c.j < S) (hm : ∀ k x, InR E k x ↔ ∃ c ∈ C, (x = ⟨c.n, 0, c.c⟩ ∧ k = c.i) ∨ (x = ⟨c.n, 1, c.c⟩ ∧ k = c.j)) : DI S E C := by
  refine ⟨hl, hn, hb, fun k r hr x => ⟨fun hx => (hm k x).mp ⟨r, hr, hx⟩, fun h => ?_⟩, fun r hr => ?_⟩
  · obtain ⟨q, hq, hx⟩ := (hm k x).mpr h
    rw [hr] at hq
    cases hq
    exact hx
  · have h1 : r.length ≤ E.flatten.length := (List.sublist_flatten_of_mem hr).length_le
    have h2 := hd.cnt
    have h3 : ((hnds E).map (·.1)).length ≤ (C.map (·.n)).length := nodup_sub_len (pts_nodup (key := T3.a) (val := T3.c) E.flatten (p := []) List.nodup_nil) fun n hn => by
      rcases (pts_mem (key := T3.a) (val := T3.c) E.flatten [] n).mp hn with h | ⟨x, hx, rfl⟩
      · cases h
      · obtain ⟨k, hk⟩ := inr_of hx
        obtain ⟨c, hc, e⟩ := (hm k x).mp hk
        refine List.mem_map.mpr ⟨c, hc, ?_⟩
        rcases e with e | e <;> rw [e.1]
    rw [List.length_map, List.length_map] at h3
    omega
theorem seat_in (k : Nat) (x : T3) : InR (E.map seat) k x ↔ InR E k x := by
  unfold InR
  rw [List.getElem?_map]
  constructor
  · rintro ⟨r, hr, hx⟩
    obtain ⟨q, hq, rfl⟩ := Option.map_eq_some_iff.mp hr
    exact ⟨q, hq, (seat_rot q).perm'.mem_iff.mp hx⟩
  · rintro ⟨r, hr, hx⟩
    exact ⟨seat r, by rw [hr]; rfl, (seat_rot r).perm'.mem_iff.mpr hx⟩
theorem di_seat (h : DI S E C) (hd : Dr E) : DI S (E.map seat) C :=
  di_of (seat_dr hd) (by rw [List.length_map]; exact h.len) h.nd h.bd fun k x => (seat_in k x).trans (h.inr k x)
theorem mem_putK {k : Int × Int} {ps r : List T3} {j : Nat} {y : T3} : y ∈ putK k ps (r, j) ↔ y ∈ r ∨ (y ∈ ps ∧ k ∈ rowK (r, j)) := by
  unfold putK putR rowK
  dsimp only
  rw [List.mem_append, List.mem_append, List.mem_flatMap]
  constructor
  · rintro (h | ⟨x, hx, h⟩)
    · by_cases c : r = [] ∧ k = ((j : Int), 2)
      · rw [if_pos c] at h
        exact .inr ⟨h, .inl (by rw [if_pos c.1, c.2]; exact List.mem_singleton.mpr rfl)⟩
      · rw [if_neg c] at h; cases h
    · rcases List.mem_cons.mp h with rfl | h
      · exact .inl hx
      · by_cases c : ky x = k
        · rw [if_pos c] at h
          exact .inr ⟨h, .inr (List.mem_map.mpr ⟨x, hx, c⟩)⟩
        · rw [if_neg c] at h; cases h
  · rintro (h | ⟨h, h2 | h2⟩)
    · exact .inr ⟨y, h, List.mem_cons_self⟩
    · by_cases c : r = []
      · rw [if_pos c] at h2
        left
        rw [if_pos ⟨c, List.mem_singleton.mp h2⟩]
        exact h
      · rw [if_neg c] at h2; cases h2
    · obtain ⟨x, hx, e⟩ := List.mem_map.mp h2
      exact .inr ⟨x, hx, List.mem_cons_of_mem _ (by rw [if_pos e]; exact h)⟩
theorem put_in (hv : Vd E) {k : Int × Int} (hk : k ∈ spk E) (ps : List T3) : ∃ i0 < E.length, ∀ j y, InR (putL E k ps) j y ↔ InR E j y ∨ (y ∈ ps ∧ j = i0) := by
  obtain ⟨⟨r0, i0⟩, h0, hk0⟩ := List.mem_flatMap.mp hk
  have h1 : E[i0]? = some r0 := by
    have := List.mem_zipIdx_iff_getElem?.mp h0
    exact this
  have un : ∀ j r, E[j]? = some r → k ∈ rowK (r, j) → j = i0 := fun j r hr hkr => by
    unfold rowK at hkr hk0
    dsimp only at hkr hk0
    rcases List.mem_append.mp hkr with a | a
    · by_cases c : r = []
      · rw [if_pos c] at a
        have e1 := List.mem_singleton.mp a
        rcases List.mem_append.mp hk0 with b | b
        · by_cases c2 : r0 = []
          · rw [if_pos c2] at b
            have e2 := List.mem_singleton.mp b
            rw [e1] at e2
            have e3 : (j : Int) = (i0 : Int) := congrArg Prod.fst e2
            omega
          · rw [if_neg c2] at b; cases b
        · obtain ⟨x, hx, e2⟩ := List.mem_map.mp b
          have := hv.wy x (List.mem_flatten.mpr ⟨r0, List.mem_of_getElem? h1, hx⟩)
          rw [e1] at e2
          have e3 : x.b = 2 := congrArg Prod.snd e2
          omega
      · rw [if_neg c] at a; cases a
    · obtain ⟨x, hx, e1⟩ := List.mem_map.mp a
      rcases List.mem_append.mp hk0 with b | b
      · by_cases c2 : r0 = []
        · rw [if_pos c2] at b
          have e2 := List.mem_singleton.mp b
          have := hv.wy x (List.mem_flatten.mpr ⟨r, List.mem_of_getElem? hr, hx⟩)
          rw [e2] at e1
          have e3 : x.b = 2 := congrArg Prod.snd e1
          omega
        · rw [if_neg c2] at b; cases b
      · obtain ⟨z, hz, e2⟩ := List.mem_map.mp b
        exact InR.same hv.uk ⟨r, hr, hx⟩ ⟨r0, h1, hz⟩ (e1.trans e2.symm)
  refine ⟨i0, (List.getElem?_eq_some_iff.mp h1).1, fun j y => ?_⟩
  have hg : (putL E k ps)[j]? = (E[j]?).map fun r => putK k ps (r, j) := by
    unfold putL
    rw [List.getElem?_map, List.getElem?_zipIdx, Option.map_map]
    congr 1
    funext r
    show putK k ps (r, 0 + j) = _
    rw [Nat.zero_add]
  unfold InR
  rw [hg]
  constructor
  · rintro ⟨q, hq, hy⟩
    obtain ⟨r, hr, rfl⟩ := Option.map_eq_some_iff.mp hq
    rcases mem_putK.mp hy with h | ⟨h, h2⟩
    · exact .inl ⟨r, hr, h⟩
    · exact .inr ⟨h, un j r hr h2⟩
  · rintro (⟨r, hr, h⟩ | ⟨h, rfl⟩)
    · exact ⟨_, by rw [hr]; rfl, mem_putK.mpr (.inl h)⟩
    · exact ⟨_, by rw [h1]; rfl, mem_putK.mpr (.inr ⟨h, hk0⟩)⟩
theorem wo_in (ns : List Int) (k : Nat) (x : T3) : InR (wo ns E) k x ↔ InR E k x ∧ x.a ∉ ns := by
  unfold InR wo
  rw [List.getElem?_map]
  constructor
  · rintro ⟨r, hr, hx⟩
    obtain ⟨q, hq, rfl⟩ := Option.map_eq_some_iff.mp hr
    obtain ⟨h1, h2⟩ := List.mem_filter.mp hx
    exact ⟨⟨q, hq, h1⟩, of_decide_eq_true h2⟩
  · rintro ⟨⟨r, hr, hx⟩, h2⟩
    exact ⟨_, by rw [hr]; rfl, List.mem_filter.mpr ⟨hx, decide_eq_true h2⟩⟩
theorem DI.cr (h : DI S E C) {c : Crs} (hc : c ∈ C) : InR E c.i ⟨c.n, 0, c.c⟩ ∧ InR E c.j ⟨c.n, 1, c.c⟩ := ⟨(h.inr _ _).mpr ⟨c, hc, .inl ⟨rfl, rfl⟩⟩, (h.inr _ _).mpr ⟨c, hc, .inr ⟨rfl, rfl⟩⟩⟩
/-- the crossing of a name -/
theorem DI.of (h : DI S E C) (hd : Dr E) {n : Int} (hn : Nm E n) : ∃ c ∈ C, c.n = n ∧ c.c = hof E n := by
  obtain ⟨c, hc, e⟩ := h.all hn.o
  refine ⟨c, hc, ?_⟩
  rcases e with e | e
  · exact ⟨(congrArg T3.a e).symm, (congrArg T3.c e).symm⟩
  · have : (0 : Int) = 1 := congrArg T3.b e
    omega
theorem di_wo (h : DI S E C) (hd : Dr E) {ns : List Int} {C' : List Crs} (hn : (C'.map (·.n)).Nodup) (hm : ∀ c, c ∈ C' ↔ c ∈ C ∧ c.n ∉ ns) : DI S (wo ns E) C' := by
  refine di_of (wo_dr hd ns) (by unfold wo; rw [List.length_map]; exact h.len) hn (fun c hc => h.bd c ((hm c).mp hc).1) fun k x => ?_
  rw [wo_in, h.inr]
  constructor
  · rintro ⟨⟨c, hc, e⟩, h2⟩
    refine ⟨c, (hm c).mpr ⟨hc, fun hz => h2 ?_⟩, e⟩
    rcases e with e | e <;> rw [e.1] <;> exact hz
  · rintro ⟨c, hc, e⟩
    obtain ⟨h1, h2⟩ := (hm c).mp hc
    refine ⟨⟨c, h1, e⟩, fun hz => h2 ?_⟩
    rcases e with e | e <;> rw [e.1] at hz <;> exact hz
theorem rem_perm (hn : (C.map (·.n)).Nodup) {d : Crs} (hd : d ∈ C) : ∃ C' : List Crs, C.Perm (C' ++ [d]) ∧ (∀ c, c ∈ C' ↔ c ∈ C ∧ c.n ≠ d.n) ∧ (C'.map (·.n)).Nodup := by
  obtain ⟨u, v, rfl⟩ := List.append_of_mem hd
  have hp : (u ++ d :: v).Perm ((u ++ v) ++ [d]) := by
    refine (List.perm_middle).trans ?_
    exact (List.perm_append_singleton d (u ++ v)).symm
  have hn2 : ((u ++ v).map (·.n) ++ [d.n]).Nodup := by
    have := (hp.map (·.n)).nodup_iff.mp hn
    rw [List.map_append] at this
    exact this
  obtain ⟨n1, _, n3⟩ := List.nodup_append.mp hn2
  refine ⟨u ++ v, hp, fun c => ⟨fun hc => ⟨hp.mem_iff.mpr (List.mem_append.mpr (.inl hc)), fun e => n3 _ (List.mem_map.mpr ⟨c, hc, rfl⟩) _ (List.mem_singleton.mpr rfl) e⟩, fun hc => ?_⟩, n1⟩
  rcases List.mem_append.mp (hp.mem_iff.mp hc.1) with h | h
  · exact h
  · exact absurd (by rw [List.mem_singleton.mp h]) hc.2
/-- what a move adds to the writhe -/
def mo (E : Drw) : Mv → Int
  | .curl _ _ _ h => h
  | .uncurl n => -hof E n
  | _ => 0
theorem xcT_in {a b c : Int} (h : Tr3 E a b c) (p1 : ∃ k, InR E k ⟨a, 0, hof E a⟩ ∧ InR E k ⟨b, 0, hof E b⟩) (p2 : ∃ k, InR E k ⟨a, 1, hof E a⟩ ∧ InR E k ⟨c, 0, hof E c⟩) (p3 : ∃ k, InR E k ⟨b, 1, hof E b⟩ ∧ InR E k ⟨c, 1, hof E c⟩) {k : Nat} {x : T3} (hx : InR E k x) : InR E k (xcT E a b c x) := by
  have hu := h.d.vd.uk
  have go : ∀ {y z : T3}, (∃ l, InR E l y ∧ InR E l z) → ky x = ky y → InR E k z := fun {y z} hl e => by
    obtain ⟨l, h1, h2⟩ := hl
    rw [InR.same hu hx h1 e]; exact h2
  have sw : ∀ {y z : T3}, (∃ l, InR E l y ∧ InR E l z) → ∃ l, InR E l z ∧ InR E l y := fun ⟨l, h1, h2⟩ => ⟨l, h2, h1⟩
  have ex : xcT E a b c x = ⟨(xcF a b c (ky x)).1, (xcF a b c (ky x)).2, hof E (xcF a b c (ky x)).1⟩ := rfl
  rw [ex]
  unfold xcF
  by_cases e1 : ky x = (a, 0)
  · rw [if_pos e1]; exact go p1 e1
  rw [if_neg e1]
  by_cases e2 : ky x = (b, 0)
  · rw [if_pos e2]; exact go (sw p1) e2
  rw [if_neg e2]
  by_cases e3 : ky x = (a, 1)
  · rw [if_pos e3]; exact go p2 e3
  rw [if_neg e3]
  by_cases e4 : ky x = (c, 0)
  · rw [if_pos e4]; exact go (sw p2) e4
  rw [if_neg e4]
  by_cases e5 : ky x = (b, 1)
  · rw [if_pos e5]; exact go p3 e5
  rw [if_neg e5]
  by_cases e6 : ky x = (c, 1)
  · rw [if_pos e6]; exact go (sw p3) e6
  rw [if_neg e6]
  rw [← h.d.eta hx.fl]; exact hx
theorem rbB_in (hd : Dr E) {x y : T3} (hx : x ∈ E.flatten) (hy : y ∈ E.flatten) {w : Int} (h : rbB E (ky x) (ky y) w = true) : ∃ k, InR E k x ∧ InR E k y := by
  unfold rbB at h
  split at h
  · exact (nx_rl hd.vd.uk hx hy (of_decide_eq_true h)).inr
  · obtain ⟨k, h1, h2⟩ := (nx_rl hd.vd.uk hy hx (of_decide_eq_true h)).inr
    exact ⟨k, h2, h1⟩
theorem sbB_in (hd : Dr E) {x y : T3} (hx : x ∈ E.flatten) (hy : y ∈ E.flatten) (h : sbB E (ky x) (ky y) = true) : ∃ k, InR E k x ∧ InR E k y := by
  unfold sbB at h
  rw [Bool.or_eq_true, decide_eq_true_eq, decide_eq_true_eq] at h
  rcases h with h | h
  · exact (nx_rl hd.vd.uk hx hy h).inr
  · obtain ⟨k, h1, h2⟩ := (nx_rl hd.vd.uk hy hx h).inr
    exact ⟨k, h2, h1⟩
theorem xc_in {a b c t : Int} (hd : Dr E) (na : Nm E a) (nb : Nm E b) (nc : Nm E c) (hs : slB E a b c t = true) (k : Nat) (x : T3) : InR (xc E a b c) k x ↔ InR E k x := by
  have h := slB_tr hd na nb nc hs
  have hs' := hs
  unfold slB at hs'
  rw [if_neg (fun z => z.elim h.ab fun z => z.elim h.ac h.bc), Bool.and_eq_true, Bool.and_eq_true] at hs'
  obtain ⟨s1, s2, s3⟩ := hs'
  have p1 := rbB_in hd na.o nb.o s1
  have p2 := rbB_in hd na.u nc.o s2
  have p3 := rbB_in hd nb.u nc.u s3
  have one : ∀ {j : Nat} {y : T3}, InR E j y → InR (xc E a b c) j (xcT E a b c y) := fun {j y} hy => by
    obtain ⟨r, hr, hm⟩ := hy
    exact ⟨r.map (xcT E a b c), by unfold xc; rw [List.getElem?_map, hr]; rfl, List.mem_map.mpr ⟨y, hm, rfl⟩⟩
  have inv : ∀ {y : T3}, y ∈ E.flatten → xcT E a b c (xcT E a b c y) = y := fun {y} hy => by
    have e2 := hd.eta hy
    show (⟨(xcF a b c (ky (xcT E a b c y))).1, (xcF a b c (ky (xcT E a b c y))).2, hof E (xcF a b c (ky (xcT E a b c y))).1⟩ : T3) = y
    rw [xcT_ky, h.inv]
    exact e2.symm
  constructor
  · rintro ⟨q, hq, hx⟩
    unfold xc at hq
    rw [List.getElem?_map] at hq
    obtain ⟨r, hr, rfl⟩ := Option.map_eq_some_iff.mp hq
    obtain ⟨y, hy, rfl⟩ := List.mem_map.mp hx
    exact xcT_in h p1 p2 p3 ⟨r, hr, hy⟩
  · intro hx
    have := one (xcT_in h p1 p2 p3 hx)
    rw [inv hx.fl] at this
    exact this
theorem di_step (h : DI S E C) (hd : Dr E) (hfl : E.flatten.length ≤ 60) {m : Mv} (hf : Fit E m) : ∃ C' : List Crs, DI S ((mkM E m).map seat) C' ∧ tbl S C' = tbl S C ∧ (C'.map (·.c)).sum = (C.map (·.c)).sum + mo E m := by
  have hD := (fit_dr hd (by omega) hf).1
  have hL := (fit_dr hd (by omega) hf).2.1
  have fresh : ∀ n : Int, (∀ x ∈ E.flatten, x.a ≠ n) → n ∉ C.map (·.n) := fun n hn hm => by
    obtain ⟨c, hc, rfl⟩ := List.mem_map.mp hm
    exact hn _ (h.cr hc).1.fl rfl
  suffices hs : ∃ C' : List Crs, DI S (mkM E m) C' ∧ tbl S C' = tbl S C ∧ (C'.map (·.c)).sum = (C.map (·.c)).sum + mo E m by
    obtain ⟨C', h1, h2⟩ := hs
    exact ⟨C', di_seat h1 hD, h2⟩
  cases hf with
  | @curl n f hh k hn hk hf01 hh1 =>
    obtain ⟨i0, hi0, hp⟩ := put_in hd.vd hk (frsh n f hh)
    rw [h.len] at hi0
    refine ⟨C ++ [⟨n, i0, i0, hh⟩], di_of hD (hL.trans h.len) ?_ ?_ ?_, tbl_same C _ rfl, ?_⟩
    · rw [List.map_append]
      refine List.nodup_append.mpr ⟨h.nd, by simp, fun a ha b hb e => fresh n hn ?_⟩
      have hb' : b = n := by simpa using hb
      rw [← hb', ← e]; exact ha
    · intro c hc
      rcases List.mem_append.mp hc with hc | hc
      · exact h.bd c hc
      · rw [List.mem_singleton.mp hc]; exact ⟨hi0, hi0⟩
    · intro j y
      refine (hp j y).trans ?_
      rw [h.inr]
      constructor
      · rintro (⟨c, hc, e⟩ | ⟨hy, rfl⟩)
        · exact ⟨c, List.mem_append.mpr (.inl hc), e⟩
        · refine ⟨_, List.mem_append.mpr (.inr (List.mem_singleton.mpr rfl)), ?_⟩
          rcases hf01 with rfl | rfl
          · rcases List.mem_cons.mp hy with rfl | hy
            · exact .inl ⟨rfl, rfl⟩
            · exact .inr ⟨List.mem_singleton.mp hy, rfl⟩
          · rcases List.mem_cons.mp hy with rfl | hy
            · exact .inr ⟨rfl, rfl⟩
            · exact .inl ⟨List.mem_singleton.mp hy, rfl⟩
      · rintro ⟨c, hc, e⟩
        rcases List.mem_append.mp hc with hc | hc
        · exact .inl ⟨c, hc, e⟩
        · rw [List.mem_singleton.mp hc] at e
          right
          rcases hf01 with rfl | rfl
          · rcases e with ⟨rfl, rfl⟩ | ⟨rfl, rfl⟩
            · exact ⟨List.mem_cons_self, rfl⟩
            · exact ⟨List.mem_cons_of_mem _ (List.mem_singleton.mpr rfl), rfl⟩
          · rcases e with ⟨rfl, rfl⟩ | ⟨rfl, rfl⟩
            · exact ⟨List.mem_cons_of_mem _ (List.mem_singleton.mpr rfl), rfl⟩
            · exact ⟨List.mem_cons_self, rfl⟩
    · rw [List.map_append, List.sum_append]
      show _ + (hh + 0) = _ + hh
      rw [Int.add_zero]
  | @lay a b t c o u hna hnb hab ho hu hne ht hc =>
    have hv1 := lays_vd1 (c := c) hd.vd (by omega) hna hnb hab ho
    obtain ⟨i0, hi0, hp⟩ := put_in hd.vd ho (ovs2 a b c)
    obtain ⟨j0, hj0, hq⟩ := put_in hv1 hu (uns2 a b c t)
    rw [putL_len, h.len] at hj0
    rw [h.len] at hi0
    have mu : ∀ y, y ∈ uns2 a b c t ↔ y = ⟨a, 1, c⟩ ∨ y = ⟨b, 1, -c⟩ := fun y => by
      unfold uns2
      split
      · rw [List.mem_cons, List.mem_singleton]; exact Or.comm
      · rw [List.mem_cons, List.mem_singleton]
    have mov : ∀ y, y ∈ ovs2 a b c ↔ y = ⟨a, 0, c⟩ ∨ y = ⟨b, 0, -c⟩ := fun y => by
      unfold ovs2
      rw [List.mem_cons, List.mem_singleton]
    refine ⟨C ++ [⟨a, i0, j0, c⟩] ++ [⟨b, i0, j0, -c⟩], di_of hD (hL.trans h.len) ?_ ?_ ?_, ?_, ?_⟩
    · rw [List.append_assoc, List.map_append]
      refine List.nodup_append.mpr ⟨h.nd, by show [a, b].Nodup; simp [hab], fun z hz w hw e => ?_⟩
      have hw : w = a ∨ w = b := by
        have : w ∈ [a, b] := hw
        simpa using this
      rw [e] at hz
      rcases hw with rfl | rfl
      · exact fresh _ hna hz
      · exact fresh _ hnb hz
    · intro d hd'
      rcases List.mem_append.mp hd' with hd' | hd'
      · rcases List.mem_append.mp hd' with hd' | hd'
        · exact h.bd d hd'
        · rw [List.mem_singleton.mp hd']; exact ⟨hi0, hj0⟩
      · rw [List.mem_singleton.mp hd']; exact ⟨hi0, hj0⟩
    · intro j y
      refine (hq j y).trans ?_
      rw [hp, h.inr, mu, mov]
      constructor
      · rintro ((⟨d, hd', e⟩ | ⟨hy, rfl⟩) | ⟨hy, rfl⟩)
        · exact ⟨d, List.mem_append.mpr (.inl (List.mem_append.mpr (.inl hd'))), e⟩
        · rcases hy with rfl | rfl
          · exact ⟨⟨a, j, j0, c⟩, by simp, .inl ⟨rfl, rfl⟩⟩
          · exact ⟨⟨b, j, j0, -c⟩, by simp, .inl ⟨rfl, rfl⟩⟩
        · rcases hy with rfl | rfl
          · exact ⟨⟨a, i0, j, c⟩, by simp, .inr ⟨rfl, rfl⟩⟩
          · exact ⟨⟨b, i0, j, -c⟩, by simp, .inr ⟨rfl, rfl⟩⟩
      · rintro ⟨d, hd', e⟩
        rcases List.mem_append.mp hd' with hd' | hd'
        · rcases List.mem_append.mp hd' with hd' | hd'
          · exact .inl (.inl ⟨d, hd', e⟩)
          · rw [List.mem_singleton.mp hd'] at e
            rcases e with ⟨e1, e2⟩ | ⟨e1, e2⟩
            · exact .inl (.inr ⟨.inl e1, e2⟩)
            · exact .inr ⟨.inl e1, e2⟩
        · rw [List.mem_singleton.mp hd'] at e
          rcases e with ⟨e1, e2⟩ | ⟨e1, e2⟩
          · exact .inl (.inr ⟨.inr e1, e2⟩)
          · exact .inr ⟨.inr e1, e2⟩
    · unfold tbl
      refine List.map_congr_left fun x _ => List.map_congr_left fun y _ => ?_
      rw [ent_snoc, ent_snoc]
      dsimp only
      split <;> omega
    · rw [List.map_append, List.map_append, List.sum_append, List.sum_append]
      show _ + (c + 0) + (-c + 0) = _ + 0
      omega
  | @prt a b na nb hp =>
    obtain ⟨hhb, p⟩ := ptB_pt hd na nb hp
    obtain ⟨d1, hd1, e1, e1c⟩ := h.of hd na
    obtain ⟨d2, hd2, e2, e2c⟩ := h.of hd nb
    obtain ⟨C1, p1, m1, n1⟩ := rem_perm h.nd hd1
    have hne : d2.n ≠ d1.n := by rw [e1, e2]; exact p.ne.symm
    obtain ⟨C2, p2, m2, n2⟩ := rem_perm n1 ((m1 d2).mpr ⟨hd2, hne⟩)
    have q1 := h.cr hd1
    have q2 := h.cr hd2
    have hu := hd.vd.uk
    have ho : ∃ k, InR E k (⟨a, 0, hof E a⟩ : T3) ∧ InR E k ⟨b, 0, -hof E a⟩ := by
      rcases p.ov with h | h
      · exact h.inr
      · obtain ⟨k, h1, h2⟩ := h.inr
        exact ⟨k, h2, h1⟩
    have hun : ∃ k, InR E k (⟨a, 1, hof E a⟩ : T3) ∧ InR E k ⟨b, 1, -hof E a⟩ := by
      rcases p.un with h | h
      · exact h.inr
      · obtain ⟨k, h1, h2⟩ := h.inr
        exact ⟨k, h2, h1⟩
    have hi : d1.i = d2.i := by
      obtain ⟨k, h1, h2⟩ := ho
      rw [InR.same hu q1.1 h1 (by show (d1.n, (0 : Int)) = (a, 0); rw [e1]), InR.same hu q2.1 h2 (by show (d2.n, (0 : Int)) = (b, 0); rw [e2])]
    have hj : d1.j = d2.j := by
      obtain ⟨k, h1, h2⟩ := hun
      rw [InR.same hu q1.2 h1 (by show (d1.n, (1 : Int)) = (a, 1); rw [e1]), InR.same hu q2.2 h2 (by show (d2.n, (1 : Int)) = (b, 1); rw [e2])]
    have hcc : d2.c = -d1.c := by rw [e1c, e2c, hhb]
    have pC : C.Perm (C2 ++ [d2] ++ [d1]) := p1.trans (p2.append_right _)
    refine ⟨C2, di_wo h hd n2 fun c => ?_, ?_, ?_⟩
    · rw [m2, m1, e1, e2, List.mem_cons, List.mem_singleton]
      constructor
      · rintro ⟨⟨h1, h2⟩, h3⟩
        exact ⟨h1, fun z => z.elim h2 h3⟩
      · rintro ⟨h1, h2⟩
        exact ⟨⟨h1, fun z => h2 (.inl z)⟩, fun z => h2 (.inr z)⟩
    · rw [← tbl_perm pC.symm]
      unfold tbl
      refine List.map_congr_left fun x _ => List.map_congr_left fun y _ => ?_
      rw [ent_snoc, ent_snoc, hi, hj, hcc]
      split <;> omega
    · have := perm_sum (pC.map (·.c))
      rw [List.map_append, List.map_append, List.sum_append, List.sum_append] at this
      have h1 : ([d2].map fun c : Crs => c.c).sum = d2.c := by show d2.c + 0 = _; omega
      have h2 : ([d1].map fun c : Crs => c.c).sum = d1.c := by show d1.c + 0 = _; omega
      rw [h1, h2] at this
      show _ = _ + (0 : Int)
      omega
  | @uncurl n nn hp =>
    obtain ⟨d1, hd1, e1, e1c⟩ := h.of hd nn
    obtain ⟨C1, p1, m1, n1⟩ := rem_perm h.nd hd1
    have q1 := h.cr hd1
    have hu := hd.vd.uk
    have hij : d1.i = d1.j := by
      obtain ⟨k, h1, h2⟩ := sbB_in hd nn.o nn.u hp
      rw [InR.same hu q1.1 h1 (by show (d1.n, (0 : Int)) = (n, 0); rw [e1]), InR.same hu q1.2 h2 (by show (d1.n, (1 : Int)) = (n, 1); rw [e1])]
    refine ⟨C1, di_wo h hd n1 fun c => ?_, ?_, ?_⟩
    · rw [m1, e1, List.mem_singleton]
    · rw [← tbl_perm p1.symm, tbl_same C1 d1 hij]
    · have := perm_sum (p1.map (·.c))
      rw [List.map_append, List.sum_append] at this
      have h2 : ([d1].map fun c : Crs => c.c).sum = d1.c := by show d1.c + 0 = _; omega
      rw [h2, e1c] at this
      show _ = _ + -hof E n
      omega
  | @slide a b c t na nb nc ht hs =>
    refine ⟨C, di_of hD (hL.trans h.len) h.nd h.bd fun k x => (xc_in hd na nb nc hs k x).trans (h.inr k x), rfl, ?_⟩
    show _ = _ + (0 : Int)
    omega
end
theorem due_fit {E : Drw} (hd : Dr E) {m : Lm} (hm : m ∈ dueL E) : ∃ mv : Mv, mv.told = lmE m ∧ Fit E mv := by
  unfold dueL at hm
  rcases List.mem_append.mp hm with hm | hm
  · rcases List.mem_append.mp hm with hm | hm
    · obtain ⟨a, b, na, nb, _, hp, rfl⟩ := (mem_pW hd).mp hm
      exact ⟨.prt a b, rfl, .prt na nb hp⟩
    · obtain ⟨a, b, c, t, na, nb, nc, ht, hs, rfl⟩ := (mem_sW hd).mp hm
      exact ⟨.slide a b c t, rfl, .slide na nb nc ht hs⟩
  · obtain ⟨n, nn, hs, rfl⟩ := (mem_uL hd).mp hm
    exact ⟨.uncurl n, rfl, .uncurl nn hs⟩
/-- the crossings of a drawing -/
theorem dr_di {E : Drw} (hd : Dr E) : ∃ C : List Crs, DI E.length E C := by
  have step : ∀ L : List Int, (∀ n ∈ L, Nm E n) → ∃ C : List Crs, C.map (·.n) = L ∧ ∀ c ∈ C, InR E c.i ⟨c.n, 0, c.c⟩ ∧ InR E c.j ⟨c.n, 1, c.c⟩ ∧ c.c = hof E c.n := fun L => by
    induction L with
    | nil => intro _; exact ⟨[], rfl, fun c hc => by cases hc⟩
    | cons n L ih =>
      intro h
      obtain ⟨C, h1, h2⟩ := ih fun m hm => h m (List.mem_cons_of_mem _ hm)
      have hn := h n List.mem_cons_self
      obtain ⟨i, hi⟩ := inr_of hn.o
      obtain ⟨j, hj⟩ := inr_of hn.u
      refine ⟨⟨n, i, j, hof E n⟩ :: C, by rw [List.map_cons, h1], fun c hc => ?_⟩
      rcases List.mem_cons.mp hc with rfl | hc
      · exact ⟨hi, hj, rfl⟩
      · exact h2 c hc
  obtain ⟨C, h1, h2⟩ := step (nL E) fun n hn => (nL_mem hd).mp hn
  refine ⟨C, di_of hd rfl ?_ (fun c hc => ⟨(h2 c hc).1.lt, (h2 c hc).2.1.lt⟩) fun k x => ⟨fun hx => ?_, ?_⟩⟩
  · rw [h1]
    exact (nL_pw E).imp fun h => by omega
  · have hm : x.a ∈ C.map (·.n) := by
      rw [h1]
      exact (nL_mem hd).mpr (hd.nm hx.fl)
    obtain ⟨c, hc, e⟩ := List.mem_map.mp hm
    obtain ⟨q1, q2, q3⟩ := h2 c hc
    refine ⟨c, hc, ?_⟩
    have ec : x.c = c.c := by rw [q3, e]; exact (hd.hofc hx.fl).symm
    rcases hd.vd.wy x hx.fl with hb | hb
    · left
      have ex : x = ⟨c.n, 0, c.c⟩ := by
        cases x
        simp only at e ec hb
        rw [e, ← ec, hb]
      exact ⟨ex, InR.same hd.vd.uk hx q1 (by rw [ex])⟩
    · right
      have ex : x = ⟨c.n, 1, c.c⟩ := by
        cases x
        simp only at e ec hb
        rw [e, ← ec, hb]
      exact ⟨ex, InR.same hd.vd.uk hx q2 (by rw [ex])⟩
  · rintro ⟨c, hc, ⟨rfl, rfl⟩ | ⟨rfl, rfl⟩⟩
    · exact (h2 c hc).1
    · exact (h2 c hc).2.1

/-! ### spots, as the laws of whole rows of moves tell them -/
theorem kspots_is (ds : Drw) (hd : ds.length ≤ 10) (hr : ∀ r ∈ ds, r.length ≤ 100) : F__law_spots [encD ds] = .ok (.lst ((spk ds).map t2)) := by
  have hg := gRng1_d (n := ds.length) (by omega)
  have gl : gLen (encD ds) = .ok (.int (ds.length : Nat)) := by
    show Res.ok (D.int (((ds.map encR).length : Nat) : Int)) = _
    rw [List.length_map]
  have hix : ∀ (k : Nat) (r : List T3), ds[k]? = some r → gIx (encD ds) (.int k) = .ok (encR r) := fun k r h => gIx_map (f := encR) h
  refine Tells.eq ?_
  simp only [F__law_spots, m__law_spots, runD]
  obtain ⟨A, hA⟩ : ∃ A, A = encD ds := ⟨_, rfl⟩
  rw [← hA] at gl hix ⊢
  simp -implicitDefEqProofs [gl, hg]
  refine loop_then (fun q : List (Int × Int) => [some (0, A), some (1, .lst (q.map t2)), none, none]) (fun k : Nat => D.int k) (fun i q => q = (ds.zipIdx.take i).flatMap rowK ∧ q.length ≤ 101 * i) (List.range ds.length) [] rfl rfl ⟨by simp, by simp⟩ ?_ ?_
  · rintro i q k hk ⟨rfl, hq⟩
    obtain ⟨rfl, hkl⟩ := rng_at hk
    obtain ⟨r, hr0⟩ : ∃ r, ds[k]? = some r := ⟨_, List.getElem?_eq_getElem hkl⟩
    have hrl := hr r (List.mem_of_getElem? hr0)
    have hx := hix k r hr0
    have ht : gEq (encR r) (.lst []) = .ok (.bl (decide (r = []))) := gEq_enc (α := List T3) r [] (by decide)
    have hR : itemsL (encR r) = .ok (r.map t3) := rfl
    refine ⟨(ds.zipIdx.take k).flatMap rowK ++ rowK (r, k), ⟨by rw [zip_snoc hr0, List.flatMap_append]; simp, ?_⟩, ?_⟩
    · have : (rowK (r, k)).length ≤ 1 + r.length := by
        unfold rowK
        rw [List.length_append, List.length_map]
        have : (if r = [] then [((k : Int), (2 : Int))] else []).length ≤ 1 := by split <;> simp
        show (if r = [] then [((k : Int), (2 : Int))] else []).length + r.length ≤ _
        omega
      rw [List.length_append]; omega
    generalize (ds.zipIdx.take k).flatMap rowK = q at *
    have hin := fun (q0 : List (Int × Int)) (hq0 : q0.length ≤ q.length + 1) => app_loop (t := tName 3) (body := mAppend 1 0 [] (mImm (mTup (mConsE (mImm (mOp gIx (mVar 3) (mC (.int 0)))) [] (mConsE (mImm (mOp gIx (mVar 3) (mC (.int 1)))) [] mNilA))))) (fg := [3]) (fun acc : List (Int × Int) => [some (0, A), some (1, .lst (acc.map t2)), some (0, .int k), none]) t3 (fun x => [ky x]) 1 3000 r (fun _ _ => Nat.le_refl _) (fun x hx acc hacc => by
      have z : (acc.map t2).length < sizeLine := sizeLine_lt (by rw [List.length_map]; omega)
      have g0 : gIx (t3 x) (.int 0) = .ok (.int x.a) := rfl
      have g1 : gIx (t3 x) (.int 1) = .ok (.int x.b) := rfl
      have e : t2 (ky x) = .tup [.int x.a, .int x.b] := rfl
      rw [List.map_append, List.map_cons, List.map_nil, e]
      generalize acc.map t2 = AC at *
      generalize t3 x = X at *
      simp -implicitDefEqProofs [z, g0, g1]) q0 (by omega)
    rw [show r.flatMap (fun x => [ky x]) = r.map ky from flat_one ky r] at hin
    by_cases e : r = []
    · have hi := hin (q ++ [((k : Int), 2)]) (by simp)
      rw [decide_eq_true e] at ht
      have ek : rowK (r, k) = [((k : Int), 2)] ++ r.map ky := by unfold rowK; rw [if_pos e]
      have z : (q.map t2).length < sizeLine := sizeLine_lt (by rw [List.length_map]; omega)
      have e3 : (q ++ [((k : Int), 2)]).map t2 = q.map t2 ++ [.tup [.int (k : Int), .int 2]] := by rw [List.map_append]; rfl
      rw [ek, ← List.append_assoc]
      rw [e3] at hi
      generalize (q ++ [((k : Int), 2)] ++ r.map ky).map t2 = Q2 at *
      generalize q.map t2 = Q1 at *
      generalize encR r = RR at *
      simp -implicitDefEqProofs [hx, ht, z, hR, hi]
    · have hi := hin q (by omega)
      rw [decide_eq_false e] at ht
      have ek : rowK (r, k) = r.map ky := by unfold rowK; rw [if_neg e]; rfl
      rw [ek]
      generalize (q ++ r.map ky).map t2 = Q2 at *
      generalize q.map t2 = Q1 at *
      generalize encR r = RR at *
      simp -implicitDefEqProofs [hx, ht, hR, hi]
  · rintro q ⟨rfl, _⟩
    rw [List.length_range, show ds.zipIdx.take ds.length = ds.zipIdx from List.take_of_length_le (by simp)]
    refine Tells.eqI ?_
    show _ = Res.ok (D.lst (((ds.zipIdx.flatMap rowK)).map t2))
    generalize (ds.zipIdx.flatMap rowK).map t2 = Q at *
    simp -implicitDefEqProofs

/-! ### the moves drawn -/
theorem nat5 {xs : List Nat} (h : xs.length = 5) : ∃ a b c d e, xs = [a, b, c, d, e] := by
  match xs, h with
  | [a, b, c, d, e], _ => exact ⟨a, b, c, d, e, rfl⟩
theorem nat8 {xs : List Nat} (h : xs.length = 8) : ∃ a b c d e f g i, xs = [a, b, c, d, e, f, g, i] := by
  match xs, h with
  | [a, b, c, d, e, f, g, i], _ => exact ⟨a, b, c, d, e, f, g, i, rfl⟩
theorem spk_pos {E : Drw} (hd : Dr E) (hne : E ≠ []) : 0 < (spk E).length := List.length_pos_iff.mpr (spk_ne hne)
section
variable {E : Drw}
theorem kcurl_is (hd : Dr E) (hfl : E.flatten.length ≤ 40) (hne : E ≠ []) (v : Int) : ∃ m : Mv, F__law_curl [encD E, .int v] = .ok m.told ∧ Fit E m ∧ rm m = 1 := by
  have hnm : F__law_names [encD E] = .ok (.lst ((nmsL E).map D.int)) := lnames0 (ds := E) (by omega)
  have hNl := nmsL_len E
  have hsp := kspots_is E hd.vd.sz.len hd.vd.sz.row
  have hsle := spk_le (ds := E)
  have hdl := hd.vd.sz.len
  have hpos := spk_pos hd hne
  obtain ⟨xs, x1, x2, x3⟩ := digits_is v [5, 999, (spk E).length, 2, 2] (by show 5 ≤ 10; decide) (fun s hs => by
    simp only [List.mem_cons, List.not_mem_nil, or_false] at hs
    rcases hs with rfl | rfl | rfl | rfl | rfl <;> omega)
  obtain ⟨a0, a1, a2, a3, a4, rfl⟩ := nat5 x2
  have b1 := x3 1 a1 999 rfl rfl
  have b2 := x3 2 a2 (spk E).length rfl rfl
  have b3 := x3 3 a3 2 rfl rfl
  have b4 := x3 4 a4 2 rfl rfl
  have x1' : F__law_digits [.int v, .lst [.int 5, .int 999, .int ((spk E).length : Nat), .int 2, .int 2]] = .ok (.lst [.int a0, .int a1, .int a2, .int a3, .int a4]) := x1
  obtain ⟨n, f1, f2, _, _⟩ := free_is (nmsL E) (by omega) (1 + (a1 : Int)) (by omega) (by omega)
  obtain ⟨k, hk⟩ : ∃ k, (spk E)[a2]? = some k := ⟨_, List.getElem?_eq_getElem b2⟩
  refine ⟨.curl n k a3 (1 - 2 * (a4 : Int)), ?_, .curl (nms_free hd f2) (List.mem_of_getElem? hk) (by omega) (by omega), rfl⟩
  have gl : gLen (.lst ((spk E).map t2)) = .ok (.int ((spk E).length : Nat)) := by
    show Res.ok (D.int ((((spk E).map t2).length : Nat) : Int)) = _
    rw [List.length_map]
  have gs : gIx (.lst ((spk E).map t2)) (.int (a2 : Int)) = .ok (t2 k) := gIx_map hk
  have iS : immAt 1 (.lst ((spk E).map t2)) = true := by simp
  have iN : immAt 1 (.lst ((nmsL E).map D.int)) = true := by simp
  have ik : (t2 k).imm = true := rfl
  have hz5 : (5 : Nat) ≤ sizeLine := by decide
  have et : (Mv.curl n k a3 (1 - 2 * (a4 : Int))).told = .tup [.str (Str.ofString "curl"), .int n, t2 k, .int a3, .int (1 - 2 * (a4 : Int))] := rfl
  have u4 : gMul (.int 2) (.int (a4 : Int)) = .ok (.int (2 * (a4 : Int))) := e_gMul _ _ (.inl (by decide))
  obtain ⟨pt, hpt⟩ : ∃ pt, pt = D.lst [.int a0, .int a1, .int a2, .int a3, .int a4] := ⟨_, rfl⟩
  have ip : immAt 1 pt = true := by rw [hpt]; rfl
  have g1 : gIx pt (.int 1) = .ok (.int a1) := by rw [hpt]; rfl
  have g2 : gIx pt (.int 2) = .ok (.int a2) := by rw [hpt]; rfl
  have g3 : gIx pt (.int 3) = .ok (.int a3) := by rw [hpt]; rfl
  have g4 : gIx pt (.int 4) = .ok (.int a4) := by rw [hpt]; rfl
  rw [← hpt] at x1'
  clear hpt x1 x3
  rw [et]
  generalize D.lst ((spk E).map t2) = SS at *
  generalize D.lst ((nmsL E).map D.int) = NN at *
  generalize encD E = EE at *
  generalize t2 k = KK at *
  refine Tells.eq ?_
  simp only [F__law_curl, m__law_curl, runD]
  refine t_seq (e := [some (0, EE), some (0, .int v), some (1, SS), none]) (by simp -implicitDefEqProofs [hsp, iS]) ?_
  refine t_seq (e := [some (0, EE), some (0, .int v), some (1, SS), some (1, pt)]) (by simp -implicitDefEqProofs [gl, x1', ip, hz5]) ?_
  refine Tells.eqI ?_
  simp -implicitDefEqProofs [hnm, iN, g1, g2, g3, g4, f1, gs, ik, u4, hz5]
theorem klay_is (hd : Dr E) (hfl : E.flatten.length ≤ 40) (hne : E ≠ []) (v : Int) : ∃ m : Mv, F__law_lay [encD E, .int v] = .ok m.told ∧ Fit E m ∧ rm m = 2 := by
  have hnm : F__law_names [encD E] = .ok (.lst ((nmsL E).map D.int)) := lnames0 (ds := E) (by omega)
  have hNl := nmsL_len E
  have hsp := kspots_is E hd.vd.sz.len hd.vd.sz.row
  have hsle := spk_le (ds := E)
  have hdl := hd.vd.sz.len
  have hpos := spk_pos hd hne
  obtain ⟨xs, x1, x2, x3⟩ := digits_is v [5, 999, 999, (spk E).length, (spk E).length, 6, 2, 2] (by show 8 ≤ 10; decide) (fun s hs => by
    simp only [List.mem_cons, List.not_mem_nil, or_false] at hs
    rcases hs with rfl | rfl | rfl | rfl | rfl | rfl | rfl | rfl <;> omega)
  obtain ⟨a0, a1, a2, a3, a4, a5, a6, a7, rfl⟩ := nat8 x2
  have b1 := x3 1 a1 999 rfl rfl
  have b2 := x3 2 a2 999 rfl rfl
  have b3 := x3 3 a3 (spk E).length rfl rfl
  have b4 := x3 4 a4 (spk E).length rfl rfl
  have b6 := x3 6 a6 2 rfl rfl
  have b7 := x3 7 a7 2 rfl rfl
  have x1' : F__law_digits [.int v, .lst [.int 5, .int 999, .int 999, .int ((spk E).length : Nat), .int ((spk E).length : Nat), .int 6, .int 2, .int 2]] = .ok (.lst [.int a0, .int a1, .int a2, .int a3, .int a4, .int a5, .int a6, .int a7]) := x1
  obtain ⟨a, f1, f2, _, _⟩ := free_is (nmsL E) (by omega) (1 + (a1 : Int)) (by omega) (by omega)
  obtain ⟨b, h1, h2, _, _⟩ := free_is (nmsL E ++ [a]) (by rw [List.length_append, List.length_singleton]; omega) (1 + (a2 : Int)) (by omega) (by omega)
  have hab : a ≠ b := fun e => h2 (by rw [← e]; simp)
  have hna := nms_free hd f2
  have hnb := nms_free hd (n := b) (fun h => h2 (by simp [h]))
  obtain ⟨o, ho⟩ : ∃ o, (spk E)[a3]? = some o := ⟨_, List.getElem?_eq_getElem b3⟩
  obtain ⟨u0, hu0⟩ : ∃ u, (spk E)[a4]? = some u := ⟨_, List.getElem?_eq_getElem b4⟩
  have hom := List.mem_of_getElem? ho
  have hum := List.mem_of_getElem? hu0
  have iN : immAt 1 (.lst ((nmsL E).map D.int)) = true := by simp
  have iN2 : immAll ((nmsL E).map D.int) = true := by simp
  have zN : ((nmsL E).map D.int).length + 1 ≤ sizeLine := sizeLine_big (by rw [List.length_map]; omega)
  have eNa : D.lst ((nmsL E ++ [a]).map D.int) = .lst ((nmsL E).map D.int ++ [.int a]) := by rw [List.map_append]; rfl
  rw [eNa] at h1
  have gl : gLen (.lst ((spk E).map t2)) = .ok (.int ((spk E).length : Nat)) := by
    show Res.ok (D.int ((((spk E).map t2).length : Nat) : Int)) = _
    rw [List.length_map]
  have gs3 : gIx (.lst ((spk E).map t2)) (.int (a3 : Int)) = .ok (t2 o) := gIx_map ho
  have gs4 : gIx (.lst ((spk E).map t2)) (.int (a4 : Int)) = .ok (t2 u0) := gIx_map hu0
  have iS : immAt 1 (.lst ((spk E).map t2)) = true := by simp
  have io : (t2 o).imm = true := rfl
  have iu : (t2 u0).imm = true := rfl
  have go1 : gIx (t2 o) (.int 1) = .ok (.int o.2) := rfl
  have q5 := gEq_i (a5 : Int) 0
  have q2 := gEq_i o.2 2
  have q0 := gEq_pp u0 o
  have hz8 : (8 : Nat) ≤ sizeLine := by decide
  have hz7 : (7 : Nat) ≤ sizeLine := by decide
  have hz2 : (2 : Nat) ≤ sizeLine := by decide
  have hz1 : (1 : Nat) ≤ sizeLine := by decide
  have u7 : gMul (.int 2) (.int (a7 : Int)) = .ok (.int (2 * (a7 : Int))) := e_gMul _ _ (.inl (by decide))
  obtain ⟨pt, hpt⟩ : ∃ pt, pt = D.lst [.int a0, .int a1, .int a2, .int a3, .int a4, .int a5, .int a6, .int a7] := ⟨_, rfl⟩
  have ip : immAt 1 pt = true := by rw [hpt]; rfl
  have g1 : gIx pt (.int 1) = .ok (.int a1) := by rw [hpt]; rfl
  have g2 : gIx pt (.int 2) = .ok (.int a2) := by rw [hpt]; rfl
  have g3 : gIx pt (.int 3) = .ok (.int a3) := by rw [hpt]; rfl
  have g4 : gIx pt (.int 4) = .ok (.int a4) := by rw [hpt]; rfl
  have g5 : gIx pt (.int 5) = .ok (.int a5) := by rw [hpt]; rfl
  have g6 : gIx pt (.int 6) = .ok (.int a6) := by rw [hpt]; rfl
  have g7 : gIx pt (.int 7) = .ok (.int a7) := by rw [hpt]; rfl
  rw [← hpt] at x1'
  clear hpt x1 x3
  obtain ⟨u, hu, hur⟩ : ∃ u : Int × Int, u = (if (a5 : Int) = 0 ∨ (o.2 = 2 ∧ u0 = o) then (b, 0) else u0) ∧ (u ∈ spk (putL E o (ovs2 a b (1 - 2 * (a7 : Int)))) ∧ u ≠ (a, 0)) := by
    refine ⟨_, rfl, ?_⟩
    by_cases c : (a5 : Int) = 0 ∨ (o.2 = 2 ∧ u0 = o)
    · rw [if_pos c]
      exact ⟨(spk_put hd.vd.spkn hom (by simp [ovs2])).mpr (.inr (.inl ⟨⟨b, 0, -(1 - 2 * (a7 : Int))⟩, by simp [ovs2], rfl⟩)), fun e => hab (congrArg Prod.fst e).symm⟩
    · rw [if_neg c]
      refine ⟨(spk_put hd.vd.spkn hom (by simp [ovs2])).mpr ?_, fun e => ?_⟩
      · rcases spk_mem.mp hum with h | ⟨i, hi, e⟩
        · exact .inl h
        · exact .inr (.inr ⟨i, hi, e, fun e2 => c (.inr ⟨by rw [e2], by rw [e, e2]⟩)⟩)
      · rw [e] at hum
        rcases spk_mem.mp hum with ⟨x, hx, e⟩ | ⟨i, hi, e⟩
        · exact hna x hx (congrArg Prod.fst e)
        · have : (0 : Int) = 2 := congrArg Prod.snd e
          omega
  refine ⟨.lay a b o u a6 (1 - 2 * (a7 : Int)), ?_, .lay hna hnb hab hom hur.1 hur.2 (by omega) (by omega), rfl⟩
  have et : (Mv.lay a b o u a6 (1 - 2 * (a7 : Int))).told = .tup [.str (Str.ofString "lay"), .int a, .int b, t2 o, t2 u, .int a6, .int (1 - 2 * (a7 : Int))] := rfl
  have iu2 : (t2 u).imm = true := rfl
  have eb : t2 (b, 0) = .tup [.int b, .int 0] := rfl
  clear hur hna hnb
  rw [et]
  have hcond : mIf (mOrB (mTb (mOp gEq (mOp gIx (mVar 3) (mC (.int 5))) (mC (.int 0)))) (mAndB (mTb (mOp gEq (mOp gIx (mVar 6) (mC (.int 1))) (mC (.int 2)))) (mTb (mOp gEq (mVar 7) (mVar 6))))) (mSet 7 0 [] (mImm (mTup (mConsE (mImm (mVar 5)) [] (mConsE (mC (.int 0)) [] mNilA))))) mSkip [some (0, encD E), some (0, .int v), some (1, .lst ((spk E).map t2)), some (1, pt), some (0, .int a), some (0, .int b), some (0, t2 o), some (0, t2 u0)] = .ok (.nx [some (0, encD E), some (0, .int v), some (1, .lst ((spk E).map t2)), some (1, pt), some (0, .int a), some (0, .int b), some (0, t2 o), some (0, t2 u)]) := by
    rw [hu]
    generalize D.lst ((spk E).map t2) = SS at *
    generalize encD E = EE at *
    by_cases c5 : (a5 : Int) = 0
    · rw [decide_eq_true c5] at q5
      rw [if_pos (.inl c5), eb]
      generalize t2 o = KO at *
      generalize t2 u0 = KU at *
      simp -implicitDefEqProofs [-e_gEq_int, g5, q5, hz2]
    · rw [decide_eq_false c5] at q5
      by_cases c2 : o.2 = 2
      · rw [decide_eq_true c2] at q2
        by_cases c0 : u0 = o
        · rw [decide_eq_true c0] at q0
          rw [if_pos (.inr ⟨c2, c0⟩), eb]
          generalize t2 o = KO at *
          generalize t2 u0 = KU at *
          simp -implicitDefEqProofs [-e_gEq_int, g5, q5, hz2, go1, q2, q0]
        · rw [decide_eq_false c0] at q0
          rw [if_neg (fun z => z.elim c5 fun z => c0 z.2)]
          generalize t2 o = KO at *
          generalize t2 u0 = KU at *
          simp -implicitDefEqProofs [-e_gEq_int, g5, q5, hz2, go1, q2, q0]
      · rw [decide_eq_false c2] at q2
        rw [if_neg (fun z => z.elim c5 fun z => c2 z.1)]
        generalize t2 o = KO at *
        generalize t2 u0 = KU at *
        simp -implicitDefEqProofs [-e_gEq_int, g5, q5, hz2, go1, q2]
  clear hu
  generalize hSS : (spk E).map t2 = SS at *
  generalize hNN : (nmsL E).map D.int = NN at *
  generalize encD E = EE at *
  generalize t2 o = KO at *
  generalize t2 u0 = KU0 at *
  generalize t2 u = KU at *
  refine Tells.eq ?_
  simp only [F__law_lay, m__law_lay, runD]
  refine t_seq (e := [some (0, EE), some (0, .int v), some (1, .lst SS), none, none, none, none, none]) (by simp -implicitDefEqProofs [hsp, iS]) ?_
  refine t_seq (e := [some (0, EE), some (0, .int v), some (1, .lst SS), some (1, pt), none, none, none, none]) (by simp -implicitDefEqProofs [gl, x1', ip, hz8]) ?_
  refine t_seq (e := [some (0, EE), some (0, .int v), some (1, .lst SS), some (1, pt), some (0, .int a), none, none, none]) (by simp -implicitDefEqProofs [hnm, iN, g1, f1]) ?_
  refine t_seq (e := [some (0, EE), some (0, .int v), some (1, .lst SS), some (1, pt), some (0, .int a), some (0, .int b), none, none]) (by simp -implicitDefEqProofs [hnm, iN, iN2, immL, mCat, zN, g2, h1, hz1]) ?_
  refine t_seq (e := [some (0, EE), some (0, .int v), some (1, .lst SS), some (1, pt), some (0, .int a), some (0, .int b), some (0, KO), none]) (by simp -implicitDefEqProofs [g3, gs3, io]) ?_
  refine t_seq (e := [some (0, EE), some (0, .int v), some (1, .lst SS), some (1, pt), some (0, .int a), some (0, .int b), some (0, KO), some (0, KU0)]) (by simp -implicitDefEqProofs [g4, gs4, iu]) ?_
  refine t_seq hcond ?_
  refine Tells.eqI ?_
  simp -implicitDefEqProofs [g6, g7, io, iu2, u7, hz7]
end

/-! ### which moves fit, as the law goes: all -/
section
variable {E : Drw}
theorem due_len (hd : Dr E) (h12 : (hnds E).length ≤ 12) : (dueL E).length ≤ 500 := by
  have hl := nL_len E
  have b1 := uL_len E
  have b2 := pP_len E (by omega)
  have b3 := sP_len E (by omega)
  rw [← (due_perm hd).length_eq, List.length_append, List.length_append]
  omega
end

/-! ### how many passings a move makes -/
theorem mk_len {E : Drw} {m : Mv} (hd : Dr E) (hfl : E.flatten.length ≤ 80) (h : Fit E m) : (mkM E m).flatten.length ≤ E.flatten.length + 2 * rm m ∧ (0 < rm m → (mkM E m).flatten.length = E.flatten.length + 2 * rm m) := by
  cases h with
  | curl hn hk hf hh =>
    have := (curl_dr hd hfl hn hk hf hh).2
    exact ⟨Nat.le_of_eq this, fun _ => this⟩
  | @lay a b t c o u hna hnb hab ho hu hne ht hc =>
    have := (lay_dr hd (t := t) hfl hna hnb hab hc ho hu).2
    exact ⟨Nat.le_of_eq this, fun _ => this⟩
  | prt na nb hp => exact ⟨by show (wo _ E).flatten.length ≤ _; rw [wo_flat]; exact Nat.le_trans (List.length_filter_le _ _) (Nat.le_add_right _ _), fun h => absurd h (Nat.lt_irrefl 0)⟩
  | uncurl nn hp => exact ⟨by show (wo _ E).flatten.length ≤ _; rw [wo_flat]; exact Nat.le_trans (List.length_filter_le _ _) (Nat.le_add_right _ _), fun h => absurd h (Nat.lt_irrefl 0)⟩
  | slide na nb nc ht hs =>
    exact ⟨by show (xc _ _ _ _).flatten.length ≤ _; rw [Tr3.flen]; exact Nat.le_add_right _ _, fun h => absurd h (Nat.lt_irrefl 0)⟩
theorem seat_fl (E : Drw) : (E.map seat).flatten.length = E.flatten.length := (RotL.seatL E).flat.length_eq

/-! ### moves that add no crossing, drawn; a move drawn -/
theorem gIx_hd (x : D) (ds : List D) : gIx (.tup (x :: ds)) (.int 0) = .ok x := by
  have : atI (x :: ds) 0 = some x := by
    unfold atI ixN
    simp
  show (match atI (x :: ds) 0 with | some d => Res.ok d | none => .bad) = _
  rw [this]
section
variable {E : Drw}
theorem rm_due {m : Mv} {l : Lm} (h : m.told = lmE l) (hm : l ∈ dueL E) (hd : Dr E) (hf : Fit E m) : rm m = 0 := by
  cases m with
  | curl n k f h1 =>
    unfold dueL at hm
    have e : lmE l = .tup (.str (Str.ofString "curl") :: [.int n, t2 k, .int f, .int h1]) := h.symm
    exfalso
    have e2 : D.str l.w.str = .str (Str.ofString "curl") := by
      have := congrArg (fun d : D => match d with | .tup (x :: _) => x | _ => .non) e
      exact this
    have e3 : l.w.str = Str.ofString "curl" := by injection e2
    generalize l.w = w at e3
    cases w <;> exact absurd e3 (by decide)
  | lay a b o u t c =>
    exfalso
    have e : lmE l = .tup (.str (Str.ofString "lay") :: [.int a, .int b, t2 o, t2 u, .int t, .int c]) := h.symm
    have e2 : D.str l.w.str = .str (Str.ofString "lay") := by
      have := congrArg (fun d : D => match d with | .tup (x :: _) => x | _ => .non) e
      exact this
    have e3 : l.w.str = Str.ofString "lay" := by injection e2
    generalize l.w = w at e3
    cases w <;> exact absurd e3 (by decide)
  | prt a b => rfl
  | uncurl n => rfl
  | slide a b c t => rfl
theorem klesser_is (hd : Dr E) (h12 : (hnds E).length ≤ 12) (v : Int) (b : Bool) : F__law_lesser [encD E, .int v, .bl b] = .ok .non ∨ ∃ m : Mv, F__law_lesser [encD E, .int v, .bl b] = .ok m.told ∧ Fit E m ∧ rm m = 0 := by
  have hcp := copy_is E (by have := hd.vd.sz.len; omega)
  have hls := lessening_is hd h12
  have hlen := due_len hd h12
  have i2 : immAt 2 (encD E) = true := by simp
  have i1 := immAtM (dueL E)
  have eD : encM (dueL E) = .lst ((dueL E).map lmE) := rfl
  rw [eD] at hls i1
  suffices Hs : Tells (F__law_lesser [encD E, .int v, .bl b]) fun d => d = .non ∨ ∃ m : Mv, d = m.told ∧ Fit E m ∧ rm m = 0 by
    obtain ⟨d, e, h | ⟨m, h1, h2⟩⟩ := Hs
    · exact .inl (by rw [e, h])
    · exact .inr ⟨m, by rw [e, h1], h2⟩
  simp only [F__law_lesser, m__law_lesser, runD]
  refine t_seq (e := [some (0, encD E), some (0, .int v), some (0, .bl b), some (1, .lst ((dueL E).map lmE)), none]) (by
    generalize (dueL E).map lmE = LL at *
    generalize encD E = EE at *
    simp -implicitDefEqProofs [hcp, i2, hls, i1]) ?_
  refine t_seqP (P := fun e => ∃ L : List Lm, (∀ m ∈ L, m ∈ dueL E) ∧ L.length ≤ 500 ∧ e = [some (0, encD E), some (0, .int v), some (0, .bl b), some (0, .lst (L.map lmE)), none]) ?_ ?_
  · have lc := lc_run (t := tName 4) (mt := mTb (mOp gEq (mOp gIx (mVar 4) (mC (.int 0))) (mC (.str "slide")))) (me := mImm (mVar 4)) (env := [some (0, encD E), some (0, .int v), some (0, .bl b), some (0, .lst ((dueL E).map lmE)), none]) lmE (fun l => decide (l.w = Wd3.s)) lmE (dueL E) (fun l _ => by
      have g0 : gIx (lmE l) (.int 0) = .ok (.str l.w.str) := gIx_hd _ _
      have hq : gEq (.str l.w.str) (.str (Str.ofString "slide")) = .ok (.bl (decide (l.w = Wd3.s))) := by
        cases l.w
        · exact okB_eq (by decide +kernel)
        · exact okB_eq (by decide +kernel)
        · exact okB_eq (by decide +kernel)
      have il : (lmE l).imm = true := by
        have := immM [l]
        have h2 : immAll [lmE l] = true := this
        simpa [immAll] using h2
      generalize (dueL E).map lmE = LL at *
      generalize encD E = EE at *
      refine ⟨[some (0, EE), some (0, .int v), some (0, .bl b), some (0, .lst LL), some (0, lmE l)], by simp -implicitDefEqProofs, ?_, ?_⟩
      · generalize lmE l = X at *
        generalize D.str l.w.str = W at *
        generalize decide (l.w = Wd3.s) = B at *
        simp -implicitDefEqProofs [g0, hq]
      · intro _
        generalize lmE l = X at *
        simp -implicitDefEqProofs [il])
    obtain ⟨F, hF⟩ : ∃ F, F = (dueL E).filter fun l => decide (l.w = Wd3.s) := ⟨_, rfl⟩
    rw [← hF] at lc
    have hFl : F.length ≤ 500 := by rw [hF]; exact Nat.le_trans (List.length_filter_le _ _) hlen
    have hFm : ∀ m ∈ F, m ∈ dueL E := fun m hm => by rw [hF] at hm; exact (List.mem_filter.mp hm).1
    have hzF : (F.map lmE).length ≤ sizeLine := sizeLine_big (by rw [List.length_map]; omega)
    have qF : gNe (.lst (F.map lmE)) (.lst []) = .ok (.bl (!decide (F = []))) := gNe_enc (α := List Lm) F [] (by decide)
    have i1F := immAtM F
    have eF : encM F = .lst (F.map lmE) := rfl
    rw [eF] at i1F
    have hz0 : (0 : Nat) ≤ sizeLine := by decide
    cases b with
    | false =>
      refine Tells.of (?_ : _ = Res.ok (Ctl.nx [some (0, encD E), some (0, .int v), some (0, .bl false), some (0, .lst ((dueL E).map lmE)), none])) ⟨_, rfl, dueL E, fun m h => h, hlen, rfl⟩
      generalize (dueL E).map lmE = LL at *
      generalize encD E = EE at *
      simp -implicitDefEqProofs
    | true =>
      by_cases hF0 : F = []
      · rw [decide_eq_true hF0] at qF
        refine Tells.of (?_ : _ = Res.ok (Ctl.nx [some (0, encD E), some (0, .int v), some (0, .bl true), some (0, .lst ((dueL E).map lmE)), none])) ⟨_, rfl, dueL E, fun m h => h, hlen, rfl⟩
        generalize (dueL E).map lmE = LL at *
        generalize F.map lmE = FF at *
        generalize encD E = EE at *
        simp -implicitDefEqProofs [e_mLc, lc, hzF, qF, hz0]
      · rw [decide_eq_false hF0] at qF
        refine Tells.of (?_ : _ = Res.ok (Ctl.nx [some (0, encD E), some (0, .int v), some (0, .bl true), some (0, .lst (F.map lmE)), none])) ⟨_, rfl, F, hFm, hFl, rfl⟩
        generalize (dueL E).map lmE = LL at *
        generalize F.map lmE = FF at *
        generalize encD E = EE at *
        simp -implicitDefEqProofs [e_mLc, lc, hzF, qF, hz0]
  rintro _ ⟨L, hLm, hLl, rfl⟩
  have qL : gEq (.lst (L.map lmE)) (.lst []) = .ok (.bl (decide (L = []))) := gEq_enc (α := List Lm) L [] (by decide)
  have hz0 : (0 : Nat) ≤ sizeLine := by decide
  by_cases hL0 : L = []
  · rw [decide_eq_true hL0] at qL
    refine t_seqR (d := .non) (by
      generalize L.map lmE = LL at *
      generalize encD E = EE at *
      simp -implicitDefEqProofs [qL, hz0]) (Tells.ok (.inl rfl))
  · rw [decide_eq_false hL0] at qL
    refine t_seq (e := [some (0, encD E), some (0, .int v), some (0, .bl b), some (0, .lst (L.map lmE)), none]) (by
      generalize L.map lmE = LL at *
      generalize encD E = EE at *
      simp -implicitDefEqProofs [qL, hz0]) ?_
    have hpos : 0 < L.length := List.length_pos_iff.mpr hL0
    obtain ⟨xs, x1, x2, x3⟩ := digits_is v [5, L.length] (by show 2 ≤ 10; decide) (fun s hs => by
      simp only [List.mem_cons, List.not_mem_nil, or_false] at hs
      rcases hs with rfl | rfl <;> omega)
    obtain ⟨a0, a1, rfl⟩ : ∃ a b, xs = [a, b] := by
      match xs, x2 with
      | [a, b], _ => exact ⟨a, b, rfl⟩
    have b1 := x3 1 a1 L.length rfl rfl
    have x1' : F__law_digits [.int v, .lst [.int 5, .int (L.length : Nat)]] = .ok (.lst [.int a0, .int a1]) := x1
    obtain ⟨l, hl⟩ : ∃ l, L[a1]? = some l := ⟨_, List.getElem?_eq_getElem b1⟩
    have gx : gIx (.lst (L.map lmE)) (.int (a1 : Int)) = .ok (lmE l) := gIx_map hl
    have gl : gLen (.lst (L.map lmE)) = .ok (.int (L.length : Nat)) := by
      show Res.ok (D.int (((L.map lmE).length : Nat) : Int)) = _
      rw [List.length_map]
    obtain ⟨m, hm1, hm2⟩ := due_fit hd (hLm l (List.mem_of_getElem? hl))
    have hr := rm_due hm1 (hLm l (List.mem_of_getElem? hl)) hd hm2
    have im := told_imm m
    rw [← hm1] at gx
    obtain ⟨pt, hpt⟩ : ∃ pt, pt = D.lst [.int a0, .int a1] := ⟨_, rfl⟩
    have ip : immAt 1 pt = true := by rw [hpt]; rfl
    have g1 : gIx pt (.int 1) = .ok (.int a1) := by rw [hpt]; rfl
    rw [← hpt] at x1'
    have hz2 : (2 : Nat) ≤ sizeLine := by decide
    refine Tells.of (b := m.told) ?_ (.inr ⟨m, rfl, hm2, hr⟩)
    clear hm1 hpt x1 x3
    generalize L.map lmE = LL at *
    generalize encD E = EE at *
    generalize m.told = T at *
    simp -implicitDefEqProofs [gl, x1', ip, g1, gx, im, hz2]
theorem kmove_is (hd : Dr E) (hne : E ≠ []) (M : Nat) (hM : M ≤ 8) (hfl : E.flatten.length ≤ 2 * M) (v : Int) : F__law_move [encD E, .int v, .int (M : Int)] = .ok .non ∨ ∃ m : Mv, F__law_move [encD E, .int v, .int (M : Int)] = .ok m.told ∧ Fit E m ∧ (mkM E m).flatten.length ≤ 2 * M := by
  have hnm : F__law_names [encD E] = .ok (.lst ((nmsL E).map D.int)) := lnames0 (ds := E) (by omega)
  have hc := nmsL_cnt hd
  have hcnt := hd.cnt
  have iN : immAt 1 (.lst ((nmsL E).map D.int)) = true := by simp
  have gl : gLen (.lst ((nmsL E).map D.int)) = .ok (.int ((nmsL E).length : Nat)) := by
    show Res.ok (D.int ((((nmsL E).map D.int).length : Nat) : Int)) = _
    rw [List.length_map]
  obtain ⟨xs, x1, x2, x3⟩ := digits_is v [5] (by show 1 ≤ 10; decide) (fun s hs => by
    rw [List.mem_singleton.mp hs]; omega)
  obtain ⟨kd, rfl⟩ : ∃ a, xs = [a] := by
    match xs, x2 with
    | [a], _ => exact ⟨a, rfl⟩
  have x1' : F__law_digits [.int v, .lst [.int 5]] = .ok (.lst [.int kd]) := x1
  have g0 : gIx (.lst [.int (kd : Int)]) (.int 0) = .ok (.int kd) := rfl
  have hz1 : (1 : Nat) ≤ sizeLine := by decide
  have q0 := gEq_i (kd : Int) 0
  have q1 := gEq_i (kd : Int) 1
  have q2 := gEq_i (kd : Int) 2
  have q3 := gEq_i (kd : Int) 3
  have env0 : ∀ {Q : D → Prop}, Tells ((mSeq (mIf (mAndB (mTb (mOp gEq (mVar 4) (mC (.int 0)))) (mTb (mOp gLt (mVar 3) (mVar 2)))) (mRet (mCall 0 F__law_curl (mConsA (mVar 0) (mConsA (mVar 1) mNilA)))) mSkip) (mSeq (mIf (mAndB (mTb (mOp gEq (mVar 4) (mC (.int 1)))) (mTb (mOp gLt (mOp gAdd (mVar 3) (mC (.int 1))) (mVar 2)))) (mRet (mCall 0 F__law_lay (mConsA (mVar 0) (mConsA (mVar 1) mNilA)))) mSkip) (mRet (mCall 0 F__law_lesser (mConsA (mVar 0) (mConsA (mVar 1) (mConsA (mOrV (mOp gEq (mVar 4) (mC (.int 2))) (mOp gEq (mVar 4) (mC (.int 3)))) mNilA))))))) [some (0, encD E), some (0, .int v), some (0, .int (M : Int)), some (0, .int ((nmsL E).length : Nat)), some (0, .int (kd : Int))] >>= fun c => match c with
    | .rt d => .ok d
    | .nx _ => .ok .non
    | _ => .bad) Q → Tells (F__law_move [encD E, .int v, .int (M : Int)]) Q := fun {Q} h => by
    simp only [F__law_move, m__law_move, runD]
    refine t_seq (e := [some (0, encD E), some (0, .int v), some (0, .int (M : Int)), some (0, .int ((nmsL E).length : Nat)), none]) (by
      generalize (nmsL E).map D.int = NN at *
      generalize encD E = EE at *
      simp -implicitDefEqProofs [hnm, iN, gl]) ?_
    refine t_seq (e := [some (0, encD E), some (0, .int v), some (0, .int (M : Int)), some (0, .int ((nmsL E).length : Nat)), some (0, .int (kd : Int))]) (by
      generalize encD E = EE at *
      simp -implicitDefEqProofs [x1', g0, hz1]) ?_
    exact h
  suffices Hs : Tells (F__law_move [encD E, .int v, .int (M : Int)]) fun d => d = .non ∨ ∃ m : Mv, d = m.told ∧ Fit E m ∧ (mkM E m).flatten.length ≤ 2 * M by
    obtain ⟨d, e, h | ⟨m, h1, h2⟩⟩ := Hs
    · exact .inl (by rw [e, h])
    · exact .inr ⟨m, by rw [e, h1], h2⟩
  refine env0 ?_
  clear env0 x1 x3 x1' g0 gl iN hnm
  have less : ∀ b : Bool, Tells (F__law_lesser [encD E, .int v, .bl b]) fun d => d = .non ∨ ∃ m : Mv, d = m.told ∧ Fit E m ∧ (mkM E m).flatten.length ≤ 2 * M := fun b => by
    rcases klesser_is hd (by omega) v b with h | ⟨m, h1, h2, h3⟩
    · exact Tells.of h (.inl rfl)
    · have := (mk_len hd (by omega) h2).1
      exact Tells.of h1 (.inr ⟨m, rfl, h2, by omega⟩)
  have imL : ∀ {d : D}, (d = .non ∨ ∃ m : Mv, d = m.told ∧ Fit E m ∧ (mkM E m).flatten.length ≤ 2 * M) → d.imm = true := fun {d} h => by
    rcases h with rfl | ⟨m, rfl, _⟩
    · rfl
    · exact told_imm m
  by_cases c0 : (kd : Int) = 0 ∧ ((nmsL E).length : Int) < (M : Int)
  · obtain ⟨m, h1, h2, h3⟩ := kcurl_is hd (by omega) hne v
    have hl := (mk_len hd (by omega) h2).1
    rw [decide_eq_true c0.1] at q0
    have hlt := c0.2
    have im := told_imm m
    refine t_seqR (d := m.told) (by
      generalize encD E = EE at *
      generalize m.told = T at *
      simp -implicitDefEqProofs [-e_gEq_int, q0, hlt, h1, im]) (Tells.ok (.inr ⟨m, rfl, h2, by rw [h3] at hl; omega⟩))
  refine t_seq (e := [some (0, encD E), some (0, .int v), some (0, .int (M : Int)), some (0, .int ((nmsL E).length : Nat)), some (0, .int (kd : Int))]) (by
    generalize encD E = EE at *
    by_cases k0 : (kd : Int) = 0
    · have hlt : ¬ ((nmsL E).length : Int) < (M : Int) := fun h => c0 ⟨k0, h⟩
      rw [decide_eq_true k0] at q0
      simp -implicitDefEqProofs [-e_gEq_int, q0, hlt]
    · rw [decide_eq_false k0] at q0
      simp -implicitDefEqProofs [-e_gEq_int, q0]) ?_
  by_cases c1 : (kd : Int) = 1 ∧ ((nmsL E).length : Int) + 1 < (M : Int)
  · obtain ⟨m, h1, h2, h3⟩ := klay_is hd (by omega) hne v
    have hl := (mk_len hd (by omega) h2).1
    rw [decide_eq_true c1.1] at q1
    have hlt := c1.2
    have im := told_imm m
    refine t_seqR (d := m.told) (by
      generalize encD E = EE at *
      generalize m.told = T at *
      simp -implicitDefEqProofs [-e_gEq_int, q1, hlt, h1, im]) (Tells.ok (.inr ⟨m, rfl, h2, by rw [h3] at hl; omega⟩))
  refine t_seq (e := [some (0, encD E), some (0, .int v), some (0, .int (M : Int)), some (0, .int ((nmsL E).length : Nat)), some (0, .int (kd : Int))]) (by
    generalize encD E = EE at *
    by_cases k0 : (kd : Int) = 1
    · have hlt : ¬ ((nmsL E).length : Int) + 1 < (M : Int) := fun h => c1 ⟨k0, h⟩
      rw [decide_eq_true k0] at q1
      simp -implicitDefEqProofs [-e_gEq_int, q1, hlt]
    · rw [decide_eq_false k0] at q1
      simp -implicitDefEqProofs [-e_gEq_int, q1]) ?_
  obtain ⟨d, h1, h2⟩ := less (decide ((kd : Int) = 2) || decide ((kd : Int) = 3))
  have id := imL h2
  refine Tells.of (b := d) ?_ h2
  clear h2
  generalize encD E = EE at *
  by_cases k2 : (kd : Int) = 2
  · rw [decide_eq_true k2] at q2 h1
    rw [Bool.true_or] at h1
    simp -implicitDefEqProofs [-e_gEq_int, q2, h1, id]
  · rw [decide_eq_false k2] at q2 h1
    rw [Bool.false_or] at h1
    generalize decide ((kd : Int) = 3) = B3 at *
    simp -implicitDefEqProofs [-e_gEq_int, q2, q3, h1, id]
end

/-! ### three crossings as a slide wants them -/
def sel (g : Int) (r : List T3) : List T3 := if g = -1 then r.reverse else r
theorem sel_perm (g : Int) (r : List T3) : (sel g r).Perm r := by
  unfold sel
  split
  · exact List.reverse_perm r
  · exact List.Perm.refl _
theorem pairs_is (a b c k : Int) : ∃ (r0 r1 r2 : List T3) (x y z : Int), F__law_pairs [.lst [.int a, .int b, .int c], .int k] = .ok (encD [r0, r1, r2]) ∧ r0.Perm [⟨a, 0, x⟩, ⟨b, 0, y⟩] ∧ r1.Perm [⟨a, 1, x⟩, ⟨c, 0, z⟩] ∧ r2.Perm [⟨b, 1, y⟩, ⟨c, 1, z⟩] ∧ (x = 1 ∨ x = -1) ∧ (y = 1 ∨ y = -1) ∧ (z = 1 ∨ z = -1) := by
  obtain ⟨o, ho, ho1⟩ : ∃ o : Int, 1 - 2 * (k % 2) = o ∧ (o = 1 ∨ o = -1) := ⟨_, rfl, by omega⟩
  obtain ⟨m, hm, hm1⟩ : ∃ m : Int, 1 - 2 * (k / 2 % 2) = m ∧ (m = 1 ∨ m = -1) := ⟨_, rfl, by omega⟩
  obtain ⟨u, hu, hu1⟩ : ∃ u : Int, 1 - 2 * (k / 4 % 2) = u ∧ (u = 1 ∨ u = -1) := ⟨_, rfl, by omega⟩
  obtain ⟨s, hs, hs1⟩ : ∃ s : Int, 1 - 2 * (k / 8 % 2) = s ∧ (s = 1 ∨ s = -1) := ⟨_, rfl, by omega⟩
  have k2 := e_gMod k 2 (by decide)
  have k22 := e_gMod (k / 2) 2 (by decide)
  have k42 := e_gMod (k / 4) 2 (by decide)
  have k82 := e_gMod (k / 8) 2 (by decide)
  have d2 := e_gFdv k 2 (by decide) (by decide)
  have d4 := e_gFdv k 4 (by decide) (by decide)
  have d8 := e_gFdv k 8 (by decide) (by decide)
  have u2 := e_gMul 2 (k % 2) (.inl (by decide))
  have u22 := e_gMul 2 (k / 2 % 2) (.inl (by decide))
  have u42 := e_gMul 2 (k / 4 % 2) (.inl (by decide))
  have u82 := e_gMul 2 (k / 8 % 2) (.inl (by decide))
  have s1 : gSub (.int 1) (.int (2 * (k % 2))) = .ok (.int o) := by rw [← ho]; rfl
  have s2 : gSub (.int 1) (.int (2 * (k / 2 % 2))) = .ok (.int m) := by rw [← hm]; rfl
  have s3 : gSub (.int 1) (.int (2 * (k / 4 % 2))) = .ok (.int u) := by rw [← hu]; rfl
  have s4 : gSub (.int 1) (.int (2 * (k / 8 % 2))) = .ok (.int s) := by rw [← hs]; rfl
  clear ho hm hu hs
  obtain ⟨so, hso, hso1⟩ : ∃ so : Int, s * o = so ∧ (so = 1 ∨ so = -1) := ⟨_, rfl, pm_mul hs1 ho1⟩
  obtain ⟨sm, hsm, hsm1⟩ : ∃ sm : Int, s * m = sm ∧ (sm = 1 ∨ sm = -1) := ⟨_, rfl, pm_mul hs1 hm1⟩
  obtain ⟨x, hx, hx1⟩ : ∃ x : Int, so * m = x ∧ (x = 1 ∨ x = -1) := ⟨_, rfl, pm_mul hso1 hm1⟩
  obtain ⟨y, hy, hy1⟩ : ∃ y : Int, so * u = y ∧ (y = 1 ∨ y = -1) := ⟨_, rfl, pm_mul hso1 hu1⟩
  obtain ⟨z, hz, hz1⟩ : ∃ z : Int, sm * u = z ∧ (z = 1 ∨ z = -1) := ⟨_, rfl, pm_mul hsm1 hu1⟩
  have p1 : gMul (.int s) (.int o) = .ok (.int so) := by rw [← hso]; exact e_gMul s o (.inl (pm_sm hs1))
  have p2 : gMul (.int s) (.int m) = .ok (.int sm) := by rw [← hsm]; exact e_gMul s m (.inl (pm_sm hs1))
  have p3 : gMul (.int so) (.int m) = .ok (.int x) := by rw [← hx]; exact e_gMul so m (.inl (pm_sm hso1))
  have p4 : gMul (.int so) (.int u) = .ok (.int y) := by rw [← hy]; exact e_gMul so u (.inl (pm_sm hso1))
  have p5 : gMul (.int sm) (.int u) = .ok (.int z) := by rw [← hz]; exact e_gMul sm u (.inl (pm_sm hsm1))
  clear hso hsm hx hy hz
  obtain ⟨r0, hr0⟩ : ∃ r0 : List T3, r0 = [⟨a, 0, x⟩, ⟨b, 0, y⟩] := ⟨_, rfl⟩
  obtain ⟨r1, hr1⟩ : ∃ r1 : List T3, r1 = [⟨a, 1, x⟩, ⟨c, 0, z⟩] := ⟨_, rfl⟩
  obtain ⟨r2, hr2⟩ : ∃ r2 : List T3, r2 = [⟨b, 1, y⟩, ⟨c, 1, z⟩] := ⟨_, rfl⟩
  refine ⟨sel o r0, sel m r1, sel u r2, x, y, z, ?_, by rw [← hr0]; exact sel_perm _ _, by rw [← hr1]; exact sel_perm _ _, by rw [← hr2]; exact sel_perm _ _, hx1, hy1, hz1⟩
  obtain ⟨N, hN⟩ : ∃ N, N = D.lst [.int a, .int b, .int c] := ⟨_, rfl⟩
  have n0 : gIx N (.int 0) = .ok (.int a) := by rw [hN]; rfl
  have n1 : gIx N (.int 1) = .ok (.int b) := by rw [hN]; rfl
  have n2 : gIx N (.int 2) = .ok (.int c) := by rw [hN]; rfl
  rw [← hN]
  clear hN
  have z1 : (1 : Nat) ≤ sizeLine := by decide
  have z2 : (2 : Nat) ≤ sizeLine := by decide
  have z3 : (3 : Nat) ≤ sizeLine := by decide
  have z4 : (2 : Nat) < sizeLine := by decide
  have e01 : encD [r0, r1] = .lst [.lst [.tup [.int a, .int 0, .int x], .tup [.int b, .int 0, .int y]], .lst [.tup [.int a, .int 1, .int x], .tup [.int c, .int 0, .int z]]] := by rw [hr0, hr1]; rfl
  have e012 : encD [r0, r1, r2] = .lst [.lst [.tup [.int a, .int 0, .int x], .tup [.int b, .int 0, .int y]], .lst [.tup [.int a, .int 1, .int x], .tup [.int c, .int 0, .int z]], .lst [.tup [.int b, .int 1, .int y], .tup [.int c, .int 1, .int z]]] := by rw [hr0, hr1, hr2]; rfl
  refine Tells.eq ?_
  simp only [F__law_pairs, m__law_pairs, runD]
  refine t_seq (e := [some (0, N), some (0, .int k), some (0, .int o), none, none, none, none, none, none, none, none, none]) (by simp -implicitDefEqProofs [-e_gSub, k2, u2, s1]) ?_
  refine t_seq (e := [some (0, N), some (0, .int k), some (0, .int o), some (0, .int m), none, none, none, none, none, none, none, none]) (by simp -implicitDefEqProofs [-e_gSub, d2, k22, u22, s2]) ?_
  refine t_seq (e := [some (0, N), some (0, .int k), some (0, .int o), some (0, .int m), some (0, .int u), none, none, none, none, none, none, none]) (by simp -implicitDefEqProofs [-e_gSub, d4, k42, u42, s3]) ?_
  refine t_seq (e := [some (0, N), some (0, .int k), some (0, .int o), some (0, .int m), some (0, .int u), some (0, .int s), none, none, none, none, none, none]) (by simp -implicitDefEqProofs [-e_gSub, d8, k82, u82, s4]) ?_
  refine t_seq (e := [some (0, N), some (0, .int k), some (0, .int o), some (0, .int m), some (0, .int u), some (0, .int s), some (0, .int x), none, none, none, none, none]) (by simp -implicitDefEqProofs [p1, p3]) ?_
  refine t_seq (e := [some (0, N), some (0, .int k), some (0, .int o), some (0, .int m), some (0, .int u), some (0, .int s), some (0, .int x), some (0, .int y), none, none, none, none]) (by simp -implicitDefEqProofs [p1, p4]) ?_
  refine t_seq (e := [some (0, N), some (0, .int k), some (0, .int o), some (0, .int m), some (0, .int u), some (0, .int s), some (0, .int x), some (0, .int y), some (0, .int z), none, none, none]) (by simp -implicitDefEqProofs [p2, p5]) ?_
  refine t_seq (e := [some (0, N), some (0, .int k), some (0, .int o), some (0, .int m), some (0, .int u), some (0, .int s), some (0, .int x), some (0, .int y), some (0, .int z), some (2, encD [r0, r1]), none, none]) (by
    rw [e01]
    simp -implicitDefEqProofs [n0, n1, n2, z2, z3]) ?_
  refine t_seq (e := [some (0, N), some (0, .int k), some (0, .int o), some (0, .int m), some (0, .int u), some (0, .int s), some (0, .int x), some (0, .int y), some (0, .int z), some (2, encD [r0, r1, r2]), none, none]) (by
    rw [e01, e012]
    simp -implicitDefEqProofs [n0, n1, n2, z2, z3, z4]) ?_
  obtain ⟨G, hG⟩ : ∃ G, G = D.lst [.int o, .int m, .int u] := ⟨_, rfl⟩
  have g0 : gIx G (.int (0 : Nat)) = .ok (.int o) := by rw [hG]; rfl
  have g1 : gIx G (.int (1 : Nat)) = .ok (.int m) := by rw [hG]; rfl
  have g2 : gIx G (.int (2 : Nat)) = .ok (.int u) := by rw [hG]; rfl
  refine t_seq (e := [some (0, N), some (0, .int k), some (0, .int o), some (0, .int m), some (0, .int u), some (0, .int s), some (0, .int x), some (0, .int y), some (0, .int z), some (2, encD [r0, r1, r2]), some (1, G), none]) (by
    rw [hG]
    generalize encD [r0, r1, r2] = X at *
    simp -implicitDefEqProofs [z3]) ?_
  clear hG e01 e012
  have st : ∀ (i : Nat) (xs : Drw) (r : List T3) (g : Int), xs[i]? = some r → gIx G (.int (i : Nat)) = .ok (.int g) → (tName 11 0 (.int (i : Nat)) [some (0, N), some (0, .int k), some (0, .int o), some (0, .int m), some (0, .int u), some (0, .int s), some (0, .int x), some (0, .int y), some (0, .int z), some (2, encD xs), some (1, G), none] >>= fun e => (mIf (mTb (mOp gEq (mOp gIx (mVar 10) (mVar 11)) (mUn gNeg (mC (.int 1))))) (mPutI 9 1 [] (mListRev (fun env => (mOp gIx (mVar 9) (mVar 11)) env >>= fun d => itemsL d >>= immL)) (mVar 11)) mSkip) e >>= stepc [11]) = .ok [some (0, N), some (0, .int k), some (0, .int o), some (0, .int m), some (0, .int u), some (0, .int s), some (0, .int x), some (0, .int y), some (0, .int z), some (2, encD (xs.set i (sel g r))), some (1, G), none] := by
    intro i xs r g hx hg
    have hi := (List.getElem?_eq_some_iff.mp hx).1
    have gx : gIx (encD xs) (.int (i : Nat)) = .ok (encR r) := gIx_map hx
    have gn : gNeg (.int 1) = .ok (.int (-1)) := rfl
    have q := gEq_i g (-1)
    have hR : itemsL (encR r) = .ok (r.map t3) := rfl
    have ir := immT3 r
    have hpi := putIm_nat encR (j := 9) (k := 1) (cs := []) (v := r.reverse) (i := i) (xs := xs) (env := [some (0, N), some (0, .int k), some (0, .int o), some (0, .int m), some (0, .int u), some (0, .int s), some (0, .int x), some (0, .int y), some (0, .int z), some (2, encD xs), some (1, G), some (0, .int (i : Nat))]) hi
    have er : encR r.reverse = .lst (r.map t3).reverse := by unfold encR; rw [List.map_reverse]
    have eX : encD xs = .lst (xs.map encR) := rfl
    unfold sel
    by_cases c1 : g = -1
    · rw [decide_eq_true c1] at q
      rw [if_pos c1]
      have eS : encD (xs.set i r.reverse) = .lst ((xs.set i r.reverse).map encR) := rfl
      rw [eS]
      rw [er] at hpi
      rw [eX] at gx hpi ⊢
      generalize encR r = RR at *
      simp -implicitDefEqProofs [-e_gEq_int, mListRev, hg, gn, q, gx, hR, immL, ir]
      rw [hpi]
      simp -implicitDefEqProofs
    · rw [decide_eq_false c1] at q
      rw [if_neg c1]
      have e1 : xs.set i r = xs := by
        refine List.ext_getElem? fun j => ?_
        by_cases e : i = j
        · subst e; rw [List.getElem?_set_self hi, hx]
        · rw [List.getElem?_set_ne e]
      rw [e1]
      generalize encD xs = XX at *
      simp -implicitDefEqProofs [-e_gEq_int, hg, gn, q]
  have h3 : gRng1 (.int 3) = .ok [.int ((0 : Nat) : Int), .int ((1 : Nat) : Int), .int ((2 : Nat) : Int)] := rfl
  refine t_seq (e := [some (0, N), some (0, .int k), some (0, .int o), some (0, .int m), some (0, .int u), some (0, .int s), some (0, .int x), some (0, .int y), some (0, .int z), some (2, encD [sel o r0, sel m r1, sel u r2]), some (1, G), none]) (by
    refine for_of (ds := [.int ((0 : Nat) : Int), .int ((1 : Nat) : Int), .int ((2 : Nat) : Int)]) h3 ?_
    rw [loop_step (st 0 [r0, r1, r2] r0 o rfl g0), loop_step (st 1 _ r1 m rfl g1), loop_step (st 2 _ r2 u rfl g2)]
    rfl) ?_
  refine Tells.eqI ?_
  have iX : immAt 2 (encD [sel o r0, sel m r1, sel u r2]) = true := by simp
  generalize encD [sel o r0, sel m r1, sel u r2] = X at *
  simp -implicitDefEqProofs [iX]

theorem ktri_is {E : Drw} (hd : Dr E) (hfl : E.flatten.length ≤ 40) (hne : E ≠ []) (v : Int) : ∃ F : Drw, F__law_triangle [encD E, .int v] = .ok (encD F) ∧ Dr F ∧ F.length = E.length ∧ F.flatten.length = E.flatten.length + 6 := by
  have hnm : F__law_names [encD E] = .ok (.lst ((nmsL E).map D.int)) := lnames0 (ds := E) (by omega)
  have hNl := nmsL_len E
  have hdl := hd.vd.sz.len
  have hpos : 0 < E.length := List.length_pos_iff.mpr hne
  have iN : immAt 1 (.lst ((nmsL E).map D.int)) = true := by simp
  have iNa : immAll ((nmsL E).map D.int) = true := by simp
  have gl : gLen (encD E) = .ok (.int (E.length : Nat)) := by
    show Res.ok (D.int (((E.map encR).length : Nat) : Int)) = _
    rw [List.length_map]
  obtain ⟨xs, x1, x2, x3⟩ := digits_is v [16, 999, 999, 999, E.length, E.length, E.length, 10000, 10000, 10000] (by show 10 ≤ 10; decide) (fun s hs => by
    simp only [List.mem_cons, List.not_mem_nil, or_false] at hs
    rcases hs with rfl | rfl | rfl | rfl | rfl | rfl | rfl | rfl | rfl | rfl <;> omega)
  have x1' : F__law_digits [.int v, .lst [.int 16, .int 999, .int 999, .int 999, .int (E.length : Nat), .int (E.length : Nat), .int (E.length : Nat), .int 10000, .int 10000, .int 10000]] = .ok (.lst (xs.map fun x : Nat => D.int x)) := x1
  have xl : xs.length = 10 := x2
  have ip : immAt 1 (.lst (xs.map fun x : Nat => D.int x)) = true := by simp
  have gp : ∀ (i : Nat) (x : Nat), xs[i]? = some x → gIx (.lst (xs.map fun x : Nat => D.int x)) (.int (i : Nat)) = .ok (.int x) := fun i x h => gIx_map h
  obtain ⟨kp, hkp⟩ : ∃ x, xs[0]? = some x := ⟨_, List.getElem?_eq_getElem (by omega)⟩
  have gk : gIx (.lst (xs.map fun x : Nat => D.int x)) (.int 0) = .ok (.int kp) := gp 0 kp hkp
  obtain ⟨pt, hpt⟩ : ∃ pt, pt = D.lst (xs.map fun x : Nat => D.int x) := ⟨_, rfl⟩
  rw [← hpt] at x1' ip gp gk
  clear hpt x1
  have hz10 : (10 : Nat) ≤ sizeLine := by decide
  have hg3 : gRng1 (.int 3) = .ok ((List.range 3).map fun i : Nat => D.int i) := rfl
  refine (?_ : Tells (F__law_triangle [encD E, .int v]) fun d => ∃ F : Drw, d = encD F ∧ Dr F ∧ F.length = E.length ∧ F.flatten.length = E.flatten.length + 6).elim fun d h => by
    obtain ⟨e, F, rfl, h2⟩ := h
    exact ⟨F, e, h2⟩
  simp only [F__law_triangle, m__law_triangle, runD]
  refine t_seq (e := [some (0, encD E), some (0, .int v), some (1, .lst ((nmsL E).map D.int)), none, none, none, none, none]) (by
    generalize encD E = EE at *
    generalize (nmsL E).map D.int = NN at *
    simp -implicitDefEqProofs [hnm, iN]) ?_
  refine t_seq (e := [some (0, encD E), some (0, .int v), some (1, .lst ((nmsL E).map D.int)), some (1, .lst []), none, none, none, none]) (by
    generalize encD E = EE at *
    generalize (nmsL E).map D.int = NN at *
    simp -implicitDefEqProofs) ?_
  refine t_seq (e := [some (0, encD E), some (0, .int v), some (1, .lst ((nmsL E).map D.int)), some (1, .lst []), some (0, .int (E.length : Nat)), none, none, none]) (by
    generalize encD E = EE at *
    generalize (nmsL E).map D.int = NN at *
    simp -implicitDefEqProofs [gl]) ?_
  refine t_seq (e := [some (0, encD E), some (0, .int v), some (1, .lst ((nmsL E).map D.int)), some (1, .lst []), some (0, .int (E.length : Nat)), some (1, pt), none, none]) (by
    generalize encD E = EE at *
    generalize (nmsL E).map D.int = NN at *
    simp -implicitDefEqProofs [x1', ip, hz10]) ?_
  refine t_seqP (P := fun e => ∃ a b c : Int, a ≠ b ∧ a ≠ c ∧ b ≠ c ∧ a ∉ nmsL E ∧ b ∉ nmsL E ∧ c ∉ nmsL E ∧ e = [some (0, encD E), some (0, .int v), some (1, .lst ((nmsL E).map D.int)), some (1, .lst [.int a, .int b, .int c]), some (0, .int (E.length : Nat)), some (1, pt), none, none]) ?_ ?_
  · obtain ⟨Fr, ⟨hl, hn, hm⟩, hf⟩ := for_run (fun Fr : List Int => [some (0, encD E), some (0, .int v), some (1, .lst ((nmsL E).map D.int)), some (1, .lst (Fr.map D.int)), some (0, .int (E.length : Nat)), some (1, pt), none, none]) (fun i : Nat => D.int i) (fun i Fr => Fr.length = i ∧ Fr.Nodup ∧ ∀ z ∈ Fr, z ∉ nmsL E) (List.range 3) [] (it := fun env => (mC (.int 3)) env >>= gRng1) (t := tName 6) (fg := [6]) (body := (mAppend 3 0 [] (mCall 0 F__law_free (mConsA (mCat (fun env => (mVar 2) env >>= fun d => itemsL d >>= immL) (fun env => (mVar 3) env >>= fun d => itemsL d >>= immL)) (mConsA (mOp gAdd (mC (.int 1)) (mOp gIx (mVar 5) (mOp gAdd (mC (.int 1)) (mVar 6)))) mNilA))))) (env := [some (0, encD E), some (0, .int v), some (1, .lst ((nmsL E).map D.int)), some (1, .lst []), some (0, .int (E.length : Nat)), some (1, pt), none, none]) hg3 rfl ⟨rfl, List.nodup_nil, fun z hz => by cases hz⟩ (fun i k Fr hk hp => by
      obtain ⟨rfl, hk3⟩ := rng_at hk
      obtain ⟨hl, hn, hm⟩ := hp
      obtain ⟨x, hx⟩ : ∃ x, xs[1 + k]? = some x := ⟨_, List.getElem?_eq_getElem (by omega)⟩
      have hlt : x < 999 := x3 (1 + k) x 999 hx (by
        match k, hk3 with
        | 0, _ => rfl
        | 1, _ => rfl
        | 2, _ => rfl)
      have gx := gp (1 + k) x hx
      rw [show ((1 + k : Nat) : Int) = 1 + (k : Int) by omega] at gx
      obtain ⟨n, f1, f2, _, _⟩ := free_is (nmsL E ++ Fr) (by rw [List.length_append]; omega) (1 + (x : Int)) (by omega) (by omega)
      rw [show (nmsL E ++ Fr).map D.int = (nmsL E).map D.int ++ Fr.map D.int from List.map_append] at f1
      have zN : ((nmsL E).map D.int).length + (Fr.map D.int).length ≤ sizeLine := sizeLine_big (by rw [List.length_map, List.length_map]; omega)
      have iF : immAll (Fr.map D.int) = true := by simp
      have zF : (Fr.map D.int).length < sizeLine := sizeLine_lt (by rw [List.length_map]; omega)
      refine ⟨Fr ++ [n], ⟨by rw [List.length_append, List.length_singleton]; omega, List.nodup_append.mpr ⟨hn, by simp, fun z hz w hw e => f2 (by rw [List.mem_singleton.mp hw] at e; rw [← e]; exact List.mem_append.mpr (.inr hz))⟩, fun z hz => ?_⟩, ?_⟩
      · rcases List.mem_append.mp hz with hz | hz
        · exact hm z hz
        · rw [List.mem_singleton.mp hz]; exact fun h => f2 (List.mem_append.mpr (.inl h))
      show (tName 6 0 (.int (k : Int)) [some (0, encD E), some (0, .int v), some (1, .lst ((nmsL E).map D.int)), some (1, .lst (Fr.map D.int)), some (0, .int (E.length : Nat)), some (1, pt), none, none] >>= fun e => _) = .ok [some (0, encD E), some (0, .int v), some (1, .lst ((nmsL E).map D.int)), some (1, .lst ((Fr ++ [n]).map D.int)), some (0, .int (E.length : Nat)), some (1, pt), none, none]
      rw [show (Fr ++ [n]).map D.int = Fr.map D.int ++ [.int n] by rw [List.map_append]; rfl]
      generalize (nmsL E).map D.int = NN at *
      generalize Fr.map D.int = FF at *
      generalize encD E = EE at *
      simp -implicitDefEqProofs [iNa, iF, immL, mCat, zN, gx, f1, zF])
    rw [List.length_range] at hl
    obtain ⟨a, b, c, rfl⟩ : ∃ a b c, Fr = [a, b, c] := by
      match Fr, hl with
      | [a, b, c], _ => exact ⟨a, b, c, rfl⟩
    have h2 := hn
    simp only [List.nodup_cons, List.mem_cons, List.not_mem_nil, or_false, not_or] at h2
    exact Tells.of hf ⟨_, rfl, a, b, c, h2.1.1, h2.1.2, h2.2.1, hm a (by simp), hm b (by simp), hm c (by simp), rfl⟩
  rintro _ ⟨a, b, c, hab, hac, hbc, ha, hb, hc, rfl⟩
  obtain ⟨r0, r1, r2, x, y, z, hpr, p0, p1, p2, hx, hy, hz⟩ := pairs_is a b c (kp : Int)
  have iR : immAt 2 (encD [r0, r1, r2]) = true := by simp
  refine t_seq (e := [some (0, encD E), some (0, .int v), some (1, .lst ((nmsL E).map D.int)), some (1, .lst [.int a, .int b, .int c]), some (0, .int (E.length : Nat)), some (1, pt), none, some (2, encD [r0, r1, r2])]) (by
    generalize encD [r0, r1, r2] = R at *
    generalize encD E = EE at *
    generalize (nmsL E).map D.int = NN at *
    generalize D.lst [.int a, .int b, .int c] = AB at *
    simp -implicitDefEqProofs [gk, hpr, iR]) ?_
  have hrl : ∀ r ∈ ([r0, r1, r2] : Drw), r.length = 2 := fun r hr => by
    simp only [List.mem_cons, List.not_mem_nil, or_false] at hr
    rcases hr with rfl | rfl | rfl
    · exact p0.length_eq
    · exact p1.length_eq
    · exact p2.length_eq
  obtain ⟨F, ⟨hFl, hFp⟩, hf⟩ := for_run (fun F : Drw => [some (0, encD F), some (0, .int v), some (1, .lst ((nmsL E).map D.int)), some (1, .lst [.int a, .int b, .int c]), some (0, .int (E.length : Nat)), some (1, pt), none, some (2, encD [r0, r1, r2])]) (fun i : Nat => D.int i) (fun i F => F.length = E.length ∧ F.flatten.Perm ((([r0, r1, r2] : Drw).take i).flatten ++ E.flatten)) (List.range 3) E (it := fun env => (mC (.int 3)) env >>= gRng1) (t := tName 6) (fg := [6]) (body := (mSet 0 0 [] (mCall 2 F__law_put (mConsA (mVar 0) (mConsA (mOp gIx (mVar 5) (mOp gAdd (mC (.int 4)) (mVar 6))) (mConsA (mOp gIx (mVar 5) (mOp gAdd (mC (.int 7)) (mVar 6))) (mConsA (mOp gIx (mVar 7) (mVar 6)) mNilA))))))) (env := [some (0, encD E), some (0, .int v), some (1, .lst ((nmsL E).map D.int)), some (1, .lst [.int a, .int b, .int c]), some (0, .int (E.length : Nat)), some (1, pt), none, some (2, encD [r0, r1, r2])]) hg3 rfl ⟨rfl, List.Perm.refl _⟩ (fun i k F hk hp => by
    obtain ⟨rfl, hk3⟩ := rng_at hk
    obtain ⟨hl, hp⟩ := hp
    obtain ⟨q, hq⟩ : ∃ x, xs[4 + k]? = some x := ⟨_, List.getElem?_eq_getElem (by omega)⟩
    obtain ⟨w, hw⟩ : ∃ x, xs[7 + k]? = some x := ⟨_, List.getElem?_eq_getElem (by omega)⟩
    have hlt : q < E.length := x3 (4 + k) q E.length hq (by
      match k, hk3 with
      | 0, _ => rfl
      | 1, _ => rfl
      | 2, _ => rfl)
    have gq := gp (4 + k) q hq
    rw [show ((4 + k : Nat) : Int) = 4 + (k : Int) by omega] at gq
    have gw := gp (7 + k) w hw
    rw [show ((7 + k : Nat) : Int) = 7 + (k : Int) by omega] at gw
    obtain ⟨r, hr⟩ : ∃ r, ([r0, r1, r2] : Drw)[k]? = some r := ⟨_, List.getElem?_eq_getElem hk3⟩
    have hr2 := hrl r (List.mem_of_getElem? hr)
    have gr : gIx (encD [r0, r1, r2]) (.int (k : Nat)) = .ok (encR r) := gIx_map hr
    have hfl2 : F.flatten.length ≤ 46 := by
      have h1 := hp.length_eq
      have h2 : ((([r0, r1, r2] : Drw).take k).flatten).length ≤ ([r0, r1, r2] : Drw).flatten.length := by
        have h5 := congrArg (fun l : Drw => l.flatten.length) (List.take_append_drop k ([r0, r1, r2] : Drw))
        rw [List.flatten_append, List.length_append] at h5
        omega
      have h3 : ([r0, r1, r2] : Drw).flatten.length = 6 := by
        have e0 := p0.length_eq
        have e1 := p1.length_eq
        have e2 := p2.length_eq
        simp only [List.length_cons, List.length_nil] at e0 e1 e2
        simp only [List.flatten_cons, List.flatten_nil, List.length_append, List.length_nil]
        omega
      rw [List.length_append] at h1
      omega
    have hrow : (F.getD q []).length ≤ 1000 := by
      rw [List.getD_eq_getElem?_getD]
      cases e : F[q]? with
      | none => simp
      | some r' =>
        have := (List.sublist_flatten_of_mem (List.mem_of_getElem? e)).length_le
        show r'.length ≤ 1000
        omega
    have hput := put_is F (by omega) q (by omega) (w : Int) r (by omega) hrow
    have eR : encR r = .lst (r.map t3) := rfl
    rw [← eR] at hput
    obtain ⟨pl, hpl⟩ : ∃ pl, pl = ((w : Int) % ((F.getD q []).length + 1 : Nat)).toNat := ⟨_, rfl⟩
    rw [← hpl] at hput
    refine ⟨insM F q pl r, ⟨by rw [insM_len]; exact hl, ?_⟩, ?_⟩
    · refine (insM_flat (by omega) pl r).trans ?_
      have et : ([r0, r1, r2] : Drw).take (k + 1) = ([r0, r1, r2] : Drw).take k ++ [r] := by
        rw [List.take_succ, hr]; rfl
      rw [et, List.flatten_append]
      have e1 : ([r] : Drw).flatten = r := by simp
      rw [e1]
      refine (List.Perm.append_left r hp).trans ?_
      rw [← List.append_assoc]
      exact List.Perm.append_right _ List.perm_append_comm
    have i2 : immAt 2 (encD (insM F q pl r)) = true := by simp
    show (tName 6 0 (.int (k : Int)) [some (0, encD F), some (0, .int v), some (1, .lst ((nmsL E).map D.int)), some (1, .lst [.int a, .int b, .int c]), some (0, .int (E.length : Nat)), some (1, pt), none, some (2, encD [r0, r1, r2])] >>= fun e => _) = .ok [some (0, encD (insM F q pl r)), some (0, .int v), some (1, .lst ((nmsL E).map D.int)), some (1, .lst [.int a, .int b, .int c]), some (0, .int (E.length : Nat)), some (1, pt), none, some (2, encD [r0, r1, r2])]
    generalize encD (insM F q pl r) = G2 at *
    generalize encD F = FF at *
    generalize encD [r0, r1, r2] = R at *
    generalize (nmsL E).map D.int = NN at *
    generalize D.lst [.int a, .int b, .int c] = AB at *
    generalize encR r = RR at *
    simp -implicitDefEqProofs [gq, gw, gr, hput, i2])
  rw [List.length_range] at hFp
  refine t_seq hf ?_
  obtain ⟨C, hC⟩ : ∃ C : List Crs, C = [⟨a, 0, 0, x⟩, ⟨b, 0, 0, y⟩, ⟨c, 0, 0, z⟩] := ⟨_, rfl⟩
  have hp2 : F.flatten.Perm (E.flatten ++ psg C) := by
    have h := psg3 a b c x y z []
    have e0 : psg ([] : List Crs) = [] := rfl
    rw [List.append_nil, e0, List.append_nil] at h
    have e3 : (([r0, r1, r2] : Drw).take 3).flatten = r0 ++ (r1 ++ r2) := by simp
    rw [e3] at hFp
    refine hFp.trans ?_
    refine List.perm_append_comm.trans (List.Perm.append_left _ ?_)
    rw [hC]
    refine List.Perm.trans ?_ h
    have hh : (r0 ++ (r1 ++ r2)).Perm (r2 ++ (r1 ++ r0)) := by
      refine List.perm_append_comm.trans ?_
      rw [List.append_assoc]
      refine List.Perm.trans ?_ ((List.perm_append_comm (l₁ := r1 ++ r0) (l₂ := r2)))
      rw [List.append_assoc]
      exact List.Perm.append_left _ List.perm_append_comm
    exact hh.trans (p2.append (p1.append p0))
  have hm : ∀ w ∈ C, w = ⟨a, 0, 0, x⟩ ∨ w = ⟨b, 0, 0, y⟩ ∨ w = ⟨c, 0, 0, z⟩ := fun w hw => by
    rw [hC] at hw
    simpa using hw
  have hlen : F.flatten.length = E.flatten.length + 6 := by
    rw [hp2.length_eq, List.length_append, hC]; rfl
  have hD := Dr.add hd (by omega) (by omega) hp2 (by
    rw [hC]
    show [a, b, c].Nodup
    simp [hab, hac, hbc]) (fun w hw => by
    rcases hm w hw with rfl | rfl | rfl
    · exact hx
    · exact hy
    · exact hz) (fun w hw q hq => by
    rcases hm w hw with rfl | rfl | rfl
    · exact nms_free hd ha q hq
    · exact nms_free hd hb q hq
    · exact nms_free hd hc q hq)
  refine Tells.of (b := encD F) ?_ ⟨F, rfl, hD, hFl, hlen⟩
  generalize encD F = FF at *
  generalize encD [r0, r1, r2] = R at *
  generalize (nmsL E).map D.int = NN at *
  generalize D.lst [.int a, .int b, .int c] = AB at *
  simp -implicitDefEqProofs

/-! ### slices by numbers from nought on -/
theorem cut_len (xs : List Int) (lo hi : Option Int) : ∃ ys : List Int, cutD (xs.map D.int) lo hi = ys.map D.int ∧ ys.length ≤ HT.sIx xs.length xs.length hi - HT.sIx xs.length 0 lo := by
  refine ⟨(xs.drop (HT.sIx xs.length 0 lo)).take (HT.sIx xs.length xs.length hi - HT.sIx xs.length 0 lo), by simp [cutD], ?_⟩
  rw [List.length_take]; omega
theorem cut_nat (xs : List Int) (a b : Nat) : ∃ ys : List Int, cutD (xs.map D.int) (some (a : Int)) (some (b : Int)) = ys.map D.int ∧ ys.length ≤ b - a := by
  obtain ⟨ys, h1, h2⟩ := cut_len xs (some a) (some b)
  refine ⟨ys, h1, ?_⟩
  rw [HT.sIx_nat, HT.sIx_nat] at h2
  omega

theorem kmore_is {E : Drw} (hd : Dr E) (hfl : E.flatten.length ≤ 40) {m : Mv} (hf : Fit E m) : F__law_more [encD E, m.told] = .ok (.int (mo E m)) := by
  have hh := lhands_is (E := E) (by omega)
  have j2 : immAt 1 (encK D.int (hnds E)) = true := immAt_K D.int (fun _ => rfl) _
  cases hf with
  | @curl n f h k hn hk hf01 hh1 =>
    have g0 : gIx (Mv.curl n k f h).told (.int 0) = .ok (.str (Str.ofString "curl")) := rfl
    have g4 : gIx (Mv.curl n k f h).told (.int 4) = .ok (.int h) := rfl
    show _ = Res.ok (D.int h)
    generalize (Mv.curl n k f h).told = T at *
    generalize encD E = EE at *
    simp only [F__law_more, m__law_more, runD]
    simp -implicitDefEqProofs [g0, w_curl_curl, g4]
  | @lay a b t c o u hna hnb hab ho hu hne ht hc =>
    have g0 : gIx (Mv.lay a b o u t c).told (.int 0) = .ok (.str (Str.ofString "lay")) := rfl
    show _ = Res.ok (D.int 0)
    generalize (Mv.lay a b o u t c).told = T at *
    generalize encD E = EE at *
    simp only [F__law_more, m__law_more, runD]
    simp -implicitDefEqProofs [g0, w_lay_curl, w_lay_uncurl]
  | @prt a b na nb hp =>
    have g0 : gIx (Mv.prt a b).told (.int 0) = .ok (.str (Str.ofString "part")) := rfl
    show _ = Res.ok (D.int 0)
    generalize (Mv.prt a b).told = T at *
    generalize encD E = EE at *
    simp only [F__law_more, m__law_more, runD]
    simp -implicitDefEqProofs [g0, w_part_curl, w_part_uncurl]
  | @uncurl n nn hp =>
    have g0 : gIx (Mv.uncurl n).told (.int 0) = .ok (.str (Str.ofString "uncurl")) := rfl
    have g1 : gIx (Mv.uncurl n).told (.int 1) = .ok (.int n) := rfl
    have d0 := gDGet_K D.int nn.lk
    have gn : gNeg (.int (hof E n)) = .ok (.int (-hof E n)) := rfl
    show _ = Res.ok (D.int (-hof E n))
    generalize (Mv.uncurl n).told = T at *
    generalize encK D.int (hnds E) = H at *
    generalize hof E n = hn at *
    generalize encD E = EE at *
    simp only [F__law_more, m__law_more, runD]
    simp -implicitDefEqProofs [g0, g1, w_uncurl_curl, w_uncurl_uncurl, hh, j2, d0, gn]
  | @slide a b c t na nb nc ht hs =>
    have g0 : gIx (Mv.slide a b c t).told (.int 0) = .ok (.str (Str.ofString "slide")) := rfl
    show _ = Res.ok (D.int 0)
    generalize (Mv.slide a b c t).told = T at *
    generalize encD E = EE at *
    simp only [F__law_more, m__law_more, runD]
    simp -implicitDefEqProofs [g0, w_slide_curl, w_slide_uncurl]
theorem bi_dr {S : Nat} {ds : Drw} {H : List (Int × Int)} (h : BI S ds H) (hS : S ≤ 10) (hH : H.length ≤ 40) : Dr ds := by
  refine Dr.of_psg (C := H.map fun c : Int × Int => (⟨c.1, 0, 0, c.2⟩ : Crs)) (by rw [h.len]; exact hS) (by rw [List.length_map]; exact hH) ?_ ?_ ?_
  · refine h.db.pm.trans (List.Perm.of_eq ?_)
    unfold psg
    rw [List.flatMap_map]
  · rw [List.map_map]; exact h.db.nd
  · intro c hc
    obtain ⟨d, hd, rfl⟩ := List.mem_map.mp hc
    exact h.db.hd d hd
theorem di_len {S : Nat} {E : Drw} {C : List Crs} (h : DI S E C) (hd : Dr E) : 2 * C.length = E.flatten.length := by
  have h1 := h.keys.length_eq
  rw [List.length_map, List.length_map] at h1
  rw [hd.cnt, h1]
theorem gNe_M (T : Mir.Mat) : gNe (Mir.encM T) (Mir.encM T) = .ok (.bl false) := by
  have := gNe_enc (α := List (List Int)) T T (by decide)
  rw [show (Dat.enc T : D) = Mir.encM T from rfl] at this
  rw [this]; simp
theorem law_true (κ : Str → Addr) (ns : List Int) (hn : ns.length ≤ 63) : F_law κ [.lst (ns.map D.int)] = .ok (.bl true) := by
  have cc : ∀ k : Nat, k < 64 → F__law_cell_at [.lst (ns.map D.int), .int k] = .ok (.int (ns.getD k 0)) := fun k hk => cell_at ns k hk
  obtain ⟨v, hv⟩ : ∃ v : Nat → Int, v = fun k => ns.getD k 0 := ⟨_, rfl⟩
  obtain ⟨A, hA⟩ : ∃ A, A = D.lst (ns.map D.int) := ⟨_, rfl⟩
  have hAi : itemsL A = .ok (ns.map D.int) := by rw [hA]; rfl
  have hAm : immAll (ns.map D.int) = true := by simp
  rw [← hA] at cc ⊢
  have c0 : F__law_cell_at [A, .int 0] = .ok (.int (v 0)) := by rw [hv]; exact cc 0 (by decide)
  have c1 : F__law_cell_at [A, .int 1] = .ok (.int (v 1)) := by rw [hv]; exact cc 1 (by decide)
  have c2 : F__law_cell_at [A, .int 2] = .ok (.int (v 2)) := by rw [hv]; exact cc 2 (by decide)
  clear cc hv
  have m0 := e_gMod (v 0) 3 (by decide)
  have m1 := e_gMod (v 1) 5 (by decide)
  have m2 := e_gMod (v 2) 2 (by decide)
  have f2 := e_gFdv (v 2) 2 (by decide) (by decide)
  have q2 := gEq_i (v 2 % 2) 1
  obtain ⟨S, hSe, hS1, hS3⟩ : ∃ S : Nat, 1 + v 0 % 3 = (S : Int) ∧ 1 ≤ S ∧ S ≤ 3 := ⟨(1 + v 0 % 3).toNat, by omega, by omega, by omega⟩
  obtain ⟨W, hWe, hW4⟩ : ∃ W : Nat, v 1 % 5 = (W : Int) ∧ W ≤ 4 := ⟨(v 1 % 5).toNat, by omega, by omega⟩
  obtain ⟨cs, hcs1, hcl0⟩ := cut_nat ns 3 (3 + W)
  rw [show ((3 + W : Nat) : Int) = 3 + (W : Int) by omega, show ((3 : Nat) : Int) = 3 from rfl] at hcs1
  have hcl : cs.length ≤ 4 := by omega
  obtain ⟨ms, hms1, hms2⟩ := cut_map ns (some 5) (some 63)
  obtain ⟨E0, H, hdr, hBI, hHl⟩ := drawing_isD cs (by omega) S hS1 hS3 999 (by omega)
  have hd0 := bi_dr hBI (by omega) (by omega)
  have hl0 : E0.length = S := hBI.len
  have hf0 : E0.flatten.length ≤ 8 := by have := hBI.db.len; omega
  refine Tells.eq ?_
  simp only [F_law, m_law, runD]
  refine t_seq (e := [some (0, A), some (0, .int (S : Nat)), none, none, none, none, none, none]) (by simp -implicitDefEqProofs [c0, m0, hSe]) ?_
  have i20 : immAt 2 (encD E0) = true := by simp
  refine t_seq (e := [some (0, A), some (0, .int (S : Nat)), some (0, encD E0), none, none, none, none, none]) (by
    have hd9 : F__law_drawing [.lst (cs.map D.int), .int (S : Nat), .int 999] = .ok (encD E0) := hdr
    generalize encD E0 = EE at *
    simp -implicitDefEqProofs [hAi, immL, hAm, mSlice, c1, m1, hWe, hcs1, hd9, i20]) ?_
  refine t_seqP (P := fun e => ∃ E : Drw, Dr E ∧ E.length = S ∧ E.flatten.length ≤ 14 ∧ e = [some (0, A), some (0, .int (S : Nat)), some (0, encD E), none, none, none, none, none]) ?_ ?_
  · by_cases h1 : v 2 % 2 = 1
    · rw [decide_eq_true h1] at q2
      obtain ⟨F, hF, hFd, hFl, hFf⟩ := ktri_is hd0 (by omega) (fun e => by rw [e] at hl0; simp at hl0; omega) (v 2 / 2)
      refine Tells.of (?_ : _ = Res.ok (Ctl.nx [some (0, A), some (0, .int (S : Nat)), some (0, encD F), none, none, none, none, none])) ⟨_, rfl, F, hFd, by omega, by omega, rfl⟩
      generalize encD F = FF at *
      generalize encD E0 = EE at *
      simp -implicitDefEqProofs [-e_gEq_int, mCall0, c2, m2, q2, f2, hF]
    · rw [decide_eq_false h1] at q2
      refine Tells.of (?_ : _ = Res.ok (Ctl.nx [some (0, A), some (0, .int (S : Nat)), some (0, encD E0), none, none, none, none, none])) ⟨_, rfl, E0, hd0, hl0, by omega, rfl⟩
      generalize encD E0 = EE at *
      simp -implicitDefEqProofs [-e_gEq_int, c2, m2, q2]
  clear hdr hBI hHl hd0 hl0 hf0 i20
  rintro _ ⟨E, hd, hl, hf, rfl⟩
  obtain ⟨C, hC⟩ := dr_di hd
  rw [hl] at hC
  have hC14 := di_len hC hd
  have hlk := linking_is hC hS3 (by omega)
  have hwr := writhe_is hC hS3 (by omega)
  have hcp := copy_is E (by omega)
  have i2 : immAt 2 (encD E) = true := by simp
  obtain ⟨T, hT⟩ : ∃ T, T = tbl S C := ⟨_, rfl⟩
  rw [← hT] at hlk
  have iT : immAt 2 (Mir.encM T) = true := by simp
  have hTl : T.length = S := by rw [hT]; unfold tbl; simp
  refine t_seq (e := [some (0, A), some (0, .int (S : Nat)), some (0, encD E), some (2, Mir.encM T), none, none, none, none]) (by
    generalize encD E = EE at *
    generalize Mir.encM T = TT at *
    simp -implicitDefEqProofs [hcp, i2, hlk, iT]) ?_
  refine t_seq (e := [some (0, A), some (0, .int (S : Nat)), some (0, encD E), some (2, Mir.encM T), some (0, .int (C.map (·.c)).sum), none, none, none]) (by
    generalize encD E = EE at *
    generalize Mir.encM T = TT at *
    simp -implicitDefEqProofs [hcp, i2, hwr]) ?_
  obtain ⟨⟨E', C'⟩, _, hfor⟩ := for_run (fun s : Drw × List Crs => [some (0, A), some (0, .int (S : Nat)), some (0, encD s.1), some (2, Mir.encM T), some (0, .int (s.2.map (·.c)).sum), none, none, none]) D.int (fun i s => Dr s.1 ∧ s.1.length = S ∧ s.1.flatten.length ≤ 16 ∧ DI S s.1 s.2 ∧ tbl S s.2 = T) ms (E, C)
    (it := (fun env => (mSlice (fun env => (mVar 0) env >>= fun d => itemsL d >>= immL) (fun env => (mC (.int 5)) env >>= toI >>= fun i => .ok (some i)) (fun env => (mC (.int 63)) env >>= toI >>= fun i => .ok (some i))) env >>= itemsL)) (t := tName 5) (fg := [5, 6, 7])
    (body := (mSeq (mSet 6 0 [] (mCall 0 F__law_move (mConsA (mVar 2) (mConsA (mVar 5) (mConsA (mC (.int 8)) mNilA))))) (mIf (mTb (mUn gNotN (mVar 6))) (mSeq (mSet 4 0 [] (mOp gAdd (mVar 4) (mCall 0 F__law_more (mConsA (mVar 2) (mConsA (mVar 6) mNilA))))) (mSeq (mSet 2 0 [] (mMeth κ [("Curl", F_Move_done κ), ("Lay", F_Move_done κ), ("Part", F_Move_done κ), ("Slide", F_Move_done κ), ("Uncurl", F_Move_done κ)] "done" 2 (mCall 0 (F_move_of κ) (mConsA (mVar 6) mNilA)) (mConsA (mCall 2 F__law_copy (mConsA (mVar 2) mNilA)) mNilA))) (mSeq (mSet 7 0 [] (mCall 0 F_writhe (mConsA (mVar 2) mNilA))) (mIf (mOrB (mTb (mOp gNe (mCall 2 F_linking (mConsA (mVar 2) mNilA)) (mVar 3))) (mOrB (mNotB (mTb (mCall 0 F__law_whole (mConsA (mVar 7) mNilA)))) (mTb (mOp gNe (mVar 7) (mVar 4))))) (mRet (mC (.bl false))) mSkip)))) mSkip)))
    (env := [some (0, A), some (0, .int (S : Nat)), some (0, encD E), some (2, Mir.encM T), some (0, .int (C.map (·.c)).sum), none, none, none]) (by
      generalize encD E = EE at *
      generalize Mir.encM T = TT at *
      simp -implicitDefEqProofs [hAi, immL, hAm, mSlice, hms1]) rfl ⟨hd, hl, by show E.flatten.length ≤ 16; omega, hC, hT.symm⟩ (fun i w s hw hp => by
      obtain ⟨F, D1⟩ := s
      obtain ⟨hFd, hFl, hFf, hFC, hFT⟩ := hp
      dsimp only at hFd hFl hFf hFC hFT
      have hFne : F ≠ [] := fun e => by rw [e] at hFl; simp at hFl; omega
      have hF14 := di_len hFC hFd
      rcases kmove_is hFd hFne 8 (by omega) (by omega) w with hmv | ⟨m, hmv, hfit, hml⟩
      · refine ⟨(F, D1), ⟨hFd, hFl, hFf, hFC, hFT⟩, ?_⟩
        have hmv' : F__law_move [encD F, .int w, .int 8] = .ok .non := hmv
        have gn : gNotN .non = .ok (.bl false) := rfl
        show (tName 5 0 (.int w) [some (0, A), some (0, .int (S : Nat)), some (0, encD F), some (2, Mir.encM T), some (0, .int (D1.map (·.c)).sum), none, none, none] >>= fun e => _) = .ok [some (0, A), some (0, .int (S : Nat)), some (0, encD F), some (2, Mir.encM T), some (0, .int (D1.map (·.c)).sum), none, none, none]
        generalize encD F = FF at *
        generalize Mir.encM T = TT at *
        simp -implicitDefEqProofs [hmv', gn]
      · have hmv' : F__law_move [encD F, .int w, .int 8] = .ok m.told := hmv
        obtain ⟨C2, hC2, hT2, hS2⟩ := di_step hFC hFd (by omega) hfit
        have hD := fit_dr hFd (by omega) hfit
        have hSd := seat_dr hD.1
        have hlk2 := linking_is hC2 hS3 (by have := di_len hC2 hSd; rw [seat_fl] at this; omega)
        have hwr2 := writhe_is hC2 hS3 (by have := di_len hC2 hSd; rw [seat_fl] at this; omega)
        rw [hT2, hFT] at hlk2
        have hmore := kmore_is hFd (by omega) hfit
        have hcnt := hFd.cnt
        have hroom : (hnds F).length + rm m ≤ 12 := by have := rm_le m; omega
        have hdone := fit_done2 κ hFd hroom (by omega) hfit
        have mo2 := moveof_is κ m
        have im := told_imm m
        have iom : (m.ob κ).imm = true := by cases m <;> rfl
        have hcp2 := copy_is F (by omega)
        have iF : immAt 2 (encD F) = true := by simp
        have gnn : gNotN m.told = .ok (.bl true) := by cases m <;> rfl
        obtain ⟨Y, hY⟩ : ∃ Y, Y = (mkM F m).map seat := ⟨_, rfl⟩
        refine ⟨(Y, C2), ⟨by rw [hY]; exact hSd, by rw [hY]; show ((mkM F m).map seat).length = S; rw [List.length_map, hD.2.1, hFl], by rw [hY]; show ((mkM F m).map seat).flatten.length ≤ 16; rw [seat_fl]; omega, by rw [hY]; exact hC2, by show tbl S C2 = T; rw [hT2, hFT]⟩, ?_⟩
        rw [← hY] at hlk2 hwr2 hdone
        have qT := gNe_M T
        have hwh : F__law_whole [.int (C2.map (·.c)).sum] = .ok (.bl true) := rfl
        have qs := gNe_ii (C2.map (·.c)).sum
        have ga : gAdd (.int (D1.map (·.c)).sum) (.int (mo F m)) = .ok (.int (C2.map (·.c)).sum) := by rw [hS2]; rfl
        have iY : immAt 2 (encD Y) = true := by simp
        show (tName 5 0 (.int w) [some (0, A), some (0, .int (S : Nat)), some (0, encD F), some (2, Mir.encM T), some (0, .int (D1.map (·.c)).sum), none, none, none] >>= fun e => _) = .ok [some (0, A), some (0, .int (S : Nat)), some (0, encD Y), some (2, Mir.encM T), some (0, .int (C2.map (·.c)).sum), none, none, none]
        clear hS2 hY
        generalize (C2.map (·.c)).sum = W2 at *
        generalize (D1.map (·.c)).sum = W1 at *
        generalize mo F m = MO at *
        generalize encD Y = YY at *
        generalize encD F = FF at *
        generalize Mir.encM T = TT at *
        generalize m.told = TM at *
        generalize m.ob κ = OM at *
        refine step_of (e1 := [some (0, A), some (0, .int (S : Nat)), some (0, FF), some (2, TT), some (0, .int W1), some (0, .int w), none, none]) (e2 := [some (0, A), some (0, .int (S : Nat)), some (0, YY), some (2, TT), some (0, .int W2), some (0, .int w), some (0, TM), some (0, .int W2)]) rfl ?_ rfl
        refine s_seq2 (e := [some (0, A), some (0, .int (S : Nat)), some (0, FF), some (2, TT), some (0, .int W1), some (0, .int w), some (0, TM), none]) (by simp -implicitDefEqProofs [hmv', im]) ?_
        rw [t_ifT (by simp -implicitDefEqProofs [gnn])]
        refine s_seq2 (e := [some (0, A), some (0, .int (S : Nat)), some (0, FF), some (2, TT), some (0, .int W2), some (0, .int w), some (0, TM), none]) (by simp -implicitDefEqProofs [-e_gAdd, hmore, ga]) ?_
        refine s_seq2 (e := [some (0, A), some (0, .int (S : Nat)), some (0, YY), some (2, TT), some (0, .int W2), some (0, .int w), some (0, TM), none]) (by simp -implicitDefEqProofs [mo2, iom, hcp2, iF, hdone]) ?_
        refine s_seq2 (e := [some (0, A), some (0, .int (S : Nat)), some (0, YY), some (2, TT), some (0, .int W2), some (0, .int w), some (0, TM), some (0, .int W2)]) (by simp -implicitDefEqProofs [hwr2]) ?_
        simp -implicitDefEqProofs [hlk2, iT, qT, hwh, qs, -e_gNe_int])
  refine t_seq hfor ?_
  refine Tells.eqI ?_
  have glT : gLen (Mir.encM T) = .ok (.int (S : Nat)) := by
    show Res.ok (D.int ((((T.map fun r => D.lst (r.map D.int))).length : Nat) : Int)) = _
    rw [List.length_map, hTl]
  have qS : gEq (.int (S : Nat)) (.int (S : Nat)) = .ok (.bl true) := by rw [gEq_i]; simp
  generalize Mir.encM T = TT at *
  generalize encD E' = EE at *
  simp -implicitDefEqProofs [glT, qS, -e_gEq_int]

def top (i : Nat) : Stmt := PySem.Challenge.pw_knotwise_k49_whole_linking_kept.main.body.getD i (.Pass ⟨0, 0, 0, 0⟩)
open PyProof.Rows (envOfC)
structure Txt (K : PySem.W.Frag) (mg : Str → Option Value) (κ : Str → Addr) : Prop where
  b_bool : mg "bool" = none
  b_enumerate : mg "enumerate" = none
  b_int : mg "int" = none
  b_isinstance : mg "isinstance" = none
  b_len : mg "len" = none
  b_list : mg "list" = none
  b_min : mg "min" = none
  b_range : mg "range" = none
  b_reversed : mg "reversed" = none
  b_sorted : mg "sorted" = none
  b_sum : mg "sum" = none
  b_BARE : ∃ t, mg "BARE" = some (.int 2 t)
  b_MOST_CROSSINGS : ∃ t, mg "MOST_CROSSINGS" = some (.int 12 t)
  b_OVER : ∃ t, mg "OVER" = some (.int 0 t)
  b_UNDER : ∃ t, mg "UNDER" = some (.int 1 t)
  o_Curl : OCl K mg κ "Curl"
  o_Lay : OCl K mg κ "Lay"
  o_Part : OCl K mg κ "Part"
  o_Slide : OCl K mg κ "Slide"
  o_Uncurl : OCl K mg κ "Uncurl"
  a_Curl_first : NoAttr K (κ "Curl") "first"
  a_Curl_hand : NoAttr K (κ "Curl") "hand"
  a_Curl_name : NoAttr K (κ "Curl") "name"
  a_Curl_spot : NoAttr K (κ "Curl") "spot"
  a_Lay_hand : NoAttr K (κ "Lay") "hand"
  a_Lay_name : NoAttr K (κ "Lay") "name"
  a_Lay_over : NoAttr K (κ "Lay") "over"
  a_Lay_second : NoAttr K (κ "Lay") "second"
  a_Lay_turned : NoAttr K (κ "Lay") "turned"
  a_Lay_under : NoAttr K (κ "Lay") "under"
  a_Part_name : NoAttr K (κ "Part") "name"
  a_Part_second : NoAttr K (κ "Part") "second"
  a_Slide_name : NoAttr K (κ "Slide") "name"
  a_Slide_second : NoAttr K (κ "Slide") "second"
  a_Slide_third : NoAttr K (κ "Slide") "third"
  a_Slide_turn : NoAttr K (κ "Slide") "turn"
  a_Uncurl_name : NoAttr K (κ "Uncurl") "name"
abbrev s__law_pick : Stmt := top 51
theorem sc__law_pick : FnScope ["_law_cell", "_law_prime", "_law_many"] ["_law_cell", "_law_prime", "_law_many"] (defScope s__law_pick) := ⟨rfl, rfl, rfl, by decide +kernel, rfl, by decide +kernel, by decide +kernel⟩
theorem ok__law_pick {P : Program} {w : World} {K : PySem.W.Frag} {mg : Str → Option Value} {base : Heap} {κ : Str → Addr} (T : Txt K mg κ) (A : At K mg "_law_pick" s__law_pick)  : Cal P w K mg base "_law_pick" 1 3 0 F__law_pick := by
  obtain ⟨f, fd, F, hm⟩ := A.ex
  refine ⟨f, fd, ["_law_cell", "_law_prime", "_law_many"], hm, F.kp, F.binds (fun _ _ _ _ _ _ us hl => match us, hl with | [_, _, _], _ => rfl), def_ok (m := m__law_pick) F sc__law_pick rfl rfl fun cdv A outer s H E hr => ?_⟩
  have nd := sc__law_pick.nd
  have hu := hr.units
  have hu1 : (A.deeper (envOfC "_law_pick" (defScope s__law_pick) s.heap.objs.size f cdv)).units + 1 < cLine := by omega
  have hu65 : (A.deeper (envOfC "_law_pick" (defScope s__law_pick) s.heap.objs.size f cdv)).units + 65 < cLine := by have := hr.un; omega
  exact (ss_one (s_ret (se_c (k := 0) (sc_op o_mod (sb_c (sc_op o_mod (sb_c (sc_op o_mul (sb_var (pv 0)) (sb_c sc_int))) (sb_var (pv 1)))) (sb_var (pv 2))))))
abbrev s__law_digits : Stmt := top 55
theorem sc__law_digits : FnScope ["_law_cell", "_law_sizes", "_law_primes", "_law_left", "_law_found", "_law_at", "_law_size"] ["_law_cell", "_law_sizes"] (defScope s__law_digits) := ⟨rfl, rfl, rfl, by decide +kernel, rfl, by decide +kernel, by decide +kernel⟩
theorem ok__law_digits {P : Program} {w : World} {K : PySem.W.Frag} {mg : Str → Option Value} {base : Heap} {κ : Str → Addr} (T : Txt K mg κ) (A : At K mg "_law_digits" s__law_digits) (C__law_pick : Cal P w K mg base "_law_pick" 1 3 0 F__law_pick) : Cal P w K mg base "_law_digits" 2 2 1 F__law_digits := by
  obtain ⟨f, fd, F, hm⟩ := A.ex
  refine ⟨f, fd, ["_law_cell", "_law_sizes"], hm, F.kp, F.binds (fun _ _ _ _ _ _ us hl => match us, hl with | [_, _], _ => rfl), def_ok (m := m__law_digits) F sc__law_digits rfl rfl fun cdv A outer s H E hr => ?_⟩
  have nd := sc__law_digits.nd
  have hu := hr.units
  have hu1 : (A.deeper (envOfC "_law_digits" (defScope s__law_digits) s.heap.objs.size f cdv)).units + 1 < cLine := by omega
  have hu65 : (A.deeper (envOfC "_law_digits" (defScope s__law_digits) s.heap.objs.size f cdv)).units + 65 < cLine := by have := hr.un; omega
  exact (ss_cons (s_set (i := 2) nd rfl (.inl rfl) (se_lst (sae_cons (se_c (k := 0) sc_int) (sae_cons (se_c (k := 0) sc_int) (sae_cons (se_c (k := 0) sc_int) (sae_cons (se_c (k := 0) sc_int) (sae_cons (se_c (k := 0) sc_int) (sae_cons (se_c (k := 0) sc_int) (sae_cons (se_c (k := 0) sc_int) (sae_cons (se_c (k := 0) sc_int) (sae_cons (se_c (k := 0) sc_int) (sae_cons (se_c (k := 0) sc_int) (sae_nil (k := 0)))))))))))))) (ss_cons (s_set (i := 3) nd rfl (.inl rfl) (se_c (k := 0) (sc_op o_fdv (sb_var (pv 0)) (sb_c sc_int)))) (ss_cons (s_set (i := 4) nd rfl (.inl rfl) (se_lst (sae_nil (k := 0)))) (ss_cons (s_for .never rfl (si_enum (by rfl) T.b_enumerate (se_var (pv 1))) (tg_tup rfl (tgs_cons (tg_name (i := 5) (pg_name nd rfl (.inl rfl))) (tgs_cons (tg_name (i := 6) (pg_name nd rfl (.inl rfl))) tgs_nil))) (ss_one (s_if (st_cmp (o_eq hu) (sb_c (sc_op o_mod (sb_var (pv 0)) (sb_c sc_int))) (sb_c sc_int) (nomark _)) (ss_cons (s_append (j := 4) (pv 4) (se_c (k := 0) (sc_op o_mod (sb_var (pv 3)) (sb_var (pv 6))))) (ss_one (s_set (i := 3) nd rfl (.inl rfl) (se_c (k := 0) (sc_op o_fdv (sb_var (pv 3)) (sb_var (pv 6))))))) (ss_one (s_append (j := 4) (pv 4) (se_cal C__law_pick (hr.mono (by decide)) (by rfl) (sab_cons (sb_var (pv 0)) (sab_cons (sb_ix (sb_var (pv 2)) (sb_var (pv 5)) (fun _ _ => rfl)) (sab_cons (sb_var (pv 6)) sab_nil))) (hl := (sab_len (sab_len (sab_len sab_len0))))))))) (fg := [5, 6])) (ss_one (s_ret (se_move (k := 1) (pv 4))))))))
abbrev s__law_free : Stmt := top 53
theorem sc__law_free : FnScope ["_law_names_here", "_law_name"] ["_law_names_here", "_law_name"] (defScope s__law_free) := ⟨rfl, rfl, rfl, by decide +kernel, rfl, by decide +kernel, by decide +kernel⟩
theorem ok__law_free {P : Program} {w : World} {K : PySem.W.Frag} {mg : Str → Option Value} {base : Heap} {κ : Str → Addr} (T : Txt K mg κ) (A : At K mg "_law_free" s__law_free)  : Cal P w K mg base "_law_free" 1 2 0 F__law_free := by
  obtain ⟨f, fd, F, hm⟩ := A.ex
  refine ⟨f, fd, ["_law_names_here", "_law_name"], hm, F.kp, F.binds (fun _ _ _ _ _ _ us hl => match us, hl with | [_, _], _ => rfl), def_ok (m := m__law_free) F sc__law_free rfl rfl fun cdv A outer s H E hr => ?_⟩
  have nd := sc__law_free.nd
  have hu := hr.units
  have hu1 : (A.deeper (envOfC "_law_free" (defScope s__law_free) s.heap.objs.size f cdv)).units + 1 < cLine := by omega
  have hu65 : (A.deeper (envOfC "_law_free" (defScope s__law_free) s.heap.objs.size f cdv)).units + 65 < cLine := by have := hr.un; omega
  exact (ss_cons (s_while (n := 4096) .never (st_cmp (o_in hu65) (sb_var (pv 1)) (sb_var (pv 0)) (by rfl)) (ss_one (s_set (i := 1) nd rfl (.inl rfl) (se_c (k := 0) (sc_op o_add (sb_c (sc_op o_mod (sb_var (pv 1)) (sb_c sc_int))) (sb_c sc_int))))) (fg := [])) (ss_one (s_ret (se_c (k := 0) (sc_b (sb_var (pv 1)))))))
abbrev s__law_copy : Stmt := top 52
theorem sc__law_copy : FnScope ["_law_rows", "_law_row"] ["_law_rows"] (defScope s__law_copy) := ⟨rfl, rfl, rfl, by decide +kernel, rfl, by decide +kernel, by decide +kernel⟩
theorem ok__law_copy {P : Program} {w : World} {K : PySem.W.Frag} {mg : Str → Option Value} {base : Heap} {κ : Str → Addr} (T : Txt K mg κ) (A : At K mg "_law_copy" s__law_copy)  : Cal P w K mg base "_law_copy" 1 1 2 F__law_copy := by
  obtain ⟨f, fd, F, hm⟩ := A.ex
  refine ⟨f, fd, ["_law_rows"], hm, F.kp, F.binds (fun _ _ _ _ _ _ us hl => match us, hl with | [_], _ => rfl), def_ok (m := m__law_copy) F sc__law_copy rfl rfl fun cdv A outer s H E hr => ?_⟩
  have nd := sc__law_copy.nd
  have hu := hr.units
  have hu1 : (A.deeper (envOfC "_law_copy" (defScope s__law_copy) s.heap.objs.size f cdv)).units + 1 < cLine := by omega
  have hu65 : (A.deeper (envOfC "_law_copy" (defScope s__law_copy) s.heap.objs.size f cdv)).units + 65 < cLine := by have := hr.un; omega
  exact (ss_one (s_ret (se_lc [("_law_row", 1)] (by rfl) nd (blkOk_by (by rfl)) (by rfl) (si_list (se_var (pv 0))) (fun _ _ _ _ _ => (tg_name (i := 1) (pg_name nd rfl (.inl rfl)))) tok_name (by decide) (fun _ _ _ _ _ => spt_nil) (fun _ _ _ _ _ => (se_list (.inl rfl) (by rfl) T.b_list (sl_imm (k := 0) (sb_var (pv 1))))))))
abbrev s__law_put : Stmt := top 54
theorem sc__law_put : FnScope ["_law_rows", "_law_at", "_law_place", "_law_more_here", "_law_made"] ["_law_rows", "_law_at", "_law_place", "_law_more_here"] (defScope s__law_put) := ⟨rfl, rfl, rfl, by decide +kernel, rfl, by decide +kernel, by decide +kernel⟩
theorem ok__law_put {P : Program} {w : World} {K : PySem.W.Frag} {mg : Str → Option Value} {base : Heap} {κ : Str → Addr} (T : Txt K mg κ) (A : At K mg "_law_put" s__law_put) (C__law_copy : Cal P w K mg base "_law_copy" 1 1 2 F__law_copy) : Cal P w K mg base "_law_put" 2 4 2 F__law_put := by
  obtain ⟨f, fd, F, hm⟩ := A.ex
  refine ⟨f, fd, ["_law_rows", "_law_at", "_law_place", "_law_more_here"], hm, F.kp, F.binds (fun _ _ _ _ _ _ us hl => match us, hl with | [_, _, _, _], _ => rfl), def_ok (m := m__law_put) F sc__law_put rfl rfl fun cdv A outer s H E hr => ?_⟩
  have nd := sc__law_put.nd
  have hu := hr.units
  have hu1 : (A.deeper (envOfC "_law_put" (defScope s__law_put) s.heap.objs.size f cdv)).units + 1 < cLine := by omega
  have hu65 : (A.deeper (envOfC "_law_put" (defScope s__law_put) s.heap.objs.size f cdv)).units + 65 < cLine := by have := hr.un; omega
  exact (ss_cons (s_set (i := 4) nd rfl (.inl rfl) (se_cal C__law_copy (hr.mono (by decide)) (by rfl) (sab_cons (sb_var (pv 0)) sab_nil) (hl := (sab_len sab_len0)))) (ss_cons (s_set (i := 2) nd rfl (.inl rfl) (se_c (k := 0) (sc_op o_mod (sb_var (pv 2)) (sb_c (sc_op o_add (sb_c (sc_len (by rfl) T.b_len (sb_ix (sb_var (pv 4)) (sb_var (pv 1)) (fun _ _ => rfl)))) (sb_c sc_int)))))) (ss_cons (s_putI (j := 4) (pv 4) (sb_var (pv 1)) (se_cat (sl_imm (k := 0) (sb_e (se_cat (sl_imm (k := 0) (sb_e (se_slice (sl_imm (k := 0) (sb_ix (sb_var (pv 4)) (sb_var (pv 1)) (fun _ _ => rfl))) so_none (so_some (sb_var (pv 2)))))) (sl_imm (k := 0) (sb_var (pv 3)))))) (sl_imm (k := 0) (sb_e (se_slice (sl_imm (k := 0) (sb_ix (sb_var (pv 4)) (sb_var (pv 1)) (fun _ _ => rfl))) (so_some (sb_var (pv 2))) so_none))))) (ss_one (s_ret (se_move (k := 2) (pv 4)))))))
abbrev s__law_drawing : Stmt := top 56
theorem sc__law_drawing : FnScope ["_law_cells", "_law_strings", "_law_spread", "_law_rows", "_law_names_here", "_law_cell", "_law_part", "_law_name", "_law_way", "_law_k"] ["_law_cells", "_law_strings", "_law_spread"] (defScope s__law_drawing) := ⟨rfl, rfl, rfl, by decide +kernel, rfl, by decide +kernel, by decide +kernel⟩
theorem ok__law_drawing {P : Program} {w : World} {K : PySem.W.Frag} {mg : Str → Option Value} {base : Heap} {κ : Str → Addr} (T : Txt K mg κ) (A : At K mg "_law_drawing" s__law_drawing) (C__law_digits : Cal P w K mg base "_law_digits" 2 2 1 F__law_digits) (C__law_free : Cal P w K mg base "_law_free" 1 2 0 F__law_free) (C__law_put : Cal P w K mg base "_law_put" 2 4 2 F__law_put) : Cal P w K mg base "_law_drawing" 3 3 2 F__law_drawing := by
  obtain ⟨f, fd, F, hm⟩ := A.ex
  refine ⟨f, fd, ["_law_cells", "_law_strings", "_law_spread"], hm, F.kp, F.binds (fun _ _ _ _ _ _ us hl => match us, hl with | [_, _, _], _ => rfl), def_ok (m := m__law_drawing) F sc__law_drawing rfl rfl fun cdv A outer s H E hr => ?_⟩
  have nd := sc__law_drawing.nd
  have hu := hr.units
  have hu1 : (A.deeper (envOfC "_law_drawing" (defScope s__law_drawing) s.heap.objs.size f cdv)).units + 1 < cLine := by omega
  have hu65 : (A.deeper (envOfC "_law_drawing" (defScope s__law_drawing) s.heap.objs.size f cdv)).units + 65 < cLine := by have := hr.un; omega
  exact (ss_cons (s_setLc [("_law_k", 9)] (by rfl) nd rfl rfl (sw_true rfl rfl rfl (by decide +kernel)) (blkOk_by (by rfl)) (by rfl) (si_range1 (by rfl) T.b_range (sb_var (pv 1))) (fun _ _ _ _ _ => (tg_name (i := 9) (pg_name nd rfl (.inl rfl)))) tok_name (by decide) (fun _ _ _ _ _ => spt_nil) (fun _ _ _ _ _ => (se_lst (sae_nil (k := 0))))) (ss_cons (s_set (i := 4) nd rfl (.inl rfl) (se_lst (sae_nil (k := 0)))) (ss_cons (s_for .never rfl (si_list (se_var (pv 0))) (tg_name (i := 5) (pg_name nd rfl (.inl rfl))) (ss_cons (s_set (i := 6) nd rfl (.inl rfl) (se_cal C__law_digits (hr.mono (by decide)) (by rfl) (sab_cons (sb_var (pv 5)) (sab_cons (sb_lst (sab_cons (sb_var (pv 2)) (sab_cons (sb_c sc_int) (sab_cons (sb_var (pv 1)) (sab_cons (sb_c sc_int) (sab_cons (sb_var (pv 1)) (sab_cons (sb_c sc_int) sab_nil))))))) sab_nil)) (hl := (sab_len (sab_len sab_len0))))) (ss_cons (s_set (i := 7) nd rfl (.inl rfl) (se_cal C__law_free (hr.mono (by decide)) (by rfl) (sab_cons (sb_var (pv 4)) (sab_cons (sb_c (sc_op o_add (sb_c sc_int) (sb_ix (sb_var (pv 6)) (sb_c sc_int) (fun _ _ => rfl)))) sab_nil)) (hl := (sab_len (sab_len sab_len0))))) (ss_cons (s_append (j := 4) (pv 4) (se_c (k := 0) (sc_b (sb_var (pv 7))))) (ss_one (s_for .never rfl (si_range1 (by rfl) T.b_range (sb_c sc_int)) (tg_name (i := 8) (pg_name nd rfl (.inl rfl))) (ss_one (s_set (i := 3) nd rfl (.inl rfl) (se_cal C__law_put (hr.mono (by decide)) (by rfl) (sab_cons (sb_var (pv 3)) (sab_cons (sb_ix (sb_var (pv 6)) (sb_c (sc_op o_add (sb_c sc_int) (sb_c (sc_op o_mul (sb_c sc_int) (sb_var (pv 8)))))) (fun _ _ => rfl)) (sab_cons (sb_ix (sb_var (pv 6)) (sb_c (sc_op o_add (sb_c sc_int) (sb_c (sc_op o_mul (sb_c sc_int) (sb_var (pv 8)))))) (fun _ _ => rfl)) (sab_cons (sb_lst (sab_cons (sb_c (sc_tup (sae_cons (se_c (k := 0) (sc_b (sb_var (pv 7)))) (sae_cons (se_c (k := 0) (sc_b (sb_var (pv 8)))) (sae_cons (se_c (k := 0) (sc_op o_sub (sb_c sc_int) (sb_c (sc_op o_mul (sb_c sc_int) (sb_ix (sb_var (pv 6)) (sb_c sc_int) (fun _ _ => rfl)))))) (sae_nil (k := 0))))))) sab_nil)) sab_nil)))) (hl := (sab_len (sab_len (sab_len (sab_len sab_len0)))))))) (fg := [8])))))) (fg := [5, 6, 7, 8])) (ss_one (s_ret (se_move (k := 2) (pv 3)))))))
abbrev s_hands_of : Stmt := top 15
theorem sc_hands_of : FnScope ["drawing", "hands", "row", "passing"] ["drawing"] (defScope s_hands_of) := ⟨rfl, rfl, rfl, by decide +kernel, rfl, by decide +kernel, by decide +kernel⟩
theorem ok_hands_of {P : Program} {w : World} {K : PySem.W.Frag} {mg : Str → Option Value} {base : Heap} {κ : Str → Addr} (T : Txt K mg κ) (A : At K mg "hands_of" s_hands_of)  : Cal P w K mg base "hands_of" 1 1 1 F_hands_of := by
  obtain ⟨f, fd, F, hm⟩ := A.ex
  refine ⟨f, fd, ["drawing"], hm, F.kp, F.binds (fun _ _ _ _ _ _ us hl => match us, hl with | [_], _ => rfl), def_ok (m := m_hands_of) F sc_hands_of rfl rfl fun cdv A outer s H E hr => ?_⟩
  have nd := sc_hands_of.nd
  have hu := hr.units
  have hu1 : (A.deeper (envOfC "hands_of" (defScope s_hands_of) s.heap.objs.size f cdv)).units + 1 < cLine := by omega
  have hu65 : (A.deeper (envOfC "hands_of" (defScope s_hands_of) s.heap.objs.size f cdv)).units + 65 < cLine := by have := hr.un; omega
  exact (ss_cons (s_set (i := 1) nd rfl (.inl rfl) (se_dnewK (k := 0))) (ss_cons (s_for .never rfl (si_list (se_var (pv 0))) (tg_name (i := 2) (pg_name nd rfl (.inl rfl))) (ss_one (s_for .never rfl (si_list (se_var (pv 2))) (tg_name (i := 3) (pg_name nd rfl (.inl rfl))) (ss_one (s_dput (j := 1) hu1 (pv 1) (sb_ix (sb_var (pv 3)) (sb_c sc_int) (fun _ _ => rfl)) (se_c (k := 0) (sc_b (sb_ix (sb_var (pv 3)) (sb_c sc_int) (fun _ _ => rfl)))))) (fg := [3]))) (fg := [2, 3])) (ss_one (s_ret (se_move (k := 1) (pv 1))))))
abbrev s_names_of : Stmt := top 16
theorem sc_names_of : FnScope ["drawing"] ["drawing"] (defScope s_names_of) := ⟨rfl, rfl, rfl, by decide +kernel, rfl, by decide +kernel, by decide +kernel⟩
theorem ok_names_of {P : Program} {w : World} {K : PySem.W.Frag} {mg : Str → Option Value} {base : Heap} {κ : Str → Addr} (T : Txt K mg κ) (A : At K mg "names_of" s_names_of) (C_hands_of : Cal P w K mg base "hands_of" 1 1 1 F_hands_of) : Cal P w K mg base "names_of" 2 1 1 F_names_of := by
  obtain ⟨f, fd, F, hm⟩ := A.ex
  refine ⟨f, fd, ["drawing"], hm, F.kp, F.binds (fun _ _ _ _ _ _ us hl => match us, hl with | [_], _ => rfl), def_ok (m := m_names_of) F sc_names_of rfl rfl fun cdv A outer s H E hr => ?_⟩
  have nd := sc_names_of.nd
  have hu := hr.units
  have hu1 : (A.deeper (envOfC "names_of" (defScope s_names_of) s.heap.objs.size f cdv)).units + 1 < cLine := by omega
  have hu65 : (A.deeper (envOfC "names_of" (defScope s_names_of) s.heap.objs.size f cdv)).units + 65 < cLine := by have := hr.un; omega
  exact (ss_one (s_ret (se_sortDI (k := 0) rfl (by rfl) T.b_sorted (sb_e (se_cal C_hands_of (hr.mono (by decide)) (by rfl) (sab_cons (sb_var (pv 0)) sab_nil) (hl := (sab_len sab_len0)))))))
abbrev s_spots_by_strings : Stmt := top 18
theorem sc_spots_by_strings : FnScope ["drawing", "found", "at", "row", "passing"] ["drawing"] (defScope s_spots_by_strings) := ⟨rfl, rfl, rfl, by decide +kernel, rfl, by decide +kernel, by decide +kernel⟩
theorem ok_spots_by_strings {P : Program} {w : World} {K : PySem.W.Frag} {mg : Str → Option Value} {base : Heap} {κ : Str → Addr} (T : Txt K mg κ) (A : At K mg "spots_by_strings" s_spots_by_strings)  : Cal P w K mg base "spots_by_strings" 1 1 1 F_spots_by_strings := by
  obtain ⟨f, fd, F, hm⟩ := A.ex
  refine ⟨f, fd, ["drawing"], hm, F.kp, F.binds (fun _ _ _ _ _ _ us hl => match us, hl with | [_], _ => rfl), def_ok (m := m_spots_by_strings) F sc_spots_by_strings rfl rfl fun cdv A outer s H E hr => ?_⟩
  have nd := sc_spots_by_strings.nd
  have hu := hr.units
  have hu1 : (A.deeper (envOfC "spots_by_strings" (defScope s_spots_by_strings) s.heap.objs.size f cdv)).units + 1 < cLine := by omega
  have hu65 : (A.deeper (envOfC "spots_by_strings" (defScope s_spots_by_strings) s.heap.objs.size f cdv)).units + 65 < cLine := by have := hr.un; omega
  exact (ss_cons (s_set (i := 1) nd rfl (.inl rfl) (se_dnewT (k := 0))) (ss_cons (s_for .never rfl (si_enum (by rfl) T.b_enumerate (se_var (pv 0))) (tg_tup rfl (tgs_cons (tg_name (i := 2) (pg_name nd rfl (.inl rfl))) (tgs_cons (tg_name (i := 3) (pg_name nd rfl (.inl rfl))) tgs_nil))) (ss_cons (s_if (st_not (st_tru (sb_var (pv 3)))) (ss_one (s_dput (j := 1) hu1 (pv 1) (sb_c (sc_tup (sae_cons (se_c (k := 0) (sc_b (sb_var (pv 2)))) (sae_cons (se_c (k := 0) (sc_globI (by rfl) T.b_BARE)) (sae_nil (k := 0)))))) (se_c (k := 0) (sc_b (sb_var (pv 2)))))) ss_nil) (ss_one (s_for .never rfl (si_list (se_var (pv 3))) (tg_name (i := 4) (pg_name nd rfl (.inl rfl))) (ss_one (s_dput (j := 1) hu1 (pv 1) (sb_c (sc_tup (sae_cons (se_c (k := 0) (sc_b (sb_ix (sb_var (pv 4)) (sb_c sc_int) (fun _ _ => rfl)))) (sae_cons (se_c (k := 0) (sc_b (sb_ix (sb_var (pv 4)) (sb_c sc_int) (fun _ _ => rfl)))) (sae_nil (k := 0)))))) (se_c (k := 0) (sc_b (sb_var (pv 2)))))) (fg := [4])))) (fg := [2, 3, 4])) (ss_one (s_ret (se_move (k := 1) (pv 1))))))
abbrev s_string_of : Stmt := top 19
theorem sc_string_of : FnScope ["drawing", "spot", "found"] ["drawing", "spot"] (defScope s_string_of) := ⟨rfl, rfl, rfl, by decide +kernel, rfl, by decide +kernel, by decide +kernel⟩
theorem ok_string_of {P : Program} {w : World} {K : PySem.W.Frag} {mg : Str → Option Value} {base : Heap} {κ : Str → Addr} (T : Txt K mg κ) (A : At K mg "string_of" s_string_of) (C_spots_by_strings : Cal P w K mg base "spots_by_strings" 1 1 1 F_spots_by_strings) : Cal P w K mg base "string_of" 2 2 0 F_string_of := by
  obtain ⟨f, fd, F, hm⟩ := A.ex
  refine ⟨f, fd, ["drawing", "spot"], hm, F.kp, F.binds (fun _ _ _ _ _ _ us hl => match us, hl with | [_, _], _ => rfl), def_ok (m := m_string_of) F sc_string_of rfl rfl fun cdv A outer s H E hr => ?_⟩
  have nd := sc_string_of.nd
  have hu := hr.units
  have hu1 : (A.deeper (envOfC "string_of" (defScope s_string_of) s.heap.objs.size f cdv)).units + 1 < cLine := by omega
  have hu65 : (A.deeper (envOfC "string_of" (defScope s_string_of) s.heap.objs.size f cdv)).units + 65 < cLine := by have := hr.un; omega
  exact (ss_cons (s_set (i := 2) nd rfl (.inl rfl) (se_cal C_spots_by_strings (hr.mono (by decide)) (by rfl) (sab_cons (sb_var (pv 0)) sab_nil) (hl := (sab_len sab_len0)))) (ss_cons (s_if (st_dnotin hu1 (sb_var (pv 1)) (sb_var (pv 2))) (ss_one s_no) ss_nil) (ss_one (s_ret (se_c (k := 0) (sc_b (sb_dget hu1 (sb_var (pv 2)) (sb_var (pv 1)) (fun _ _ => rfl))))))))
abbrev s_hand_of : Stmt := top 17
theorem sc_hand_of : FnScope ["drawing", "name", "hands"] ["drawing", "name"] (defScope s_hand_of) := ⟨rfl, rfl, rfl, by decide +kernel, rfl, by decide +kernel, by decide +kernel⟩
theorem ok_hand_of {P : Program} {w : World} {K : PySem.W.Frag} {mg : Str → Option Value} {base : Heap} {κ : Str → Addr} (T : Txt K mg κ) (A : At K mg "hand_of" s_hand_of) (C_hands_of : Cal P w K mg base "hands_of" 1 1 1 F_hands_of) : Cal P w K mg base "hand_of" 2 2 0 F_hand_of := by
  obtain ⟨f, fd, F, hm⟩ := A.ex
  refine ⟨f, fd, ["drawing", "name"], hm, F.kp, F.binds (fun _ _ _ _ _ _ us hl => match us, hl with | [_, _], _ => rfl), def_ok (m := m_hand_of) F sc_hand_of rfl rfl fun cdv A outer s H E hr => ?_⟩
  have nd := sc_hand_of.nd
  have hu := hr.units
  have hu1 : (A.deeper (envOfC "hand_of" (defScope s_hand_of) s.heap.objs.size f cdv)).units + 1 < cLine := by omega
  have hu65 : (A.deeper (envOfC "hand_of" (defScope s_hand_of) s.heap.objs.size f cdv)).units + 65 < cLine := by have := hr.un; omega
  exact (ss_cons (s_set (i := 2) nd rfl (.inl rfl) (se_cal C_hands_of (hr.mono (by decide)) (by rfl) (sab_cons (sb_var (pv 0)) sab_nil) (hl := (sab_len sab_len0)))) (ss_cons (s_if (st_dnotin hu1 (sb_var (pv 1)) (sb_var (pv 2))) (ss_one s_no) ss_nil) (ss_one (s_ret (se_c (k := 0) (sc_b (sb_dget hu1 (sb_var (pv 2)) (sb_var (pv 1)) (fun _ _ => rfl))))))))
abbrev s_linking : Stmt := top 23
theorem sc_linking : FnScope ["drawing", "table", "name", "one", "other", "row"] ["drawing"] (defScope s_linking) := ⟨rfl, rfl, rfl, by decide +kernel, rfl, by decide +kernel, by decide +kernel⟩
theorem ok_linking {P : Program} {w : World} {K : PySem.W.Frag} {mg : Str → Option Value} {base : Heap} {κ : Str → Addr} (T : Txt K mg κ) (A : At K mg "linking" s_linking) (C_names_of : Cal P w K mg base "names_of" 2 1 1 F_names_of) (C_string_of : Cal P w K mg base "string_of" 2 2 0 F_string_of) (C_hand_of : Cal P w K mg base "hand_of" 2 2 0 F_hand_of) : Cal P w K mg base "linking" 3 1 2 F_linking := by
  obtain ⟨f, fd, F, hm⟩ := A.ex
  refine ⟨f, fd, ["drawing"], hm, F.kp, F.binds (fun _ _ _ _ _ _ us hl => match us, hl with | [_], _ => rfl), def_ok (m := m_linking) F sc_linking rfl rfl fun cdv A outer s H E hr => ?_⟩
  have nd := sc_linking.nd
  have hu := hr.units
  have hu1 : (A.deeper (envOfC "linking" (defScope s_linking) s.heap.objs.size f cdv)).units + 1 < cLine := by omega
  have hu65 : (A.deeper (envOfC "linking" (defScope s_linking) s.heap.objs.size f cdv)).units + 65 < cLine := by have := hr.un; omega
  exact (ss_cons (s_setLc [("row", 5)] (by rfl) nd rfl rfl (sw_true rfl rfl rfl (by decide +kernel)) (blkOk_by (by rfl)) (by rfl) (si_list (se_var (pv 0))) (fun _ _ _ _ _ => (tg_name (i := 5) (pg_name nd rfl (.inl rfl)))) tok_name (by decide) (fun _ _ _ _ _ => spt_nil) (fun _ _ _ _ _ => (se_rep (k := 0) (se_lst (sae_cons (se_c (k := 0) sc_int) (sae_nil (k := 0)))) (sb_c (sc_len (by rfl) T.b_len (sb_var (pv 0))))))) (ss_cons (s_for .never rfl (si_list (se_0 (se_cal C_names_of (hr.mono (by decide)) (by rfl) (sab_cons (sb_var (pv 0)) sab_nil) (hl := (sab_len sab_len0))))) (tg_name (i := 2) (pg_name nd rfl (.inl rfl))) (ss_cons (s_set (i := 3) nd rfl (.inl rfl) (se_cal C_string_of (hr.mono (by decide)) (by rfl) (sab_cons (sb_var (pv 0)) (sab_cons (sb_c (sc_tup (sae_cons (se_c (k := 0) (sc_b (sb_var (pv 2)))) (sae_cons (se_c (k := 0) (sc_globI (by rfl) T.b_OVER)) (sae_nil (k := 0)))))) sab_nil)) (hl := (sab_len (sab_len sab_len0))))) (ss_cons (s_set (i := 4) nd rfl (.inl rfl) (se_cal C_string_of (hr.mono (by decide)) (by rfl) (sab_cons (sb_var (pv 0)) (sab_cons (sb_c (sc_tup (sae_cons (se_c (k := 0) (sc_b (sb_var (pv 2)))) (sae_cons (se_c (k := 0) (sc_globI (by rfl) T.b_UNDER)) (sae_nil (k := 0)))))) sab_nil)) (hl := (sab_len (sab_len sab_len0))))) (ss_one (s_if (st_cmp (o_ne hu) (sb_var (pv 3)) (sb_var (pv 4)) (nomark _)) (ss_one (s_putII (j := 1) (k := 0) (pv 1) (sb_var (pv 3)) (sb_var (pv 4)) (sb_c (sc_op o_add (sb_ix (sb_ix (sb_var (pv 1)) (sb_var (pv 3)) (fun _ _ => rfl)) (sb_var (pv 4)) (fun _ _ => rfl)) (sb_e (se_cal C_hand_of (hr.mono (by decide)) (by rfl) (sab_cons (sb_var (pv 0)) (sab_cons (sb_var (pv 2)) sab_nil)) (hl := (sab_len (sab_len sab_len0))))))) (fun _ _ => rfl))) ss_nil)))) (fg := [2, 3, 4])) (ss_one (s_ret (se_move (k := 2) (pv 1))))))
abbrev s_writhe : Stmt := top 22
theorem sc_writhe : FnScope ["drawing", "name"] ["drawing"] (defScope s_writhe) := ⟨rfl, rfl, rfl, by decide +kernel, rfl, by decide +kernel, by decide +kernel⟩
theorem ok_writhe {P : Program} {w : World} {K : PySem.W.Frag} {mg : Str → Option Value} {base : Heap} {κ : Str → Addr} (T : Txt K mg κ) (A : At K mg "writhe" s_writhe) (C_names_of : Cal P w K mg base "names_of" 2 1 1 F_names_of) (C_hand_of : Cal P w K mg base "hand_of" 2 2 0 F_hand_of) : Cal P w K mg base "writhe" 3 1 0 F_writhe := by
  obtain ⟨f, fd, F, hm⟩ := A.ex
  refine ⟨f, fd, ["drawing"], hm, F.kp, F.binds (fun _ _ _ _ _ _ us hl => match us, hl with | [_], _ => rfl), def_ok (m := m_writhe) F sc_writhe rfl rfl fun cdv A outer s H E hr => ?_⟩
  have nd := sc_writhe.nd
  have hu := hr.units
  have hu1 : (A.deeper (envOfC "writhe" (defScope s_writhe) s.heap.objs.size f cdv)).units + 1 < cLine := by omega
  have hu65 : (A.deeper (envOfC "writhe" (defScope s_writhe) s.heap.objs.size f cdv)).units + 65 < cLine := by have := hr.un; omega
  exact (ss_one (s_ret (se_c (k := 0) (sc_sum rfl (by rfl) T.b_sum (sb_e (se_lc [("name", 1)] (by rfl) nd (blkOk_by (by rfl)) (by rfl) (si_list (se_0 (se_cal C_names_of (hr.mono (by decide)) (by rfl) (sab_cons (sb_var (pv 0)) sab_nil) (hl := (sab_len sab_len0))))) (fun _ _ _ _ _ => (tg_name (i := 1) (pg_name nd rfl (.inl rfl)))) tok_name (by decide) (fun _ _ _ _ _ => spt_nil) (fun _ _ _ _ _ => (se_cal C_hand_of (hr.mono (by decide)) (by rfl) (sab_cons (sb_var (pv 0)) (sab_cons (sb_var (pv 1)) sab_nil)) (hl := (sab_len (sab_len sab_len0)))))))))))
abbrev s__law_names : Stmt := top 57
theorem sc__law_names : FnScope ["_law_rows", "_law_names_here", "_law_row", "_law_passing"] ["_law_rows"] (defScope s__law_names) := ⟨rfl, rfl, rfl, by decide +kernel, rfl, by decide +kernel, by decide +kernel⟩
theorem ok__law_names {P : Program} {w : World} {K : PySem.W.Frag} {mg : Str → Option Value} {base : Heap} {κ : Str → Addr} (T : Txt K mg κ) (A : At K mg "_law_names" s__law_names)  : Cal P w K mg base "_law_names" 1 1 1 F__law_names := by
  obtain ⟨f, fd, F, hm⟩ := A.ex
  refine ⟨f, fd, ["_law_rows"], hm, F.kp, F.binds (fun _ _ _ _ _ _ us hl => match us, hl with | [_], _ => rfl), def_ok (m := m__law_names) F sc__law_names rfl rfl fun cdv A outer s H E hr => ?_⟩
  have nd := sc__law_names.nd
  have hu := hr.units
  have hu1 : (A.deeper (envOfC "_law_names" (defScope s__law_names) s.heap.objs.size f cdv)).units + 1 < cLine := by omega
  have hu65 : (A.deeper (envOfC "_law_names" (defScope s__law_names) s.heap.objs.size f cdv)).units + 65 < cLine := by have := hr.un; omega
  exact (ss_cons (s_set (i := 1) nd rfl (.inl rfl) (se_lst (sae_nil (k := 0)))) (ss_cons (s_for .never rfl (si_list (se_var (pv 0))) (tg_name (i := 2) (pg_name nd rfl (.inl rfl))) (ss_one (s_for .never rfl (si_list (se_var (pv 2))) (tg_name (i := 3) (pg_name nd rfl (.inl rfl))) (ss_one (s_if (st_cmp (o_eq hu) (sb_ix (sb_var (pv 3)) (sb_c sc_int) (fun _ _ => rfl)) (sb_c sc_int) (nomark _)) (ss_one (s_append (j := 1) (pv 1) (se_c (k := 0) (sc_b (sb_ix (sb_var (pv 3)) (sb_c sc_int) (fun _ _ => rfl)))))) ss_nil)) (fg := [3]))) (fg := [2, 3])) (ss_one (s_ret (se_move (k := 1) (pv 1))))))
abbrev s__law_pairs : Stmt := top 64
theorem sc__law_pairs : FnScope ["_law_names_here", "_law_cell", "_law_over", "_law_middle", "_law_under", "_law_sign", "_law_one", "_law_two", "_law_three", "_law_pairs_here", "_law_signs", "_law_k"] ["_law_names_here", "_law_cell"] (defScope s__law_pairs) := ⟨rfl, rfl, rfl, by decide +kernel, rfl, by decide +kernel, by decide +kernel⟩
theorem ok__law_pairs {P : Program} {w : World} {K : PySem.W.Frag} {mg : Str → Option Value} {base : Heap} {κ : Str → Addr} (T : Txt K mg κ) (A : At K mg "_law_pairs" s__law_pairs)  : Cal P w K mg base "_law_pairs" 1 2 2 F__law_pairs := by
  obtain ⟨f, fd, F, hm⟩ := A.ex
  refine ⟨f, fd, ["_law_names_here", "_law_cell"], hm, F.kp, F.binds (fun _ _ _ _ _ _ us hl => match us, hl with | [_, _], _ => rfl), def_ok (m := m__law_pairs) F sc__law_pairs rfl rfl fun cdv A outer s H E hr => ?_⟩
  have nd := sc__law_pairs.nd
  have hu := hr.units
  have hu1 : (A.deeper (envOfC "_law_pairs" (defScope s__law_pairs) s.heap.objs.size f cdv)).units + 1 < cLine := by omega
  have hu65 : (A.deeper (envOfC "_law_pairs" (defScope s__law_pairs) s.heap.objs.size f cdv)).units + 65 < cLine := by have := hr.un; omega
  exact (ss_cons (s_set (i := 2) nd rfl (.inl rfl) (se_c (k := 0) (sc_op o_sub (sb_c sc_int) (sb_c (sc_op o_mul (sb_c sc_int) (sb_c (sc_op o_mod (sb_var (pv 1)) (sb_c sc_int)))))))) (ss_cons (s_set (i := 3) nd rfl (.inl rfl) (se_c (k := 0) (sc_op o_sub (sb_c sc_int) (sb_c (sc_op o_mul (sb_c sc_int) (sb_c (sc_op o_mod (sb_c (sc_op o_fdv (sb_var (pv 1)) (sb_c sc_int))) (sb_c sc_int)))))))) (ss_cons (s_set (i := 4) nd rfl (.inl rfl) (se_c (k := 0) (sc_op o_sub (sb_c sc_int) (sb_c (sc_op o_mul (sb_c sc_int) (sb_c (sc_op o_mod (sb_c (sc_op o_fdv (sb_var (pv 1)) (sb_c sc_int))) (sb_c sc_int)))))))) (ss_cons (s_set (i := 5) nd rfl (.inl rfl) (se_c (k := 0) (sc_op o_sub (sb_c sc_int) (sb_c (sc_op o_mul (sb_c sc_int) (sb_c (sc_op o_mod (sb_c (sc_op o_fdv (sb_var (pv 1)) (sb_c sc_int))) (sb_c sc_int)))))))) (ss_cons (s_set (i := 6) nd rfl (.inl rfl) (se_c (k := 0) (sc_op o_mul (sb_c (sc_op o_mul (sb_var (pv 5)) (sb_var (pv 2)))) (sb_var (pv 3))))) (ss_cons (s_set (i := 7) nd rfl (.inl rfl) (se_c (k := 0) (sc_op o_mul (sb_c (sc_op o_mul (sb_var (pv 5)) (sb_var (pv 2)))) (sb_var (pv 4))))) (ss_cons (s_set (i := 8) nd rfl (.inl rfl) (se_c (k := 0) (sc_op o_mul (sb_c (sc_op o_mul (sb_var (pv 5)) (sb_var (pv 3)))) (sb_var (pv 4))))) (ss_cons (s_set (i := 9) nd rfl (.inl rfl) (se_lst (sae_cons (se_lst (sae_cons (se_c (k := 0) (sc_tup (sae_cons (se_c (k := 0) (sc_b (sb_ix (sb_var (pv 0)) (sb_c sc_int) (fun _ _ => rfl)))) (sae_cons (se_c (k := 0) sc_int) (sae_cons (se_c (k := 0) (sc_b (sb_var (pv 6)))) (sae_nil (k := 0))))))) (sae_cons (se_c (k := 0) (sc_tup (sae_cons (se_c (k := 0) (sc_b (sb_ix (sb_var (pv 0)) (sb_c sc_int) (fun _ _ => rfl)))) (sae_cons (se_c (k := 0) sc_int) (sae_cons (se_c (k := 0) (sc_b (sb_var (pv 7)))) (sae_nil (k := 0))))))) (sae_nil (k := 0))))) (sae_cons (se_lst (sae_cons (se_c (k := 0) (sc_tup (sae_cons (se_c (k := 0) (sc_b (sb_ix (sb_var (pv 0)) (sb_c sc_int) (fun _ _ => rfl)))) (sae_cons (se_c (k := 0) sc_int) (sae_cons (se_c (k := 0) (sc_b (sb_var (pv 6)))) (sae_nil (k := 0))))))) (sae_cons (se_c (k := 0) (sc_tup (sae_cons (se_c (k := 0) (sc_b (sb_ix (sb_var (pv 0)) (sb_c sc_int) (fun _ _ => rfl)))) (sae_cons (se_c (k := 0) sc_int) (sae_cons (se_c (k := 0) (sc_b (sb_var (pv 8)))) (sae_nil (k := 0))))))) (sae_nil (k := 0))))) (sae_nil (k := 1)))))) (ss_cons (s_append (j := 9) (pv 9) (se_lst (sae_cons (se_c (k := 0) (sc_tup (sae_cons (se_c (k := 0) (sc_b (sb_ix (sb_var (pv 0)) (sb_c sc_int) (fun _ _ => rfl)))) (sae_cons (se_c (k := 0) sc_int) (sae_cons (se_c (k := 0) (sc_b (sb_var (pv 7)))) (sae_nil (k := 0))))))) (sae_cons (se_c (k := 0) (sc_tup (sae_cons (se_c (k := 0) (sc_b (sb_ix (sb_var (pv 0)) (sb_c sc_int) (fun _ _ => rfl)))) (sae_cons (se_c (k := 0) sc_int) (sae_cons (se_c (k := 0) (sc_b (sb_var (pv 8)))) (sae_nil (k := 0))))))) (sae_nil (k := 0)))))) (ss_cons (s_set (i := 10) nd rfl (.inl rfl) (se_lst (sae_cons (se_c (k := 0) (sc_b (sb_var (pv 2)))) (sae_cons (se_c (k := 0) (sc_b (sb_var (pv 3)))) (sae_cons (se_c (k := 0) (sc_b (sb_var (pv 4)))) (sae_nil (k := 0))))))) (ss_cons (s_for .never rfl (si_range1 (by rfl) T.b_range (sb_c sc_int)) (tg_name (i := 11) (pg_name nd rfl (.inl rfl))) (ss_one (s_if (st_cmp (o_eq hu) (sb_ix (sb_var (pv 10)) (sb_var (pv 11)) (fun _ _ => rfl)) (sb_c (sc_neg (sb_c sc_int))) (nomark _)) (ss_one (s_putI (j := 9) (pv 9) (sb_var (pv 11)) (se_listRev rfl (by rfl) T.b_list (by rfl) T.b_reversed (sl_imm (k := 0) (sb_ix (sb_var (pv 9)) (sb_var (pv 11)) (fun _ _ => rfl)))))) ss_nil)) (fg := [11])) (ss_one (s_ret (se_move (k := 2) (pv 9)))))))))))))))
abbrev s__law_triangle : Stmt := top 65
theorem sc__law_triangle : FnScope ["_law_rows", "_law_cell", "_law_names_here", "_law_fresh", "_law_many", "_law_part", "_law_k", "_law_pairs_here"] ["_law_rows", "_law_cell"] (defScope s__law_triangle) := ⟨rfl, rfl, rfl, by decide +kernel, rfl, by decide +kernel, by decide +kernel⟩
theorem ok__law_triangle {P : Program} {w : World} {K : PySem.W.Frag} {mg : Str → Option Value} {base : Heap} {κ : Str → Addr} (T : Txt K mg κ) (A : At K mg "_law_triangle" s__law_triangle) (C__law_names : Cal P w K mg base "_law_names" 1 1 1 F__law_names) (C__law_digits : Cal P w K mg base "_law_digits" 2 2 1 F__law_digits) (C__law_free : Cal P w K mg base "_law_free" 1 2 0 F__law_free) (C__law_pairs : Cal P w K mg base "_law_pairs" 1 2 2 F__law_pairs) (C__law_put : Cal P w K mg base "_law_put" 2 4 2 F__law_put) : Cal P w K mg base "_law_triangle" 3 2 0 F__law_triangle := by
  obtain ⟨f, fd, F, hm⟩ := A.ex
  refine ⟨f, fd, ["_law_rows", "_law_cell"], hm, F.kp, F.binds (fun _ _ _ _ _ _ us hl => match us, hl with | [_, _], _ => rfl), def_ok (m := m__law_triangle) F sc__law_triangle rfl rfl fun cdv A outer s H E hr => ?_⟩
  have nd := sc__law_triangle.nd
  have hu := hr.units
  have hu1 : (A.deeper (envOfC "_law_triangle" (defScope s__law_triangle) s.heap.objs.size f cdv)).units + 1 < cLine := by omega
  have hu65 : (A.deeper (envOfC "_law_triangle" (defScope s__law_triangle) s.heap.objs.size f cdv)).units + 65 < cLine := by have := hr.un; omega
  exact (ss_cons (s_set (i := 2) nd rfl (.inl rfl) (se_cal C__law_names (hr.mono (by decide)) (by rfl) (sab_cons (sb_var (pv 0)) sab_nil) (hl := (sab_len sab_len0)))) (ss_cons (s_set (i := 3) nd rfl (.inl rfl) (se_lst (sae_nil (k := 0)))) (ss_cons (s_set (i := 4) nd rfl (.inl rfl) (se_c (k := 0) (sc_len (by rfl) T.b_len (sb_var (pv 0))))) (ss_cons (s_set (i := 5) nd rfl (.inl rfl) (se_cal C__law_digits (hr.mono (by decide)) (by rfl) (sab_cons (sb_var (pv 1)) (sab_cons (sb_lst (sab_cons (sb_c sc_int) (sab_cons (sb_c sc_int) (sab_cons (sb_c sc_int) (sab_cons (sb_c sc_int) (sab_cons (sb_var (pv 4)) (sab_cons (sb_var (pv 4)) (sab_cons (sb_var (pv 4)) (sab_cons (sb_c sc_int) (sab_cons (sb_c sc_int) (sab_cons (sb_c sc_int) sab_nil))))))))))) sab_nil)) (hl := (sab_len (sab_len sab_len0))))) (ss_cons (s_for .never rfl (si_range1 (by rfl) T.b_range (sb_c sc_int)) (tg_name (i := 6) (pg_name nd rfl (.inl rfl))) (ss_one (s_append (j := 3) (pv 3) (se_cal C__law_free (hr.mono (by decide)) (by rfl) (sab_cons (sb_e (se_cat (sl_imm (k := 0) (sb_var (pv 2))) (sl_imm (k := 0) (sb_var (pv 3))))) (sab_cons (sb_c (sc_op o_add (sb_c sc_int) (sb_ix (sb_var (pv 5)) (sb_c (sc_op o_add (sb_c sc_int) (sb_var (pv 6)))) (fun _ _ => rfl)))) sab_nil)) (hl := (sab_len (sab_len sab_len0)))))) (fg := [6])) (ss_cons (s_set (i := 7) nd rfl (.inl rfl) (se_cal C__law_pairs (hr.mono (by decide)) (by rfl) (sab_cons (sb_var (pv 3)) (sab_cons (sb_ix (sb_var (pv 5)) (sb_c sc_int) (fun _ _ => rfl)) sab_nil)) (hl := (sab_len (sab_len sab_len0))))) (ss_cons (s_for .never rfl (si_range1 (by rfl) T.b_range (sb_c sc_int)) (tg_name (i := 6) (pg_name nd rfl (.inl rfl))) (ss_one (s_set (i := 0) nd rfl (.inl rfl) (se_0 (se_cal C__law_put (hr.mono (by decide)) (by rfl) (sab_cons (sb_var (pv 0)) (sab_cons (sb_ix (sb_var (pv 5)) (sb_c (sc_op o_add (sb_c sc_int) (sb_var (pv 6)))) (fun _ _ => rfl)) (sab_cons (sb_ix (sb_var (pv 5)) (sb_c (sc_op o_add (sb_c sc_int) (sb_var (pv 6)))) (fun _ _ => rfl)) (sab_cons (sb_ix (sb_var (pv 7)) (sb_var (pv 6)) (fun _ _ => rfl)) sab_nil)))) (hl := (sab_len (sab_len (sab_len (sab_len sab_len0))))))))) (fg := [6])) (ss_one (s_ret (se_var (pv 0)))))))))))
abbrev s_next_of : Stmt := top 20
theorem sc_next_of : FnScope ["drawing", "behind", "row", "at", "passing", "follower"] ["drawing"] (defScope s_next_of) := ⟨rfl, rfl, rfl, by decide +kernel, rfl, by decide +kernel, by decide +kernel⟩
theorem ok_next_of {P : Program} {w : World} {K : PySem.W.Frag} {mg : Str → Option Value} {base : Heap} {κ : Str → Addr} (T : Txt K mg κ) (A : At K mg "next_of" s_next_of)  : Cal P w K mg base "next_of" 1 1 1 F_next_of := by
  obtain ⟨f, fd, F, hm⟩ := A.ex
  refine ⟨f, fd, ["drawing"], hm, F.kp, F.binds (fun _ _ _ _ _ _ us hl => match us, hl with | [_], _ => rfl), def_ok (m := m_next_of) F sc_next_of rfl rfl fun cdv A outer s H E hr => ?_⟩
  have nd := sc_next_of.nd
  have hu := hr.units
  have hu1 : (A.deeper (envOfC "next_of" (defScope s_next_of) s.heap.objs.size f cdv)).units + 1 < cLine := by omega
  have hu65 : (A.deeper (envOfC "next_of" (defScope s_next_of) s.heap.objs.size f cdv)).units + 65 < cLine := by have := hr.un; omega
  exact (ss_cons (s_set (i := 1) nd rfl (.inl rfl) (se_dnewT (k := 0))) (ss_cons (s_for .never rfl (si_list (se_var (pv 0))) (tg_name (i := 2) (pg_name nd rfl (.inl rfl))) (ss_one (s_for .never rfl (si_enum (by rfl) T.b_enumerate (se_var (pv 2))) (tg_tup rfl (tgs_cons (tg_name (i := 3) (pg_name nd rfl (.inl rfl))) (tgs_cons (tg_name (i := 4) (pg_name nd rfl (.inl rfl))) tgs_nil))) (ss_cons (s_set (i := 5) nd rfl (.inl rfl) (se_c (k := 0) (sc_b (sb_ix (sb_var (pv 2)) (sb_c (sc_op o_mod (sb_c (sc_op o_add (sb_var (pv 3)) (sb_c sc_int))) (sb_c (sc_len (by rfl) T.b_len (sb_var (pv 2)))))) (fun _ _ => rfl))))) (ss_one (s_dput (j := 1) hu1 (pv 1) (sb_c (sc_tup (sae_cons (se_c (k := 0) (sc_b (sb_ix (sb_var (pv 4)) (sb_c sc_int) (fun _ _ => rfl)))) (sae_cons (se_c (k := 0) (sc_b (sb_ix (sb_var (pv 4)) (sb_c sc_int) (fun _ _ => rfl)))) (sae_nil (k := 0)))))) (se_c (k := 0) (sc_tup (sae_cons (se_c (k := 0) (sc_b (sb_ix (sb_var (pv 5)) (sb_c sc_int) (fun _ _ => rfl)))) (sae_cons (se_c (k := 0) (sc_b (sb_ix (sb_var (pv 5)) (sb_c sc_int) (fun _ _ => rfl)))) (sae_nil (k := 0))))))))) (fg := [3, 4, 5]))) (fg := [2, 3, 4, 5])) (ss_one (s_ret (se_move (k := 1) (pv 1))))))
abbrev s_side_by_side : Stmt := top 29
theorem sc_side_by_side : FnScope ["behind", "one", "other"] ["behind", "one", "other"] (defScope s_side_by_side) := ⟨rfl, rfl, rfl, by decide +kernel, rfl, by decide +kernel, by decide +kernel⟩
theorem ok_side_by_side {P : Program} {w : World} {K : PySem.W.Frag} {mg : Str → Option Value} {base : Heap} {κ : Str → Addr} (T : Txt K mg κ) (A : At K mg "side_by_side" s_side_by_side)  : Cal P w K mg base "side_by_side" 1 3 0 F_side_by_side := by
  obtain ⟨f, fd, F, hm⟩ := A.ex
  refine ⟨f, fd, ["behind", "one", "other"], hm, F.kp, F.binds (fun _ _ _ _ _ _ us hl => match us, hl with | [_, _, _], _ => rfl), def_ok (m := m_side_by_side) F sc_side_by_side rfl rfl fun cdv A outer s H E hr => ?_⟩
  have nd := sc_side_by_side.nd
  have hu := hr.units
  have hu1 : (A.deeper (envOfC "side_by_side" (defScope s_side_by_side) s.heap.objs.size f cdv)).units + 1 < cLine := by omega
  have hu65 : (A.deeper (envOfC "side_by_side" (defScope s_side_by_side) s.heap.objs.size f cdv)).units + 65 < cLine := by have := hr.un; omega
  exact (ss_one (s_ret (se_c (k := 0) (sc_or (sb_c (sc_cmp (o_eq hu) (sb_dget hu1 (sb_var (pv 0)) (sb_var (pv 1)) (fun _ _ => rfl)) (sb_var (pv 2)) (nomark _))) (sc_one (sc_cmp (o_eq hu) (sb_dget hu1 (sb_var (pv 0)) (sb_var (pv 2)) (fun _ _ => rfl)) (sb_var (pv 1)) (nomark _)))))))
abbrev s_uncurls : Stmt := top 31
theorem sc_uncurls : FnScope ["behind", "name"] ["behind", "name"] (defScope s_uncurls) := ⟨rfl, rfl, rfl, by decide +kernel, rfl, by decide +kernel, by decide +kernel⟩
theorem ok_uncurls {P : Program} {w : World} {K : PySem.W.Frag} {mg : Str → Option Value} {base : Heap} {κ : Str → Addr} (T : Txt K mg κ) (A : At K mg "uncurls" s_uncurls) (C_side_by_side : Cal P w K mg base "side_by_side" 1 3 0 F_side_by_side) : Cal P w K mg base "uncurls" 2 2 0 F_uncurls := by
  obtain ⟨f, fd, F, hm⟩ := A.ex
  refine ⟨f, fd, ["behind", "name"], hm, F.kp, F.binds (fun _ _ _ _ _ _ us hl => match us, hl with | [_, _], _ => rfl), def_ok (m := m_uncurls) F sc_uncurls rfl rfl fun cdv A outer s H E hr => ?_⟩
  have nd := sc_uncurls.nd
  have hu := hr.units
  have hu1 : (A.deeper (envOfC "uncurls" (defScope s_uncurls) s.heap.objs.size f cdv)).units + 1 < cLine := by omega
  have hu65 : (A.deeper (envOfC "uncurls" (defScope s_uncurls) s.heap.objs.size f cdv)).units + 65 < cLine := by have := hr.un; omega
  exact (ss_one (s_ret (se_cal C_side_by_side (hr.mono (by decide)) (by rfl) (sab_cons (sb_var (pv 0)) (sab_cons (sb_c (sc_tup (sae_cons (se_c (k := 0) (sc_b (sb_var (pv 1)))) (sae_cons (se_c (k := 0) (sc_globI (by rfl) T.b_OVER)) (sae_nil (k := 0)))))) (sab_cons (sb_c (sc_tup (sae_cons (se_c (k := 0) (sc_b (sb_var (pv 1)))) (sae_cons (se_c (k := 0) (sc_globI (by rfl) T.b_UNDER)) (sae_nil (k := 0)))))) sab_nil))) (hl := (sab_len (sab_len (sab_len sab_len0)))))))
abbrev s_uncurls_of : Stmt := top 43
theorem sc_uncurls_of : FnScope ["behind", "names", "name"] ["behind", "names"] (defScope s_uncurls_of) := ⟨rfl, rfl, rfl, by decide +kernel, rfl, by decide +kernel, by decide +kernel⟩
theorem ok_uncurls_of {P : Program} {w : World} {K : PySem.W.Frag} {mg : Str → Option Value} {base : Heap} {κ : Str → Addr} (T : Txt K mg κ) (A : At K mg "uncurls_of" s_uncurls_of) (C_uncurls : Cal P w K mg base "uncurls" 2 2 0 F_uncurls) : Cal P w K mg base "uncurls_of" 3 2 1 F_uncurls_of := by
  obtain ⟨f, fd, F, hm⟩ := A.ex
  refine ⟨f, fd, ["behind", "names"], hm, F.kp, F.binds (fun _ _ _ _ _ _ us hl => match us, hl with | [_, _], _ => rfl), def_ok (m := m_uncurls_of) F sc_uncurls_of rfl rfl fun cdv A outer s H E hr => ?_⟩
  have nd := sc_uncurls_of.nd
  have hu := hr.units
  have hu1 : (A.deeper (envOfC "uncurls_of" (defScope s_uncurls_of) s.heap.objs.size f cdv)).units + 1 < cLine := by omega
  have hu65 : (A.deeper (envOfC "uncurls_of" (defScope s_uncurls_of) s.heap.objs.size f cdv)).units + 65 < cLine := by have := hr.un; omega
  exact (ss_one (s_ret (se_lc [("name", 2)] (by rfl) nd (blkOk_by (by rfl)) (by rfl) (si_list (se_var (pv 1))) (fun _ _ _ _ _ => (tg_name (i := 2) (pg_name nd rfl (.inl rfl)))) tok_name (by decide) (fun _ _ _ _ _ => (spt_one (st_val (sb_e (se_cal C_uncurls (hr.mono (by decide)) (by rfl) (sab_cons (sb_var (pv 0)) (sab_cons (sb_var (pv 2)) sab_nil)) (hl := (sab_len (sab_len sab_len0)))))))) (fun _ _ _ _ _ => (se_c (k := 0) (sc_tup (sae_cons (se_c (k := 0) sc_str) (sae_cons (se_c (k := 0) (sc_b (sb_var (pv 2)))) (sae_nil (k := 0))))))))))
abbrev s_parts : Stmt := top 32
theorem sc_parts : FnScope ["behind", "hands", "name", "second"] ["behind", "hands", "name", "second"] (defScope s_parts) := ⟨rfl, rfl, rfl, by decide +kernel, rfl, by decide +kernel, by decide +kernel⟩
theorem ok_parts {P : Program} {w : World} {K : PySem.W.Frag} {mg : Str → Option Value} {base : Heap} {κ : Str → Addr} (T : Txt K mg κ) (A : At K mg "parts" s_parts) (C_side_by_side : Cal P w K mg base "side_by_side" 1 3 0 F_side_by_side) : Cal P w K mg base "parts" 2 4 0 F_parts := by
  obtain ⟨f, fd, F, hm⟩ := A.ex
  refine ⟨f, fd, ["behind", "hands", "name", "second"], hm, F.kp, F.binds (fun _ _ _ _ _ _ us hl => match us, hl with | [_, _, _, _], _ => rfl), def_ok (m := m_parts) F sc_parts rfl rfl fun cdv A outer s H E hr => ?_⟩
  have nd := sc_parts.nd
  have hu := hr.units
  have hu1 : (A.deeper (envOfC "parts" (defScope s_parts) s.heap.objs.size f cdv)).units + 1 < cLine := by omega
  have hu65 : (A.deeper (envOfC "parts" (defScope s_parts) s.heap.objs.size f cdv)).units + 65 < cLine := by have := hr.un; omega
  exact (ss_cons (s_if (st_w (sw_or (st_cmp (o_eq hu) (sb_var (pv 2)) (sb_var (pv 3)) (nomark _)) (sw_or1 (st_cmp (o_eq hu) (sb_dget hu1 (sb_var (pv 1)) (sb_var (pv 2)) (fun _ _ => rfl)) (sb_dget hu1 (sb_var (pv 1)) (sb_var (pv 3)) (fun _ _ => rfl)) (nomark _))))) (ss_one (s_ret (se_c (k := 0) sc_bl))) ss_nil) (ss_cons (s_if (st_not (st_val (sb_e (se_cal C_side_by_side (hr.mono (by decide)) (by rfl) (sab_cons (sb_var (pv 0)) (sab_cons (sb_c (sc_tup (sae_cons (se_c (k := 0) (sc_b (sb_var (pv 2)))) (sae_cons (se_c (k := 0) (sc_globI (by rfl) T.b_OVER)) (sae_nil (k := 0)))))) (sab_cons (sb_c (sc_tup (sae_cons (se_c (k := 0) (sc_b (sb_var (pv 3)))) (sae_cons (se_c (k := 0) (sc_globI (by rfl) T.b_OVER)) (sae_nil (k := 0)))))) sab_nil))) (hl := (sab_len (sab_len (sab_len sab_len0)))))))) (ss_one (s_ret (se_c (k := 0) sc_bl))) ss_nil) (ss_one (s_ret (se_cal C_side_by_side (hr.mono (by decide)) (by rfl) (sab_cons (sb_var (pv 0)) (sab_cons (sb_c (sc_tup (sae_cons (se_c (k := 0) (sc_b (sb_var (pv 2)))) (sae_cons (se_c (k := 0) (sc_globI (by rfl) T.b_UNDER)) (sae_nil (k := 0)))))) (sab_cons (sb_c (sc_tup (sae_cons (se_c (k := 0) (sc_b (sb_var (pv 3)))) (sae_cons (se_c (k := 0) (sc_globI (by rfl) T.b_UNDER)) (sae_nil (k := 0)))))) sab_nil))) (hl := (sab_len (sab_len (sab_len sab_len0)))))))))
abbrev s_parts_of : Stmt := top 44
theorem sc_parts_of : FnScope ["behind", "hands", "names", "found", "at", "name", "second"] ["behind", "hands", "names"] (defScope s_parts_of) := ⟨rfl, rfl, rfl, by decide +kernel, rfl, by decide +kernel, by decide +kernel⟩
theorem ok_parts_of {P : Program} {w : World} {K : PySem.W.Frag} {mg : Str → Option Value} {base : Heap} {κ : Str → Addr} (T : Txt K mg κ) (A : At K mg "parts_of" s_parts_of) (C_parts : Cal P w K mg base "parts" 2 4 0 F_parts) : Cal P w K mg base "parts_of" 3 3 1 F_parts_of := by
  obtain ⟨f, fd, F, hm⟩ := A.ex
  refine ⟨f, fd, ["behind", "hands", "names"], hm, F.kp, F.binds (fun _ _ _ _ _ _ us hl => match us, hl with | [_, _, _], _ => rfl), def_ok (m := m_parts_of) F sc_parts_of rfl rfl fun cdv A outer s H E hr => ?_⟩
  have nd := sc_parts_of.nd
  have hu := hr.units
  have hu1 : (A.deeper (envOfC "parts_of" (defScope s_parts_of) s.heap.objs.size f cdv)).units + 1 < cLine := by omega
  have hu65 : (A.deeper (envOfC "parts_of" (defScope s_parts_of) s.heap.objs.size f cdv)).units + 65 < cLine := by have := hr.un; omega
  exact (ss_cons (s_set (i := 3) nd rfl (.inl rfl) (se_lst (sae_nil (k := 0)))) (ss_cons (s_for .never rfl (si_enum (by rfl) T.b_enumerate (se_var (pv 2))) (tg_tup rfl (tgs_cons (tg_name (i := 4) (pg_name nd rfl (.inl rfl))) (tgs_cons (tg_name (i := 5) (pg_name nd rfl (.inl rfl))) tgs_nil))) (ss_one (s_for .never rfl (si_list (se_0 (se_slice (sl_imm (k := 0) (sb_var (pv 2))) (so_some (sb_c (sc_op o_add (sb_var (pv 4)) (sb_c sc_int)))) so_none))) (tg_name (i := 6) (pg_name nd rfl (.inl rfl))) (ss_one (s_if (st_val (sb_e (se_cal C_parts (hr.mono (by decide)) (by rfl) (sab_cons (sb_var (pv 0)) (sab_cons (sb_var (pv 1)) (sab_cons (sb_var (pv 5)) (sab_cons (sb_var (pv 6)) sab_nil)))) (hl := (sab_len (sab_len (sab_len (sab_len sab_len0)))))))) (ss_one (s_append (j := 3) (pv 3) (se_c (k := 0) (sc_tup (sae_cons (se_c (k := 0) sc_str) (sae_cons (se_c (k := 0) (sc_b (sb_var (pv 5)))) (sae_cons (se_c (k := 0) (sc_b (sb_var (pv 6)))) (sae_nil (k := 0))))))))) ss_nil)) (fg := [6]))) (fg := [4, 5, 6])) (ss_one (s_ret (se_move (k := 1) (pv 3))))))
abbrev s_right_behind : Stmt := top 30
theorem sc_right_behind : FnScope ["behind", "one", "other", "way"] ["behind", "one", "other", "way"] (defScope s_right_behind) := ⟨rfl, rfl, rfl, by decide +kernel, rfl, by decide +kernel, by decide +kernel⟩
theorem ok_right_behind {P : Program} {w : World} {K : PySem.W.Frag} {mg : Str → Option Value} {base : Heap} {κ : Str → Addr} (T : Txt K mg κ) (A : At K mg "right_behind" s_right_behind)  : Cal P w K mg base "right_behind" 1 4 0 F_right_behind := by
  obtain ⟨f, fd, F, hm⟩ := A.ex
  refine ⟨f, fd, ["behind", "one", "other", "way"], hm, F.kp, F.binds (fun _ _ _ _ _ _ us hl => match us, hl with | [_, _, _, _], _ => rfl), def_ok (m := m_right_behind) F sc_right_behind rfl rfl fun cdv A outer s H E hr => ?_⟩
  have nd := sc_right_behind.nd
  have hu := hr.units
  have hu1 : (A.deeper (envOfC "right_behind" (defScope s_right_behind) s.heap.objs.size f cdv)).units + 1 < cLine := by omega
  have hu65 : (A.deeper (envOfC "right_behind" (defScope s_right_behind) s.heap.objs.size f cdv)).units + 65 < cLine := by have := hr.un; omega
  exact (ss_cons (s_if (st_cmp (o_eq hu) (sb_var (pv 3)) (sb_c sc_int) (nomark _)) (ss_one (s_ret (se_c (k := 0) (sc_cmp (o_eq hu) (sb_dget hu1 (sb_var (pv 0)) (sb_var (pv 1)) (fun _ _ => rfl)) (sb_var (pv 2)) (nomark _))))) ss_nil) (ss_one (s_ret (se_c (k := 0) (sc_cmp (o_eq hu) (sb_dget hu1 (sb_var (pv 0)) (sb_var (pv 2)) (fun _ _ => rfl)) (sb_var (pv 1)) (nomark _))))))
abbrev s_slides : Stmt := top 33
theorem sc_slides : FnScope ["behind", "hands", "names", "turn", "name", "second", "third"] ["behind", "hands", "names", "turn"] (defScope s_slides) := ⟨rfl, rfl, rfl, by decide +kernel, rfl, by decide +kernel, by decide +kernel⟩
theorem ok_slides {P : Program} {w : World} {K : PySem.W.Frag} {mg : Str → Option Value} {base : Heap} {κ : Str → Addr} (T : Txt K mg κ) (A : At K mg "slides" s_slides) (C_right_behind : Cal P w K mg base "right_behind" 1 4 0 F_right_behind) : Cal P w K mg base "slides" 2 4 0 F_slides := by
  obtain ⟨f, fd, F, hm⟩ := A.ex
  refine ⟨f, fd, ["behind", "hands", "names", "turn"], hm, F.kp, F.binds (fun _ _ _ _ _ _ us hl => match us, hl with | [_, _, _, _], _ => rfl), def_ok (m := m_slides) F sc_slides rfl rfl fun cdv A outer s H E hr => ?_⟩
  have nd := sc_slides.nd
  have hu := hr.units
  have hu1 : (A.deeper (envOfC "slides" (defScope s_slides) s.heap.objs.size f cdv)).units + 1 < cLine := by omega
  have hu65 : (A.deeper (envOfC "slides" (defScope s_slides) s.heap.objs.size f cdv)).units + 65 < cLine := by have := hr.un; omega
  exact (ss_cons (s_asg (tg_tupL rfl (tgs_cons (tg_name (i := 4) (pg_name nd rfl (.inl rfl))) (tgs_cons (tg_name (i := 5) (pg_name nd rfl (.inl rfl))) (tgs_cons (tg_name (i := 6) (pg_name nd rfl (.inl rfl))) tgs_nil)))) (se_var (pv 2))) (ss_cons (s_if (st_w (sw_or (st_cmp (o_eq hu) (sb_var (pv 4)) (sb_var (pv 5)) (nomark _)) (sw_or (st_cmp (o_eq hu) (sb_var (pv 4)) (sb_var (pv 6)) (nomark _)) (sw_or1 (st_cmp (o_eq hu) (sb_var (pv 5)) (sb_var (pv 6)) (nomark _)))))) (ss_one (s_ret (se_c (k := 0) sc_bl))) ss_nil) (ss_cons (s_if (st_not (st_val (sb_e (se_cal C_right_behind (hr.mono (by decide)) (by rfl) (sab_cons (sb_var (pv 0)) (sab_cons (sb_c (sc_tup (sae_cons (se_c (k := 0) (sc_b (sb_var (pv 4)))) (sae_cons (se_c (k := 0) (sc_globI (by rfl) T.b_OVER)) (sae_nil (k := 0)))))) (sab_cons (sb_c (sc_tup (sae_cons (se_c (k := 0) (sc_b (sb_var (pv 5)))) (sae_cons (se_c (k := 0) (sc_globI (by rfl) T.b_OVER)) (sae_nil (k := 0)))))) (sab_cons (sb_var (pv 3)) sab_nil)))) (hl := (sab_len (sab_len (sab_len (sab_len sab_len0))))))))) (ss_one (s_ret (se_c (k := 0) sc_bl))) ss_nil) (ss_cons (s_if (st_not (st_val (sb_e (se_cal C_right_behind (hr.mono (by decide)) (by rfl) (sab_cons (sb_var (pv 0)) (sab_cons (sb_c (sc_tup (sae_cons (se_c (k := 0) (sc_b (sb_var (pv 4)))) (sae_cons (se_c (k := 0) (sc_globI (by rfl) T.b_UNDER)) (sae_nil (k := 0)))))) (sab_cons (sb_c (sc_tup (sae_cons (se_c (k := 0) (sc_b (sb_var (pv 6)))) (sae_cons (se_c (k := 0) (sc_globI (by rfl) T.b_OVER)) (sae_nil (k := 0)))))) (sab_cons (sb_c (sc_op o_mul (sb_c (sc_op o_mul (sb_var (pv 3)) (sb_dget hu1 (sb_var (pv 1)) (sb_var (pv 5)) (fun _ _ => rfl)))) (sb_dget hu1 (sb_var (pv 1)) (sb_var (pv 6)) (fun _ _ => rfl)))) sab_nil)))) (hl := (sab_len (sab_len (sab_len (sab_len sab_len0))))))))) (ss_one (s_ret (se_c (k := 0) sc_bl))) ss_nil) (ss_one (s_ret (se_cal C_right_behind (hr.mono (by decide)) (by rfl) (sab_cons (sb_var (pv 0)) (sab_cons (sb_c (sc_tup (sae_cons (se_c (k := 0) (sc_b (sb_var (pv 5)))) (sae_cons (se_c (k := 0) (sc_globI (by rfl) T.b_UNDER)) (sae_nil (k := 0)))))) (sab_cons (sb_c (sc_tup (sae_cons (se_c (k := 0) (sc_b (sb_var (pv 6)))) (sae_cons (se_c (k := 0) (sc_globI (by rfl) T.b_UNDER)) (sae_nil (k := 0)))))) (sab_cons (sb_c (sc_op o_mul (sb_c (sc_op o_mul (sb_var (pv 3)) (sb_dget hu1 (sb_var (pv 1)) (sb_var (pv 4)) (fun _ _ => rfl)))) (sb_dget hu1 (sb_var (pv 1)) (sb_var (pv 6)) (fun _ _ => rfl)))) sab_nil)))) (hl := (sab_len (sab_len (sab_len (sab_len sab_len0))))))))))))
abbrev s_slides_on : Stmt := top 45
theorem sc_slides_on : FnScope ["behind", "hands", "pair", "turn", "found", "third"] ["behind", "hands", "pair", "turn"] (defScope s_slides_on) := ⟨rfl, rfl, rfl, by decide +kernel, rfl, by decide +kernel, by decide +kernel⟩
theorem ok_slides_on {P : Program} {w : World} {K : PySem.W.Frag} {mg : Str → Option Value} {base : Heap} {κ : Str → Addr} (T : Txt K mg κ) (A : At K mg "slides_on" s_slides_on) (C_slides : Cal P w K mg base "slides" 2 4 0 F_slides) : Cal P w K mg base "slides_on" 3 4 1 F_slides_on := by
  obtain ⟨f, fd, F, hm⟩ := A.ex
  refine ⟨f, fd, ["behind", "hands", "pair", "turn"], hm, F.kp, F.binds (fun _ _ _ _ _ _ us hl => match us, hl with | [_, _, _, _], _ => rfl), def_ok (m := m_slides_on) F sc_slides_on rfl rfl fun cdv A outer s H E hr => ?_⟩
  have nd := sc_slides_on.nd
  have hu := hr.units
  have hu1 : (A.deeper (envOfC "slides_on" (defScope s_slides_on) s.heap.objs.size f cdv)).units + 1 < cLine := by omega
  have hu65 : (A.deeper (envOfC "slides_on" (defScope s_slides_on) s.heap.objs.size f cdv)).units + 65 < cLine := by have := hr.un; omega
  exact (ss_cons (s_set (i := 4) nd rfl (.inl rfl) (se_lst (sae_nil (k := 0)))) (ss_cons (s_for .never rfl (si_list (se_0 (se_sortDI (k := 0) rfl (by rfl) T.b_sorted (sb_var (pv 1))))) (tg_name (i := 5) (pg_name nd rfl (.inl rfl))) (ss_one (s_if (st_val (sb_e (se_cal C_slides (hr.mono (by decide)) (by rfl) (sab_cons (sb_var (pv 0)) (sab_cons (sb_var (pv 1)) (sab_cons (sb_lst (sab_cons (sb_ix (sb_var (pv 2)) (sb_c sc_int) (fun _ _ => rfl)) (sab_cons (sb_ix (sb_var (pv 2)) (sb_c sc_int) (fun _ _ => rfl)) (sab_cons (sb_var (pv 5)) sab_nil)))) (sab_cons (sb_var (pv 3)) sab_nil)))) (hl := (sab_len (sab_len (sab_len (sab_len sab_len0)))))))) (ss_one (s_append (j := 4) (pv 4) (se_c (k := 0) (sc_tup (sae_cons (se_c (k := 0) sc_str) (sae_cons (se_c (k := 0) (sc_b (sb_ix (sb_var (pv 2)) (sb_c sc_int) (fun _ _ => rfl)))) (sae_cons (se_c (k := 0) (sc_b (sb_ix (sb_var (pv 2)) (sb_c sc_int) (fun _ _ => rfl)))) (sae_cons (se_c (k := 0) (sc_b (sb_var (pv 5)))) (sae_cons (se_c (k := 0) (sc_b (sb_var (pv 3)))) (sae_nil (k := 0))))))))))) ss_nil)) (fg := [5])) (ss_one (s_ret (se_move (k := 1) (pv 4))))))
abbrev s_slides_of : Stmt := top 46
theorem sc_slides_of : FnScope ["behind", "hands", "names", "found", "name", "way_on"] ["behind", "hands", "names"] (defScope s_slides_of) := ⟨rfl, rfl, rfl, by decide +kernel, rfl, by decide +kernel, by decide +kernel⟩
theorem ok_slides_of {P : Program} {w : World} {K : PySem.W.Frag} {mg : Str → Option Value} {base : Heap} {κ : Str → Addr} (T : Txt K mg κ) (A : At K mg "slides_of" s_slides_of) (C_slides_on : Cal P w K mg base "slides_on" 3 4 1 F_slides_on) : Cal P w K mg base "slides_of" 4 3 1 F_slides_of := by
  obtain ⟨f, fd, F, hm⟩ := A.ex
  refine ⟨f, fd, ["behind", "hands", "names"], hm, F.kp, F.binds (fun _ _ _ _ _ _ us hl => match us, hl with | [_, _, _], _ => rfl), def_ok (m := m_slides_of) F sc_slides_of rfl rfl fun cdv A outer s H E hr => ?_⟩
  have nd := sc_slides_of.nd
  have hu := hr.units
  have hu1 : (A.deeper (envOfC "slides_of" (defScope s_slides_of) s.heap.objs.size f cdv)).units + 1 < cLine := by omega
  have hu65 : (A.deeper (envOfC "slides_of" (defScope s_slides_of) s.heap.objs.size f cdv)).units + 65 < cLine := by have := hr.un; omega
  exact (ss_cons (s_set (i := 3) nd rfl (.inl rfl) (se_lst (sae_nil (k := 0)))) (ss_cons (s_for .never rfl (si_list (se_var (pv 2))) (tg_name (i := 4) (pg_name nd rfl (.inl rfl))) (ss_cons (s_set (i := 5) nd rfl (.inl rfl) (se_c (k := 0) (sc_b (sb_dget hu1 (sb_var (pv 0)) (sb_c (sc_tup (sae_cons (se_c (k := 0) (sc_b (sb_var (pv 4)))) (sae_cons (se_c (k := 0) (sc_globI (by rfl) T.b_OVER)) (sae_nil (k := 0)))))) (fun _ _ => rfl))))) (ss_one (s_if (st_cmp (o_eq hu) (sb_ix (sb_var (pv 5)) (sb_c sc_int) (fun _ _ => rfl)) (sb_c (sc_globI (by rfl) T.b_OVER)) (nomark _)) (ss_cons (s_extend (j := 3) (pv 3) (sl_imm (k := 0) (sb_e (se_cal C_slides_on (hr.mono (by decide)) (by rfl) (sab_cons (sb_var (pv 0)) (sab_cons (sb_var (pv 1)) (sab_cons (sb_c (sc_tup (sae_cons (se_c (k := 0) (sc_b (sb_var (pv 4)))) (sae_cons (se_c (k := 0) (sc_b (sb_ix (sb_var (pv 5)) (sb_c sc_int) (fun _ _ => rfl)))) (sae_nil (k := 0)))))) (sab_cons (sb_c sc_int) sab_nil)))) (hl := (sab_len (sab_len (sab_len (sab_len sab_len0))))))))) (ss_one (s_extend (j := 3) (pv 3) (sl_imm (k := 0) (sb_e (se_cal C_slides_on (hr.mono (by decide)) (by rfl) (sab_cons (sb_var (pv 0)) (sab_cons (sb_var (pv 1)) (sab_cons (sb_c (sc_tup (sae_cons (se_c (k := 0) (sc_b (sb_ix (sb_var (pv 5)) (sb_c sc_int) (fun _ _ => rfl)))) (sae_cons (se_c (k := 0) (sc_b (sb_var (pv 4)))) (sae_nil (k := 0)))))) (sab_cons (sb_c (sc_neg (sb_c sc_int))) sab_nil)))) (hl := (sab_len (sab_len (sab_len (sab_len sab_len0))))))))))) ss_nil))) (fg := [4, 5])) (ss_one (s_ret (se_move (k := 1) (pv 3))))))
abbrev s_lessening : Stmt := top 47
theorem sc_lessening : FnScope ["drawing", "behind", "hands", "names", "found"] ["drawing"] (defScope s_lessening) := ⟨rfl, rfl, rfl, by decide +kernel, rfl, by decide +kernel, by decide +kernel⟩
theorem ok_lessening {P : Program} {w : World} {K : PySem.W.Frag} {mg : Str → Option Value} {base : Heap} {κ : Str → Addr} (T : Txt K mg κ) (A : At K mg "lessening" s_lessening) (C_next_of : Cal P w K mg base "next_of" 1 1 1 F_next_of) (C_hands_of : Cal P w K mg base "hands_of" 1 1 1 F_hands_of) (C_names_of : Cal P w K mg base "names_of" 2 1 1 F_names_of) (C_uncurls_of : Cal P w K mg base "uncurls_of" 3 2 1 F_uncurls_of) (C_parts_of : Cal P w K mg base "parts_of" 3 3 1 F_parts_of) (C_slides_of : Cal P w K mg base "slides_of" 4 3 1 F_slides_of) : Cal P w K mg base "lessening" 5 1 1 F_lessening := by
  obtain ⟨f, fd, F, hm⟩ := A.ex
  refine ⟨f, fd, ["drawing"], hm, F.kp, F.binds (fun _ _ _ _ _ _ us hl => match us, hl with | [_], _ => rfl), def_ok (m := m_lessening) F sc_lessening rfl rfl fun cdv A outer s H E hr => ?_⟩
  have nd := sc_lessening.nd
  have hu := hr.units
  have hu1 : (A.deeper (envOfC "lessening" (defScope s_lessening) s.heap.objs.size f cdv)).units + 1 < cLine := by omega
  have hu65 : (A.deeper (envOfC "lessening" (defScope s_lessening) s.heap.objs.size f cdv)).units + 65 < cLine := by have := hr.un; omega
  exact (ss_cons (s_set (i := 1) nd rfl (.inl rfl) (se_cal C_next_of (hr.mono (by decide)) (by rfl) (sab_cons (sb_var (pv 0)) sab_nil) (hl := (sab_len sab_len0)))) (ss_cons (s_set (i := 2) nd rfl (.inl rfl) (se_cal C_hands_of (hr.mono (by decide)) (by rfl) (sab_cons (sb_var (pv 0)) sab_nil) (hl := (sab_len sab_len0)))) (ss_cons (s_set (i := 3) nd rfl (.inl rfl) (se_cal C_names_of (hr.mono (by decide)) (by rfl) (sab_cons (sb_var (pv 0)) sab_nil) (hl := (sab_len sab_len0)))) (ss_cons (s_set (i := 4) nd rfl (.inl rfl) (se_cat (sl_imm (k := 0) (sb_e (se_cal C_uncurls_of (hr.mono (by decide)) (by rfl) (sab_cons (sb_var (pv 1)) (sab_cons (sb_var (pv 3)) sab_nil)) (hl := (sab_len (sab_len sab_len0)))))) (sl_imm (k := 0) (sb_e (se_cal C_parts_of (hr.mono (by decide)) (by rfl) (sab_cons (sb_var (pv 1)) (sab_cons (sb_var (pv 2)) (sab_cons (sb_var (pv 3)) sab_nil))) (hl := (sab_len (sab_len (sab_len sab_len0))))))))) (ss_one (s_ret (se_sortB (k := 0) hu65 (by rfl) T.b_sorted (sb_e (se_cat (sl_imm (k := 0) (sb_var (pv 4))) (sl_imm (k := 0) (sb_e (se_cal C_slides_of (hr.mono (by decide)) (by rfl) (sab_cons (sb_var (pv 1)) (sab_cons (sb_var (pv 2)) (sab_cons (sb_var (pv 3)) sab_nil))) (hl := (sab_len (sab_len (sab_len sab_len0))))))))))))))))
abbrev s__law_lesser : Stmt := top 62
theorem sc__law_lesser : FnScope ["_law_rows", "_law_cell", "_law_slides_first", "_law_some", "_law_told"] ["_law_rows", "_law_cell", "_law_slides_first"] (defScope s__law_lesser) := ⟨rfl, rfl, rfl, by decide +kernel, rfl, by decide +kernel, by decide +kernel⟩
theorem ok__law_lesser {P : Program} {w : World} {K : PySem.W.Frag} {mg : Str → Option Value} {base : Heap} {κ : Str → Addr} (T : Txt K mg κ) (A : At K mg "_law_lesser" s__law_lesser) (C_lessening : Cal P w K mg base "lessening" 5 1 1 F_lessening) (C__law_copy : Cal P w K mg base "_law_copy" 1 1 2 F__law_copy) (C__law_digits : Cal P w K mg base "_law_digits" 2 2 1 F__law_digits) : Cal P w K mg base "_law_lesser" 6 3 0 F__law_lesser := by
  obtain ⟨f, fd, F, hm⟩ := A.ex
  refine ⟨f, fd, ["_law_rows", "_law_cell", "_law_slides_first"], hm, F.kp, F.binds (fun _ _ _ _ _ _ us hl => match us, hl with | [_, _, _], _ => rfl), def_ok (m := m__law_lesser) F sc__law_lesser rfl rfl fun cdv A outer s H E hr => ?_⟩
  have nd := sc__law_lesser.nd
  have hu := hr.units
  have hu1 : (A.deeper (envOfC "_law_lesser" (defScope s__law_lesser) s.heap.objs.size f cdv)).units + 1 < cLine := by omega
  have hu65 : (A.deeper (envOfC "_law_lesser" (defScope s__law_lesser) s.heap.objs.size f cdv)).units + 65 < cLine := by have := hr.un; omega
  exact (ss_cons (s_set (i := 3) nd rfl (.inl rfl) (se_cal C_lessening (hr.mono (by decide)) (by rfl) (sab_cons (sb_e (se_cal C__law_copy (hr.mono (by decide)) (by rfl) (sab_cons (sb_var (pv 0)) sab_nil) (hl := (sab_len sab_len0)))) sab_nil) (hl := (sab_len sab_len0)))) (ss_cons (s1_fz (i := 3) (s_if (st_w (sw_and (st_val (sb_var (pv 2))) (sw_and1 (st_cmp (o_ne hu) (sb_e (se_lc [("_law_told", 4)] (by rfl) nd (blkOk_by (by rfl)) (by rfl) (si_list (se_var (pv 3))) (fun _ _ _ _ _ => (tg_name (i := 4) (pg_name nd rfl (.inl rfl)))) tok_name (by decide) (fun _ _ _ _ _ => (spt_one (st_cmp (o_eq hu) (sb_ix (sb_var (pv 4)) (sb_c sc_int) (fun _ _ => rfl)) (sb_c sc_str) (nomark _)))) (fun _ _ _ _ _ => (se_c (k := 0) (sc_b (sb_var (pv 4))))))) (sb_e (se_lst (sae_nil (k := 0)))) (nomark _))))) (ss_cons (s_setLc [("_law_told", 4)] (by rfl) nd rfl rfl (sw_true rfl rfl rfl (by decide +kernel)) (blkOk_by (by rfl)) (by rfl) (si_list (se_var (pv 3))) (fun _ _ _ _ _ => (tg_name (i := 4) (pg_name nd rfl (.inl rfl)))) tok_name (by decide) (fun _ _ _ _ _ => (spt_one (st_cmp (o_eq hu) (sb_ix (sb_var (pv 4)) (sb_c sc_int) (fun _ _ => rfl)) (sb_c sc_str) (nomark _)))) (fun _ _ _ _ _ => (se_c (k := 0) (sc_b (sb_var (pv 4)))))) (ss_fz (i := 3) ss_nil)) ss_nil)) (ss_cons (s_if (st_cmp (o_eq hu) (sb_var (pv 3)) (sb_e (se_lst (sae_nil (k := 0)))) (nomark _)) (ss_one (s_ret (se_c (k := 0) sc_non))) ss_nil) (ss_one (s_ret (se_c (k := 0) (sc_b (sb_ix (sb_var (pv 3)) (sb_ix (sb_e (se_cal C__law_digits (hr.mono (by decide)) (by rfl) (sab_cons (sb_var (pv 1)) (sab_cons (sb_lst (sab_cons (sb_c sc_int) (sab_cons (sb_c (sc_len (by rfl) T.b_len (sb_var (pv 3)))) sab_nil))) sab_nil)) (hl := (sab_len (sab_len sab_len0))))) (sb_c sc_int) (fun _ _ => rfl)) (fun _ _ => rfl)))))))))
abbrev s__law_spots : Stmt := top 59
theorem sc__law_spots : FnScope ["_law_rows", "_law_spots_here", "_law_at", "_law_passing"] ["_law_rows"] (defScope s__law_spots) := ⟨rfl, rfl, rfl, by decide +kernel, rfl, by decide +kernel, by decide +kernel⟩
theorem ok__law_spots {P : Program} {w : World} {K : PySem.W.Frag} {mg : Str → Option Value} {base : Heap} {κ : Str → Addr} (T : Txt K mg κ) (A : At K mg "_law_spots" s__law_spots)  : Cal P w K mg base "_law_spots" 1 1 1 F__law_spots := by
  obtain ⟨f, fd, F, hm⟩ := A.ex
  refine ⟨f, fd, ["_law_rows"], hm, F.kp, F.binds (fun _ _ _ _ _ _ us hl => match us, hl with | [_], _ => rfl), def_ok (m := m__law_spots) F sc__law_spots rfl rfl fun cdv A outer s H E hr => ?_⟩
  have nd := sc__law_spots.nd
  have hu := hr.units
  have hu1 : (A.deeper (envOfC "_law_spots" (defScope s__law_spots) s.heap.objs.size f cdv)).units + 1 < cLine := by omega
  have hu65 : (A.deeper (envOfC "_law_spots" (defScope s__law_spots) s.heap.objs.size f cdv)).units + 65 < cLine := by have := hr.un; omega
  exact (ss_cons (s_set (i := 1) nd rfl (.inl rfl) (se_lst (sae_nil (k := 0)))) (ss_cons (s_for .never rfl (si_range1 (by rfl) T.b_range (sb_c (sc_len (by rfl) T.b_len (sb_var (pv 0))))) (tg_name (i := 2) (pg_name nd rfl (.inl rfl))) (ss_cons (s_if (st_cmp (o_eq hu) (sb_ix (sb_var (pv 0)) (sb_var (pv 2)) (fun _ _ => rfl)) (sb_e (se_lst (sae_nil (k := 0)))) (nomark _)) (ss_one (s_append (j := 1) (pv 1) (se_c (k := 0) (sc_tup (sae_cons (se_c (k := 0) (sc_b (sb_var (pv 2)))) (sae_cons (se_c (k := 0) sc_int) (sae_nil (k := 0)))))))) ss_nil) (ss_one (s_for .never rfl (si_list (se_ix (se_var (pv 0)) (sb_var (pv 2)) (fun _ _ => rfl))) (tg_name (i := 3) (pg_name nd rfl (.inl rfl))) (ss_one (s_append (j := 1) (pv 1) (se_c (k := 0) (sc_tup (sae_cons (se_c (k := 0) (sc_b (sb_ix (sb_var (pv 3)) (sb_c sc_int) (fun _ _ => rfl)))) (sae_cons (se_c (k := 0) (sc_b (sb_ix (sb_var (pv 3)) (sb_c sc_int) (fun _ _ => rfl)))) (sae_nil (k := 0)))))))) (fg := [3])))) (fg := [2, 3])) (ss_one (s_ret (se_move (k := 1) (pv 1))))))
abbrev s__law_curl : Stmt := top 60
theorem sc__law_curl : FnScope ["_law_rows", "_law_cell", "_law_spots_here", "_law_part"] ["_law_rows", "_law_cell"] (defScope s__law_curl) := ⟨rfl, rfl, rfl, by decide +kernel, rfl, by decide +kernel, by decide +kernel⟩
theorem ok__law_curl {P : Program} {w : World} {K : PySem.W.Frag} {mg : Str → Option Value} {base : Heap} {κ : Str → Addr} (T : Txt K mg κ) (A : At K mg "_law_curl" s__law_curl) (C__law_spots : Cal P w K mg base "_law_spots" 1 1 1 F__law_spots) (C__law_digits : Cal P w K mg base "_law_digits" 2 2 1 F__law_digits) (C__law_free : Cal P w K mg base "_law_free" 1 2 0 F__law_free) (C__law_names : Cal P w K mg base "_law_names" 1 1 1 F__law_names) : Cal P w K mg base "_law_curl" 3 2 0 F__law_curl := by
  obtain ⟨f, fd, F, hm⟩ := A.ex
  refine ⟨f, fd, ["_law_rows", "_law_cell"], hm, F.kp, F.binds (fun _ _ _ _ _ _ us hl => match us, hl with | [_, _], _ => rfl), def_ok (m := m__law_curl) F sc__law_curl rfl rfl fun cdv A outer s H E hr => ?_⟩
  have nd := sc__law_curl.nd
  have hu := hr.units
  have hu1 : (A.deeper (envOfC "_law_curl" (defScope s__law_curl) s.heap.objs.size f cdv)).units + 1 < cLine := by omega
  have hu65 : (A.deeper (envOfC "_law_curl" (defScope s__law_curl) s.heap.objs.size f cdv)).units + 65 < cLine := by have := hr.un; omega
  exact (ss_cons (s_set (i := 2) nd rfl (.inl rfl) (se_cal C__law_spots (hr.mono (by decide)) (by rfl) (sab_cons (sb_var (pv 0)) sab_nil) (hl := (sab_len sab_len0)))) (ss_cons (s_set (i := 3) nd rfl (.inl rfl) (se_cal C__law_digits (hr.mono (by decide)) (by rfl) (sab_cons (sb_var (pv 1)) (sab_cons (sb_lst (sab_cons (sb_c sc_int) (sab_cons (sb_c sc_int) (sab_cons (sb_c (sc_len (by rfl) T.b_len (sb_var (pv 2)))) (sab_cons (sb_c sc_int) (sab_cons (sb_c sc_int) sab_nil)))))) sab_nil)) (hl := (sab_len (sab_len sab_len0))))) (ss_one (s_ret (se_c (k := 0) (sc_tup (sae_cons (se_c (k := 0) sc_str) (sae_cons (se_cal C__law_free (hr.mono (by decide)) (by rfl) (sab_cons (sb_e (se_cal C__law_names (hr.mono (by decide)) (by rfl) (sab_cons (sb_var (pv 0)) sab_nil) (hl := (sab_len sab_len0)))) (sab_cons (sb_c (sc_op o_add (sb_c sc_int) (sb_ix (sb_var (pv 3)) (sb_c sc_int) (fun _ _ => rfl)))) sab_nil)) (hl := (sab_len (sab_len sab_len0)))) (sae_cons (se_c (k := 0) (sc_b (sb_ix (sb_var (pv 2)) (sb_ix (sb_var (pv 3)) (sb_c sc_int) (fun _ _ => rfl)) (fun _ _ => rfl)))) (sae_cons (se_c (k := 0) (sc_b (sb_ix (sb_var (pv 3)) (sb_c sc_int) (fun _ _ => rfl)))) (sae_cons (se_c (k := 0) (sc_op o_sub (sb_c sc_int) (sb_c (sc_op o_mul (sb_c sc_int) (sb_ix (sb_var (pv 3)) (sb_c sc_int) (fun _ _ => rfl)))))) (sae_nil (k := 0)))))))))))))
abbrev s__law_lay : Stmt := top 61
theorem sc__law_lay : FnScope ["_law_rows", "_law_cell", "_law_spots_here", "_law_part", "_law_name", "_law_second", "_law_over", "_law_under"] ["_law_rows", "_law_cell"] (defScope s__law_lay) := ⟨rfl, rfl, rfl, by decide +kernel, rfl, by decide +kernel, by decide +kernel⟩
theorem ok__law_lay {P : Program} {w : World} {K : PySem.W.Frag} {mg : Str → Option Value} {base : Heap} {κ : Str → Addr} (T : Txt K mg κ) (A : At K mg "_law_lay" s__law_lay) (C__law_spots : Cal P w K mg base "_law_spots" 1 1 1 F__law_spots) (C__law_digits : Cal P w K mg base "_law_digits" 2 2 1 F__law_digits) (C__law_free : Cal P w K mg base "_law_free" 1 2 0 F__law_free) (C__law_names : Cal P w K mg base "_law_names" 1 1 1 F__law_names) : Cal P w K mg base "_law_lay" 3 2 0 F__law_lay := by
  obtain ⟨f, fd, F, hm⟩ := A.ex
  refine ⟨f, fd, ["_law_rows", "_law_cell"], hm, F.kp, F.binds (fun _ _ _ _ _ _ us hl => match us, hl with | [_, _], _ => rfl), def_ok (m := m__law_lay) F sc__law_lay rfl rfl fun cdv A outer s H E hr => ?_⟩
  have nd := sc__law_lay.nd
  have hu := hr.units
  have hu1 : (A.deeper (envOfC "_law_lay" (defScope s__law_lay) s.heap.objs.size f cdv)).units + 1 < cLine := by omega
  have hu65 : (A.deeper (envOfC "_law_lay" (defScope s__law_lay) s.heap.objs.size f cdv)).units + 65 < cLine := by have := hr.un; omega
  exact (ss_cons (s_set (i := 2) nd rfl (.inl rfl) (se_cal C__law_spots (hr.mono (by decide)) (by rfl) (sab_cons (sb_var (pv 0)) sab_nil) (hl := (sab_len sab_len0)))) (ss_cons (s_set (i := 3) nd rfl (.inl rfl) (se_cal C__law_digits (hr.mono (by decide)) (by rfl) (sab_cons (sb_var (pv 1)) (sab_cons (sb_lst (sab_cons (sb_c sc_int) (sab_cons (sb_c sc_int) (sab_cons (sb_c sc_int) (sab_cons (sb_c (sc_len (by rfl) T.b_len (sb_var (pv 2)))) (sab_cons (sb_c (sc_len (by rfl) T.b_len (sb_var (pv 2)))) (sab_cons (sb_c sc_int) (sab_cons (sb_c sc_int) (sab_cons (sb_c sc_int) sab_nil))))))))) sab_nil)) (hl := (sab_len (sab_len sab_len0))))) (ss_cons (s_set (i := 4) nd rfl (.inl rfl) (se_cal C__law_free (hr.mono (by decide)) (by rfl) (sab_cons (sb_e (se_cal C__law_names (hr.mono (by decide)) (by rfl) (sab_cons (sb_var (pv 0)) sab_nil) (hl := (sab_len sab_len0)))) (sab_cons (sb_c (sc_op o_add (sb_c sc_int) (sb_ix (sb_var (pv 3)) (sb_c sc_int) (fun _ _ => rfl)))) sab_nil)) (hl := (sab_len (sab_len sab_len0))))) (ss_cons (s_set (i := 5) nd rfl (.inl rfl) (se_cal C__law_free (hr.mono (by decide)) (by rfl) (sab_cons (sb_e (se_cat (sl_imm (k := 0) (sb_e (se_cal C__law_names (hr.mono (by decide)) (by rfl) (sab_cons (sb_var (pv 0)) sab_nil) (hl := (sab_len sab_len0))))) (sl_imm (k := 0) (sb_lst (sab_cons (sb_var (pv 4)) sab_nil))))) (sab_cons (sb_c (sc_op o_add (sb_c sc_int) (sb_ix (sb_var (pv 3)) (sb_c sc_int) (fun _ _ => rfl)))) sab_nil)) (hl := (sab_len (sab_len sab_len0))))) (ss_cons (s_set (i := 6) nd rfl (.inl rfl) (se_c (k := 0) (sc_b (sb_ix (sb_var (pv 2)) (sb_ix (sb_var (pv 3)) (sb_c sc_int) (fun _ _ => rfl)) (fun _ _ => rfl))))) (ss_cons (s_set (i := 7) nd rfl (.inl rfl) (se_c (k := 0) (sc_b (sb_ix (sb_var (pv 2)) (sb_ix (sb_var (pv 3)) (sb_c sc_int) (fun _ _ => rfl)) (fun _ _ => rfl))))) (ss_cons (s_if (st_w (sw_or (st_cmp (o_eq hu) (sb_ix (sb_var (pv 3)) (sb_c sc_int) (fun _ _ => rfl)) (sb_c sc_int) (nomark _)) (sw_or1 (st_w (sw_and (st_cmp (o_eq hu) (sb_ix (sb_var (pv 6)) (sb_c sc_int) (fun _ _ => rfl)) (sb_c sc_int) (nomark _)) (sw_and1 (st_cmp (o_eq hu) (sb_var (pv 7)) (sb_var (pv 6)) (nomark _)))))))) (ss_one (s_set (i := 7) nd rfl (.inl rfl) (se_c (k := 0) (sc_tup (sae_cons (se_c (k := 0) (sc_b (sb_var (pv 5)))) (sae_cons (se_c (k := 0) sc_int) (sae_nil (k := 0)))))))) ss_nil) (ss_one (s_ret (se_c (k := 0) (sc_tup (sae_cons (se_c (k := 0) sc_str) (sae_cons (se_c (k := 0) (sc_b (sb_var (pv 4)))) (sae_cons (se_c (k := 0) (sc_b (sb_var (pv 5)))) (sae_cons (se_c (k := 0) (sc_b (sb_var (pv 6)))) (sae_cons (se_c (k := 0) (sc_b (sb_var (pv 7)))) (sae_cons (se_c (k := 0) (sc_b (sb_ix (sb_var (pv 3)) (sb_c sc_int) (fun _ _ => rfl)))) (sae_cons (se_c (k := 0) (sc_op o_sub (sb_c sc_int) (sb_c (sc_op o_mul (sb_c sc_int) (sb_ix (sb_var (pv 3)) (sb_c sc_int) (fun _ _ => rfl)))))) (sae_nil (k := 0))))))))))))))))))))
abbrev s__law_move : Stmt := top 63
theorem sc__law_move : FnScope ["_law_rows", "_law_cell", "_law_most", "_law_many", "_law_kind"] ["_law_rows", "_law_cell", "_law_most"] (defScope s__law_move) := ⟨rfl, rfl, rfl, by decide +kernel, rfl, by decide +kernel, by decide +kernel⟩
theorem ok__law_move {P : Program} {w : World} {K : PySem.W.Frag} {mg : Str → Option Value} {base : Heap} {κ : Str → Addr} (T : Txt K mg κ) (A : At K mg "_law_move" s__law_move) (C__law_names : Cal P w K mg base "_law_names" 1 1 1 F__law_names) (C__law_digits : Cal P w K mg base "_law_digits" 2 2 1 F__law_digits) (C__law_curl : Cal P w K mg base "_law_curl" 3 2 0 F__law_curl) (C__law_lay : Cal P w K mg base "_law_lay" 3 2 0 F__law_lay) (C__law_lesser : Cal P w K mg base "_law_lesser" 6 3 0 F__law_lesser) : Cal P w K mg base "_law_move" 7 3 0 F__law_move := by
  obtain ⟨f, fd, F, hm⟩ := A.ex
  refine ⟨f, fd, ["_law_rows", "_law_cell", "_law_most"], hm, F.kp, F.binds (fun _ _ _ _ _ _ us hl => match us, hl with | [_, _, _], _ => rfl), def_ok (m := m__law_move) F sc__law_move rfl rfl fun cdv A outer s H E hr => ?_⟩
  have nd := sc__law_move.nd
  have hu := hr.units
  have hu1 : (A.deeper (envOfC "_law_move" (defScope s__law_move) s.heap.objs.size f cdv)).units + 1 < cLine := by omega
  have hu65 : (A.deeper (envOfC "_law_move" (defScope s__law_move) s.heap.objs.size f cdv)).units + 65 < cLine := by have := hr.un; omega
  exact (ss_cons (s_set (i := 3) nd rfl (.inl rfl) (se_c (k := 0) (sc_len (by rfl) T.b_len (sb_e (se_cal C__law_names (hr.mono (by decide)) (by rfl) (sab_cons (sb_var (pv 0)) sab_nil) (hl := (sab_len sab_len0))))))) (ss_cons (s_set (i := 4) nd rfl (.inl rfl) (se_c (k := 0) (sc_b (sb_ix (sb_e (se_cal C__law_digits (hr.mono (by decide)) (by rfl) (sab_cons (sb_var (pv 1)) (sab_cons (sb_lst (sab_cons (sb_c sc_int) sab_nil)) sab_nil)) (hl := (sab_len (sab_len sab_len0))))) (sb_c sc_int) (fun _ _ => rfl))))) (ss_cons (s_if (st_w (sw_and (st_cmp (o_eq hu) (sb_var (pv 4)) (sb_c sc_int) (nomark _)) (sw_and1 (st_cmp (o_lt hu) (sb_var (pv 3)) (sb_var (pv 2)) (nomark _))))) (ss_one (s_ret (se_cal C__law_curl (hr.mono (by decide)) (by rfl) (sab_cons (sb_var (pv 0)) (sab_cons (sb_var (pv 1)) sab_nil)) (hl := (sab_len (sab_len sab_len0)))))) ss_nil) (ss_cons (s_if (st_w (sw_and (st_cmp (o_eq hu) (sb_var (pv 4)) (sb_c sc_int) (nomark _)) (sw_and1 (st_cmp (o_lt hu) (sb_c (sc_op o_add (sb_var (pv 3)) (sb_c sc_int))) (sb_var (pv 2)) (nomark _))))) (ss_one (s_ret (se_cal C__law_lay (hr.mono (by decide)) (by rfl) (sab_cons (sb_var (pv 0)) (sab_cons (sb_var (pv 1)) sab_nil)) (hl := (sab_len (sab_len sab_len0)))))) ss_nil) (ss_one (s_ret (se_cal C__law_lesser (hr.mono (by decide)) (by rfl) (sab_cons (sb_var (pv 0)) (sab_cons (sb_var (pv 1)) (sab_cons (sb_c (sc_or (sb_c (sc_cmp (o_eq hu) (sb_var (pv 4)) (sb_c sc_int) (nomark _))) (sc_one (sc_cmp (o_eq hu) (sb_var (pv 4)) (sb_c sc_int) (nomark _))))) sab_nil))) (hl := (sab_len (sab_len (sab_len sab_len0)))))))))))
abbrev s__law_cell_at : Stmt := top 49
theorem sc__law_cell_at : FnScope ["_law_script", "_law_k"] ["_law_script", "_law_k"] (defScope s__law_cell_at) := ⟨rfl, rfl, rfl, by decide +kernel, rfl, by decide +kernel, by decide +kernel⟩
theorem ok__law_cell_at {P : Program} {w : World} {K : PySem.W.Frag} {mg : Str → Option Value} {base : Heap} {κ : Str → Addr} (T : Txt K mg κ) (A : At K mg "_law_cell_at" s__law_cell_at)  : Cal P w K mg base "_law_cell_at" 1 2 0 F__law_cell_at := by
  obtain ⟨f, fd, F, hm⟩ := A.ex
  refine ⟨f, fd, ["_law_script", "_law_k"], hm, F.kp, F.binds (fun _ _ _ _ _ _ us hl => match us, hl with | [_, _], _ => rfl), def_ok (m := m__law_cell_at) F sc__law_cell_at rfl rfl fun cdv A outer s H E hr => ?_⟩
  have nd := sc__law_cell_at.nd
  have hu := hr.units
  have hu1 : (A.deeper (envOfC "_law_cell_at" (defScope s__law_cell_at) s.heap.objs.size f cdv)).units + 1 < cLine := by omega
  have hu65 : (A.deeper (envOfC "_law_cell_at" (defScope s__law_cell_at) s.heap.objs.size f cdv)).units + 65 < cLine := by have := hr.un; omega
  exact (ss_cons (s_if (st_cmp (o_lt hu) (sb_var (pv 1)) (sb_c (sc_len (by rfl) T.b_len (sb_var (pv 0)))) (nomark _)) (ss_one (s_ret (se_c (k := 0) (sc_b (sb_ix (sb_var (pv 0)) (sb_var (pv 1)) (fun _ _ => rfl)))))) ss_nil) (ss_one (s_ret (se_c (k := 0) sc_int))))
abbrev s_seated : Stmt := top 14
theorem sc_seated : FnScope ["row", "at"] ["row"] (defScope s_seated) := ⟨rfl, rfl, rfl, by decide +kernel, rfl, by decide +kernel, by decide +kernel⟩
theorem ok_seated {P : Program} {w : World} {K : PySem.W.Frag} {mg : Str → Option Value} {base : Heap} {κ : Str → Addr} (T : Txt K mg κ) (A : At K mg "seated" s_seated)  : Cal P w K mg base "seated" 1 1 1 F_seated := by
  obtain ⟨f, fd, F, hm⟩ := A.ex
  refine ⟨f, fd, ["row"], hm, F.kp, F.binds (fun _ _ _ _ _ _ us hl => match us, hl with | [_], _ => rfl), def_ok (m := m_seated) F sc_seated rfl rfl fun cdv A outer s H E hr => ?_⟩
  have nd := sc_seated.nd
  have hu := hr.units
  have hu1 : (A.deeper (envOfC "seated" (defScope s_seated) s.heap.objs.size f cdv)).units + 1 < cLine := by omega
  have hu65 : (A.deeper (envOfC "seated" (defScope s_seated) s.heap.objs.size f cdv)).units + 65 < cLine := by have := hr.un; omega
  exact (ss_cons (s_if (st_not (st_tru (sb_var (pv 0)))) (ss_one (s_ret (se_lst (sae_nil (k := 0))))) ss_nil) (ss_cons (s_set (i := 1) nd rfl (.inl rfl) (se_c (k := 0) (sc_index hu65 (sb_var (pv 0)) (sb_c (sc_min rfl hu65 (by rfl) T.b_min (sb_var (pv 0))))))) (ss_one (s_ret (se_cat (sl_imm (k := 0) (sb_e (se_list (.inl rfl) (by rfl) T.b_list (sl_imm (k := 0) (sb_e (se_slice (sl_imm (k := 0) (sb_var (pv 0))) (so_some (sb_var (pv 1))) so_none)))))) (sl_imm (k := 0) (sb_e (se_list (.inl rfl) (by rfl) T.b_list (sl_imm (k := 0) (sb_e (se_slice (sl_imm (k := 0) (sb_var (pv 0))) so_none (so_some (sb_var (pv 1))))))))))))))
abbrev s_look_at_new : Stmt := top 27
theorem sc_look_at_new : FnScope ["drawing", "fresh", "names", "at", "name"] ["drawing", "fresh"] (defScope s_look_at_new) := ⟨rfl, rfl, rfl, by decide +kernel, rfl, by decide +kernel, by decide +kernel⟩
theorem ok_look_at_new {P : Program} {w : World} {K : PySem.W.Frag} {mg : Str → Option Value} {base : Heap} {κ : Str → Addr} (T : Txt K mg κ) (A : At K mg "look_at_new" s_look_at_new) (C_names_of : Cal P w K mg base "names_of" 2 1 1 F_names_of) : Cal P w K mg base "look_at_new" 3 2 0 F_look_at_new := by
  obtain ⟨f, fd, F, hm⟩ := A.ex
  refine ⟨f, fd, ["drawing", "fresh"], hm, F.kp, F.binds (fun _ _ _ _ _ _ us hl => match us, hl with | [_, _], _ => rfl), def_ok (m := m_look_at_new) F sc_look_at_new rfl rfl fun cdv A outer s H E hr => ?_⟩
  have nd := sc_look_at_new.nd
  have hu := hr.units
  have hu1 : (A.deeper (envOfC "look_at_new" (defScope s_look_at_new) s.heap.objs.size f cdv)).units + 1 < cLine := by omega
  have hu65 : (A.deeper (envOfC "look_at_new" (defScope s_look_at_new) s.heap.objs.size f cdv)).units + 65 < cLine := by have := hr.un; omega
  exact (ss_cons (s_set (i := 2) nd rfl (.inl rfl) (se_cal C_names_of (hr.mono (by decide)) (by rfl) (sab_cons (sb_var (pv 0)) sab_nil) (hl := (sab_len sab_len0)))) (ss_cons (s_if (st_cmp (o_gt hu) (sb_c (sc_op o_add (sb_c (sc_len (by rfl) T.b_len (sb_var (pv 2)))) (sb_c (sc_len (by rfl) T.b_len (sb_var (pv 1)))))) (sb_c (sc_globI (by rfl) T.b_MOST_CROSSINGS)) (nomark _)) (ss_one s_no) ss_nil) (ss_one (s_for .never rfl (si_enum (by rfl) T.b_enumerate (se_var (pv 1))) (tg_tup rfl (tgs_cons (tg_name (i := 3) (pg_name nd rfl (.inl rfl))) (tgs_cons (tg_name (i := 4) (pg_name nd rfl (.inl rfl))) tgs_nil))) (ss_one (s_if (st_w (sw_or (st_cmp (o_in hu65) (sb_var (pv 4)) (sb_var (pv 2)) (by rfl)) (sw_or1 (st_cmp (o_in hu65) (sb_var (pv 4)) (sb_e (se_slice (sl_imm (k := 0) (sb_var (pv 1))) so_none (so_some (sb_var (pv 3))))) (by rfl))))) (ss_one s_no) ss_nil)) (fg := [3, 4])))))
abbrev s_put_behind : Stmt := top 25
theorem sc_put_behind : FnScope ["drawing", "spot", "passings", "made", "found", "at", "row", "longer", "passing"] ["drawing", "spot", "passings"] (defScope s_put_behind) := ⟨rfl, rfl, rfl, by decide +kernel, rfl, by decide +kernel, by decide +kernel⟩
theorem ok_put_behind {P : Program} {w : World} {K : PySem.W.Frag} {mg : Str → Option Value} {base : Heap} {κ : Str → Addr} (T : Txt K mg κ) (A : At K mg "put_behind" s_put_behind)  : Cal P w K mg base "put_behind" 1 3 2 F_put_behind := by
  obtain ⟨f, fd, F, hm⟩ := A.ex
  refine ⟨f, fd, ["drawing", "spot", "passings"], hm, F.kp, F.binds (fun _ _ _ _ _ _ us hl => match us, hl with | [_, _, _], _ => rfl), def_ok (m := m_put_behind) F sc_put_behind rfl rfl fun cdv A outer s H E hr => ?_⟩
  have nd := sc_put_behind.nd
  have hu := hr.units
  have hu1 : (A.deeper (envOfC "put_behind" (defScope s_put_behind) s.heap.objs.size f cdv)).units + 1 < cLine := by omega
  have hu65 : (A.deeper (envOfC "put_behind" (defScope s_put_behind) s.heap.objs.size f cdv)).units + 65 < cLine := by have := hr.un; omega
  exact (ss_cons (s_set (i := 3) nd rfl (.inl rfl) (se_lst (sae_nil (k := 1)))) (ss_cons (s_set (i := 4) nd rfl (.inl rfl) (se_c (k := 0) sc_bl)) (ss_cons (s_for .never rfl (si_enum (by rfl) T.b_enumerate (se_var (pv 0))) (tg_tup rfl (tgs_cons (tg_name (i := 5) (pg_name nd rfl (.inl rfl))) (tgs_cons (tg_name (i := 6) (pg_name nd rfl (.inl rfl))) tgs_nil))) (ss_cons (s_set (i := 7) nd rfl (.inl rfl) (se_lst (sae_nil (k := 0)))) (ss_cons (s_if (st_w (sw_and (st_not (st_tru (sb_var (pv 6)))) (sw_and1 (st_cmp (o_eq hu) (sb_var (pv 1)) (sb_c (sc_tup (sae_cons (se_c (k := 0) (sc_b (sb_var (pv 5)))) (sae_cons (se_c (k := 0) (sc_globI (by rfl) T.b_BARE)) (sae_nil (k := 0)))))) (nomark _))))) (ss_cons (s_extend (j := 7) (pv 7) (sl_imm (k := 0) (sb_var (pv 2)))) (ss_one (s_set (i := 4) nd rfl (.inl rfl) (se_c (k := 0) sc_bl)))) ss_nil) (ss_cons (s_for .never rfl (si_list (se_var (pv 6))) (tg_name (i := 8) (pg_name nd rfl (.inl rfl))) (ss_cons (s_append (j := 7) (pv 7) (se_c (k := 0) (sc_b (sb_var (pv 8))))) (ss_one (s_if (st_cmp (o_eq hu) (sb_c (sc_tup (sae_cons (se_c (k := 0) (sc_b (sb_ix (sb_var (pv 8)) (sb_c sc_int) (fun _ _ => rfl)))) (sae_cons (se_c (k := 0) (sc_b (sb_ix (sb_var (pv 8)) (sb_c sc_int) (fun _ _ => rfl)))) (sae_nil (k := 0)))))) (sb_var (pv 1)) (nomark _)) (ss_cons (s_extend (j := 7) (pv 7) (sl_imm (k := 0) (sb_var (pv 2)))) (ss_one (s_set (i := 4) nd rfl (.inl rfl) (se_c (k := 0) sc_bl)))) ss_nil))) (fg := [8])) (ss_one (s_append (j := 3) (pv 3) (se_move (k := 1) (pv 7))))))) (fg := [5, 6, 7, 8])) (ss_cons (s_if (st_not (st_val (sb_var (pv 4)))) (ss_one s_no) ss_nil) (ss_one (s_ret (se_move (k := 2) (pv 3))))))))
abbrev s_Curl_made : Stmt := inCls (top 37) 2
theorem sc_Curl_made : FnScope ["self", "drawing", "fresh"] ["self", "drawing"] (defScope s_Curl_made) := ⟨rfl, rfl, rfl, by decide +kernel, rfl, by decide +kernel, by decide +kernel⟩
theorem ok_Curl_made {P : Program} {w : World} {K : PySem.W.Frag} {mg : Str → Option Value} {base : Heap} {κ : Str → Addr} (T : Txt K mg κ) {C : Addr} (A : AtM K C "made" "Curl.made" s_Curl_made) (C_look_at_new : Cal P w K mg base "look_at_new" 3 2 0 F_look_at_new) (C_put_behind : Cal P w K mg base "put_behind" 1 3 2 F_put_behind) : MetC P w K mg base C "made" 4 2 2 (F_Curl_made κ) := by
  obtain ⟨f, fd, F, hm⟩ := A.ex
  refine ⟨f, fd, ["self", "drawing"], hm, F.binds (fun _ _ _ _ _ _ us hl => match us, hl with | [_, _], _ => rfl), def_ok (m := (m_Curl_made κ)) F sc_Curl_made rfl rfl fun cdv A outer s H E hr => ?_⟩
  have nd := sc_Curl_made.nd
  have hu := hr.units
  have hu1 : (A.deeper (envOfC "Curl.made" (defScope s_Curl_made) s.heap.objs.size f cdv)).units + 1 < cLine := by omega
  have hu65 : (A.deeper (envOfC "Curl.made" (defScope s_Curl_made) s.heap.objs.size f cdv)).units + 65 < cLine := by have := hr.un; omega
  exact (ss_cons (s_expr (se_cal C_look_at_new (hr.mono (by decide)) (by rfl) (sab_cons (sb_var (pv 1)) (sab_cons (sb_lst (sab_cons (sb_fld (cs := ["Curl"]) (f := "name") ⟨⟨T.o_Curl.is, T.a_Curl_name⟩, trivial⟩ (sb_var (pv 0))) sab_nil)) sab_nil)) (hl := (sab_len (sab_len sab_len0))))) (ss_cons (s_set (i := 2) nd rfl (.inl rfl) (se_lst (sae_cons (se_c (k := 0) (sc_tup (sae_cons (se_c (k := 0) (sc_b (sb_fld (cs := ["Curl"]) (f := "name") ⟨⟨T.o_Curl.is, T.a_Curl_name⟩, trivial⟩ (sb_var (pv 0))))) (sae_cons (se_c (k := 0) (sc_b (sb_fld (cs := ["Curl"]) (f := "first") ⟨⟨T.o_Curl.is, T.a_Curl_first⟩, trivial⟩ (sb_var (pv 0))))) (sae_cons (se_c (k := 0) (sc_b (sb_fld (cs := ["Curl"]) (f := "hand") ⟨⟨T.o_Curl.is, T.a_Curl_hand⟩, trivial⟩ (sb_var (pv 0))))) (sae_nil (k := 0))))))) (sae_cons (se_c (k := 0) (sc_tup (sae_cons (se_c (k := 0) (sc_b (sb_fld (cs := ["Curl"]) (f := "name") ⟨⟨T.o_Curl.is, T.a_Curl_name⟩, trivial⟩ (sb_var (pv 0))))) (sae_cons (se_c (k := 0) (sc_op o_sub (sb_c sc_int) (sb_fld (cs := ["Curl"]) (f := "first") ⟨⟨T.o_Curl.is, T.a_Curl_first⟩, trivial⟩ (sb_var (pv 0))))) (sae_cons (se_c (k := 0) (sc_b (sb_fld (cs := ["Curl"]) (f := "hand") ⟨⟨T.o_Curl.is, T.a_Curl_hand⟩, trivial⟩ (sb_var (pv 0))))) (sae_nil (k := 0))))))) (sae_nil (k := 0)))))) (ss_one (s_ret (se_cal C_put_behind (hr.mono (by decide)) (by rfl) (sab_cons (sb_var (pv 1)) (sab_cons (sb_fld (cs := ["Curl"]) (f := "spot") ⟨⟨T.o_Curl.is, T.a_Curl_spot⟩, trivial⟩ (sb_var (pv 0))) (sab_cons (sb_var (pv 2)) sab_nil))) (hl := (sab_len (sab_len (sab_len sab_len0)))))))))
abbrev s_Lay_made : Stmt := inCls (top 39) 2
theorem sc_Lay_made : FnScope ["self", "drawing", "overs", "unders", "laid"] ["self", "drawing"] (defScope s_Lay_made) := ⟨rfl, rfl, rfl, by decide +kernel, rfl, by decide +kernel, by decide +kernel⟩
theorem ok_Lay_made {P : Program} {w : World} {K : PySem.W.Frag} {mg : Str → Option Value} {base : Heap} {κ : Str → Addr} (T : Txt K mg κ) {C : Addr} (A : AtM K C "made" "Lay.made" s_Lay_made) (C_look_at_new : Cal P w K mg base "look_at_new" 3 2 0 F_look_at_new) (C_put_behind : Cal P w K mg base "put_behind" 1 3 2 F_put_behind) : MetC P w K mg base C "made" 4 2 2 (F_Lay_made κ) := by
  obtain ⟨f, fd, F, hm⟩ := A.ex
  refine ⟨f, fd, ["self", "drawing"], hm, F.binds (fun _ _ _ _ _ _ us hl => match us, hl with | [_, _], _ => rfl), def_ok (m := (m_Lay_made κ)) F sc_Lay_made rfl rfl fun cdv A outer s H E hr => ?_⟩
  have nd := sc_Lay_made.nd
  have hu := hr.units
  have hu1 : (A.deeper (envOfC "Lay.made" (defScope s_Lay_made) s.heap.objs.size f cdv)).units + 1 < cLine := by omega
  have hu65 : (A.deeper (envOfC "Lay.made" (defScope s_Lay_made) s.heap.objs.size f cdv)).units + 65 < cLine := by have := hr.un; omega
  exact (ss_cons (s_expr (se_cal C_look_at_new (hr.mono (by decide)) (by rfl) (sab_cons (sb_var (pv 1)) (sab_cons (sb_lst (sab_cons (sb_fld (cs := ["Lay"]) (f := "name") ⟨⟨T.o_Lay.is, T.a_Lay_name⟩, trivial⟩ (sb_var (pv 0))) (sab_cons (sb_fld (cs := ["Lay"]) (f := "second") ⟨⟨T.o_Lay.is, T.a_Lay_second⟩, trivial⟩ (sb_var (pv 0))) sab_nil))) sab_nil)) (hl := (sab_len (sab_len sab_len0))))) (ss_cons (s_set (i := 2) nd rfl (.inl rfl) (se_lst (sae_cons (se_c (k := 0) (sc_tup (sae_cons (se_c (k := 0) (sc_b (sb_fld (cs := ["Lay"]) (f := "name") ⟨⟨T.o_Lay.is, T.a_Lay_name⟩, trivial⟩ (sb_var (pv 0))))) (sae_cons (se_c (k := 0) (sc_globI (by rfl) T.b_OVER)) (sae_cons (se_c (k := 0) (sc_b (sb_fld (cs := ["Lay"]) (f := "hand") ⟨⟨T.o_Lay.is, T.a_Lay_hand⟩, trivial⟩ (sb_var (pv 0))))) (sae_nil (k := 0))))))) (sae_cons (se_c (k := 0) (sc_tup (sae_cons (se_c (k := 0) (sc_b (sb_fld (cs := ["Lay"]) (f := "second") ⟨⟨T.o_Lay.is, T.a_Lay_second⟩, trivial⟩ (sb_var (pv 0))))) (sae_cons (se_c (k := 0) (sc_globI (by rfl) T.b_OVER)) (sae_cons (se_c (k := 0) (sc_neg (sb_fld (cs := ["Lay"]) (f := "hand") ⟨⟨T.o_Lay.is, T.a_Lay_hand⟩, trivial⟩ (sb_var (pv 0))))) (sae_nil (k := 0))))))) (sae_nil (k := 0)))))) (ss_cons (s_set (i := 3) nd rfl (.inl rfl) (se_lst (sae_cons (se_c (k := 0) (sc_tup (sae_cons (se_c (k := 0) (sc_b (sb_fld (cs := ["Lay"]) (f := "name") ⟨⟨T.o_Lay.is, T.a_Lay_name⟩, trivial⟩ (sb_var (pv 0))))) (sae_cons (se_c (k := 0) (sc_globI (by rfl) T.b_UNDER)) (sae_cons (se_c (k := 0) (sc_b (sb_fld (cs := ["Lay"]) (f := "hand") ⟨⟨T.o_Lay.is, T.a_Lay_hand⟩, trivial⟩ (sb_var (pv 0))))) (sae_nil (k := 0))))))) (sae_cons (se_c (k := 0) (sc_tup (sae_cons (se_c (k := 0) (sc_b (sb_fld (cs := ["Lay"]) (f := "second") ⟨⟨T.o_Lay.is, T.a_Lay_second⟩, trivial⟩ (sb_var (pv 0))))) (sae_cons (se_c (k := 0) (sc_globI (by rfl) T.b_UNDER)) (sae_cons (se_c (k := 0) (sc_neg (sb_fld (cs := ["Lay"]) (f := "hand") ⟨⟨T.o_Lay.is, T.a_Lay_hand⟩, trivial⟩ (sb_var (pv 0))))) (sae_nil (k := 0))))))) (sae_nil (k := 0)))))) (ss_cons (s_if (st_cmp (o_eq hu) (sb_fld (cs := ["Lay"]) (f := "turned") ⟨⟨T.o_Lay.is, T.a_Lay_turned⟩, trivial⟩ (sb_var (pv 0))) (sb_c sc_int) (nomark _)) (ss_one (s_set (i := 3) nd rfl (.inl rfl) (se_lst (sae_cons (se_c (k := 0) (sc_b (sb_ix (sb_var (pv 3)) (sb_c sc_int) (fun _ _ => rfl)))) (sae_cons (se_c (k := 0) (sc_b (sb_ix (sb_var (pv 3)) (sb_c sc_int) (fun _ _ => rfl)))) (sae_nil (k := 0))))))) ss_nil) (ss_cons (s_set (i := 4) nd rfl (.inl rfl) (se_cal C_put_behind (hr.mono (by decide)) (by rfl) (sab_cons (sb_var (pv 1)) (sab_cons (sb_fld (cs := ["Lay"]) (f := "over") ⟨⟨T.o_Lay.is, T.a_Lay_over⟩, trivial⟩ (sb_var (pv 0))) (sab_cons (sb_var (pv 2)) sab_nil))) (hl := (sab_len (sab_len (sab_len sab_len0)))))) (ss_cons (s_if (st_cmp (o_eq hu) (sb_fld (cs := ["Lay"]) (f := "under") ⟨⟨T.o_Lay.is, T.a_Lay_under⟩, trivial⟩ (sb_var (pv 0))) (sb_c (sc_tup (sae_cons (se_c (k := 0) (sc_b (sb_fld (cs := ["Lay"]) (f := "name") ⟨⟨T.o_Lay.is, T.a_Lay_name⟩, trivial⟩ (sb_var (pv 0))))) (sae_cons (se_c (k := 0) (sc_globI (by rfl) T.b_OVER)) (sae_nil (k := 0)))))) (nomark _)) (ss_one s_no) ss_nil) (ss_one (s_ret (se_cal C_put_behind (hr.mono (by decide)) (by rfl) (sab_cons (sb_var (pv 4)) (sab_cons (sb_fld (cs := ["Lay"]) (f := "under") ⟨⟨T.o_Lay.is, T.a_Lay_under⟩, trivial⟩ (sb_var (pv 0))) (sab_cons (sb_var (pv 3)) sab_nil))) (hl := (sab_len (sab_len (sab_len sab_len0)))))))))))))
abbrev s_look_at_old : Stmt := top 28
theorem sc_look_at_old : FnScope ["drawing", "names", "name"] ["drawing", "names"] (defScope s_look_at_old) := ⟨rfl, rfl, rfl, by decide +kernel, rfl, by decide +kernel, by decide +kernel⟩
theorem ok_look_at_old {P : Program} {w : World} {K : PySem.W.Frag} {mg : Str → Option Value} {base : Heap} {κ : Str → Addr} (T : Txt K mg κ) (A : At K mg "look_at_old" s_look_at_old) (C_hand_of : Cal P w K mg base "hand_of" 2 2 0 F_hand_of) : Cal P w K mg base "look_at_old" 3 2 0 F_look_at_old := by
  obtain ⟨f, fd, F, hm⟩ := A.ex
  refine ⟨f, fd, ["drawing", "names"], hm, F.kp, F.binds (fun _ _ _ _ _ _ us hl => match us, hl with | [_, _], _ => rfl), def_ok (m := m_look_at_old) F sc_look_at_old rfl rfl fun cdv A outer s H E hr => ?_⟩
  have nd := sc_look_at_old.nd
  have hu := hr.units
  have hu1 : (A.deeper (envOfC "look_at_old" (defScope s_look_at_old) s.heap.objs.size f cdv)).units + 1 < cLine := by omega
  have hu65 : (A.deeper (envOfC "look_at_old" (defScope s_look_at_old) s.heap.objs.size f cdv)).units + 65 < cLine := by have := hr.un; omega
  exact (ss_one (s_for .never rfl (si_list (se_var (pv 1))) (tg_name (i := 2) (pg_name nd rfl (.inl rfl))) (ss_one (s_expr (se_cal C_hand_of (hr.mono (by decide)) (by rfl) (sab_cons (sb_var (pv 0)) (sab_cons (sb_var (pv 2)) sab_nil)) (hl := (sab_len (sab_len sab_len0)))))) (fg := [2])))
abbrev s_Part_look : Stmt := inCls (top 38) 2
theorem sc_Part_look : FnScope ["self", "drawing"] ["self", "drawing"] (defScope s_Part_look) := ⟨rfl, rfl, rfl, by decide +kernel, rfl, by decide +kernel, by decide +kernel⟩
theorem ok_Part_look {P : Program} {w : World} {K : PySem.W.Frag} {mg : Str → Option Value} {base : Heap} {κ : Str → Addr} (T : Txt K mg κ) {C : Addr} (A : AtM K C "look" "Part.look" s_Part_look) (C_look_at_old : Cal P w K mg base "look_at_old" 3 2 0 F_look_at_old) (C_parts : Cal P w K mg base "parts" 2 4 0 F_parts) (C_next_of : Cal P w K mg base "next_of" 1 1 1 F_next_of) (C_hands_of : Cal P w K mg base "hands_of" 1 1 1 F_hands_of) : MetC P w K mg base C "look" 4 2 0 (F_Part_look κ) := by
  obtain ⟨f, fd, F, hm⟩ := A.ex
  refine ⟨f, fd, ["self", "drawing"], hm, F.binds (fun _ _ _ _ _ _ us hl => match us, hl with | [_, _], _ => rfl), def_ok (m := (m_Part_look κ)) F sc_Part_look rfl rfl fun cdv A outer s H E hr => ?_⟩
  have nd := sc_Part_look.nd
  have hu := hr.units
  have hu1 : (A.deeper (envOfC "Part.look" (defScope s_Part_look) s.heap.objs.size f cdv)).units + 1 < cLine := by omega
  have hu65 : (A.deeper (envOfC "Part.look" (defScope s_Part_look) s.heap.objs.size f cdv)).units + 65 < cLine := by have := hr.un; omega
  exact (ss_cons (s_expr (se_cal C_look_at_old (hr.mono (by decide)) (by rfl) (sab_cons (sb_var (pv 1)) (sab_cons (sb_lst (sab_cons (sb_fld (cs := ["Part"]) (f := "name") ⟨⟨T.o_Part.is, T.a_Part_name⟩, trivial⟩ (sb_var (pv 0))) (sab_cons (sb_fld (cs := ["Part"]) (f := "second") ⟨⟨T.o_Part.is, T.a_Part_second⟩, trivial⟩ (sb_var (pv 0))) sab_nil))) sab_nil)) (hl := (sab_len (sab_len sab_len0))))) (ss_one (s_if (st_not (st_val (sb_e (se_cal C_parts (hr.mono (by decide)) (by rfl) (sab_cons (sb_e (se_cal C_next_of (hr.mono (by decide)) (by rfl) (sab_cons (sb_var (pv 1)) sab_nil) (hl := (sab_len sab_len0)))) (sab_cons (sb_e (se_cal C_hands_of (hr.mono (by decide)) (by rfl) (sab_cons (sb_var (pv 1)) sab_nil) (hl := (sab_len sab_len0)))) (sab_cons (sb_fld (cs := ["Part"]) (f := "name") ⟨⟨T.o_Part.is, T.a_Part_name⟩, trivial⟩ (sb_var (pv 0))) (sab_cons (sb_fld (cs := ["Part"]) (f := "second") ⟨⟨T.o_Part.is, T.a_Part_second⟩, trivial⟩ (sb_var (pv 0))) sab_nil)))) (hl := (sab_len (sab_len (sab_len (sab_len sab_len0))))))))) (ss_one s_no) ss_nil)))
abbrev s_without : Stmt := top 26
theorem sc_without : FnScope ["drawing", "names", "made", "row", "passing"] ["drawing", "names"] (defScope s_without) := ⟨rfl, rfl, rfl, by decide +kernel, rfl, by decide +kernel, by decide +kernel⟩
theorem ok_without {P : Program} {w : World} {K : PySem.W.Frag} {mg : Str → Option Value} {base : Heap} {κ : Str → Addr} (T : Txt K mg κ) (A : At K mg "without" s_without)  : Cal P w K mg base "without" 1 2 2 F_without := by
  obtain ⟨f, fd, F, hm⟩ := A.ex
  refine ⟨f, fd, ["drawing", "names"], hm, F.kp, F.binds (fun _ _ _ _ _ _ us hl => match us, hl with | [_, _], _ => rfl), def_ok (m := m_without) F sc_without rfl rfl fun cdv A outer s H E hr => ?_⟩
  have nd := sc_without.nd
  have hu := hr.units
  have hu1 : (A.deeper (envOfC "without" (defScope s_without) s.heap.objs.size f cdv)).units + 1 < cLine := by omega
  have hu65 : (A.deeper (envOfC "without" (defScope s_without) s.heap.objs.size f cdv)).units + 65 < cLine := by have := hr.un; omega
  exact (ss_cons (s_set (i := 2) nd rfl (.inl rfl) (se_lst (sae_nil (k := 1)))) (ss_cons (s_for .never rfl (si_list (se_var (pv 0))) (tg_name (i := 3) (pg_name nd rfl (.inl rfl))) (ss_one (s_append (j := 2) (pv 2) (se_lc [("passing", 4)] (by rfl) nd (blkOk_by (by rfl)) (by rfl) (si_list (se_var (pv 3))) (fun _ _ _ _ _ => (tg_name (i := 4) (pg_name nd rfl (.inl rfl)))) tok_name (by decide) (fun _ _ _ _ _ => (spt_one (st_cmp (o_notIn hu65) (sb_ix (sb_var (pv 4)) (sb_c sc_int) (fun _ _ => rfl)) (sb_var (pv 1)) (by rfl)))) (fun _ _ _ _ _ => (se_c (k := 0) (sc_b (sb_var (pv 4)))))))) (fg := [3, 4])) (ss_one (s_ret (se_move (k := 2) (pv 2))))))
abbrev s_Part_made : Stmt := inCls (top 38) 3
theorem sc_Part_made : FnScope ["self", "drawing"] ["self", "drawing"] (defScope s_Part_made) := ⟨rfl, rfl, rfl, by decide +kernel, rfl, by decide +kernel, by decide +kernel⟩
theorem ok_Part_made {P : Program} {w : World} {K : PySem.W.Frag} {mg : Str → Option Value} {base : Heap} {κ : Str → Addr} (T : Txt K mg κ) {C : Addr} (A : AtM K C "made" "Part.made" s_Part_made) (C_Part__look : MetC P w K mg base (κ "Part") "look" 4 2 0 (F_Part_look κ)) (C_without : Cal P w K mg base "without" 1 2 2 F_without) : MetC P w K mg base C "made" 5 2 2 (F_Part_made κ) := by
  obtain ⟨f, fd, F, hm⟩ := A.ex
  refine ⟨f, fd, ["self", "drawing"], hm, F.binds (fun _ _ _ _ _ _ us hl => match us, hl with | [_, _], _ => rfl), def_ok (m := (m_Part_made κ)) F sc_Part_made rfl rfl fun cdv A outer s H E hr => ?_⟩
  have nd := sc_Part_made.nd
  have hu := hr.units
  have hu1 : (A.deeper (envOfC "Part.made" (defScope s_Part_made) s.heap.objs.size f cdv)).units + 1 < cLine := by omega
  have hu65 : (A.deeper (envOfC "Part.made" (defScope s_Part_made) s.heap.objs.size f cdv)).units + 65 < cLine := by have := hr.un; omega
  exact (ss_cons (s_expr (se_meth (t := [("Part", F_Part_look κ)]) ⟨⟨T.o_Part.is, _, hr.mono (by decide), C_Part__look⟩, trivial⟩ (sb_var (pv 0)) (sab_cons (sb_var (pv 1)) sab_nil) (sab_len sab_len0))) (ss_one (s_ret (se_cal C_without (hr.mono (by decide)) (by rfl) (sab_cons (sb_var (pv 1)) (sab_cons (sb_lst (sab_cons (sb_fld (cs := ["Part"]) (f := "name") ⟨⟨T.o_Part.is, T.a_Part_name⟩, trivial⟩ (sb_var (pv 0))) (sab_cons (sb_fld (cs := ["Part"]) (f := "second") ⟨⟨T.o_Part.is, T.a_Part_second⟩, trivial⟩ (sb_var (pv 0))) sab_nil))) sab_nil)) (hl := (sab_len (sab_len sab_len0)))))))
abbrev s_exchanged : Stmt := top 34
theorem sc_exchanged : FnScope ["drawing", "pairs", "hands", "partner", "one", "other", "made", "row", "changed", "passing", "spot"] ["drawing", "pairs"] (defScope s_exchanged) := ⟨rfl, rfl, rfl, by decide +kernel, rfl, by decide +kernel, by decide +kernel⟩
theorem ok_exchanged {P : Program} {w : World} {K : PySem.W.Frag} {mg : Str → Option Value} {base : Heap} {κ : Str → Addr} (T : Txt K mg κ) (A : At K mg "exchanged" s_exchanged) (C_hands_of : Cal P w K mg base "hands_of" 1 1 1 F_hands_of) : Cal P w K mg base "exchanged" 2 2 2 F_exchanged := by
  obtain ⟨f, fd, F, hm⟩ := A.ex
  refine ⟨f, fd, ["drawing", "pairs"], hm, F.kp, F.binds (fun _ _ _ _ _ _ us hl => match us, hl with | [_, _], _ => rfl), def_ok (m := m_exchanged) F sc_exchanged rfl rfl fun cdv A outer s H E hr => ?_⟩
  have nd := sc_exchanged.nd
  have hu := hr.units
  have hu1 : (A.deeper (envOfC "exchanged" (defScope s_exchanged) s.heap.objs.size f cdv)).units + 1 < cLine := by omega
  have hu65 : (A.deeper (envOfC "exchanged" (defScope s_exchanged) s.heap.objs.size f cdv)).units + 65 < cLine := by have := hr.un; omega
  exact (ss_cons (s_set (i := 2) nd rfl (.inl rfl) (se_cal C_hands_of (hr.mono (by decide)) (by rfl) (sab_cons (sb_var (pv 0)) sab_nil) (hl := (sab_len sab_len0)))) (ss_cons (s_set (i := 3) nd rfl (.inl rfl) (se_dnewT (k := 0))) (ss_cons (s_for .never rfl (si_list (se_var (pv 1))) (tg_tup rfl (tgs_cons (tg_name (i := 4) (pg_name nd rfl (.inl rfl))) (tgs_cons (tg_name (i := 5) (pg_name nd rfl (.inl rfl))) tgs_nil))) (ss_cons (s_dput (j := 3) hu1 (pv 3) (sb_var (pv 4)) (se_c (k := 0) (sc_b (sb_var (pv 5))))) (ss_one (s_dput (j := 3) hu1 (pv 3) (sb_var (pv 5)) (se_c (k := 0) (sc_b (sb_var (pv 4))))))) (fg := [4, 5])) (ss_cons (s_set (i := 6) nd rfl (.inl rfl) (se_lst (sae_nil (k := 1)))) (ss_cons (s_for .never rfl (si_list (se_var (pv 0))) (tg_name (i := 7) (pg_name nd rfl (.inl rfl))) (ss_cons (s_set (i := 8) nd rfl (.inl rfl) (se_lst (sae_nil (k := 0)))) (ss_cons (s_for .never rfl (si_list (se_var (pv 7))) (tg_name (i := 9) (pg_name nd rfl (.inl rfl))) (ss_cons (s_set (i := 10) nd rfl (.inl rfl) (se_c (k := 0) (sc_tup (sae_cons (se_c (k := 0) (sc_b (sb_ix (sb_var (pv 9)) (sb_c sc_int) (fun _ _ => rfl)))) (sae_cons (se_c (k := 0) (sc_b (sb_ix (sb_var (pv 9)) (sb_c sc_int) (fun _ _ => rfl)))) (sae_nil (k := 0))))))) (ss_cons (s_if (st_din hu1 (sb_var (pv 10)) (sb_var (pv 3))) (ss_one (s_set (i := 10) nd rfl (.inl rfl) (se_c (k := 0) (sc_b (sb_dget hu1 (sb_var (pv 3)) (sb_var (pv 10)) (fun _ _ => rfl)))))) ss_nil) (ss_one (s_append (j := 8) (pv 8) (se_c (k := 0) (sc_tup (sae_cons (se_c (k := 0) (sc_b (sb_ix (sb_var (pv 10)) (sb_c sc_int) (fun _ _ => rfl)))) (sae_cons (se_c (k := 0) (sc_b (sb_ix (sb_var (pv 10)) (sb_c sc_int) (fun _ _ => rfl)))) (sae_cons (se_c (k := 0) (sc_b (sb_dget hu1 (sb_var (pv 2)) (sb_ix (sb_var (pv 10)) (sb_c sc_int) (fun _ _ => rfl)) (fun _ _ => rfl)))) (sae_nil (k := 0))))))))))) (fg := [9, 10])) (ss_one (s_append (j := 6) (pv 6) (se_move (k := 1) (pv 8)))))) (fg := [7, 8, 9, 10])) (ss_one (s_ret (se_move (k := 2) (pv 6)))))))))
abbrev s_Slide_made : Stmt := inCls (top 40) 2
theorem sc_Slide_made : FnScope ["self", "drawing", "names", "top", "middle", "bottom"] ["self", "drawing"] (defScope s_Slide_made) := ⟨rfl, rfl, rfl, by decide +kernel, rfl, by decide +kernel, by decide +kernel⟩
theorem ok_Slide_made {P : Program} {w : World} {K : PySem.W.Frag} {mg : Str → Option Value} {base : Heap} {κ : Str → Addr} (T : Txt K mg κ) {C : Addr} (A : AtM K C "made" "Slide.made" s_Slide_made) (C_look_at_old : Cal P w K mg base "look_at_old" 3 2 0 F_look_at_old) (C_slides : Cal P w K mg base "slides" 2 4 0 F_slides) (C_next_of : Cal P w K mg base "next_of" 1 1 1 F_next_of) (C_hands_of : Cal P w K mg base "hands_of" 1 1 1 F_hands_of) (C_exchanged : Cal P w K mg base "exchanged" 2 2 2 F_exchanged) : MetC P w K mg base C "made" 4 2 2 (F_Slide_made κ) := by
  obtain ⟨f, fd, F, hm⟩ := A.ex
  refine ⟨f, fd, ["self", "drawing"], hm, F.binds (fun _ _ _ _ _ _ us hl => match us, hl with | [_, _], _ => rfl), def_ok (m := (m_Slide_made κ)) F sc_Slide_made rfl rfl fun cdv A outer s H E hr => ?_⟩
  have nd := sc_Slide_made.nd
  have hu := hr.units
  have hu1 : (A.deeper (envOfC "Slide.made" (defScope s_Slide_made) s.heap.objs.size f cdv)).units + 1 < cLine := by omega
  have hu65 : (A.deeper (envOfC "Slide.made" (defScope s_Slide_made) s.heap.objs.size f cdv)).units + 65 < cLine := by have := hr.un; omega
  exact (ss_cons (s_set (i := 2) nd rfl (.inl rfl) (se_lst (sae_cons (se_c (k := 0) (sc_b (sb_fld (cs := ["Slide"]) (f := "name") ⟨⟨T.o_Slide.is, T.a_Slide_name⟩, trivial⟩ (sb_var (pv 0))))) (sae_cons (se_c (k := 0) (sc_b (sb_fld (cs := ["Slide"]) (f := "second") ⟨⟨T.o_Slide.is, T.a_Slide_second⟩, trivial⟩ (sb_var (pv 0))))) (sae_cons (se_c (k := 0) (sc_b (sb_fld (cs := ["Slide"]) (f := "third") ⟨⟨T.o_Slide.is, T.a_Slide_third⟩, trivial⟩ (sb_var (pv 0))))) (sae_nil (k := 0))))))) (ss_cons (s_expr (se_cal C_look_at_old (hr.mono (by decide)) (by rfl) (sab_cons (sb_var (pv 1)) (sab_cons (sb_var (pv 2)) sab_nil)) (hl := (sab_len (sab_len sab_len0))))) (ss_cons (s_if (st_not (st_val (sb_e (se_cal C_slides (hr.mono (by decide)) (by rfl) (sab_cons (sb_e (se_cal C_next_of (hr.mono (by decide)) (by rfl) (sab_cons (sb_var (pv 1)) sab_nil) (hl := (sab_len sab_len0)))) (sab_cons (sb_e (se_cal C_hands_of (hr.mono (by decide)) (by rfl) (sab_cons (sb_var (pv 1)) sab_nil) (hl := (sab_len sab_len0)))) (sab_cons (sb_var (pv 2)) (sab_cons (sb_fld (cs := ["Slide"]) (f := "turn") ⟨⟨T.o_Slide.is, T.a_Slide_turn⟩, trivial⟩ (sb_var (pv 0))) sab_nil)))) (hl := (sab_len (sab_len (sab_len (sab_len sab_len0))))))))) (ss_one s_no) ss_nil) (ss_cons (s_set (i := 3) nd rfl (.inl rfl) (se_c (k := 0) (sc_tup (sae_cons (se_c (k := 0) (sc_tup (sae_cons (se_c (k := 0) (sc_b (sb_fld (cs := ["Slide"]) (f := "name") ⟨⟨T.o_Slide.is, T.a_Slide_name⟩, trivial⟩ (sb_var (pv 0))))) (sae_cons (se_c (k := 0) (sc_globI (by rfl) T.b_OVER)) (sae_nil (k := 0)))))) (sae_cons (se_c (k := 0) (sc_tup (sae_cons (se_c (k := 0) (sc_b (sb_fld (cs := ["Slide"]) (f := "second") ⟨⟨T.o_Slide.is, T.a_Slide_second⟩, trivial⟩ (sb_var (pv 0))))) (sae_cons (se_c (k := 0) (sc_globI (by rfl) T.b_OVER)) (sae_nil (k := 0)))))) (sae_nil (k := 0))))))) (ss_cons (s_set (i := 4) nd rfl (.inl rfl) (se_c (k := 0) (sc_tup (sae_cons (se_c (k := 0) (sc_tup (sae_cons (se_c (k := 0) (sc_b (sb_fld (cs := ["Slide"]) (f := "name") ⟨⟨T.o_Slide.is, T.a_Slide_name⟩, trivial⟩ (sb_var (pv 0))))) (sae_cons (se_c (k := 0) (sc_globI (by rfl) T.b_UNDER)) (sae_nil (k := 0)))))) (sae_cons (se_c (k := 0) (sc_tup (sae_cons (se_c (k := 0) (sc_b (sb_fld (cs := ["Slide"]) (f := "third") ⟨⟨T.o_Slide.is, T.a_Slide_third⟩, trivial⟩ (sb_var (pv 0))))) (sae_cons (se_c (k := 0) (sc_globI (by rfl) T.b_OVER)) (sae_nil (k := 0)))))) (sae_nil (k := 0))))))) (ss_cons (s_set (i := 5) nd rfl (.inl rfl) (se_c (k := 0) (sc_tup (sae_cons (se_c (k := 0) (sc_tup (sae_cons (se_c (k := 0) (sc_b (sb_fld (cs := ["Slide"]) (f := "second") ⟨⟨T.o_Slide.is, T.a_Slide_second⟩, trivial⟩ (sb_var (pv 0))))) (sae_cons (se_c (k := 0) (sc_globI (by rfl) T.b_UNDER)) (sae_nil (k := 0)))))) (sae_cons (se_c (k := 0) (sc_tup (sae_cons (se_c (k := 0) (sc_b (sb_fld (cs := ["Slide"]) (f := "third") ⟨⟨T.o_Slide.is, T.a_Slide_third⟩, trivial⟩ (sb_var (pv 0))))) (sae_cons (se_c (k := 0) (sc_globI (by rfl) T.b_UNDER)) (sae_nil (k := 0)))))) (sae_nil (k := 0))))))) (ss_one (s_ret (se_cal C_exchanged (hr.mono (by decide)) (by rfl) (sab_cons (sb_var (pv 1)) (sab_cons (sb_lst (sab_cons (sb_var (pv 3)) (sab_cons (sb_var (pv 4)) (sab_cons (sb_var (pv 5)) sab_nil)))) sab_nil)) (hl := (sab_len (sab_len sab_len0))))))))))))
abbrev s_Uncurl_look : Stmt := inCls (top 36) 2
theorem sc_Uncurl_look : FnScope ["self", "drawing"] ["self", "drawing"] (defScope s_Uncurl_look) := ⟨rfl, rfl, rfl, by decide +kernel, rfl, by decide +kernel, by decide +kernel⟩
theorem ok_Uncurl_look {P : Program} {w : World} {K : PySem.W.Frag} {mg : Str → Option Value} {base : Heap} {κ : Str → Addr} (T : Txt K mg κ) {C : Addr} (A : AtM K C "look" "Uncurl.look" s_Uncurl_look) (C_look_at_old : Cal P w K mg base "look_at_old" 3 2 0 F_look_at_old) (C_uncurls : Cal P w K mg base "uncurls" 2 2 0 F_uncurls) (C_next_of : Cal P w K mg base "next_of" 1 1 1 F_next_of) : MetC P w K mg base C "look" 4 2 0 (F_Uncurl_look κ) := by
  obtain ⟨f, fd, F, hm⟩ := A.ex
  refine ⟨f, fd, ["self", "drawing"], hm, F.binds (fun _ _ _ _ _ _ us hl => match us, hl with | [_, _], _ => rfl), def_ok (m := (m_Uncurl_look κ)) F sc_Uncurl_look rfl rfl fun cdv A outer s H E hr => ?_⟩
  have nd := sc_Uncurl_look.nd
  have hu := hr.units
  have hu1 : (A.deeper (envOfC "Uncurl.look" (defScope s_Uncurl_look) s.heap.objs.size f cdv)).units + 1 < cLine := by omega
  have hu65 : (A.deeper (envOfC "Uncurl.look" (defScope s_Uncurl_look) s.heap.objs.size f cdv)).units + 65 < cLine := by have := hr.un; omega
  exact (ss_cons (s_expr (se_cal C_look_at_old (hr.mono (by decide)) (by rfl) (sab_cons (sb_var (pv 1)) (sab_cons (sb_lst (sab_cons (sb_fld (cs := ["Uncurl"]) (f := "name") ⟨⟨T.o_Uncurl.is, T.a_Uncurl_name⟩, trivial⟩ (sb_var (pv 0))) sab_nil)) sab_nil)) (hl := (sab_len (sab_len sab_len0))))) (ss_one (s_if (st_not (st_val (sb_e (se_cal C_uncurls (hr.mono (by decide)) (by rfl) (sab_cons (sb_e (se_cal C_next_of (hr.mono (by decide)) (by rfl) (sab_cons (sb_var (pv 1)) sab_nil) (hl := (sab_len sab_len0)))) (sab_cons (sb_fld (cs := ["Uncurl"]) (f := "name") ⟨⟨T.o_Uncurl.is, T.a_Uncurl_name⟩, trivial⟩ (sb_var (pv 0))) sab_nil)) (hl := (sab_len (sab_len sab_len0))))))) (ss_one s_no) ss_nil)))
abbrev s_Uncurl_made : Stmt := inCls (top 36) 3
theorem sc_Uncurl_made : FnScope ["self", "drawing"] ["self", "drawing"] (defScope s_Uncurl_made) := ⟨rfl, rfl, rfl, by decide +kernel, rfl, by decide +kernel, by decide +kernel⟩
theorem ok_Uncurl_made {P : Program} {w : World} {K : PySem.W.Frag} {mg : Str → Option Value} {base : Heap} {κ : Str → Addr} (T : Txt K mg κ) {C : Addr} (A : AtM K C "made" "Uncurl.made" s_Uncurl_made) (C_Uncurl__look : MetC P w K mg base (κ "Uncurl") "look" 4 2 0 (F_Uncurl_look κ)) (C_without : Cal P w K mg base "without" 1 2 2 F_without) : MetC P w K mg base C "made" 5 2 2 (F_Uncurl_made κ) := by
  obtain ⟨f, fd, F, hm⟩ := A.ex
  refine ⟨f, fd, ["self", "drawing"], hm, F.binds (fun _ _ _ _ _ _ us hl => match us, hl with | [_, _], _ => rfl), def_ok (m := (m_Uncurl_made κ)) F sc_Uncurl_made rfl rfl fun cdv A outer s H E hr => ?_⟩
  have nd := sc_Uncurl_made.nd
  have hu := hr.units
  have hu1 : (A.deeper (envOfC "Uncurl.made" (defScope s_Uncurl_made) s.heap.objs.size f cdv)).units + 1 < cLine := by omega
  have hu65 : (A.deeper (envOfC "Uncurl.made" (defScope s_Uncurl_made) s.heap.objs.size f cdv)).units + 65 < cLine := by have := hr.un; omega
  exact (ss_cons (s_expr (se_meth (t := [("Uncurl", F_Uncurl_look κ)]) ⟨⟨T.o_Uncurl.is, _, hr.mono (by decide), C_Uncurl__look⟩, trivial⟩ (sb_var (pv 0)) (sab_cons (sb_var (pv 1)) sab_nil) (sab_len sab_len0))) (ss_one (s_ret (se_cal C_without (hr.mono (by decide)) (by rfl) (sab_cons (sb_var (pv 1)) (sab_cons (sb_lst (sab_cons (sb_fld (cs := ["Uncurl"]) (f := "name") ⟨⟨T.o_Uncurl.is, T.a_Uncurl_name⟩, trivial⟩ (sb_var (pv 0))) sab_nil)) sab_nil)) (hl := (sab_len (sab_len sab_len0)))))))
abbrev s_Move_done : Stmt := inCls (top 35) 2
theorem sc_Move_done : FnScope ["self", "drawing", "row"] ["self", "drawing"] (defScope s_Move_done) := ⟨rfl, rfl, rfl, by decide +kernel, rfl, by decide +kernel, by decide +kernel⟩
theorem ok_Move_done {P : Program} {w : World} {K : PySem.W.Frag} {mg : Str → Option Value} {base : Heap} {κ : Str → Addr} (T : Txt K mg κ) {C : Addr} (A : AtM K C "done" "Move.done" s_Move_done) (C_Uncurl__made : MetC P w K mg base (κ "Uncurl") "made" 5 2 2 (F_Uncurl_made κ)) (C_Slide__made : MetC P w K mg base (κ "Slide") "made" 4 2 2 (F_Slide_made κ)) (C_Part__made : MetC P w K mg base (κ "Part") "made" 5 2 2 (F_Part_made κ)) (C_Lay__made : MetC P w K mg base (κ "Lay") "made" 4 2 2 (F_Lay_made κ)) (C_Curl__made : MetC P w K mg base (κ "Curl") "made" 4 2 2 (F_Curl_made κ)) (C_seated : Cal P w K mg base "seated" 1 1 1 F_seated) : MetC P w K mg base C "done" 6 2 2 (F_Move_done κ) := by
  obtain ⟨f, fd, F, hm⟩ := A.ex
  refine ⟨f, fd, ["self", "drawing"], hm, F.binds (fun _ _ _ _ _ _ us hl => match us, hl with | [_, _], _ => rfl), def_ok (m := (m_Move_done κ)) F sc_Move_done rfl rfl fun cdv A outer s H E hr => ?_⟩
  have nd := sc_Move_done.nd
  have hu := hr.units
  have hu1 : (A.deeper (envOfC "Move.done" (defScope s_Move_done) s.heap.objs.size f cdv)).units + 1 < cLine := by omega
  have hu65 : (A.deeper (envOfC "Move.done" (defScope s_Move_done) s.heap.objs.size f cdv)).units + 65 < cLine := by have := hr.un; omega
  exact (ss_one (s_ret (se_lc [("row", 2)] (by rfl) nd (blkOk_by (by rfl)) (by rfl) (si_list (se_0 (se_meth (t := [("Curl", F_Curl_made κ), ("Lay", F_Lay_made κ), ("Part", F_Part_made κ), ("Slide", F_Slide_made κ), ("Uncurl", F_Uncurl_made κ)]) ⟨⟨T.o_Curl.is, _, hr.mono (by decide), C_Curl__made⟩, ⟨⟨T.o_Lay.is, _, hr.mono (by decide), C_Lay__made⟩, ⟨⟨T.o_Part.is, _, hr.mono (by decide), C_Part__made⟩, ⟨⟨T.o_Slide.is, _, hr.mono (by decide), C_Slide__made⟩, ⟨⟨T.o_Uncurl.is, _, hr.mono (by decide), C_Uncurl__made⟩, trivial⟩⟩⟩⟩⟩ (sb_var (pv 0)) (sab_cons (sb_var (pv 1)) sab_nil) (sab_len sab_len0)))) (fun _ _ _ _ _ => (tg_name (i := 2) (pg_name nd rfl (.inl rfl)))) tok_name (by decide) (fun _ _ _ _ _ => spt_nil) (fun _ _ _ _ _ => (se_cal C_seated (hr.mono (by decide)) (by rfl) (sab_cons (sb_var (pv 2)) sab_nil) (hl := (sab_len sab_len0)))))))
abbrev s__law_hands : Stmt := top 58
theorem sc__law_hands : FnScope ["_law_rows", "_law_hands_here", "_law_row", "_law_passing"] ["_law_rows"] (defScope s__law_hands) := ⟨rfl, rfl, rfl, by decide +kernel, rfl, by decide +kernel, by decide +kernel⟩
theorem ok__law_hands {P : Program} {w : World} {K : PySem.W.Frag} {mg : Str → Option Value} {base : Heap} {κ : Str → Addr} (T : Txt K mg κ) (A : At K mg "_law_hands" s__law_hands)  : Cal P w K mg base "_law_hands" 1 1 1 F__law_hands := by
  obtain ⟨f, fd, F, hm⟩ := A.ex
  refine ⟨f, fd, ["_law_rows"], hm, F.kp, F.binds (fun _ _ _ _ _ _ us hl => match us, hl with | [_], _ => rfl), def_ok (m := m__law_hands) F sc__law_hands rfl rfl fun cdv A outer s H E hr => ?_⟩
  have nd := sc__law_hands.nd
  have hu := hr.units
  have hu1 : (A.deeper (envOfC "_law_hands" (defScope s__law_hands) s.heap.objs.size f cdv)).units + 1 < cLine := by omega
  have hu65 : (A.deeper (envOfC "_law_hands" (defScope s__law_hands) s.heap.objs.size f cdv)).units + 65 < cLine := by have := hr.un; omega
  exact (ss_cons (s_set (i := 1) nd rfl (.inl rfl) (se_dnewK (k := 0))) (ss_cons (s_for .never rfl (si_list (se_var (pv 0))) (tg_name (i := 2) (pg_name nd rfl (.inl rfl))) (ss_one (s_for .never rfl (si_list (se_var (pv 2))) (tg_name (i := 3) (pg_name nd rfl (.inl rfl))) (ss_one (s_dput (j := 1) hu1 (pv 1) (sb_ix (sb_var (pv 3)) (sb_c sc_int) (fun _ _ => rfl)) (se_c (k := 0) (sc_b (sb_ix (sb_var (pv 3)) (sb_c sc_int) (fun _ _ => rfl)))))) (fg := [3]))) (fg := [2, 3])) (ss_one (s_ret (se_move (k := 1) (pv 1))))))
abbrev s__law_more : Stmt := top 66
theorem sc__law_more : FnScope ["_law_rows", "_law_told"] ["_law_rows", "_law_told"] (defScope s__law_more) := ⟨rfl, rfl, rfl, by decide +kernel, rfl, by decide +kernel, by decide +kernel⟩
theorem ok__law_more {P : Program} {w : World} {K : PySem.W.Frag} {mg : Str → Option Value} {base : Heap} {κ : Str → Addr} (T : Txt K mg κ) (A : At K mg "_law_more" s__law_more) (C__law_hands : Cal P w K mg base "_law_hands" 1 1 1 F__law_hands) : Cal P w K mg base "_law_more" 2 2 0 F__law_more := by
  obtain ⟨f, fd, F, hm⟩ := A.ex
  refine ⟨f, fd, ["_law_rows", "_law_told"], hm, F.kp, F.binds (fun _ _ _ _ _ _ us hl => match us, hl with | [_, _], _ => rfl), def_ok (m := m__law_more) F sc__law_more rfl rfl fun cdv A outer s H E hr => ?_⟩
  have nd := sc__law_more.nd
  have hu := hr.units
  have hu1 : (A.deeper (envOfC "_law_more" (defScope s__law_more) s.heap.objs.size f cdv)).units + 1 < cLine := by omega
  have hu65 : (A.deeper (envOfC "_law_more" (defScope s__law_more) s.heap.objs.size f cdv)).units + 65 < cLine := by have := hr.un; omega
  exact (ss_cons (s_if (st_cmp (o_eq hu) (sb_ix (sb_var (pv 1)) (sb_c sc_int) (fun _ _ => rfl)) (sb_c sc_str) (nomark _)) (ss_one (s_ret (se_c (k := 0) (sc_b (sb_ix (sb_var (pv 1)) (sb_c sc_int) (fun _ _ => rfl)))))) ss_nil) (ss_cons (s_if (st_cmp (o_eq hu) (sb_ix (sb_var (pv 1)) (sb_c sc_int) (fun _ _ => rfl)) (sb_c sc_str) (nomark _)) (ss_one (s_ret (se_c (k := 0) (sc_neg (sb_dget hu1 (sb_e (se_cal C__law_hands (hr.mono (by decide)) (by rfl) (sab_cons (sb_var (pv 0)) sab_nil) (hl := (sab_len sab_len0)))) (sb_ix (sb_var (pv 1)) (sb_c sc_int) (fun _ _ => rfl)) (fun _ _ => rfl)))))) ss_nil) (ss_one (s_ret (se_c (k := 0) sc_int)))))
abbrev s_move_of : Stmt := top 41
theorem sc_move_of : FnScope ["told", "word"] ["told"] (defScope s_move_of) := ⟨rfl, rfl, rfl, by decide +kernel, rfl, by decide +kernel, by decide +kernel⟩
theorem ok_move_of {P : Program} {w : World} {K : PySem.W.Frag} {mg : Str → Option Value} {base : Heap} {κ : Str → Addr} (T : Txt K mg κ) (A : At K mg "move_of" s_move_of) (K_Uncurl : MkC P w K mg base (κ "Uncurl") 1 ["name"]) (K_Curl : MkC P w K mg base (κ "Curl") 1 ["name", "spot", "first", "hand"]) (K_Part : MkC P w K mg base (κ "Part") 1 ["name", "second"]) (K_Lay : MkC P w K mg base (κ "Lay") 1 ["name", "second", "over", "under", "turned", "hand"]) (K_Slide : MkC P w K mg base (κ "Slide") 1 ["name", "second", "third", "turn"]) : Cal P w K mg base "move_of" 3 1 0 (F_move_of κ) := by
  obtain ⟨f, fd, F, hm⟩ := A.ex
  refine ⟨f, fd, ["told"], hm, F.kp, F.binds (fun _ _ _ _ _ _ us hl => match us, hl with | [_], _ => rfl), def_ok (m := (m_move_of κ)) F sc_move_of rfl rfl fun cdv A outer s H E hr => ?_⟩
  have nd := sc_move_of.nd
  have hu := hr.units
  have hu1 : (A.deeper (envOfC "move_of" (defScope s_move_of) s.heap.objs.size f cdv)).units + 1 < cLine := by omega
  have hu65 : (A.deeper (envOfC "move_of" (defScope s_move_of) s.heap.objs.size f cdv)).units + 65 < cLine := by have := hr.un; omega
  exact (ss_cons (s_set (i := 1) nd rfl (.inl rfl) (se_c (k := 0) (sc_b (sb_ix (sb_var (pv 0)) (sb_c sc_int) (fun _ _ => rfl))))) (ss_cons (s_if (st_cmp (o_eq hu) (sb_var (pv 1)) (sb_c sc_str) (nomark _)) (ss_one (s_ret (se_c (k := 0) (sc_make K_Uncurl T.o_Uncurl (hr.mono (by decide)) (by rfl) (sab_cons (sb_ix (sb_var (pv 0)) (sb_c sc_int) (fun _ _ => rfl)) sab_nil))))) ss_nil) (ss_cons (s_if (st_cmp (o_eq hu) (sb_var (pv 1)) (sb_c sc_str) (nomark _)) (ss_one (s_ret (se_c (k := 0) (sc_make K_Curl T.o_Curl (hr.mono (by decide)) (by rfl) (sab_cons (sb_ix (sb_var (pv 0)) (sb_c sc_int) (fun _ _ => rfl)) (sab_cons (sb_ix (sb_var (pv 0)) (sb_c sc_int) (fun _ _ => rfl)) (sab_cons (sb_ix (sb_var (pv 0)) (sb_c sc_int) (fun _ _ => rfl)) (sab_cons (sb_ix (sb_var (pv 0)) (sb_c sc_int) (fun _ _ => rfl)) sab_nil)))))))) ss_nil) (ss_cons (s_if (st_cmp (o_eq hu) (sb_var (pv 1)) (sb_c sc_str) (nomark _)) (ss_one (s_ret (se_c (k := 0) (sc_make K_Part T.o_Part (hr.mono (by decide)) (by rfl) (sab_cons (sb_ix (sb_var (pv 0)) (sb_c sc_int) (fun _ _ => rfl)) (sab_cons (sb_ix (sb_var (pv 0)) (sb_c sc_int) (fun _ _ => rfl)) sab_nil)))))) ss_nil) (ss_cons (s_if (st_cmp (o_eq hu) (sb_var (pv 1)) (sb_c sc_str) (nomark _)) (ss_one (s_ret (se_c (k := 0) (sc_make K_Lay T.o_Lay (hr.mono (by decide)) (by rfl) (sab_cons (sb_ix (sb_var (pv 0)) (sb_c sc_int) (fun _ _ => rfl)) (sab_cons (sb_ix (sb_var (pv 0)) (sb_c sc_int) (fun _ _ => rfl)) (sab_cons (sb_ix (sb_var (pv 0)) (sb_c sc_int) (fun _ _ => rfl)) (sab_cons (sb_ix (sb_var (pv 0)) (sb_c sc_int) (fun _ _ => rfl)) (sab_cons (sb_ix (sb_var (pv 0)) (sb_c sc_int) (fun _ _ => rfl)) (sab_cons (sb_ix (sb_var (pv 0)) (sb_c sc_int) (fun _ _ => rfl)) sab_nil)))))))))) ss_nil) (ss_cons (s_if (st_cmp (o_eq hu) (sb_var (pv 1)) (sb_c sc_str) (nomark _)) (ss_one (s_ret (se_c (k := 0) (sc_make K_Slide T.o_Slide (hr.mono (by decide)) (by rfl) (sab_cons (sb_ix (sb_var (pv 0)) (sb_c sc_int) (fun _ _ => rfl)) (sab_cons (sb_ix (sb_var (pv 0)) (sb_c sc_int) (fun _ _ => rfl)) (sab_cons (sb_ix (sb_var (pv 0)) (sb_c sc_int) (fun _ _ => rfl)) (sab_cons (sb_ix (sb_var (pv 0)) (sb_c sc_int) (fun _ _ => rfl)) sab_nil)))))))) ss_nil) (ss_one s_no)))))))
abbrev s__law_whole : Stmt := top 50
theorem sc__law_whole : FnScope ["_law_found"] ["_law_found"] (defScope s__law_whole) := ⟨rfl, rfl, rfl, by decide +kernel, rfl, by decide +kernel, by decide +kernel⟩
theorem ok__law_whole {P : Program} {w : World} {K : PySem.W.Frag} {mg : Str → Option Value} {base : Heap} {κ : Str → Addr} (T : Txt K mg κ) (A : At K mg "_law_whole" s__law_whole)  : Cal P w K mg base "_law_whole" 1 1 0 F__law_whole := by
  obtain ⟨f, fd, F, hm⟩ := A.ex
  refine ⟨f, fd, ["_law_found"], hm, F.kp, F.binds (fun _ _ _ _ _ _ us hl => match us, hl with | [_], _ => rfl), def_ok (m := m__law_whole) F sc__law_whole rfl rfl fun cdv A outer s H E hr => ?_⟩
  have nd := sc__law_whole.nd
  have hu := hr.units
  have hu1 : (A.deeper (envOfC "_law_whole" (defScope s__law_whole) s.heap.objs.size f cdv)).units + 1 < cLine := by omega
  have hu65 : (A.deeper (envOfC "_law_whole" (defScope s__law_whole) s.heap.objs.size f cdv)).units + 65 < cLine := by have := hr.un; omega
  exact (ss_one (s_ret (se_c (k := 0) (sc_and (sb_c (sc_isi (T := .int) (by rfl) T.b_isinstance (sb_var (pv 0)) (pe_tyD (by rfl) T.b_int (by decide +kernel)))) (sc_one (sc_not (sb_c (sc_isi (T := .bool) (by rfl) T.b_isinstance (sb_var (pv 0)) (pe_tyD (by rfl) T.b_bool (by decide +kernel))))))))))
abbrev s_law : Stmt := top 67
theorem sc_law : FnScope ["_law_script", "_law_strings", "_law_here", "_law_due", "_law_total", "_law_cell", "_law_told", "_law_found"] ["_law_script"] (defScope s_law) := ⟨rfl, rfl, rfl, by decide +kernel, rfl, by decide +kernel, by decide +kernel⟩
theorem body_law {P : Program} {w : World} {K : PySem.W.Frag} {mg : Str → Option Value} {base : Heap} {f : Addr} {cdv : Value} {A : Around} {outer : List PySem.Env} {s : Shared} {H : Hp} {E : XK} {κ : Str → Addr} (T : Txt K mg κ) (C__law_cell_at : Cal P w K mg base "_law_cell_at" 1 2 0 F__law_cell_at) (C__law_drawing : Cal P w K mg base "_law_drawing" 3 3 2 F__law_drawing) (C__law_triangle : Cal P w K mg base "_law_triangle" 3 2 0 F__law_triangle) (C_linking : Cal P w K mg base "linking" 3 1 2 F_linking) (C__law_copy : Cal P w K mg base "_law_copy" 1 1 2 F__law_copy) (C_writhe : Cal P w K mg base "writhe" 3 1 0 F_writhe) (C__law_move : Cal P w K mg base "_law_move" 7 3 0 F__law_move) (C__law_more : Cal P w K mg base "_law_more" 2 2 0 F__law_more) (C_move_of : Cal P w K mg base "move_of" 3 1 0 (F_move_of κ)) (C_Uncurl__done : MetC P w K mg base (κ "Uncurl") "done" 6 2 2 (F_Move_done κ)) (C_Slide__done : MetC P w K mg base (κ "Slide") "done" 6 2 2 (F_Move_done κ)) (C_Part__done : MetC P w K mg base (κ "Part") "done" 6 2 2 (F_Move_done κ)) (C_Lay__done : MetC P w K mg base (κ "Lay") "done" 6 2 2 (F_Move_done κ)) (C_Curl__done : MetC P w K mg base (κ "Curl") "done" 6 2 2 (F_Move_done κ)) (C__law_whole : Cal P w K mg base "_law_whole" 1 1 0 F__law_whole) (hr : Room 7 (A.deeper (envOfC "law" (defScope s_law) s.heap.objs.size f cdv))) : SS (cxOf CX0 P w K mg base ["_law_script", "_law_strings", "_law_here", "_law_due", "_law_total", "_law_cell", "_law_told", "_law_found"] "law" (defScope s_law) f cdv A outer s H E).nox 0 (defBody s_law) (m_law κ) := by
  have nd := sc_law.nd
  have hu := hr.units
  have hu1 : (A.deeper (envOfC "law" (defScope s_law) s.heap.objs.size f cdv)).units + 1 < cLine := by omega
  have hu65 : (A.deeper (envOfC "law" (defScope s_law) s.heap.objs.size f cdv)).units + 65 < cLine := by have := hr.un; omega
  exact (ss_cons (s_set (i := 1) nd rfl (.inl rfl) (se_c (k := 0) (sc_op o_add (sb_c sc_int) (sb_c (sc_op o_mod (sb_e (se_cal C__law_cell_at (hr.mono (by decide)) (by rfl) (sab_cons (sb_var (pv 0)) (sab_cons (sb_c sc_int) sab_nil)) (hl := (sab_len (sab_len sab_len0))))) (sb_c sc_int)))))) (ss_cons (s_set (i := 2) nd rfl (.inl rfl) (se_0 (se_cal C__law_drawing (hr.mono (by decide)) (by rfl) (sab_cons (sb_e (se_slice (sl_imm (k := 0) (sb_var (pv 0))) (so_some (sb_c sc_int)) (so_some (sb_c (sc_op o_add (sb_c sc_int) (sb_c (sc_op o_mod (sb_e (se_cal C__law_cell_at (hr.mono (by decide)) (by rfl) (sab_cons (sb_var (pv 0)) (sab_cons (sb_c sc_int) sab_nil)) (hl := (sab_len (sab_len sab_len0))))) (sb_c sc_int)))))))) (sab_cons (sb_var (pv 1)) (sab_cons (sb_c sc_int) sab_nil))) (hl := (sab_len (sab_len (sab_len sab_len0))))))) (ss_cons (s_if (st_cmp (o_eq hu) (sb_c (sc_op o_mod (sb_e (se_cal C__law_cell_at (hr.mono (by decide)) (by rfl) (sab_cons (sb_var (pv 0)) (sab_cons (sb_c sc_int) sab_nil)) (hl := (sab_len (sab_len sab_len0))))) (sb_c sc_int))) (sb_c sc_int) (nomark _)) (ss_one (s_set (i := 2) nd rfl (.inl rfl) (se_cal0 C__law_triangle (hr.mono (by decide)) (by rfl) (sae_cons (se_var (pv 2)) (sae_cons (se_c (k := 0) (sc_op o_fdv (sb_e (se_cal C__law_cell_at (hr.mono (by decide)) (by rfl) (sab_cons (sb_var (pv 0)) (sab_cons (sb_c sc_int) sab_nil)) (hl := (sab_len (sab_len sab_len0))))) (sb_c sc_int))) (sae_nil (k := 0)))) (hl := (sae_len (sae_len sae_len0)))))) ss_nil) (ss_cons (s_set (i := 3) nd rfl (.inl rfl) (se_cal C_linking (hr.mono (by decide)) (by rfl) (sab_cons (sb_e (se_cal C__law_copy (hr.mono (by decide)) (by rfl) (sab_cons (sb_var (pv 2)) sab_nil) (hl := (sab_len sab_len0)))) sab_nil) (hl := (sab_len sab_len0)))) (ss_cons (s_set (i := 4) nd rfl (.inl rfl) (se_cal C_writhe (hr.mono (by decide)) (by rfl) (sab_cons (sb_e (se_cal C__law_copy (hr.mono (by decide)) (by rfl) (sab_cons (sb_var (pv 2)) sab_nil) (hl := (sab_len sab_len0)))) sab_nil) (hl := (sab_len sab_len0)))) (ss_cons (s_for .never rfl (si_list (se_0 (se_slice (sl_imm (k := 0) (sb_var (pv 0))) (so_some (sb_c sc_int)) (so_some (sb_c sc_int))))) (tg_name (i := 5) (pg_name nd rfl (.inl rfl))) (ss_cons (s_set (i := 6) nd rfl (.inl rfl) (se_cal C__law_move (hr.mono (by decide)) (by rfl) (sab_cons (sb_var (pv 2)) (sab_cons (sb_var (pv 5)) (sab_cons (sb_c sc_int) sab_nil))) (hl := (sab_len (sab_len (sab_len sab_len0)))))) (ss_one (s_if (st_notN (sb_var (pv 6))) (ss_cons (s_set (i := 4) nd rfl (.inl rfl) (se_c (k := 0) (sc_op o_add (sb_var (pv 4)) (sb_e (se_cal C__law_more (hr.mono (by decide)) (by rfl) (sab_cons (sb_var (pv 2)) (sab_cons (sb_var (pv 6)) sab_nil)) (hl := (sab_len (sab_len sab_len0)))))))) (ss_cons (s_set (i := 2) nd rfl (.inl rfl) (se_0 (se_meth (t := [("Curl", F_Move_done κ), ("Lay", F_Move_done κ), ("Part", F_Move_done κ), ("Slide", F_Move_done κ), ("Uncurl", F_Move_done κ)]) ⟨⟨T.o_Curl.is, _, hr.mono (by decide), C_Curl__done⟩, ⟨⟨T.o_Lay.is, _, hr.mono (by decide), C_Lay__done⟩, ⟨⟨T.o_Part.is, _, hr.mono (by decide), C_Part__done⟩, ⟨⟨T.o_Slide.is, _, hr.mono (by decide), C_Slide__done⟩, ⟨⟨T.o_Uncurl.is, _, hr.mono (by decide), C_Uncurl__done⟩, trivial⟩⟩⟩⟩⟩ (sb_e (se_cal C_move_of (hr.mono (by decide)) (by rfl) (sab_cons (sb_var (pv 6)) sab_nil) (hl := (sab_len sab_len0)))) (sab_cons (sb_e (se_cal C__law_copy (hr.mono (by decide)) (by rfl) (sab_cons (sb_var (pv 2)) sab_nil) (hl := (sab_len sab_len0)))) sab_nil) (sab_len sab_len0)))) (ss_cons (s_set (i := 7) nd rfl (.inl rfl) (se_cal C_writhe (hr.mono (by decide)) (by rfl) (sab_cons (sb_var (pv 2)) sab_nil) (hl := (sab_len sab_len0)))) (ss_one (s_if (st_w (sw_or (st_cmp (o_ne hu) (sb_e (se_cal C_linking (hr.mono (by decide)) (by rfl) (sab_cons (sb_var (pv 2)) sab_nil) (hl := (sab_len sab_len0)))) (sb_var (pv 3)) (nomark _)) (sw_or (st_not (st_val (sb_e (se_cal C__law_whole (hr.mono (by decide)) (by rfl) (sab_cons (sb_var (pv 7)) sab_nil) (hl := (sab_len sab_len0)))))) (sw_or1 (st_cmp (o_ne hu) (sb_var (pv 7)) (sb_var (pv 4)) (nomark _)))))) (ss_one (s_ret (se_c (k := 0) sc_bl))) ss_nil))))) ss_nil))) (fg := [5, 6, 7])) (ss_one (s_ret (se_c (k := 0) (sc_cmp (o_eq hu) (sb_c (sc_len (by rfl) T.b_len (sb_var (pv 3)))) (sb_var (pv 1)) (nomark _)))))))))))
abbrev s_Curl___init__ : Stmt := inCls (top 37) 0
theorem sc_Curl___init__ : FnScope ["self", "name", "spot", "first", "hand"] ["self", "name", "spot", "first", "hand"] (defScope s_Curl___init__) := ⟨rfl, rfl, rfl, by decide +kernel, rfl, by decide +kernel, by decide +kernel⟩
theorem ok_Curl___init__ {P : Program} {w : World} {K : PySem.W.Frag} {mg : Str → Option Value} {base : Heap} {κ : Str → Addr} (T : Txt K mg κ) (A : AtM K (κ "Curl") "__init__" "Curl.__init__" s_Curl___init__) (hy : PySem.W.makesIn K (κ "Curl") = true) (hx : PySem.W.keepIn K (.ref (κ "Curl")) = true) : MkC P w K mg base (κ "Curl") 1 ["name", "spot", "first", "hand"] := by
  obtain ⟨f, fd, F, hm⟩ := A.ex
  refine ⟨f, fd, ["self", "name", "spot", "first", "hand"], ⟨hy, hm.at_, hm.fn, hx⟩, F.binds (fun _ _ _ _ _ _ us hl => match us, hl with | [_, _, _, _, _], _ => rfl), F.ok sc_Curl___init__ (fun vs H Q E h => h.1) (fun cdv A outer s H vs Q E hr h => ?_)⟩
  obtain ⟨hl, x, dx, as, rfl, hx, q⟩ := h
  refine ⟨_, pss_sem, ?_⟩
  match as, hl with
  | [a1, a2, a3, a4], _ =>
    rw [← upd_same_id hx]
    refine wb_fldU (i := 1) (f := "name") (pv 0) (pv 1) (by rfl) [] rfl rfl T.o_Curl.is.cl T.a_Curl_name rfl (by decide) (by decide) ?_
    refine wb_fldU (i := 2) (f := "spot") (pv 0) (pv 2) (by rfl) ["name"] rfl rfl T.o_Curl.is.cl T.a_Curl_spot rfl (by decide) (by decide) ?_
    refine wb_fldU (i := 3) (f := "first") (pv 0) (pv 3) (by rfl) ["name", "spot"] rfl rfl T.o_Curl.is.cl T.a_Curl_first rfl (by decide) (by decide) ?_
    refine wb_fldU (i := 4) (f := "hand") (pv 0) (pv 4) (by rfl) ["name", "spot", "first"] rfl rfl T.o_Curl.is.cl T.a_Curl_hand rfl (by decide) (by decide) ?_
    exact wb_end q
abbrev s_Lay___init__ : Stmt := inCls (top 39) 0
theorem sc_Lay___init__ : FnScope ["self", "name", "second", "over", "under", "turned", "hand"] ["self", "name", "second", "over", "under", "turned", "hand"] (defScope s_Lay___init__) := ⟨rfl, rfl, rfl, by decide +kernel, rfl, by decide +kernel, by decide +kernel⟩
theorem ok_Lay___init__ {P : Program} {w : World} {K : PySem.W.Frag} {mg : Str → Option Value} {base : Heap} {κ : Str → Addr} (T : Txt K mg κ) (A : AtM K (κ "Lay") "__init__" "Lay.__init__" s_Lay___init__) (hy : PySem.W.makesIn K (κ "Lay") = true) (hx : PySem.W.keepIn K (.ref (κ "Lay")) = true) : MkC P w K mg base (κ "Lay") 1 ["name", "second", "over", "under", "turned", "hand"] := by
  obtain ⟨f, fd, F, hm⟩ := A.ex
  refine ⟨f, fd, ["self", "name", "second", "over", "under", "turned", "hand"], ⟨hy, hm.at_, hm.fn, hx⟩, F.binds (fun _ _ _ _ _ _ us hl => match us, hl with | [_, _, _, _, _, _, _], _ => rfl), F.ok sc_Lay___init__ (fun vs H Q E h => h.1) (fun cdv A outer s H vs Q E hr h => ?_)⟩
  obtain ⟨hl, x, dx, as, rfl, hx, q⟩ := h
  refine ⟨_, pss_sem, ?_⟩
  match as, hl with
  | [a1, a2, a3, a4, a5, a6], _ =>
    rw [← upd_same_id hx]
    refine wb_fldU (i := 1) (f := "name") (pv 0) (pv 1) (by rfl) [] rfl rfl T.o_Lay.is.cl T.a_Lay_name rfl (by decide) (by decide) ?_
    refine wb_fldU (i := 2) (f := "second") (pv 0) (pv 2) (by rfl) ["name"] rfl rfl T.o_Lay.is.cl T.a_Lay_second rfl (by decide) (by decide) ?_
    refine wb_fldU (i := 3) (f := "over") (pv 0) (pv 3) (by rfl) ["name", "second"] rfl rfl T.o_Lay.is.cl T.a_Lay_over rfl (by decide) (by decide) ?_
    refine wb_fldU (i := 4) (f := "under") (pv 0) (pv 4) (by rfl) ["name", "second", "over"] rfl rfl T.o_Lay.is.cl T.a_Lay_under rfl (by decide) (by decide) ?_
    refine wb_fldU (i := 5) (f := "turned") (pv 0) (pv 5) (by rfl) ["name", "second", "over", "under"] rfl rfl T.o_Lay.is.cl T.a_Lay_turned rfl (by decide) (by decide) ?_
    refine wb_fldU (i := 6) (f := "hand") (pv 0) (pv 6) (by rfl) ["name", "second", "over", "under", "turned"] rfl rfl T.o_Lay.is.cl T.a_Lay_hand rfl (by decide) (by decide) ?_
    exact wb_end q
abbrev s_Part___init__ : Stmt := inCls (top 38) 0
theorem sc_Part___init__ : FnScope ["self", "name", "second"] ["self", "name", "second"] (defScope s_Part___init__) := ⟨rfl, rfl, rfl, by decide +kernel, rfl, by decide +kernel, by decide +kernel⟩
theorem ok_Part___init__ {P : Program} {w : World} {K : PySem.W.Frag} {mg : Str → Option Value} {base : Heap} {κ : Str → Addr} (T : Txt K mg κ) (A : AtM K (κ "Part") "__init__" "Part.__init__" s_Part___init__) (hy : PySem.W.makesIn K (κ "Part") = true) (hx : PySem.W.keepIn K (.ref (κ "Part")) = true) : MkC P w K mg base (κ "Part") 1 ["name", "second"] := by
  obtain ⟨f, fd, F, hm⟩ := A.ex
  refine ⟨f, fd, ["self", "name", "second"], ⟨hy, hm.at_, hm.fn, hx⟩, F.binds (fun _ _ _ _ _ _ us hl => match us, hl with | [_, _, _], _ => rfl), F.ok sc_Part___init__ (fun vs H Q E h => h.1) (fun cdv A outer s H vs Q E hr h => ?_)⟩
  obtain ⟨hl, x, dx, as, rfl, hx, q⟩ := h
  refine ⟨_, pss_sem, ?_⟩
  match as, hl with
  | [a1, a2], _ =>
    rw [← upd_same_id hx]
    refine wb_fldU (i := 1) (f := "name") (pv 0) (pv 1) (by rfl) [] rfl rfl T.o_Part.is.cl T.a_Part_name rfl (by decide) (by decide) ?_
    refine wb_fldU (i := 2) (f := "second") (pv 0) (pv 2) (by rfl) ["name"] rfl rfl T.o_Part.is.cl T.a_Part_second rfl (by decide) (by decide) ?_
    exact wb_end q
abbrev s_Slide___init__ : Stmt := inCls (top 40) 0
theorem sc_Slide___init__ : FnScope ["self", "name", "second", "third", "turn"] ["self", "name", "second", "third", "turn"] (defScope s_Slide___init__) := ⟨rfl, rfl, rfl, by decide +kernel, rfl, by decide +kernel, by decide +kernel⟩
theorem ok_Slide___init__ {P : Program} {w : World} {K : PySem.W.Frag} {mg : Str → Option Value} {base : Heap} {κ : Str → Addr} (T : Txt K mg κ) (A : AtM K (κ "Slide") "__init__" "Slide.__init__" s_Slide___init__) (hy : PySem.W.makesIn K (κ "Slide") = true) (hx : PySem.W.keepIn K (.ref (κ "Slide")) = true) : MkC P w K mg base (κ "Slide") 1 ["name", "second", "third", "turn"] := by
  obtain ⟨f, fd, F, hm⟩ := A.ex
  refine ⟨f, fd, ["self", "name", "second", "third", "turn"], ⟨hy, hm.at_, hm.fn, hx⟩, F.binds (fun _ _ _ _ _ _ us hl => match us, hl with | [_, _, _, _, _], _ => rfl), F.ok sc_Slide___init__ (fun vs H Q E h => h.1) (fun cdv A outer s H vs Q E hr h => ?_)⟩
  obtain ⟨hl, x, dx, as, rfl, hx, q⟩ := h
  refine ⟨_, pss_sem, ?_⟩
  match as, hl with
  | [a1, a2, a3, a4], _ =>
    rw [← upd_same_id hx]
    refine wb_fldU (i := 1) (f := "name") (pv 0) (pv 1) (by rfl) [] rfl rfl T.o_Slide.is.cl T.a_Slide_name rfl (by decide) (by decide) ?_
    refine wb_fldU (i := 2) (f := "second") (pv 0) (pv 2) (by rfl) ["name"] rfl rfl T.o_Slide.is.cl T.a_Slide_second rfl (by decide) (by decide) ?_
    refine wb_fldU (i := 3) (f := "third") (pv 0) (pv 3) (by rfl) ["name", "second"] rfl rfl T.o_Slide.is.cl T.a_Slide_third rfl (by decide) (by decide) ?_
    refine wb_fldU (i := 4) (f := "turn") (pv 0) (pv 4) (by rfl) ["name", "second", "third"] rfl rfl T.o_Slide.is.cl T.a_Slide_turn rfl (by decide) (by decide) ?_
    exact wb_end q
abbrev s_Uncurl___init__ : Stmt := inCls (top 36) 0
theorem sc_Uncurl___init__ : FnScope ["self", "name"] ["self", "name"] (defScope s_Uncurl___init__) := ⟨rfl, rfl, rfl, by decide +kernel, rfl, by decide +kernel, by decide +kernel⟩
theorem ok_Uncurl___init__ {P : Program} {w : World} {K : PySem.W.Frag} {mg : Str → Option Value} {base : Heap} {κ : Str → Addr} (T : Txt K mg κ) (A : AtM K (κ "Uncurl") "__init__" "Uncurl.__init__" s_Uncurl___init__) (hy : PySem.W.makesIn K (κ "Uncurl") = true) (hx : PySem.W.keepIn K (.ref (κ "Uncurl")) = true) : MkC P w K mg base (κ "Uncurl") 1 ["name"] := by
  obtain ⟨f, fd, F, hm⟩ := A.ex
  refine ⟨f, fd, ["self", "name"], ⟨hy, hm.at_, hm.fn, hx⟩, F.binds (fun _ _ _ _ _ _ us hl => match us, hl with | [_, _], _ => rfl), F.ok sc_Uncurl___init__ (fun vs H Q E h => h.1) (fun cdv A outer s H vs Q E hr h => ?_)⟩
  obtain ⟨hl, x, dx, as, rfl, hx, q⟩ := h
  refine ⟨_, pss_sem, ?_⟩
  match as, hl with
  | [a1], _ =>
    rw [← upd_same_id hx]
    refine wb_fldU (i := 1) (f := "name") (pv 0) (pv 1) (by rfl) [] rfl rfl T.o_Uncurl.is.cl T.a_Uncurl_name rfl (by decide) (by decide) ?_
    exact wb_end q
theorem all_mk {l : PySem.W.OpenLaw} {w : World} {K : PySem.W.Frag} {h : Heap} {mg : Str → Option Value} {fa : Addr} (X : K.In h) (G : h.Ns mainGlobals mg) (hfa : mg "law" = some (.ref fa))
    {f0 : Addr} {oc0 : Value} {od0 an0 : Option Addr} {sl0 : Array (Option Value)} {kV0 dc0 pm0 cd0 ct0 : Value}
    (a0 : PySem.W.nsIn K mainGlobals "_law_pick" = some (some (.ref f0))) (l0 : K.lookup f0 = some ⟨oc0, od0, .func (PySem.W.fnOf "_law_pick" "_law_pick" (defArgs s__law_pick) (defBody s__law_pick) (defScope s__law_pick) .none kV0 dc0 pm0 an0 cd0 ct0), sl0⟩) (c0 : PySem.W.codeIn K cd0 "_law_pick" = true) (k0 : PySem.W.keepIn K (.ref f0) = true)
    {f1 : Addr} {oc1 : Value} {od1 an1 : Option Addr} {sl1 : Array (Option Value)} {kV1 dc1 pm1 cd1 ct1 : Value}
    (a1 : PySem.W.nsIn K mainGlobals "_law_digits" = some (some (.ref f1))) (l1 : K.lookup f1 = some ⟨oc1, od1, .func (PySem.W.fnOf "_law_digits" "_law_digits" (defArgs s__law_digits) (defBody s__law_digits) (defScope s__law_digits) .none kV1 dc1 pm1 an1 cd1 ct1), sl1⟩) (c1 : PySem.W.codeIn K cd1 "_law_digits" = true) (k1 : PySem.W.keepIn K (.ref f1) = true)
    {f2 : Addr} {oc2 : Value} {od2 an2 : Option Addr} {sl2 : Array (Option Value)} {kV2 dc2 pm2 cd2 ct2 : Value}
    (a2 : PySem.W.nsIn K mainGlobals "_law_free" = some (some (.ref f2))) (l2 : K.lookup f2 = some ⟨oc2, od2, .func (PySem.W.fnOf "_law_free" "_law_free" (defArgs s__law_free) (defBody s__law_free) (defScope s__law_free) .none kV2 dc2 pm2 an2 cd2 ct2), sl2⟩) (c2 : PySem.W.codeIn K cd2 "_law_free" = true) (k2 : PySem.W.keepIn K (.ref f2) = true)
    {f3 : Addr} {oc3 : Value} {od3 an3 : Option Addr} {sl3 : Array (Option Value)} {kV3 dc3 pm3 cd3 ct3 : Value}
    (a3 : PySem.W.nsIn K mainGlobals "_law_copy" = some (some (.ref f3))) (l3 : K.lookup f3 = some ⟨oc3, od3, .func (PySem.W.fnOf "_law_copy" "_law_copy" (defArgs s__law_copy) (defBody s__law_copy) (defScope s__law_copy) .none kV3 dc3 pm3 an3 cd3 ct3), sl3⟩) (c3 : PySem.W.codeIn K cd3 "_law_copy" = true) (k3 : PySem.W.keepIn K (.ref f3) = true)
    {f4 : Addr} {oc4 : Value} {od4 an4 : Option Addr} {sl4 : Array (Option Value)} {kV4 dc4 pm4 cd4 ct4 : Value}
    (a4 : PySem.W.nsIn K mainGlobals "_law_put" = some (some (.ref f4))) (l4 : K.lookup f4 = some ⟨oc4, od4, .func (PySem.W.fnOf "_law_put" "_law_put" (defArgs s__law_put) (defBody s__law_put) (defScope s__law_put) .none kV4 dc4 pm4 an4 cd4 ct4), sl4⟩) (c4 : PySem.W.codeIn K cd4 "_law_put" = true) (k4 : PySem.W.keepIn K (.ref f4) = true)
    {f5 : Addr} {oc5 : Value} {od5 an5 : Option Addr} {sl5 : Array (Option Value)} {kV5 dc5 pm5 cd5 ct5 : Value}
    (a5 : PySem.W.nsIn K mainGlobals "_law_drawing" = some (some (.ref f5))) (l5 : K.lookup f5 = some ⟨oc5, od5, .func (PySem.W.fnOf "_law_drawing" "_law_drawing" (defArgs s__law_drawing) (defBody s__law_drawing) (defScope s__law_drawing) .none kV5 dc5 pm5 an5 cd5 ct5), sl5⟩) (c5 : PySem.W.codeIn K cd5 "_law_drawing" = true) (k5 : PySem.W.keepIn K (.ref f5) = true)
    {f6 : Addr} {oc6 : Value} {od6 an6 : Option Addr} {sl6 : Array (Option Value)} {kV6 dc6 pm6 cd6 ct6 : Value}
    (a6 : PySem.W.nsIn K mainGlobals "hands_of" = some (some (.ref f6))) (l6 : K.lookup f6 = some ⟨oc6, od6, .func (PySem.W.fnOf "hands_of" "hands_of" (defArgs s_hands_of) (defBody s_hands_of) (defScope s_hands_of) .none kV6 dc6 pm6 an6 cd6 ct6), sl6⟩) (c6 : PySem.W.codeIn K cd6 "hands_of" = true) (k6 : PySem.W.keepIn K (.ref f6) = true)
    {f7 : Addr} {oc7 : Value} {od7 an7 : Option Addr} {sl7 : Array (Option Value)} {kV7 dc7 pm7 cd7 ct7 : Value}
    (a7 : PySem.W.nsIn K mainGlobals "names_of" = some (some (.ref f7))) (l7 : K.lookup f7 = some ⟨oc7, od7, .func (PySem.W.fnOf "names_of" "names_of" (defArgs s_names_of) (defBody s_names_of) (defScope s_names_of) .none kV7 dc7 pm7 an7 cd7 ct7), sl7⟩) (c7 : PySem.W.codeIn K cd7 "names_of" = true) (k7 : PySem.W.keepIn K (.ref f7) = true)
    {f8 : Addr} {oc8 : Value} {od8 an8 : Option Addr} {sl8 : Array (Option Value)} {kV8 dc8 pm8 cd8 ct8 : Value}
    (a8 : PySem.W.nsIn K mainGlobals "spots_by_strings" = some (some (.ref f8))) (l8 : K.lookup f8 = some ⟨oc8, od8, .func (PySem.W.fnOf "spots_by_strings" "spots_by_strings" (defArgs s_spots_by_strings) (defBody s_spots_by_strings) (defScope s_spots_by_strings) .none kV8 dc8 pm8 an8 cd8 ct8), sl8⟩) (c8 : PySem.W.codeIn K cd8 "spots_by_strings" = true) (k8 : PySem.W.keepIn K (.ref f8) = true)
    {f9 : Addr} {oc9 : Value} {od9 an9 : Option Addr} {sl9 : Array (Option Value)} {kV9 dc9 pm9 cd9 ct9 : Value}
    (a9 : PySem.W.nsIn K mainGlobals "string_of" = some (some (.ref f9))) (l9 : K.lookup f9 = some ⟨oc9, od9, .func (PySem.W.fnOf "string_of" "string_of" (defArgs s_string_of) (defBody s_string_of) (defScope s_string_of) .none kV9 dc9 pm9 an9 cd9 ct9), sl9⟩) (c9 : PySem.W.codeIn K cd9 "string_of" = true) (k9 : PySem.W.keepIn K (.ref f9) = true)
    {f10 : Addr} {oc10 : Value} {od10 an10 : Option Addr} {sl10 : Array (Option Value)} {kV10 dc10 pm10 cd10 ct10 : Value}
    (a10 : PySem.W.nsIn K mainGlobals "hand_of" = some (some (.ref f10))) (l10 : K.lookup f10 = some ⟨oc10, od10, .func (PySem.W.fnOf "hand_of" "hand_of" (defArgs s_hand_of) (defBody s_hand_of) (defScope s_hand_of) .none kV10 dc10 pm10 an10 cd10 ct10), sl10⟩) (c10 : PySem.W.codeIn K cd10 "hand_of" = true) (k10 : PySem.W.keepIn K (.ref f10) = true)
    {f11 : Addr} {oc11 : Value} {od11 an11 : Option Addr} {sl11 : Array (Option Value)} {kV11 dc11 pm11 cd11 ct11 : Value}
    (a11 : PySem.W.nsIn K mainGlobals "linking" = some (some (.ref f11))) (l11 : K.lookup f11 = some ⟨oc11, od11, .func (PySem.W.fnOf "linking" "linking" (defArgs s_linking) (defBody s_linking) (defScope s_linking) .none kV11 dc11 pm11 an11 cd11 ct11), sl11⟩) (c11 : PySem.W.codeIn K cd11 "linking" = true) (k11 : PySem.W.keepIn K (.ref f11) = true)
    {f12 : Addr} {oc12 : Value} {od12 an12 : Option Addr} {sl12 : Array (Option Value)} {kV12 dc12 pm12 cd12 ct12 : Value}
    (a12 : PySem.W.nsIn K mainGlobals "writhe" = some (some (.ref f12))) (l12 : K.lookup f12 = some ⟨oc12, od12, .func (PySem.W.fnOf "writhe" "writhe" (defArgs s_writhe) (defBody s_writhe) (defScope s_writhe) .none kV12 dc12 pm12 an12 cd12 ct12), sl12⟩) (c12 : PySem.W.codeIn K cd12 "writhe" = true) (k12 : PySem.W.keepIn K (.ref f12) = true)
    {f13 : Addr} {oc13 : Value} {od13 an13 : Option Addr} {sl13 : Array (Option Value)} {kV13 dc13 pm13 cd13 ct13 : Value}
    (a13 : PySem.W.nsIn K mainGlobals "_law_names" = some (some (.ref f13))) (l13 : K.lookup f13 = some ⟨oc13, od13, .func (PySem.W.fnOf "_law_names" "_law_names" (defArgs s__law_names) (defBody s__law_names) (defScope s__law_names) .none kV13 dc13 pm13 an13 cd13 ct13), sl13⟩) (c13 : PySem.W.codeIn K cd13 "_law_names" = true) (k13 : PySem.W.keepIn K (.ref f13) = true)
    {f14 : Addr} {oc14 : Value} {od14 an14 : Option Addr} {sl14 : Array (Option Value)} {kV14 dc14 pm14 cd14 ct14 : Value}
    (a14 : PySem.W.nsIn K mainGlobals "_law_pairs" = some (some (.ref f14))) (l14 : K.lookup f14 = some ⟨oc14, od14, .func (PySem.W.fnOf "_law_pairs" "_law_pairs" (defArgs s__law_pairs) (defBody s__law_pairs) (defScope s__law_pairs) .none kV14 dc14 pm14 an14 cd14 ct14), sl14⟩) (c14 : PySem.W.codeIn K cd14 "_law_pairs" = true) (k14 : PySem.W.keepIn K (.ref f14) = true)
    {f15 : Addr} {oc15 : Value} {od15 an15 : Option Addr} {sl15 : Array (Option Value)} {kV15 dc15 pm15 cd15 ct15 : Value}
    (a15 : PySem.W.nsIn K mainGlobals "_law_triangle" = some (some (.ref f15))) (l15 : K.lookup f15 = some ⟨oc15, od15, .func (PySem.W.fnOf "_law_triangle" "_law_triangle" (defArgs s__law_triangle) (defBody s__law_triangle) (defScope s__law_triangle) .none kV15 dc15 pm15 an15 cd15 ct15), sl15⟩) (c15 : PySem.W.codeIn K cd15 "_law_triangle" = true) (k15 : PySem.W.keepIn K (.ref f15) = true)
    {f16 : Addr} {oc16 : Value} {od16 an16 : Option Addr} {sl16 : Array (Option Value)} {kV16 dc16 pm16 cd16 ct16 : Value}
    (a16 : PySem.W.nsIn K mainGlobals "next_of" = some (some (.ref f16))) (l16 : K.lookup f16 = some ⟨oc16, od16, .func (PySem.W.fnOf "next_of" "next_of" (defArgs s_next_of) (defBody s_next_of) (defScope s_next_of) .none kV16 dc16 pm16 an16 cd16 ct16), sl16⟩) (c16 : PySem.W.codeIn K cd16 "next_of" = true) (k16 : PySem.W.keepIn K (.ref f16) = true)
    {f17 : Addr} {oc17 : Value} {od17 an17 : Option Addr} {sl17 : Array (Option Value)} {kV17 dc17 pm17 cd17 ct17 : Value}
    (a17 : PySem.W.nsIn K mainGlobals "side_by_side" = some (some (.ref f17))) (l17 : K.lookup f17 = some ⟨oc17, od17, .func (PySem.W.fnOf "side_by_side" "side_by_side" (defArgs s_side_by_side) (defBody s_side_by_side) (defScope s_side_by_side) .none kV17 dc17 pm17 an17 cd17 ct17), sl17⟩) (c17 : PySem.W.codeIn K cd17 "side_by_side" = true) (k17 : PySem.W.keepIn K (.ref f17) = true)
    {f18 : Addr} {oc18 : Value} {od18 an18 : Option Addr} {sl18 : Array (Option Value)} {kV18 dc18 pm18 cd18 ct18 : Value}
    (a18 : PySem.W.nsIn K mainGlobals "uncurls" = some (some (.ref f18))) (l18 : K.lookup f18 = some ⟨oc18, od18, .func (PySem.W.fnOf "uncurls" "uncurls" (defArgs s_uncurls) (defBody s_uncurls) (defScope s_uncurls) .none kV18 dc18 pm18 an18 cd18 ct18), sl18⟩) (c18 : PySem.W.codeIn K cd18 "uncurls" = true) (k18 : PySem.W.keepIn K (.ref f18) = true)
    {f19 : Addr} {oc19 : Value} {od19 an19 : Option Addr} {sl19 : Array (Option Value)} {kV19 dc19 pm19 cd19 ct19 : Value}
    (a19 : PySem.W.nsIn K mainGlobals "uncurls_of" = some (some (.ref f19))) (l19 : K.lookup f19 = some ⟨oc19, od19, .func (PySem.W.fnOf "uncurls_of" "uncurls_of" (defArgs s_uncurls_of) (defBody s_uncurls_of) (defScope s_uncurls_of) .none kV19 dc19 pm19 an19 cd19 ct19), sl19⟩) (c19 : PySem.W.codeIn K cd19 "uncurls_of" = true) (k19 : PySem.W.keepIn K (.ref f19) = true)
    {f20 : Addr} {oc20 : Value} {od20 an20 : Option Addr} {sl20 : Array (Option Value)} {kV20 dc20 pm20 cd20 ct20 : Value}
    (a20 : PySem.W.nsIn K mainGlobals "parts" = some (some (.ref f20))) (l20 : K.lookup f20 = some ⟨oc20, od20, .func (PySem.W.fnOf "parts" "parts" (defArgs s_parts) (defBody s_parts) (defScope s_parts) .none kV20 dc20 pm20 an20 cd20 ct20), sl20⟩) (c20 : PySem.W.codeIn K cd20 "parts" = true) (k20 : PySem.W.keepIn K (.ref f20) = true)
    {f21 : Addr} {oc21 : Value} {od21 an21 : Option Addr} {sl21 : Array (Option Value)} {kV21 dc21 pm21 cd21 ct21 : Value}
    (a21 : PySem.W.nsIn K mainGlobals "parts_of" = some (some (.ref f21))) (l21 : K.lookup f21 = some ⟨oc21, od21, .func (PySem.W.fnOf "parts_of" "parts_of" (defArgs s_parts_of) (defBody s_parts_of) (defScope s_parts_of) .none kV21 dc21 pm21 an21 cd21 ct21), sl21⟩) (c21 : PySem.W.codeIn K cd21 "parts_of" = true) (k21 : PySem.W.keepIn K (.ref f21) = true)
    {f22 : Addr} {oc22 : Value} {od22 an22 : Option Addr} {sl22 : Array (Option Value)} {kV22 dc22 pm22 cd22 ct22 : Value}
    (a22 : PySem.W.nsIn K mainGlobals "right_behind" = some (some (.ref f22))) (l22 : K.lookup f22 = some ⟨oc22, od22, .func (PySem.W.fnOf "right_behind" "right_behind" (defArgs s_right_behind) (defBody s_right_behind) (defScope s_right_behind) .none kV22 dc22 pm22 an22 cd22 ct22), sl22⟩) (c22 : PySem.W.codeIn K cd22 "right_behind" = true) (k22 : PySem.W.keepIn K (.ref f22) = true)
    {f23 : Addr} {oc23 : Value} {od23 an23 : Option Addr} {sl23 : Array (Option Value)} {kV23 dc23 pm23 cd23 ct23 : Value}
    (a23 : PySem.W.nsIn K mainGlobals "slides" = some (some (.ref f23))) (l23 : K.lookup f23 = some ⟨oc23, od23, .func (PySem.W.fnOf "slides" "slides" (defArgs s_slides) (defBody s_slides) (defScope s_slides) .none kV23 dc23 pm23 an23 cd23 ct23), sl23⟩) (c23 : PySem.W.codeIn K cd23 "slides" = true) (k23 : PySem.W.keepIn K (.ref f23) = true)
    {f24 : Addr} {oc24 : Value} {od24 an24 : Option Addr} {sl24 : Array (Option Value)} {kV24 dc24 pm24 cd24 ct24 : Value}
    (a24 : PySem.W.nsIn K mainGlobals "slides_on" = some (some (.ref f24))) (l24 : K.lookup f24 = some ⟨oc24, od24, .func (PySem.W.fnOf "slides_on" "slides_on" (defArgs s_slides_on) (defBody s_slides_on) (defScope s_slides_on) .none kV24 dc24 pm24 an24 cd24 ct24), sl24⟩) (c24 : PySem.W.codeIn K cd24 "slides_on" = true) (k24 : PySem.W.keepIn K (.ref f24) = true)
    {f25 : Addr} {oc25 : Value} {od25 an25 : Option Addr} {sl25 : Array (Option Value)} {kV25 dc25 pm25 cd25 ct25 : Value}
    (a25 : PySem.W.nsIn K mainGlobals "slides_of" = some (some (.ref f25))) (l25 : K.lookup f25 = some ⟨oc25, od25, .func (PySem.W.fnOf "slides_of" "slides_of" (defArgs s_slides_of) (defBody s_slides_of) (defScope s_slides_of) .none kV25 dc25 pm25 an25 cd25 ct25), sl25⟩) (c25 : PySem.W.codeIn K cd25 "slides_of" = true) (k25 : PySem.W.keepIn K (.ref f25) = true)
    {f26 : Addr} {oc26 : Value} {od26 an26 : Option Addr} {sl26 : Array (Option Value)} {kV26 dc26 pm26 cd26 ct26 : Value}
    (a26 : PySem.W.nsIn K mainGlobals "lessening" = some (some (.ref f26))) (l26 : K.lookup f26 = some ⟨oc26, od26, .func (PySem.W.fnOf "lessening" "lessening" (defArgs s_lessening) (defBody s_lessening) (defScope s_lessening) .none kV26 dc26 pm26 an26 cd26 ct26), sl26⟩) (c26 : PySem.W.codeIn K cd26 "lessening" = true) (k26 : PySem.W.keepIn K (.ref f26) = true)
    {f27 : Addr} {oc27 : Value} {od27 an27 : Option Addr} {sl27 : Array (Option Value)} {kV27 dc27 pm27 cd27 ct27 : Value}
    (a27 : PySem.W.nsIn K mainGlobals "_law_lesser" = some (some (.ref f27))) (l27 : K.lookup f27 = some ⟨oc27, od27, .func (PySem.W.fnOf "_law_lesser" "_law_lesser" (defArgs s__law_lesser) (defBody s__law_lesser) (defScope s__law_lesser) .none kV27 dc27 pm27 an27 cd27 ct27), sl27⟩) (c27 : PySem.W.codeIn K cd27 "_law_lesser" = true) (k27 : PySem.W.keepIn K (.ref f27) = true)
    {f28 : Addr} {oc28 : Value} {od28 an28 : Option Addr} {sl28 : Array (Option Value)} {kV28 dc28 pm28 cd28 ct28 : Value}
    (a28 : PySem.W.nsIn K mainGlobals "_law_spots" = some (some (.ref f28))) (l28 : K.lookup f28 = some ⟨oc28, od28, .func (PySem.W.fnOf "_law_spots" "_law_spots" (defArgs s__law_spots) (defBody s__law_spots) (defScope s__law_spots) .none kV28 dc28 pm28 an28 cd28 ct28), sl28⟩) (c28 : PySem.W.codeIn K cd28 "_law_spots" = true) (k28 : PySem.W.keepIn K (.ref f28) = true)
    {f29 : Addr} {oc29 : Value} {od29 an29 : Option Addr} {sl29 : Array (Option Value)} {kV29 dc29 pm29 cd29 ct29 : Value}
    (a29 : PySem.W.nsIn K mainGlobals "_law_curl" = some (some (.ref f29))) (l29 : K.lookup f29 = some ⟨oc29, od29, .func (PySem.W.fnOf "_law_curl" "_law_curl" (defArgs s__law_curl) (defBody s__law_curl) (defScope s__law_curl) .none kV29 dc29 pm29 an29 cd29 ct29), sl29⟩) (c29 : PySem.W.codeIn K cd29 "_law_curl" = true) (k29 : PySem.W.keepIn K (.ref f29) = true)
    {f30 : Addr} {oc30 : Value} {od30 an30 : Option Addr} {sl30 : Array (Option Value)} {kV30 dc30 pm30 cd30 ct30 : Value}
    (a30 : PySem.W.nsIn K mainGlobals "_law_lay" = some (some (.ref f30))) (l30 : K.lookup f30 = some ⟨oc30, od30, .func (PySem.W.fnOf "_law_lay" "_law_lay" (defArgs s__law_lay) (defBody s__law_lay) (defScope s__law_lay) .none kV30 dc30 pm30 an30 cd30 ct30), sl30⟩) (c30 : PySem.W.codeIn K cd30 "_law_lay" = true) (k30 : PySem.W.keepIn K (.ref f30) = true)
    {f31 : Addr} {oc31 : Value} {od31 an31 : Option Addr} {sl31 : Array (Option Value)} {kV31 dc31 pm31 cd31 ct31 : Value}
    (a31 : PySem.W.nsIn K mainGlobals "_law_move" = some (some (.ref f31))) (l31 : K.lookup f31 = some ⟨oc31, od31, .func (PySem.W.fnOf "_law_move" "_law_move" (defArgs s__law_move) (defBody s__law_move) (defScope s__law_move) .none kV31 dc31 pm31 an31 cd31 ct31), sl31⟩) (c31 : PySem.W.codeIn K cd31 "_law_move" = true) (k31 : PySem.W.keepIn K (.ref f31) = true)
    {f32 : Addr} {oc32 : Value} {od32 an32 : Option Addr} {sl32 : Array (Option Value)} {kV32 dc32 pm32 cd32 ct32 : Value}
    (a32 : PySem.W.nsIn K mainGlobals "_law_cell_at" = some (some (.ref f32))) (l32 : K.lookup f32 = some ⟨oc32, od32, .func (PySem.W.fnOf "_law_cell_at" "_law_cell_at" (defArgs s__law_cell_at) (defBody s__law_cell_at) (defScope s__law_cell_at) .none kV32 dc32 pm32 an32 cd32 ct32), sl32⟩) (c32 : PySem.W.codeIn K cd32 "_law_cell_at" = true) (k32 : PySem.W.keepIn K (.ref f32) = true)
    {f33 : Addr} {oc33 : Value} {od33 an33 : Option Addr} {sl33 : Array (Option Value)} {kV33 dc33 pm33 cd33 ct33 : Value}
    (a33 : PySem.W.nsIn K mainGlobals "seated" = some (some (.ref f33))) (l33 : K.lookup f33 = some ⟨oc33, od33, .func (PySem.W.fnOf "seated" "seated" (defArgs s_seated) (defBody s_seated) (defScope s_seated) .none kV33 dc33 pm33 an33 cd33 ct33), sl33⟩) (c33 : PySem.W.codeIn K cd33 "seated" = true) (k33 : PySem.W.keepIn K (.ref f33) = true)
    {f34 : Addr} {oc34 : Value} {od34 an34 : Option Addr} {sl34 : Array (Option Value)} {kV34 dc34 pm34 cd34 ct34 : Value}
    (a34 : PySem.W.nsIn K mainGlobals "look_at_new" = some (some (.ref f34))) (l34 : K.lookup f34 = some ⟨oc34, od34, .func (PySem.W.fnOf "look_at_new" "look_at_new" (defArgs s_look_at_new) (defBody s_look_at_new) (defScope s_look_at_new) .none kV34 dc34 pm34 an34 cd34 ct34), sl34⟩) (c34 : PySem.W.codeIn K cd34 "look_at_new" = true) (k34 : PySem.W.keepIn K (.ref f34) = true)
    {f35 : Addr} {oc35 : Value} {od35 an35 : Option Addr} {sl35 : Array (Option Value)} {kV35 dc35 pm35 cd35 ct35 : Value}
    (a35 : PySem.W.nsIn K mainGlobals "put_behind" = some (some (.ref f35))) (l35 : K.lookup f35 = some ⟨oc35, od35, .func (PySem.W.fnOf "put_behind" "put_behind" (defArgs s_put_behind) (defBody s_put_behind) (defScope s_put_behind) .none kV35 dc35 pm35 an35 cd35 ct35), sl35⟩) (c35 : PySem.W.codeIn K cd35 "put_behind" = true) (k35 : PySem.W.keepIn K (.ref f35) = true)
    {f36 : Addr} {oc36 : Value} {od36 an36 : Option Addr} {sl36 : Array (Option Value)} {kV36 dc36 pm36 cd36 ct36 : Value}
    (a36 : PySem.W.nsIn K mainGlobals "look_at_old" = some (some (.ref f36))) (l36 : K.lookup f36 = some ⟨oc36, od36, .func (PySem.W.fnOf "look_at_old" "look_at_old" (defArgs s_look_at_old) (defBody s_look_at_old) (defScope s_look_at_old) .none kV36 dc36 pm36 an36 cd36 ct36), sl36⟩) (c36 : PySem.W.codeIn K cd36 "look_at_old" = true) (k36 : PySem.W.keepIn K (.ref f36) = true)
    {f37 : Addr} {oc37 : Value} {od37 an37 : Option Addr} {sl37 : Array (Option Value)} {kV37 dc37 pm37 cd37 ct37 : Value}
    (a37 : PySem.W.nsIn K mainGlobals "without" = some (some (.ref f37))) (l37 : K.lookup f37 = some ⟨oc37, od37, .func (PySem.W.fnOf "without" "without" (defArgs s_without) (defBody s_without) (defScope s_without) .none kV37 dc37 pm37 an37 cd37 ct37), sl37⟩) (c37 : PySem.W.codeIn K cd37 "without" = true) (k37 : PySem.W.keepIn K (.ref f37) = true)
    {f38 : Addr} {oc38 : Value} {od38 an38 : Option Addr} {sl38 : Array (Option Value)} {kV38 dc38 pm38 cd38 ct38 : Value}
    (a38 : PySem.W.nsIn K mainGlobals "exchanged" = some (some (.ref f38))) (l38 : K.lookup f38 = some ⟨oc38, od38, .func (PySem.W.fnOf "exchanged" "exchanged" (defArgs s_exchanged) (defBody s_exchanged) (defScope s_exchanged) .none kV38 dc38 pm38 an38 cd38 ct38), sl38⟩) (c38 : PySem.W.codeIn K cd38 "exchanged" = true) (k38 : PySem.W.keepIn K (.ref f38) = true)
    {f39 : Addr} {oc39 : Value} {od39 an39 : Option Addr} {sl39 : Array (Option Value)} {kV39 dc39 pm39 cd39 ct39 : Value}
    (a39 : PySem.W.nsIn K mainGlobals "_law_hands" = some (some (.ref f39))) (l39 : K.lookup f39 = some ⟨oc39, od39, .func (PySem.W.fnOf "_law_hands" "_law_hands" (defArgs s__law_hands) (defBody s__law_hands) (defScope s__law_hands) .none kV39 dc39 pm39 an39 cd39 ct39), sl39⟩) (c39 : PySem.W.codeIn K cd39 "_law_hands" = true) (k39 : PySem.W.keepIn K (.ref f39) = true)
    {f40 : Addr} {oc40 : Value} {od40 an40 : Option Addr} {sl40 : Array (Option Value)} {kV40 dc40 pm40 cd40 ct40 : Value}
    (a40 : PySem.W.nsIn K mainGlobals "_law_more" = some (some (.ref f40))) (l40 : K.lookup f40 = some ⟨oc40, od40, .func (PySem.W.fnOf "_law_more" "_law_more" (defArgs s__law_more) (defBody s__law_more) (defScope s__law_more) .none kV40 dc40 pm40 an40 cd40 ct40), sl40⟩) (c40 : PySem.W.codeIn K cd40 "_law_more" = true) (k40 : PySem.W.keepIn K (.ref f40) = true)
    {f41 : Addr} {oc41 : Value} {od41 an41 : Option Addr} {sl41 : Array (Option Value)} {kV41 dc41 pm41 cd41 ct41 : Value}
    (a41 : PySem.W.nsIn K mainGlobals "move_of" = some (some (.ref f41))) (l41 : K.lookup f41 = some ⟨oc41, od41, .func (PySem.W.fnOf "move_of" "move_of" (defArgs s_move_of) (defBody s_move_of) (defScope s_move_of) .none kV41 dc41 pm41 an41 cd41 ct41), sl41⟩) (c41 : PySem.W.codeIn K cd41 "move_of" = true) (k41 : PySem.W.keepIn K (.ref f41) = true)
    {f42 : Addr} {oc42 : Value} {od42 an42 : Option Addr} {sl42 : Array (Option Value)} {kV42 dc42 pm42 cd42 ct42 : Value}
    (a42 : PySem.W.nsIn K mainGlobals "_law_whole" = some (some (.ref f42))) (l42 : K.lookup f42 = some ⟨oc42, od42, .func (PySem.W.fnOf "_law_whole" "_law_whole" (defArgs s__law_whole) (defBody s__law_whole) (defScope s__law_whole) .none kV42 dc42 pm42 an42 cd42 ct42), sl42⟩) (c42 : PySem.W.codeIn K cd42 "_law_whole" = true) (k42 : PySem.W.keepIn K (.ref f42) = true)
    {f43 : Addr} {oc43 : Value} {od43 an43 : Option Addr} {sl43 : Array (Option Value)} {kV43 dc43 pm43 cd43 ct43 : Value}
    (a43 : PySem.W.nsIn K mainGlobals "law" = some (some (.ref f43))) (l43 : K.lookup f43 = some ⟨oc43, od43, .func (PySem.W.fnOf "law" "law" (defArgs s_law) (defBody s_law) (defScope s_law) .none kV43 dc43 pm43 an43 cd43 ct43), sl43⟩) (c43 : PySem.W.codeIn K cd43 "law" = true) (k43 : PySem.W.keepIn K (.ref f43) = true)
    (z_bool : PySem.W.nsIn K mainGlobals "bool" = some none)
    (z_enumerate : PySem.W.nsIn K mainGlobals "enumerate" = some none)
    (z_int : PySem.W.nsIn K mainGlobals "int" = some none)
    (z_isinstance : PySem.W.nsIn K mainGlobals "isinstance" = some none)
    (z_len : PySem.W.nsIn K mainGlobals "len" = some none)
    (z_list : PySem.W.nsIn K mainGlobals "list" = some none)
    (z_min : PySem.W.nsIn K mainGlobals "min" = some none)
    (z_range : PySem.W.nsIn K mainGlobals "range" = some none)
    (z_reversed : PySem.W.nsIn K mainGlobals "reversed" = some none)
    (z_sorted : PySem.W.nsIn K mainGlobals "sorted" = some none)
    (z_sum : PySem.W.nsIn K mainGlobals "sum" = some none)
    {tk_BARE : Tok} (z_BARE : PySem.W.nsIn K mainGlobals "BARE" = some (some (.int 2 tk_BARE)))
    {tk_MOST_CROSSINGS : Tok} (z_MOST_CROSSINGS : PySem.W.nsIn K mainGlobals "MOST_CROSSINGS" = some (some (.int 12 tk_MOST_CROSSINGS)))
    {tk_OVER : Tok} (z_OVER : PySem.W.nsIn K mainGlobals "OVER" = some (some (.int 0 tk_OVER)))
    {tk_UNDER : Tok} (z_UNDER : PySem.W.nsIn K mainGlobals "UNDER" = some (some (.int 1 tk_UNDER)))
    {cl_Curl : Addr} (z_Curl : PySem.W.nsIn K mainGlobals "Curl" = some (some (.ref cl_Curl))) (o_Curl : oclB K cl_Curl = true)
    {cl_Lay : Addr} (z_Lay : PySem.W.nsIn K mainGlobals "Lay" = some (some (.ref cl_Lay))) (o_Lay : oclB K cl_Lay = true)
    {cl_Part : Addr} (z_Part : PySem.W.nsIn K mainGlobals "Part" = some (some (.ref cl_Part))) (o_Part : oclB K cl_Part = true)
    {cl_Slide : Addr} (z_Slide : PySem.W.nsIn K mainGlobals "Slide" = some (some (.ref cl_Slide))) (o_Slide : oclB K cl_Slide = true)
    {cl_Uncurl : Addr} (z_Uncurl : PySem.W.nsIn K mainGlobals "Uncurl" = some (some (.ref cl_Uncurl))) (o_Uncurl : oclB K cl_Uncurl = true)
    (g_Curl_first : PySem.W.findIn K (.ref cl_Curl) "first" = some none)
    (g_Curl_hand : PySem.W.findIn K (.ref cl_Curl) "hand" = some none)
    (g_Curl_name : PySem.W.findIn K (.ref cl_Curl) "name" = some none)
    (g_Curl_spot : PySem.W.findIn K (.ref cl_Curl) "spot" = some none)
    (g_Lay_hand : PySem.W.findIn K (.ref cl_Lay) "hand" = some none)
    (g_Lay_name : PySem.W.findIn K (.ref cl_Lay) "name" = some none)
    (g_Lay_over : PySem.W.findIn K (.ref cl_Lay) "over" = some none)
    (g_Lay_second : PySem.W.findIn K (.ref cl_Lay) "second" = some none)
    (g_Lay_turned : PySem.W.findIn K (.ref cl_Lay) "turned" = some none)
    (g_Lay_under : PySem.W.findIn K (.ref cl_Lay) "under" = some none)
    (g_Part_name : PySem.W.findIn K (.ref cl_Part) "name" = some none)
    (g_Part_second : PySem.W.findIn K (.ref cl_Part) "second" = some none)
    (g_Slide_name : PySem.W.findIn K (.ref cl_Slide) "name" = some none)
    (g_Slide_second : PySem.W.findIn K (.ref cl_Slide) "second" = some none)
    (g_Slide_third : PySem.W.findIn K (.ref cl_Slide) "third" = some none)
    (g_Slide_turn : PySem.W.findIn K (.ref cl_Slide) "turn" = some none)
    (g_Uncurl_name : PySem.W.findIn K (.ref cl_Uncurl) "name" = some none)
    {fM0 : Addr} {ocM0 : Value} {odM0 anM0 : Option Addr} {slM0 : Array (Option Value)} {kVM0 dcM0 pmM0 cdM0 ctM0 : Value}
    (aM0 : PySem.W.findIn K (.ref cl_Curl) "done" = some (some (.ref fM0))) (lM0 : K.lookup fM0 = some ⟨ocM0, odM0, .func (PySem.W.fnOf "done" "Move.done" (defArgs s_Move_done) (defBody s_Move_done) (defScope s_Move_done) .none kVM0 dcM0 pmM0 anM0 cdM0 ctM0), slM0⟩) (cM0 : PySem.W.codeIn K cdM0 "Move.done" = true) (kM0 : PySem.W.keepIn K (.ref fM0) = true) (nM0 : PySem.W.isFn K (.ref fM0) = true)
    {fM1 : Addr} {ocM1 : Value} {odM1 anM1 : Option Addr} {slM1 : Array (Option Value)} {kVM1 dcM1 pmM1 cdM1 ctM1 : Value}
    (aM1 : PySem.W.findIn K (.ref cl_Curl) "made" = some (some (.ref fM1))) (lM1 : K.lookup fM1 = some ⟨ocM1, odM1, .func (PySem.W.fnOf "made" "Curl.made" (defArgs s_Curl_made) (defBody s_Curl_made) (defScope s_Curl_made) .none kVM1 dcM1 pmM1 anM1 cdM1 ctM1), slM1⟩) (cM1 : PySem.W.codeIn K cdM1 "Curl.made" = true) (kM1 : PySem.W.keepIn K (.ref fM1) = true) (nM1 : PySem.W.isFn K (.ref fM1) = true)
    {fM2 : Addr} {ocM2 : Value} {odM2 anM2 : Option Addr} {slM2 : Array (Option Value)} {kVM2 dcM2 pmM2 cdM2 ctM2 : Value}
    (aM2 : PySem.W.findIn K (.ref cl_Lay) "done" = some (some (.ref fM2))) (lM2 : K.lookup fM2 = some ⟨ocM2, odM2, .func (PySem.W.fnOf "done" "Move.done" (defArgs s_Move_done) (defBody s_Move_done) (defScope s_Move_done) .none kVM2 dcM2 pmM2 anM2 cdM2 ctM2), slM2⟩) (cM2 : PySem.W.codeIn K cdM2 "Move.done" = true) (kM2 : PySem.W.keepIn K (.ref fM2) = true) (nM2 : PySem.W.isFn K (.ref fM2) = true)
    {fM3 : Addr} {ocM3 : Value} {odM3 anM3 : Option Addr} {slM3 : Array (Option Value)} {kVM3 dcM3 pmM3 cdM3 ctM3 : Value}
    (aM3 : PySem.W.findIn K (.ref cl_Lay) "made" = some (some (.ref fM3))) (lM3 : K.lookup fM3 = some ⟨ocM3, odM3, .func (PySem.W.fnOf "made" "Lay.made" (defArgs s_Lay_made) (defBody s_Lay_made) (defScope s_Lay_made) .none kVM3 dcM3 pmM3 anM3 cdM3 ctM3), slM3⟩) (cM3 : PySem.W.codeIn K cdM3 "Lay.made" = true) (kM3 : PySem.W.keepIn K (.ref fM3) = true) (nM3 : PySem.W.isFn K (.ref fM3) = true)
    {fM4 : Addr} {ocM4 : Value} {odM4 anM4 : Option Addr} {slM4 : Array (Option Value)} {kVM4 dcM4 pmM4 cdM4 ctM4 : Value}
    (aM4 : PySem.W.findIn K (.ref cl_Part) "done" = some (some (.ref fM4))) (lM4 : K.lookup fM4 = some ⟨ocM4, odM4, .func (PySem.W.fnOf "done" "Move.done" (defArgs s_Move_done) (defBody s_Move_done) (defScope s_Move_done) .none kVM4 dcM4 pmM4 anM4 cdM4 ctM4), slM4⟩) (cM4 : PySem.W.codeIn K cdM4 "Move.done" = true) (kM4 : PySem.W.keepIn K (.ref fM4) = true) (nM4 : PySem.W.isFn K (.ref fM4) = true)
    {fM5 : Addr} {ocM5 : Value} {odM5 anM5 : Option Addr} {slM5 : Array (Option Value)} {kVM5 dcM5 pmM5 cdM5 ctM5 : Value}
    (aM5 : PySem.W.findIn K (.ref cl_Part) "look" = some (some (.ref fM5))) (lM5 : K.lookup fM5 = some ⟨ocM5, odM5, .func (PySem.W.fnOf "look" "Part.look" (defArgs s_Part_look) (defBody s_Part_look) (defScope s_Part_look) .none kVM5 dcM5 pmM5 anM5 cdM5 ctM5), slM5⟩) (cM5 : PySem.W.codeIn K cdM5 "Part.look" = true) (kM5 : PySem.W.keepIn K (.ref fM5) = true) (nM5 : PySem.W.isFn K (.ref fM5) = true)
    {fM6 : Addr} {ocM6 : Value} {odM6 anM6 : Option Addr} {slM6 : Array (Option Value)} {kVM6 dcM6 pmM6 cdM6 ctM6 : Value}
    (aM6 : PySem.W.findIn K (.ref cl_Part) "made" = some (some (.ref fM6))) (lM6 : K.lookup fM6 = some ⟨ocM6, odM6, .func (PySem.W.fnOf "made" "Part.made" (defArgs s_Part_made) (defBody s_Part_made) (defScope s_Part_made) .none kVM6 dcM6 pmM6 anM6 cdM6 ctM6), slM6⟩) (cM6 : PySem.W.codeIn K cdM6 "Part.made" = true) (kM6 : PySem.W.keepIn K (.ref fM6) = true) (nM6 : PySem.W.isFn K (.ref fM6) = true)
    {fM7 : Addr} {ocM7 : Value} {odM7 anM7 : Option Addr} {slM7 : Array (Option Value)} {kVM7 dcM7 pmM7 cdM7 ctM7 : Value}
    (aM7 : PySem.W.findIn K (.ref cl_Slide) "done" = some (some (.ref fM7))) (lM7 : K.lookup fM7 = some ⟨ocM7, odM7, .func (PySem.W.fnOf "done" "Move.done" (defArgs s_Move_done) (defBody s_Move_done) (defScope s_Move_done) .none kVM7 dcM7 pmM7 anM7 cdM7 ctM7), slM7⟩) (cM7 : PySem.W.codeIn K cdM7 "Move.done" = true) (kM7 : PySem.W.keepIn K (.ref fM7) = true) (nM7 : PySem.W.isFn K (.ref fM7) = true)
    {fM8 : Addr} {ocM8 : Value} {odM8 anM8 : Option Addr} {slM8 : Array (Option Value)} {kVM8 dcM8 pmM8 cdM8 ctM8 : Value}
    (aM8 : PySem.W.findIn K (.ref cl_Slide) "made" = some (some (.ref fM8))) (lM8 : K.lookup fM8 = some ⟨ocM8, odM8, .func (PySem.W.fnOf "made" "Slide.made" (defArgs s_Slide_made) (defBody s_Slide_made) (defScope s_Slide_made) .none kVM8 dcM8 pmM8 anM8 cdM8 ctM8), slM8⟩) (cM8 : PySem.W.codeIn K cdM8 "Slide.made" = true) (kM8 : PySem.W.keepIn K (.ref fM8) = true) (nM8 : PySem.W.isFn K (.ref fM8) = true)
    {fM9 : Addr} {ocM9 : Value} {odM9 anM9 : Option Addr} {slM9 : Array (Option Value)} {kVM9 dcM9 pmM9 cdM9 ctM9 : Value}
    (aM9 : PySem.W.findIn K (.ref cl_Uncurl) "done" = some (some (.ref fM9))) (lM9 : K.lookup fM9 = some ⟨ocM9, odM9, .func (PySem.W.fnOf "done" "Move.done" (defArgs s_Move_done) (defBody s_Move_done) (defScope s_Move_done) .none kVM9 dcM9 pmM9 anM9 cdM9 ctM9), slM9⟩) (cM9 : PySem.W.codeIn K cdM9 "Move.done" = true) (kM9 : PySem.W.keepIn K (.ref fM9) = true) (nM9 : PySem.W.isFn K (.ref fM9) = true)
    {fM10 : Addr} {ocM10 : Value} {odM10 anM10 : Option Addr} {slM10 : Array (Option Value)} {kVM10 dcM10 pmM10 cdM10 ctM10 : Value}
    (aM10 : PySem.W.findIn K (.ref cl_Uncurl) "look" = some (some (.ref fM10))) (lM10 : K.lookup fM10 = some ⟨ocM10, odM10, .func (PySem.W.fnOf "look" "Uncurl.look" (defArgs s_Uncurl_look) (defBody s_Uncurl_look) (defScope s_Uncurl_look) .none kVM10 dcM10 pmM10 anM10 cdM10 ctM10), slM10⟩) (cM10 : PySem.W.codeIn K cdM10 "Uncurl.look" = true) (kM10 : PySem.W.keepIn K (.ref fM10) = true) (nM10 : PySem.W.isFn K (.ref fM10) = true)
    {fM11 : Addr} {ocM11 : Value} {odM11 anM11 : Option Addr} {slM11 : Array (Option Value)} {kVM11 dcM11 pmM11 cdM11 ctM11 : Value}
    (aM11 : PySem.W.findIn K (.ref cl_Uncurl) "made" = some (some (.ref fM11))) (lM11 : K.lookup fM11 = some ⟨ocM11, odM11, .func (PySem.W.fnOf "made" "Uncurl.made" (defArgs s_Uncurl_made) (defBody s_Uncurl_made) (defScope s_Uncurl_made) .none kVM11 dcM11 pmM11 anM11 cdM11 ctM11), slM11⟩) (cM11 : PySem.W.codeIn K cdM11 "Uncurl.made" = true) (kM11 : PySem.W.keepIn K (.ref fM11) = true) (nM11 : PySem.W.isFn K (.ref fM11) = true)
    {fM12 : Addr} {ocM12 : Value} {odM12 anM12 : Option Addr} {slM12 : Array (Option Value)} {kVM12 dcM12 pmM12 cdM12 ctM12 : Value}
    (aM12 : PySem.W.findIn K (.ref cl_Curl) "__init__" = some (some (.ref fM12))) (lM12 : K.lookup fM12 = some ⟨ocM12, odM12, .func (PySem.W.fnOf "__init__" "Curl.__init__" (defArgs s_Curl___init__) (defBody s_Curl___init__) (defScope s_Curl___init__) .none kVM12 dcM12 pmM12 anM12 cdM12 ctM12), slM12⟩) (cM12 : PySem.W.codeIn K cdM12 "Curl.__init__" = true) (kM12 : PySem.W.keepIn K (.ref fM12) = true) (nM12 : PySem.W.isFn K (.ref fM12) = true)
    (y_Curl : PySem.W.makesIn K cl_Curl = true) (x_Curl : PySem.W.keepIn K (.ref cl_Curl) = true)
    {fM13 : Addr} {ocM13 : Value} {odM13 anM13 : Option Addr} {slM13 : Array (Option Value)} {kVM13 dcM13 pmM13 cdM13 ctM13 : Value}
    (aM13 : PySem.W.findIn K (.ref cl_Lay) "__init__" = some (some (.ref fM13))) (lM13 : K.lookup fM13 = some ⟨ocM13, odM13, .func (PySem.W.fnOf "__init__" "Lay.__init__" (defArgs s_Lay___init__) (defBody s_Lay___init__) (defScope s_Lay___init__) .none kVM13 dcM13 pmM13 anM13 cdM13 ctM13), slM13⟩) (cM13 : PySem.W.codeIn K cdM13 "Lay.__init__" = true) (kM13 : PySem.W.keepIn K (.ref fM13) = true) (nM13 : PySem.W.isFn K (.ref fM13) = true)
    (y_Lay : PySem.W.makesIn K cl_Lay = true) (x_Lay : PySem.W.keepIn K (.ref cl_Lay) = true)
    {fM14 : Addr} {ocM14 : Value} {odM14 anM14 : Option Addr} {slM14 : Array (Option Value)} {kVM14 dcM14 pmM14 cdM14 ctM14 : Value}
    (aM14 : PySem.W.findIn K (.ref cl_Part) "__init__" = some (some (.ref fM14))) (lM14 : K.lookup fM14 = some ⟨ocM14, odM14, .func (PySem.W.fnOf "__init__" "Part.__init__" (defArgs s_Part___init__) (defBody s_Part___init__) (defScope s_Part___init__) .none kVM14 dcM14 pmM14 anM14 cdM14 ctM14), slM14⟩) (cM14 : PySem.W.codeIn K cdM14 "Part.__init__" = true) (kM14 : PySem.W.keepIn K (.ref fM14) = true) (nM14 : PySem.W.isFn K (.ref fM14) = true)
    (y_Part : PySem.W.makesIn K cl_Part = true) (x_Part : PySem.W.keepIn K (.ref cl_Part) = true)
    {fM15 : Addr} {ocM15 : Value} {odM15 anM15 : Option Addr} {slM15 : Array (Option Value)} {kVM15 dcM15 pmM15 cdM15 ctM15 : Value}
    (aM15 : PySem.W.findIn K (.ref cl_Slide) "__init__" = some (some (.ref fM15))) (lM15 : K.lookup fM15 = some ⟨ocM15, odM15, .func (PySem.W.fnOf "__init__" "Slide.__init__" (defArgs s_Slide___init__) (defBody s_Slide___init__) (defScope s_Slide___init__) .none kVM15 dcM15 pmM15 anM15 cdM15 ctM15), slM15⟩) (cM15 : PySem.W.codeIn K cdM15 "Slide.__init__" = true) (kM15 : PySem.W.keepIn K (.ref fM15) = true) (nM15 : PySem.W.isFn K (.ref fM15) = true)
    (y_Slide : PySem.W.makesIn K cl_Slide = true) (x_Slide : PySem.W.keepIn K (.ref cl_Slide) = true)
    {fM16 : Addr} {ocM16 : Value} {odM16 anM16 : Option Addr} {slM16 : Array (Option Value)} {kVM16 dcM16 pmM16 cdM16 ctM16 : Value}
    (aM16 : PySem.W.findIn K (.ref cl_Uncurl) "__init__" = some (some (.ref fM16))) (lM16 : K.lookup fM16 = some ⟨ocM16, odM16, .func (PySem.W.fnOf "__init__" "Uncurl.__init__" (defArgs s_Uncurl___init__) (defBody s_Uncurl___init__) (defScope s_Uncurl___init__) .none kVM16 dcM16 pmM16 anM16 cdM16 ctM16), slM16⟩) (cM16 : PySem.W.codeIn K cdM16 "Uncurl.__init__" = true) (kM16 : PySem.W.keepIn K (.ref fM16) = true) (nM16 : PySem.W.isFn K (.ref fM16) = true)
    (y_Uncurl : PySem.W.makesIn K cl_Uncurl = true) (x_Uncurl : PySem.W.keepIn K (.ref cl_Uncurl) = true)
    : ∃ fd : FuncData, (∀ (s : Shared) (v : Value), BindsTo s fd ⟨[v], []⟩ [("_law_script", v)]) ∧ ∀ base : Heap, K.In base → base.Ns mainGlobals mg → FnOk l.prog w K mg base CX0 8 fa fd ["_law_script"] (spF 0 1 (F_law (kOf K))) := by
  have e := hfa.symm.trans (PySem.W.mg_of X G a43)
  cases e
  have T : Txt K mg (kOf K) := ⟨PySem.W.mg_none_of X G z_bool, PySem.W.mg_none_of X G z_enumerate, PySem.W.mg_none_of X G z_int, PySem.W.mg_none_of X G z_isinstance, PySem.W.mg_none_of X G z_len, PySem.W.mg_none_of X G z_list, PySem.W.mg_none_of X G z_min, PySem.W.mg_none_of X G z_range, PySem.W.mg_none_of X G z_reversed, PySem.W.mg_none_of X G z_sorted, PySem.W.mg_none_of X G z_sum, ⟨_, PySem.W.mg_of X G z_BARE⟩, ⟨_, PySem.W.mg_of X G z_MOST_CROSSINGS⟩, ⟨_, PySem.W.mg_of X G z_OVER⟩, ⟨_, PySem.W.mg_of X G z_UNDER⟩, ocl_of X G z_Curl o_Curl, ocl_of X G z_Lay o_Lay, ocl_of X G z_Part o_Part, ocl_of X G z_Slide o_Slide, ocl_of X G z_Uncurl o_Uncurl, by rw [kOf_eq z_Curl]; exact g_Curl_first, by rw [kOf_eq z_Curl]; exact g_Curl_hand, by rw [kOf_eq z_Curl]; exact g_Curl_name, by rw [kOf_eq z_Curl]; exact g_Curl_spot, by rw [kOf_eq z_Lay]; exact g_Lay_hand, by rw [kOf_eq z_Lay]; exact g_Lay_name, by rw [kOf_eq z_Lay]; exact g_Lay_over, by rw [kOf_eq z_Lay]; exact g_Lay_second, by rw [kOf_eq z_Lay]; exact g_Lay_turned, by rw [kOf_eq z_Lay]; exact g_Lay_under, by rw [kOf_eq z_Part]; exact g_Part_name, by rw [kOf_eq z_Part]; exact g_Part_second, by rw [kOf_eq z_Slide]; exact g_Slide_name, by rw [kOf_eq z_Slide]; exact g_Slide_second, by rw [kOf_eq z_Slide]; exact g_Slide_third, by rw [kOf_eq z_Slide]; exact g_Slide_turn, by rw [kOf_eq z_Uncurl]; exact g_Uncurl_name⟩
  refine ⟨PySem.W.fnOf "law" "law" (defArgs s_law) (defBody s_law) (defScope s_law) .none kV43 dc43 pm43 an43 cd43 ct43, fun s v => .of_eq rfl, fun base _ _ => ?_⟩
  have K_Curl := ok_Curl___init__ (P := l.prog) (w := w) (base := base) T (AtM.mk' (by rw [kOf_eq z_Curl]; exact aM12) lM12 cM12 kM12 nM12) (by rw [kOf_eq z_Curl]; exact y_Curl) (by rw [kOf_eq z_Curl]; exact x_Curl)
  have K_Lay := ok_Lay___init__ (P := l.prog) (w := w) (base := base) T (AtM.mk' (by rw [kOf_eq z_Lay]; exact aM13) lM13 cM13 kM13 nM13) (by rw [kOf_eq z_Lay]; exact y_Lay) (by rw [kOf_eq z_Lay]; exact x_Lay)
  have K_Part := ok_Part___init__ (P := l.prog) (w := w) (base := base) T (AtM.mk' (by rw [kOf_eq z_Part]; exact aM14) lM14 cM14 kM14 nM14) (by rw [kOf_eq z_Part]; exact y_Part) (by rw [kOf_eq z_Part]; exact x_Part)
  have K_Slide := ok_Slide___init__ (P := l.prog) (w := w) (base := base) T (AtM.mk' (by rw [kOf_eq z_Slide]; exact aM15) lM15 cM15 kM15 nM15) (by rw [kOf_eq z_Slide]; exact y_Slide) (by rw [kOf_eq z_Slide]; exact x_Slide)
  have K_Uncurl := ok_Uncurl___init__ (P := l.prog) (w := w) (base := base) T (AtM.mk' (by rw [kOf_eq z_Uncurl]; exact aM16) lM16 cM16 kM16 nM16) (by rw [kOf_eq z_Uncurl]; exact y_Uncurl) (by rw [kOf_eq z_Uncurl]; exact x_Uncurl)
  have C__law_pick := ok__law_pick (P := l.prog) (w := w) (base := base) T (At.mk' X G a0 l0 c0 k0)
  have C__law_digits := ok__law_digits (P := l.prog) (w := w) (base := base) T (At.mk' X G a1 l1 c1 k1) C__law_pick
  have C__law_free := ok__law_free (P := l.prog) (w := w) (base := base) T (At.mk' X G a2 l2 c2 k2)
  have C__law_copy := ok__law_copy (P := l.prog) (w := w) (base := base) T (At.mk' X G a3 l3 c3 k3)
  have C__law_put := ok__law_put (P := l.prog) (w := w) (base := base) T (At.mk' X G a4 l4 c4 k4) C__law_copy
  have C__law_drawing := ok__law_drawing (P := l.prog) (w := w) (base := base) T (At.mk' X G a5 l5 c5 k5) C__law_digits C__law_free C__law_put
  have C_hands_of := ok_hands_of (P := l.prog) (w := w) (base := base) T (At.mk' X G a6 l6 c6 k6)
  have C_names_of := ok_names_of (P := l.prog) (w := w) (base := base) T (At.mk' X G a7 l7 c7 k7) C_hands_of
  have C_spots_by_strings := ok_spots_by_strings (P := l.prog) (w := w) (base := base) T (At.mk' X G a8 l8 c8 k8)
  have C_string_of := ok_string_of (P := l.prog) (w := w) (base := base) T (At.mk' X G a9 l9 c9 k9) C_spots_by_strings
  have C_hand_of := ok_hand_of (P := l.prog) (w := w) (base := base) T (At.mk' X G a10 l10 c10 k10) C_hands_of
  have C_linking := ok_linking (P := l.prog) (w := w) (base := base) T (At.mk' X G a11 l11 c11 k11) C_names_of C_string_of C_hand_of
  have C_writhe := ok_writhe (P := l.prog) (w := w) (base := base) T (At.mk' X G a12 l12 c12 k12) C_names_of C_hand_of
  have C__law_names := ok__law_names (P := l.prog) (w := w) (base := base) T (At.mk' X G a13 l13 c13 k13)
  have C__law_pairs := ok__law_pairs (P := l.prog) (w := w) (base := base) T (At.mk' X G a14 l14 c14 k14)
  have C__law_triangle := ok__law_triangle (P := l.prog) (w := w) (base := base) T (At.mk' X G a15 l15 c15 k15) C__law_names C__law_digits C__law_free C__law_pairs C__law_put
  have C_next_of := ok_next_of (P := l.prog) (w := w) (base := base) T (At.mk' X G a16 l16 c16 k16)
  have C_side_by_side := ok_side_by_side (P := l.prog) (w := w) (base := base) T (At.mk' X G a17 l17 c17 k17)
  have C_uncurls := ok_uncurls (P := l.prog) (w := w) (base := base) T (At.mk' X G a18 l18 c18 k18) C_side_by_side
  have C_uncurls_of := ok_uncurls_of (P := l.prog) (w := w) (base := base) T (At.mk' X G a19 l19 c19 k19) C_uncurls
  have C_parts := ok_parts (P := l.prog) (w := w) (base := base) T (At.mk' X G a20 l20 c20 k20) C_side_by_side
  have C_parts_of := ok_parts_of (P := l.prog) (w := w) (base := base) T (At.mk' X G a21 l21 c21 k21) C_parts
  have C_right_behind := ok_right_behind (P := l.prog) (w := w) (base := base) T (At.mk' X G a22 l22 c22 k22)
  have C_slides := ok_slides (P := l.prog) (w := w) (base := base) T (At.mk' X G a23 l23 c23 k23) C_right_behind
  have C_slides_on := ok_slides_on (P := l.prog) (w := w) (base := base) T (At.mk' X G a24 l24 c24 k24) C_slides
  have C_slides_of := ok_slides_of (P := l.prog) (w := w) (base := base) T (At.mk' X G a25 l25 c25 k25) C_slides_on
  have C_lessening := ok_lessening (P := l.prog) (w := w) (base := base) T (At.mk' X G a26 l26 c26 k26) C_next_of C_hands_of C_names_of C_uncurls_of C_parts_of C_slides_of
  have C__law_lesser := ok__law_lesser (P := l.prog) (w := w) (base := base) T (At.mk' X G a27 l27 c27 k27) C_lessening C__law_copy C__law_digits
  have C__law_spots := ok__law_spots (P := l.prog) (w := w) (base := base) T (At.mk' X G a28 l28 c28 k28)
  have C__law_curl := ok__law_curl (P := l.prog) (w := w) (base := base) T (At.mk' X G a29 l29 c29 k29) C__law_spots C__law_digits C__law_free C__law_names
  have C__law_lay := ok__law_lay (P := l.prog) (w := w) (base := base) T (At.mk' X G a30 l30 c30 k30) C__law_spots C__law_digits C__law_free C__law_names
  have C__law_move := ok__law_move (P := l.prog) (w := w) (base := base) T (At.mk' X G a31 l31 c31 k31) C__law_names C__law_digits C__law_curl C__law_lay C__law_lesser
  have C__law_cell_at := ok__law_cell_at (P := l.prog) (w := w) (base := base) T (At.mk' X G a32 l32 c32 k32)
  have C_seated := ok_seated (P := l.prog) (w := w) (base := base) T (At.mk' X G a33 l33 c33 k33)
  have C_look_at_new := ok_look_at_new (P := l.prog) (w := w) (base := base) T (At.mk' X G a34 l34 c34 k34) C_names_of
  have C_put_behind := ok_put_behind (P := l.prog) (w := w) (base := base) T (At.mk' X G a35 l35 c35 k35)
  have C_Curl__made := ok_Curl_made (P := l.prog) (w := w) (base := base) (C := kOf K "Curl") T (AtM.mk' (by rw [kOf_eq z_Curl]; exact aM1) lM1 cM1 kM1 nM1) C_look_at_new C_put_behind
  have C_Lay__made := ok_Lay_made (P := l.prog) (w := w) (base := base) (C := kOf K "Lay") T (AtM.mk' (by rw [kOf_eq z_Lay]; exact aM3) lM3 cM3 kM3 nM3) C_look_at_new C_put_behind
  have C_look_at_old := ok_look_at_old (P := l.prog) (w := w) (base := base) T (At.mk' X G a36 l36 c36 k36) C_hand_of
  have C_Part__look := ok_Part_look (P := l.prog) (w := w) (base := base) (C := kOf K "Part") T (AtM.mk' (by rw [kOf_eq z_Part]; exact aM5) lM5 cM5 kM5 nM5) C_look_at_old C_parts C_next_of C_hands_of
  have C_without := ok_without (P := l.prog) (w := w) (base := base) T (At.mk' X G a37 l37 c37 k37)
  have C_Part__made := ok_Part_made (P := l.prog) (w := w) (base := base) (C := kOf K "Part") T (AtM.mk' (by rw [kOf_eq z_Part]; exact aM6) lM6 cM6 kM6 nM6) C_Part__look C_without
  have C_exchanged := ok_exchanged (P := l.prog) (w := w) (base := base) T (At.mk' X G a38 l38 c38 k38) C_hands_of
  have C_Slide__made := ok_Slide_made (P := l.prog) (w := w) (base := base) (C := kOf K "Slide") T (AtM.mk' (by rw [kOf_eq z_Slide]; exact aM8) lM8 cM8 kM8 nM8) C_look_at_old C_slides C_next_of C_hands_of C_exchanged
  have C_Uncurl__look := ok_Uncurl_look (P := l.prog) (w := w) (base := base) (C := kOf K "Uncurl") T (AtM.mk' (by rw [kOf_eq z_Uncurl]; exact aM10) lM10 cM10 kM10 nM10) C_look_at_old C_uncurls C_next_of
  have C_Uncurl__made := ok_Uncurl_made (P := l.prog) (w := w) (base := base) (C := kOf K "Uncurl") T (AtM.mk' (by rw [kOf_eq z_Uncurl]; exact aM11) lM11 cM11 kM11 nM11) C_Uncurl__look C_without
  have C_Curl__done := ok_Move_done (P := l.prog) (w := w) (base := base) (C := kOf K "Curl") T (AtM.mk' (by rw [kOf_eq z_Curl]; exact aM0) lM0 cM0 kM0 nM0) C_Uncurl__made C_Slide__made C_Part__made C_Lay__made C_Curl__made C_seated
  have C_Lay__done := ok_Move_done (P := l.prog) (w := w) (base := base) (C := kOf K "Lay") T (AtM.mk' (by rw [kOf_eq z_Lay]; exact aM2) lM2 cM2 kM2 nM2) C_Uncurl__made C_Slide__made C_Part__made C_Lay__made C_Curl__made C_seated
  have C_Part__done := ok_Move_done (P := l.prog) (w := w) (base := base) (C := kOf K "Part") T (AtM.mk' (by rw [kOf_eq z_Part]; exact aM4) lM4 cM4 kM4 nM4) C_Uncurl__made C_Slide__made C_Part__made C_Lay__made C_Curl__made C_seated
  have C_Slide__done := ok_Move_done (P := l.prog) (w := w) (base := base) (C := kOf K "Slide") T (AtM.mk' (by rw [kOf_eq z_Slide]; exact aM7) lM7 cM7 kM7 nM7) C_Uncurl__made C_Slide__made C_Part__made C_Lay__made C_Curl__made C_seated
  have C_Uncurl__done := ok_Move_done (P := l.prog) (w := w) (base := base) (C := kOf K "Uncurl") T (AtM.mk' (by rw [kOf_eq z_Uncurl]; exact aM9) lM9 cM9 kM9 nM9) C_Uncurl__made C_Slide__made C_Part__made C_Lay__made C_Curl__made C_seated
  have C__law_hands := ok__law_hands (P := l.prog) (w := w) (base := base) T (At.mk' X G a39 l39 c39 k39)
  have C__law_more := ok__law_more (P := l.prog) (w := w) (base := base) T (At.mk' X G a40 l40 c40 k40) C__law_hands
  have C_move_of := ok_move_of (P := l.prog) (w := w) (base := base) T (At.mk' X G a41 l41 c41 k41) K_Uncurl K_Curl K_Part K_Lay K_Slide
  have C__law_whole := ok__law_whole (P := l.prog) (w := w) (base := base) T (At.mk' X G a42 l42 c42 k42)
  have A : At K mg "law" s_law := At.mk' X G a43 l43 c43 k43
  have F := fun_mk (st := s_law) l43 c43 k43
  refine def_ok (m := (m_law (kOf K))) F sc_law rfl rfl fun cdv A outer s H E hr => ?_
  exact body_law T C__law_cell_at C__law_drawing C__law_triangle C_linking C__law_copy C_writhe C__law_move C__law_more C_move_of C_Uncurl__done C_Slide__done C_Part__done C_Lay__done C_Curl__done C__law_whole hr

end L_k49
open PySem PySem.W PyProof.Rows
set_option maxRecDepth 100000 in
set_option maxHeartbeats 0 in
theorem PySem.Challenge.cw_knotwise_k49_whole_linking_kept_holds : PySem.Challenge.rw_knotwise_k49_whole_linking_kept.Holds := by
  w_on; o_law; k_head; (case hw => w_witness2)
  k_fill
  refine Mir.walk_mirX (l := PySem.Challenge.rw_knotwise_k49_whole_linking_kept) (k := 8) (x := "_law_script") (F := L_k49.F_law) rfl rfl ⟨rfl, by decide, by decide⟩ (fun w h Y => PySem.W.kIn_of Y) (fun w => by first | rfl | decide +kernel) L_k49.law_true ?F
  case F =>
    intro w mg fa h KX G hmg
    refine' L_k49.all_mk KX G hmg ?a0 ?l0 ?c0 ?k0 ?a1 ?l1 ?c1 ?k1 ?a2 ?l2 ?c2 ?k2 ?a3 ?l3 ?c3 ?k3 ?a4 ?l4 ?c4 ?k4 ?a5 ?l5 ?c5 ?k5 ?a6 ?l6 ?c6 ?k6 ?a7 ?l7 ?c7 ?k7 ?a8 ?l8 ?c8 ?k8 ?a9 ?l9 ?c9 ?k9 ?a10 ?l10 ?c10 ?k10 ?a11 ?l11 ?c11 ?k11 ?a12 ?l12 ?c12 ?k12 ?a13 ?l13 ?c13 ?k13 ?a14 ?l14 ?c14 ?k14 ?a15 ?l15 ?c15 ?k15 ?a16 ?l16 ?c16 ?k16 ?a17 ?l17 ?c17 ?k17 ?a18 ?l18 ?c18 ?k18 ?a19 ?l19 ?c19 ?k19 ?a20 ?l20 ?c20 ?k20 ?a21 ?l21 ?c21 ?k21 ?a22 ?l22 ?c22 ?k22 ?a23 ?l23 ?c23 ?k23 ?a24 ?l24 ?c24 ?k24 ?a25 ?l25 ?c25 ?k25 ?a26 ?l26 ?c26 ?k26 ?a27 ?l27 ?c27 ?k27 ?a28 ?l28 ?c28 ?k28 ?a29 ?l29 ?c29 ?k29 ?a30 ?l30 ?c30 ?k30 ?a31 ?l31 ?c31 ?k31 ?a32 ?l32 ?c32 ?k32 ?a33 ?l33 ?c33 ?k33 ?a34 ?l34 ?c34 ?k34 ?a35 ?l35 ?c35 ?k35 ?a36 ?l36 ?c36 ?k36 ?a37 ?l37 ?c37 ?k37 ?a38 ?l38 ?c38 ?k38 ?a39 ?l39 ?c39 ?k39 ?a40 ?l40 ?c40 ?k40 ?a41 ?l41 ?c41 ?k41 ?a42 ?l42 ?c42 ?k42 ?a43 ?l43 ?c43 ?k43 ?z_bool ?z_enumerate ?z_int ?z_isinstance ?z_len ?z_list ?z_min ?z_range ?z_reversed ?z_sorted ?z_sum ?z_BARE ?z_MOST_CROSSINGS ?z_OVER ?z_UNDER ?z_Curl ?o_Curl ?z_Lay ?o_Lay ?z_Part ?o_Part ?z_Slide ?o_Slide ?z_Uncurl ?o_Uncurl ?g_Curl_first ?g_Curl_hand ?g_Curl_name ?g_Curl_spot ?g_Lay_hand ?g_Lay_name ?g_Lay_over ?g_Lay_second ?g_Lay_turned ?g_Lay_under ?g_Part_name ?g_Part_second ?g_Slide_name ?g_Slide_second ?g_Slide_third ?g_Slide_turn ?g_Uncurl_name ?aM0 ?lM0 ?cM0 ?kM0 ?nM0 ?aM1 ?lM1 ?cM1 ?kM1 ?nM1 ?aM2 ?lM2 ?cM2 ?kM2 ?nM2 ?aM3 ?lM3 ?cM3 ?kM3 ?nM3 ?aM4 ?lM4 ?cM4 ?kM4 ?nM4 ?aM5 ?lM5 ?cM5 ?kM5 ?nM5 ?aM6 ?lM6 ?cM6 ?kM6 ?nM6 ?aM7 ?lM7 ?cM7 ?kM7 ?nM7 ?aM8 ?lM8 ?cM8 ?kM8 ?nM8 ?aM9 ?lM9 ?cM9 ?kM9 ?nM9 ?aM10 ?lM10 ?cM10 ?kM10 ?nM10 ?aM11 ?lM11 ?cM11 ?kM11 ?nM11 ?aM12 ?lM12 ?cM12 ?kM12 ?nM12 ?y_Curl ?x_Curl ?aM13 ?lM13 ?cM13 ?kM13 ?nM13 ?y_Lay ?x_Lay ?aM14 ?lM14 ?cM14 ?kM14 ?nM14 ?y_Part ?x_Part ?aM15 ?lM15 ?cM15 ?kM15 ?nM15 ?y_Slide ?x_Slide ?aM16 ?lM16 ?cM16 ?kM16 ?nM16 ?y_Uncurl ?x_Uncurl
    (case a0 => k_is)
    (case l0 => k_is)
    (case c0 => k_is)
    (case k0 => k_is)
    (case a1 => k_is)
    (case l1 => k_is)
    (case c1 => k_is)
    (case k1 => k_is)
    (case a2 => k_is)
    (case l2 => k_is)
    (case c2 => k_is)
    (case k2 => k_is)
    (case a3 => k_is)
    (case l3 => k_is)
    (case c3 => k_is)
    (case k3 => k_is)
    (case a4 => k_is)
    (case l4 => k_is)
    (case c4 => k_is)
    (case k4 => k_is)
    (case a5 => k_is)
    (case l5 => k_is)
    (case c5 => k_is)
    (case k5 => k_is)
    (case a6 => k_is)
    (case l6 => k_is)
    (case c6 => k_is)
    (case k6 => k_is)
    (case a7 => k_is)
    (case l7 => k_is)
    (case c7 => k_is)
    (case k7 => k_is)
    (case a8 => k_is)
    (case l8 => k_is)
    (case c8 => k_is)
    (case k8 => k_is)
    (case a9 => k_is)
    (case l9 => k_is)
    (case c9 => k_is)
    (case k9 => k_is)
    (case a10 => k_is)
    (case l10 => k_is)
    (case c10 => k_is)
    (case k10 => k_is)
    (case a11 => k_is)
    (case l11 => k_is)
    (case c11 => k_is)
    (case k11 => k_is)
    (case a12 => k_is)
    (case l12 => k_is)
    (case c12 => k_is)
    (case k12 => k_is)
    (case a13 => k_is)
    (case l13 => k_is)
    (case c13 => k_is)
    (case k13 => k_is)
    (case a14 => k_is)
    (case l14 => k_is)
    (case c14 => k_is)
    (case k14 => k_is)
    (case a15 => k_is)
    (case l15 => k_is)
    (case c15 => k_is)
    (case k15 => k_is)
    (case a16 => k_is)
    (case l16 => k_is)
    (case c16 => k_is)
    (case k16 => k_is)
    (case a17 => k_is)
    (case l17 => k_is)
    (case c17 => k_is)
    (case k17 => k_is)
    (case a18 => k_is)
    (case l18 => k_is)
    (case c18 => k_is)
    (case k18 => k_is)
    (case a19 => k_is)
    (case l19 => k_is)
    (case c19 => k_is)
    (case k19 => k_is)
    (case a20 => k_is)
    (case l20 => k_is)
    (case c20 => k_is)
    (case k20 => k_is)
    (case a21 => k_is)
    (case l21 => k_is)
    (case c21 => k_is)
    (case k21 => k_is)
    (case a22 => k_is)
    (case l22 => k_is)
    (case c22 => k_is)
    (case k22 => k_is)
    (case a23 => k_is)
    (case l23 => k_is)
    (case c23 => k_is)
    (case k23 => k_is)
    (case a24 => k_is)
    (case l24 => k_is)
    (case c24 => k_is)
    (case k24 => k_is)
    (case a25 => k_is)
    (case l25 => k_is)
    (case c25 => k_is)
    (case k25 => k_is)
    (case a26 => k_is)
    (case l26 => k_is)
    (case c26 => k_is)
    (case k26 => k_is)
    (case a27 => k_is)
    (case l27 => k_is)
    (case c27 => k_is)
    (case k27 => k_is)
    (case a28 => k_is)
    (case l28 => k_is)
    (case c28 => k_is)
    (case k28 => k_is)
    (case a29 => k_is)
    (case l29 => k_is)
    (case c29 => k_is)
    (case k29 => k_is)
    (case a30 => k_is)
    (case l30 => k_is)
    (case c30 => k_is)
    (case k30 => k_is)
    (case a31 => k_is)
    (case l31 => k_is)
    (case c31 => k_is)
    (case k31 => k_is)
    (case a32 => k_is)
    (case l32 => k_is)
    (case c32 => k_is)
    (case k32 => k_is)
    (case a33 => k_is)
    (case l33 => k_is)
    (case c33 => k_is)
    (case k33 => k_is)
    (case a34 => k_is)
    (case l34 => k_is)
    (case c34 => k_is)
    (case k34 => k_is)
    (case a35 => k_is)
    (case l35 => k_is)
    (case c35 => k_is)
    (case k35 => k_is)
    (case a36 => k_is)
    (case l36 => k_is)
    (case c36 => k_is)
    (case k36 => k_is)
    (case a37 => k_is)
    (case l37 => k_is)
    (case c37 => k_is)
    (case k37 => k_is)
    (case a38 => k_is)
    (case l38 => k_is)
    (case c38 => k_is)
    (case k38 => k_is)
    (case a39 => k_is)
    (case l39 => k_is)
    (case c39 => k_is)
    (case k39 => k_is)
    (case a40 => k_is)
    (case l40 => k_is)
    (case c40 => k_is)
    (case k40 => k_is)
    (case a41 => k_is)
    (case l41 => k_is)
    (case c41 => k_is)
    (case k41 => k_is)
    (case a42 => k_is)
    (case l42 => k_is)
    (case c42 => k_is)
    (case k42 => k_is)
    (case a43 => k_is)
    (case l43 => k_is)
    (case c43 => k_is)
    (case k43 => k_is)
    (case z_bool => k_is)
    (case z_enumerate => k_is)
    (case z_int => k_is)
    (case z_isinstance => k_is)
    (case z_len => k_is)
    (case z_list => k_is)
    (case z_min => k_is)
    (case z_range => k_is)
    (case z_reversed => k_is)
    (case z_sorted => k_is)
    (case z_sum => k_is)
    (case z_BARE => k_is)
    (case z_MOST_CROSSINGS => k_is)
    (case z_OVER => k_is)
    (case z_UNDER => k_is)
    (case z_Curl => k_is)
    (case o_Curl => first | k_is | kernel_rfl)
    (case z_Lay => k_is)
    (case o_Lay => first | k_is | kernel_rfl)
    (case z_Part => k_is)
    (case o_Part => first | k_is | kernel_rfl)
    (case z_Slide => k_is)
    (case o_Slide => first | k_is | kernel_rfl)
    (case z_Uncurl => k_is)
    (case o_Uncurl => first | k_is | kernel_rfl)
    (case g_Curl_first => k_is)
    (case g_Curl_hand => k_is)
    (case g_Curl_name => k_is)
    (case g_Curl_spot => k_is)
    (case g_Lay_hand => k_is)
    (case g_Lay_name => k_is)
    (case g_Lay_over => k_is)
    (case g_Lay_second => k_is)
    (case g_Lay_turned => k_is)
    (case g_Lay_under => k_is)
    (case g_Part_name => k_is)
    (case g_Part_second => k_is)
    (case g_Slide_name => k_is)
    (case g_Slide_second => k_is)
    (case g_Slide_third => k_is)
    (case g_Slide_turn => k_is)
    (case g_Uncurl_name => k_is)
    (case aM0 => k_is)
    (case lM0 => k_is)
    (case cM0 => k_is)
    (case kM0 => k_is)
    (case nM0 => k_is)
    (case aM1 => k_is)
    (case lM1 => k_is)
    (case cM1 => k_is)
    (case kM1 => k_is)
    (case nM1 => k_is)
    (case aM2 => k_is)
    (case lM2 => k_is)
    (case cM2 => k_is)
    (case kM2 => k_is)
    (case nM2 => k_is)
    (case aM3 => k_is)
    (case lM3 => k_is)
    (case cM3 => k_is)
    (case kM3 => k_is)
    (case nM3 => k_is)
    (case aM4 => k_is)
    (case lM4 => k_is)
    (case cM4 => k_is)
    (case kM4 => k_is)
    (case nM4 => k_is)
    (case aM5 => k_is)
    (case lM5 => k_is)
    (case cM5 => k_is)
    (case kM5 => k_is)
    (case nM5 => k_is)
    (case aM6 => k_is)
    (case lM6 => k_is)
    (case cM6 => k_is)
    (case kM6 => k_is)
    (case nM6 => k_is)
    (case aM7 => k_is)
    (case lM7 => k_is)
    (case cM7 => k_is)
    (case kM7 => k_is)
    (case nM7 => k_is)
    (case aM8 => k_is)
    (case lM8 => k_is)
    (case cM8 => k_is)
    (case kM8 => k_is)
    (case nM8 => k_is)
    (case aM9 => k_is)
    (case lM9 => k_is)
    (case cM9 => k_is)
    (case kM9 => k_is)
    (case nM9 => k_is)
    (case aM10 => k_is)
    (case lM10 => k_is)
    (case cM10 => k_is)
    (case kM10 => k_is)
    (case nM10 => k_is)
    (case aM11 => k_is)
    (case lM11 => k_is)
    (case cM11 => k_is)
    (case kM11 => k_is)
    (case nM11 => k_is)
    (case aM12 => k_is)
    (case lM12 => k_is)
    (case cM12 => k_is)
    (case kM12 => k_is)
    (case nM12 => k_is)
    (case y_Curl => k_is)
    (case x_Curl => k_is)
    (case aM13 => k_is)
    (case lM13 => k_is)
    (case cM13 => k_is)
    (case kM13 => k_is)
    (case nM13 => k_is)
    (case y_Lay => k_is)
    (case x_Lay => k_is)
    (case aM14 => k_is)
    (case lM14 => k_is)
    (case cM14 => k_is)
    (case kM14 => k_is)
    (case nM14 => k_is)
    (case y_Part => k_is)
    (case x_Part => k_is)
    (case aM15 => k_is)
    (case lM15 => k_is)
    (case cM15 => k_is)
    (case kM15 => k_is)
    (case nM15 => k_is)
    (case y_Slide => k_is)
    (case x_Slide => k_is)
    (case aM16 => k_is)
    (case lM16 => k_is)
    (case cM16 => k_is)
    (case kM16 => k_is)
    (case nM16 => k_is)
    (case y_Uncurl => k_is)
    (case x_Uncurl => k_is)
